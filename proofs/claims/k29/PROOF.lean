import PyProof.Rows.All
import HandS.ForMost
import HandS.ForExc
import HandS.TupAny
import HandS.IsInst
import HandS.CallSlots
import HandS.Walk
import HandS.TupMul
import HandS.SortInts
import HandS.More
import HandS.SortKw
import HandS.Iter
import KE.GoesEnum
import KE.GoesMore
import HandS.Defaults
import HandS.Small
import HandS.TryMany
import HandS.SetFor
import HandS.Strs
import HandS.Zip
import KE.GoesEnumKw
import HandS.OwnEq
import HandS.Codes
import HandS.Conv
import KE.DataMinMax
import HandS.Style
import HandS.NamedTupGet
import KE.KExcInit
import HandS.Flt
import HandS.Text
import HandS.HeadHook3
import PyProof.SumWalkG
import HandS.DeepEq
import PyProof.Rows.StrStep
import HandS.Deep
import HandS.Dict
import PyProof.Rows.StrCountLaw
import PySem.Challenge.RW_tappet_k29_whole_cuts_in_any_order
set_option Elab.async false
set_option linter.all false
set_option maxRecDepth 100000
set_option maxHeartbeats 2000000
namespace TG
open PySem L2

inductive D where
  | non | bl (b : Bool) | int (i : Int) | str (x : Str) | tup (l : List D) | lst (l : List D) | dic (l : List (Key × D)) | ins (c : Str) (l : List (Str × D)) | scr (l : List D)
inductive W where
  | d (x : D) | r (n : Nat)
inductive Cell where
  | lst (l : List W) | dic (l : List (Key × W)) | ins (c : Str) (l : List (Str × W)) | tup (l : List W)
noncomputable abbrev S := List Cell
inductive EV where
  | no | w (x : W) | own (l : List W) | ownD (l : List (Key × W)) | ownI (c : Str) (l : List (Str × W))
noncomputable abbrev Rho := List EV
inductive Res (α : Type) where
  | ok (a : α) (s : S) | exc (c : Str) (x : Option D) (s : S) | no
noncomputable def Res.bind {α β : Type} : Res α → (α → S → Res β) → Res β
  | .ok a s, k => k a s
  | .exc c x s, _ => .exc c x s
  | .no, _ => .no
noncomputable abbrev Cmp (α : Type) := Rho → S → Res α

section
variable (K : PySem.W.Frag) (cl : Str → Option Addr)
mutual
inductive Rep (H0 : Hp) : V → D → Prop
  | non : Rep H0 .non .non
  | bl {b} : Rep H0 (.bl b) (.bl b)
  | int {i} : Rep H0 (.int i) (.int i)
  | str {x} : Rep H0 (.str x) (.str x)
  | tup {p vs l} : H0 p = some (.tup vs) → Reps H0 vs l → Rep H0 (.ref p) (.tup l)
  | lst {p vs l} : H0 p = some (.lst vs) → Reps H0 vs l → Rep H0 (.ref p) (.lst l)
  | scr {p vs l} : SqL K H0 p vs → Reps H0 vs l → Rep H0 (.ref p) (.scr l)
  | dic {p kvs l} : H0 p = some (.dK kvs) → RepK H0 kvs l → Rep H0 (.ref p) (.dic l)
  | ins {p C dx fs c l} : H0 p = some (.ins C dx fs) → cl c = some C → RepF H0 fs l → Rep H0 (.ref p) (.ins c l)
inductive Reps (H0 : Hp) : List V → List D → Prop
  | nil : Reps H0 [] []
  | cons {v d vs ds} : Rep H0 v d → Reps H0 vs ds → Reps H0 (v :: vs) (d :: ds)
inductive RepK (H0 : Hp) : List (Key × V) → List (Key × D) → Prop
  | nil : RepK H0 [] []
  | cons {k v d vs ds} : Rep H0 v d → RepK H0 vs ds → RepK H0 ((k, v) :: vs) ((k, d) :: ds)
inductive RepF (H0 : Hp) : List (Str × V) → List (Str × D) → Prop
  | nil : RepF H0 [] []
  | cons {k v d vs ds} : Rep H0 v d → RepF H0 vs ds → RepF H0 ((k, v) :: vs) ((k, d) :: ds)
end
end

section
variable {K : PySem.W.Frag} {cl : Str → Option Addr} {H0 H0' H H' : Hp}
theorem same_l {a : Addr} {xs : List V} (e : Same H0 H0') (h : SqL K H0 a xs) : SqL K H0' a xs := e.seq h
theorem same_rd {a : Addr} {u : HO} (e : Same H0 H0') (h : Rd H0 a u) : Rd H0' a u := by
  rcases h with h | ⟨o, h⟩
  · exact .inl (e _ _ h)
  · exact .inr ⟨o, e _ _ h⟩
theorem same_t {a : Addr} {xs : List V} (e : Same H0 H0') (h : SqT K H0 a xs) : SqT K H0' a xs := by
  rcases h with h | h
  · exact .inl (same_rd e h)
  · exact .inr h
mutual
theorem Rep.mono (e : Same H0 H0') {v d} (h : Rep K cl H0 v d) : Rep K cl H0' v d := match h with
  | .non => .non
  | .bl => .bl
  | .int => .int
  | .str => .str
  | .tup a b => .tup (e _ _ a) (b.mono e)
  | .lst a b => .lst (e _ _ a) (b.mono e)
  | .scr a b => .scr (same_l e a) (b.mono e)
  | .dic a b => .dic (e _ _ a) (b.mono e)
  | .ins a b c => .ins (e _ _ a) b (c.mono e)
theorem Reps.mono (e : Same H0 H0') {v d} (h : Reps K cl H0 v d) : Reps K cl H0' v d := match h with
  | .nil => .nil
  | .cons a b => .cons (a.mono e) (b.mono e)
theorem RepK.mono (e : Same H0 H0') {v d} (h : RepK K cl H0 v d) : RepK K cl H0' v d := match h with
  | .nil => .nil
  | .cons a b => .cons (a.mono e) (b.mono e)
theorem RepF.mono (e : Same H0 H0') {v d} (h : RepF K cl H0 v d) : RepF K cl H0' v d := match h with
  | .nil => .nil
  | .cons a b => .cons (a.mono e) (b.mono e)
end
end

noncomputable def RepW (K : PySem.W.Frag) (cl : Str → Option Addr) (H0 : Hp) (m : List Addr) (v : V) : W → Prop
  | .d x => Rep K cl H0 v x
  | .r n => ∃ a, m[n]? = some a ∧ v = .ref a
inductive RepWs (K : PySem.W.Frag) (cl : Str → Option Addr) (H0 : Hp) (m : List Addr) : List V → List W → Prop
  | nil : RepWs K cl H0 m [] []
  | cons {v d vs ds} : RepW K cl H0 m v d → RepWs K cl H0 m vs ds → RepWs K cl H0 m (v :: vs) (d :: ds)
inductive RepWK (K : PySem.W.Frag) (cl : Str → Option Addr) (H0 : Hp) (m : List Addr) {κ : Type} : List (κ × V) → List (κ × W) → Prop
  | nil : RepWK K cl H0 m [] []
  | cons {k v d vs ds} : RepW K cl H0 m v d → RepWK K cl H0 m vs ds → RepWK K cl H0 m ((k, v) :: vs) ((k, d) :: ds)

noncomputable def CellR (K : PySem.W.Frag) (cl : Str → Option Addr) (H0 H : Hp) (m : List Addr) (a : Addr) : Cell → Prop
  | .lst l => ∃ vs, H a = some (.lst vs) ∧ RepWs K cl H0 m vs l
  | .dic l => ∃ kvs, H a = some (.dK kvs) ∧ RepWK K cl H0 m kvs l
  | .ins c l => ∃ C dx fs, H a = some (.ins C dx fs) ∧ cl c = some C ∧ RepWK K cl H0 m fs l
  | .tup l => ∃ vs, H a = some (.tup vs) ∧ RepWs K cl H0 m vs l
structure Stt (K : PySem.W.Frag) (cl : Str → Option Addr) (H0 H : Hp) (m : List Addr) (s : S) : Prop where
  sub : Same H0 H
  len : m.length = s.length
  nd : m.Nodup
  cell : ∀ (n : Nat) a c, m[n]? = some a → s[n]? = some c → H0 a = none ∧ CellR K cl H0 H m a c

structure Go (H0 H : Hp) (m ow : List Addr) (H0' H' : Hp) (m' ow' : List Addr) : Prop where
  s0 : Same H0 H0'
  pre : m <+: m'
  fr : ∀ a o, H a = some o → a ∉ m → a ∉ ow → H' a = some o
  dom : ∀ a, H a ≠ none → H' a ≠ none
  n0 : ∀ a, H a ≠ none → a ∉ m → a ∉ ow → H0 a = none → H0' a = none
  nm : ∀ a ∈ m', a ∈ m ∨ a ∈ ow ∨ H a = none
  nw : ∀ a ∈ ow', a ∈ ow ∨ H a = none
noncomputable abbrev GoE (H0 H : Hp) (m : List Addr) (H0' H' : Hp) (m' : List Addr) : Prop := Go H0 H m [] H0' H' m' []

section
variable {K : PySem.W.Frag} {cl : Str → Option Addr} {H0 H H1 H1' H2 H2' : Hp} {m m1 m2 ow ow1 ow2 : List Addr} {s : S}
theorem Go.refl : Go H0 H m ow H0 H m ow :=
  ⟨Same.refl _, List.prefix_rfl, fun _ _ h _ _ => h, fun _ h => h, fun _ _ _ _ h => h, fun _ h => .inl h, fun _ h => .inl h⟩
theorem Go.trans (g : Go H0 H m ow H1 H1' m1 ow1) (g' : Go H1 H1' m1 ow1 H2 H2' m2 ow2) : Go H0 H m ow H2 H2' m2 ow2 := by
  refine ⟨g.s0.trans g'.s0, g.pre.trans g'.pre, fun a o h h1 h2 => ?_, fun a h => g'.dom a (g.dom a h), fun a h h1 h2 h3 => ?_, fun a h => ?_, fun a h => ?_⟩
  · have n1 : a ∉ m1 := fun z => by rcases g.nm a z with q | q | q <;> first | exact h1 q | exact h2 q | (rw [q] at h; cases h)
    have n2 : a ∉ ow1 := fun z => by rcases g.nw a z with q | q <;> first | exact h2 q | (rw [q] at h; cases h)
    exact g'.fr a o (g.fr a o h h1 h2) n1 n2
  · have n1 : a ∉ m1 := fun z => by rcases g.nm a z with q | q | q <;> first | exact h1 q | exact h2 q | exact h q
    have n2 : a ∉ ow1 := fun z => by rcases g.nw a z with q | q <;> first | exact h2 q | exact h q
    exact g'.n0 a (g.dom a h) n1 n2 (g.n0 a h h1 h2 h3)
  · rcases g'.nm a h with q | q | q
    · exact g.nm a q
    · rcases g.nw a q with q | q
      · exact .inr (.inl q)
      · exact .inr (.inr q)
    · refine .inr (.inr ?_)
      exact Classical.byContradiction fun z => g.dom a z q
  · rcases g'.nw a h with q | q
    · exact g.nw a q
    · refine .inr ?_
      exact Classical.byContradiction fun z => g.dom a z q
theorem Go.lift (g : GoE H0 H m H1 H1' m1) : Go H0 H m ow H1 H1' m1 ow :=
  ⟨g.s0, g.pre, fun a o h h1 _ => g.fr a o h h1 (by simp), g.dom, fun a h h1 _ h3 => g.n0 a h h1 (by simp) h3, fun a h => by
    rcases g.nm a h with q | q | q
    · exact .inl q
    · cases q
    · exact .inr (.inr q), fun a h => .inl h⟩
theorem RepW.mono {H0 H0' : Hp} {m m' : List Addr} (e : Same H0 H0') (p : m <+: m') {v : V} {x : W} (h : RepW K cl H0 m v x) : RepW K cl H0' m' v x := by
  cases x with
  | d x => exact Rep.mono e h
  | r n =>
    obtain ⟨a, h1, h2⟩ := h
    exact ⟨a, by
      obtain ⟨t, rfl⟩ := p
      rw [List.getElem?_append_left]
      · exact h1
      · exact (List.getElem?_eq_some_iff.mp h1).1, h2⟩
theorem RepWs.mono {H0 H0' : Hp} {m m' : List Addr} (e : Same H0 H0') (p : m <+: m') {v : List V} {x : List W} (h : RepWs K cl H0 m v x) : RepWs K cl H0' m' v x := by
  induction h with
  | nil => exact .nil
  | cons a _ ih => exact .cons (a.mono e p) ih
theorem RepWK.mono {κ : Type} {H0 H0' : Hp} {m m' : List Addr} (e : Same H0 H0') (p : m <+: m') {v : List (κ × V)} {x : List (κ × W)} (h : RepWK K cl H0 m v x) : RepWK K cl H0' m' v x := by
  induction h with
  | nil => exact .nil
  | cons a _ ih => exact .cons (a.mono e p) ih
end

noncomputable def SlotR (K : PySem.W.Frag) (cl : Str → Option Addr) (H0 H : Hp) (m ow : List Addr) (v : Option (Option V)) : EV → Prop
  | .no => True
  | .w x => ∃ u, v = some (some u) ∧ RepW K cl H0 m u x
  | .own l => ∃ p vs, v = some (some (.ref p)) ∧ p ∈ ow ∧ H p = some (.lst vs) ∧ RepWs K cl H0 m vs l
  | .ownD l => ∃ p kvs, v = some (some (.ref p)) ∧ p ∈ ow ∧ H p = some (.dK kvs) ∧ RepWK K cl H0 m kvs l
  | .ownI c l => ∃ p C dx fs, v = some (some (.ref p)) ∧ p ∈ ow ∧ H p = some (.ins C dx fs) ∧ cl c = some C ∧ RepWK K cl H0 m fs l
noncomputable def EV.isOwn : EV → Bool
  | .no => false | .w _ => false | .own _ => true | .ownD _ => true | .ownI _ _ => true
structure EnvR (K : PySem.W.Frag) (cl : Str → Option Addr) (H0 H : Hp) (m ow : List Addr) (σ : L2.St) (ρ : Rho) : Prop where
  len : σ.length = ρ.length
  slot : ∀ (i : Nat) e, ρ[i]? = some e → SlotR K cl H0 H m ow σ[i]? e
  apart : ∀ (i j : Nat) e e' p, ρ[i]? = some e → ρ[j]? = some e' → e.isOwn = true → e'.isOwn = true → σ[i]? = some (some (.ref p)) → σ[j]? = some (some (.ref p)) → i = j
  owns : ∀ p ∈ ow, H p ≠ none ∧ H0 p = none ∧ p ∉ m
structure Ctx (K : PySem.W.Frag) (cl : Str → Option Addr) (H0 H : Hp) (m ow : List Addr) (s : S) (σ : L2.St) (ρ : Rho) : Prop where
  st : Stt K cl H0 H m s
  en : EnvR K cl H0 H m ow σ ρ
section
variable {K : PySem.W.Frag} {cl : Str → Option Addr} {H0 H H1 H1' : Hp} {m m1 ow : List Addr} {s s1 : S} {σ : L2.St} {ρ : Rho}
theorem EnvR.go (e : EnvR K cl H0 H m ow σ ρ) (g : GoE H0 H m H1 H1' m1) : EnvR K cl H1 H1' m1 ow σ ρ := by
  have kp : ∀ p o, p ∈ ow → H p = some o → H1' p = some o := fun p o h h' => g.fr p o h' (e.owns p h).2.2 (by simp)
  refine ⟨e.len, fun i x h => ?_, e.apart, fun p h => ?_⟩
  · have q := e.slot i x h
    cases x with
    | no => trivial
    | w x =>
      obtain ⟨u, h1, h2⟩ := q
      exact ⟨u, h1, h2.mono g.s0 g.pre⟩
    | own l =>
      obtain ⟨p, vs, h1, h2, h3, h4⟩ := q
      exact ⟨p, vs, h1, h2, kp p _ h2 h3, h4.mono g.s0 g.pre⟩
    | ownD l =>
      obtain ⟨p, vs, h1, h2, h3, h4⟩ := q
      exact ⟨p, vs, h1, h2, kp p _ h2 h3, h4.mono g.s0 g.pre⟩
    | ownI c l =>
      obtain ⟨p, C, dx, fs, h1, h2, h3, h4, h5⟩ := q
      exact ⟨p, C, dx, fs, h1, h2, kp p _ h2 h3, h4, h5.mono g.s0 g.pre⟩
  · obtain ⟨h1, h2, h3⟩ := e.owns p h
    refine ⟨g.dom p h1, g.n0 p h1 h3 (by simp) h2, fun z => ?_⟩
    rcases g.nm p z with q | q | q
    · exact h3 q
    · cases q
    · exact h1 q
theorem Ctx.go (c : Ctx K cl H0 H m ow s σ ρ) (g : GoE H0 H m H1 H1' m1) (st : Stt K cl H1 H1' m1 s1) : Ctx K cl H1 H1' m1 ow s1 σ ρ := ⟨st, c.en.go g⟩
end

noncomputable def excFld (c : Str) : Str := if c = "BadWish" then "wish" else if c = "BadPage" then "row" else "number"
noncomputable def ExcR (K : PySem.W.Frag) (cl : Str → Option Addr) (H0 H : Hp) (cv : Value) (dd : Option Addr) (c : Str) : Option D → Prop
  | none => ∃ C, cl c = some C ∧ cv = .ref C
  | some x => ∃ C d v, cl c = some C ∧ cv = .ref C ∧ dd = some d ∧ H0 d = some (.xd [(excFld c, v)]) ∧ Rep K cl H0 v x

noncomputable abbrev RRT (β α : Type) := Hp → Hp → Hp → List Addr → β → α → Prop
noncomputable def rrW (K : PySem.W.Frag) (cl : Str → Option Addr) : RRT V W := fun _ H0 _ m v x => RepW K cl H0 m v x
noncomputable def rrB : RRT Bool Bool := fun _ _ _ _ v x => v = x
noncomputable def rrA (K : PySem.W.Frag) (cl : Str → Option Addr) : RRT (List V) (List W) := fun _ H0 _ m v x => RepWs K cl H0 m v x
noncomputable def rrO : RRT (Option Int) (Option Int) := fun _ _ _ _ v x => v = x
noncomputable def rrL (K : PySem.W.Frag) (cl : Str → Option Addr) : RRT V (List W) := fun H H0 H' m v l => ∃ p vs, v = .ref p ∧ H p = none ∧ H' p = some (.lst vs) ∧ H0 p = none ∧ p ∉ m ∧ RepWs K cl H0 m vs l
noncomputable def rrD (K : PySem.W.Frag) (cl : Str → Option Addr) : RRT V (List (Key × W)) := fun H H0 H' m v l => ∃ p vs, v = .ref p ∧ H p = none ∧ H' p = some (.dK vs) ∧ H0 p = none ∧ p ∉ m ∧ RepWK K cl H0 m vs l

class Early {β α : Type} (RR : RRT β α) : Prop where
  back : ∀ {H H1 H0 H' : Hp} {m : List Addr} {v : β} {x : α}, (∀ a, H a ≠ none → H1 a ≠ none) → RR H1 H0 H' m v x → RR H H0 H' m v x
theorem dom_none {H H1 : Hp} (d : ∀ a, H a ≠ none → H1 a ≠ none) {p : Addr} (h : H1 p = none) : H p = none := Classical.byContradiction fun z => d p z h
instance {K cl} : Early (rrW K cl) := ⟨fun _ h => h⟩
instance : Early rrB := ⟨fun _ h => h⟩
instance {K cl} : Early (rrA K cl) := ⟨fun _ h => h⟩
instance : Early rrO := ⟨fun _ h => h⟩
instance {K cl} : Early (rrL K cl) := ⟨fun d ⟨p, vs, a, b, c⟩ => ⟨p, vs, a, dom_none d b, c⟩⟩
instance {K cl} : Early (rrD K cl) := ⟨fun d ⟨p, vs, a, b, c⟩ => ⟨p, vs, a, dom_none d b, c⟩⟩

noncomputable def RunE (K : PySem.W.Frag) (cl : Str → Option Addr) {β α : Type} (RR : RRT β α) (Wx : WX) (H0 H : Hp) (m : List Addr) (σ : L2.St) (Q : β → Hp → Prop) : Res α → Prop
  | .ok a s' => ∀ v H0' H' m', GoE H0 H m H0' H' m' → Stt K cl H0' H' m' s' → RR H H0' H' m' v a → Q v H'
  | .exc c x s' => ∀ cv dd H0' H' m', GoE H0 H m H0' H' m' → Stt K cl H0' H' m' s' → ExcR K cl H0' H' cv dd c x → Wx cv dd σ H'
  | .no => False
noncomputable def Tof (K : PySem.W.Frag) (cl : Str → Option Addr) {β α : Type} (RR : RRT β α) (Wx : WX) (e : Cmp α) : L2.St → Hp → (β → Hp → Prop) → Prop := fun σ H Q =>
  ∃ H0 m ow s ρ, Ctx K cl H0 H m ow s σ ρ ∧ RunE K cl RR Wx H0 H m σ Q (e ρ s)

section
variable {K : PySem.W.Frag} {cl : Str → Option Addr} {H0 H H1 H1' : Hp} {m m1 ow : List Addr} {s s1 : S} {σ : L2.St} {ρ : Rho} {Wx : WX} {α β γ δ : Type}
theorem RunE.shift {RR : RRT β α} [Early RR] {Q : β → Hp → Prop} {r : Res α} (h : RunE K cl RR Wx H0 H m σ Q r) (g : GoE H0 H m H1 H1' m1) : RunE K cl RR Wx H1 H1' m1 σ Q r := by
  cases r with
  | ok a s' => exact fun v H0' H' m' g' st rr => h v H0' H' m' (g.trans g') st (Early.back g.dom rr)
  | exc c x s' => exact fun cv dd H0' H' m' g' st rr => h cv dd H0' H' m' (g.trans g') st rr
  | no => exact h
theorem RunE.imp {RR : RRT β α} {Q Q' : β → Hp → Prop} {r : Res α} (h : RunE K cl RR Wx H0 H m σ Q r) (k : ∀ v H', Q v H' → Q' v H') : RunE K cl RR Wx H0 H m σ Q' r := by
  cases r with
  | ok a s' => exact fun v H0' H' m' g' st rr => k _ _ (h v H0' H' m' g' st rr)
  | exc c x s' => exact h
  | no => exact h
theorem RunE.bind {RR : RRT β α} {RS : RRT δ γ} [Early RS] {Q : δ → Hp → Prop} {Q1 : β → Hp → Prop} {r : Res α} {k : α → S → Res γ} (h : RunE K cl RS Wx H0 H m σ Q (r.bind k))
    (q : ∀ a s1 v H1 H1' m1, GoE H0 H m H1 H1' m1 → Stt K cl H1 H1' m1 s1 → RR H H1 H1' m1 v a → RunE K cl RS Wx H1 H1' m1 σ Q (k a s1) → Q1 v H1') : RunE K cl RR Wx H0 H m σ Q1 r := by
  cases r with
  | ok a s' =>
    have h : RunE K cl RS Wx H0 H m σ Q (k a s') := h
    exact fun v H0' H' m' g st rr => q a s' v H0' H' m' g st rr (h.shift g)
  | exc c x s' => exact h
  | no => exact h
theorem RunE.done {RR : RRT β α} {Q : β → Hp → Prop} {a : α} {v : β} (h : RunE K cl RR Wx H0 H m σ Q (.ok a s)) (st : Stt K cl H0 H m s) (rr : RR H H0 H m v a) : Q v H := h v H0 H m Go.refl st rr
theorem PE.weaken {X : Cx} {e : Expr} {t t' : TE} (h : PE X e t) (w : ∀ σ H Q, t' σ H Q → t σ H Q) : PE X e t' := ⟨fun pins s σ H Q I q => h.run pins s σ H Q I (w σ H Q q)⟩
theorem PT.weaken {X : Cx} {e : Expr} {t t' : TT} (h : PT X e t) (w : ∀ σ H Q, t' σ H Q → t σ H Q) : PT X e t' := ⟨fun pins s σ H Q I q => h.run pins s σ H Q I (w σ H Q q)⟩
theorem PW.weaken {X : Cx} {e : Expr} {t t' : TT} (h : PW X e t) (w : ∀ σ H Q, t' σ H Q → t σ H Q) : PW X e t' := ⟨fun wh pins s σ H Q I q => h.run wh pins s σ H Q I (w σ H Q q)⟩
theorem PA.weaken {X : Cx} {e : List Expr} {t t' : TA} (h : PA X e t) (w : ∀ σ H Q, t' σ H Q → t σ H Q) : PA X e t' := ⟨fun pos pins s σ H Q I q => h.run pos pins s σ H Q I (w σ H Q q)⟩
theorem PO.weaken {X : Cx} {e : Option Expr} {t t' : TO} (h : PO X e t) (w : ∀ σ H Q, t' σ H Q → t σ H Q) : PO X e t' := ⟨fun pins s σ H Q I q => h.run pins s σ H Q I (w σ H Q q)⟩
theorem PS.weaken {X : Cx} {e : Stmt} {t t' : TS} (h : PS X e t) (w : ∀ D σ H, t' D σ H → t D σ H) : PS X e t' := ⟨fun pins s σ H D I q => h.run pins s σ H D I (w D σ H q)⟩
theorem PSs.weaken {X : Cx} {e : List Stmt} {t t' : TS} (h : PSs X e t) (w : ∀ D σ H, t' D σ H → t D σ H) : PSs X e t' := ⟨fun pins s σ H D I q => h.run pins s σ H D I (w D σ H q)⟩
end

noncomputable def JE (cl : Str → Option Addr) (Wx : WX) (X : Cx) (e : Expr) (c : Cmp W) : Prop := PE X e (Tof X.K cl (rrW X.K cl) Wx c)
noncomputable def JL (cl : Str → Option Addr) (Wx : WX) (X : Cx) (e : Expr) (c : Cmp (List W)) : Prop := PE X e (Tof X.K cl (rrL X.K cl) Wx c)
noncomputable def JD (cl : Str → Option Addr) (Wx : WX) (X : Cx) (e : Expr) (c : Cmp (List (Key × W))) : Prop := PE X e (Tof X.K cl (rrD X.K cl) Wx c)
noncomputable def JT (cl : Str → Option Addr) (Wx : WX) (X : Cx) (e : Expr) (c : Cmp Bool) : Prop := PT X e (Tof X.K cl rrB Wx c)
noncomputable def JW (cl : Str → Option Addr) (Wx : WX) (X : Cx) (e : Expr) (c : Cmp Bool) : Prop := PW X e (Tof X.K cl rrB Wx c)
noncomputable def JA (cl : Str → Option Addr) (Wx : WX) (X : Cx) (e : List Expr) (c : Cmp (List W)) : Prop := PA X e (Tof X.K cl (rrA X.K cl) Wx c)
noncomputable def JO (cl : Str → Option Addr) (Wx : WX) (X : Cx) (e : Option Expr) (c : Cmp (Option Int)) : Prop := PO X e (Tof X.K cl rrO Wx c)
end TG

set_option Elab.async false
set_option linter.all false
set_option maxRecDepth 100000
set_option maxHeartbeats 2000000
namespace TG
open PySem L2

noncomputable def asInt : W → Option Int | .d (.int i) => some i | _ => none
noncomputable def asBool : W → Option Bool | .d (.bl b) => some b | _ => none
noncomputable def asStr : W → Option Str | .d (.str x) => some x | _ => none
noncomputable def asTup : W → Option (List D) | .d (.tup l) => some l | _ => none
noncomputable def asData : W → Option D | .d x => some x | .r _ => none
noncomputable def wD (l : List D) : List W := l.map W.d
noncomputable def asLst : W → S → Option (List W)
  | .d (.lst l), _ => some (wD l)
  | .d _, _ => none
  | .r n, s => match s[n]? with | some (.lst l) => some l | _ => none
noncomputable def allData : List W → Option (List D)
  | [] => some []
  | .d x :: r => (allData r).map (x :: ·)
  | .r _ :: _ => none
noncomputable def allInts : List W → Option (List Int)
  | [] => some []
  | .d (.int i) :: r => (allInts r).map (i :: ·)
  | _ :: _ => none
noncomputable def allBools : List W → Option (List Bool)
  | [] => some []
  | .d (.bl i) :: r => (allBools r).map (i :: ·)
  | _ :: _ => none
theorem allData_wD (l : List D) : allData (wD l) = some l := by
  induction l with
  | nil => rfl
  | cons a l ih => show (allData (wD l)).map (a :: ·) = _; rw [ih]; rfl
theorem allInts_wD (l : List Int) : allInts (wD (l.map D.int)) = some l := by
  induction l with
  | nil => rfl
  | cons a l ih => show (allInts (wD (l.map D.int))).map (a :: ·) = _; rw [ih]; rfl
theorem allBools_wD (l : List Bool) : allBools (wD (l.map D.bl)) = some l := by
  induction l with
  | nil => rfl
  | cons a l ih => show (allBools (wD (l.map D.bl))).map (a :: ·) = _; rw [ih]; rfl
section
variable {K : PySem.W.Frag} {cl : Str → Option Addr} {H0 H H0' H' : Hp} {m m' : List Addr} {s s' : S} {v : V} {w : W} {p : Addr} {o : HO}
theorem asInt_ok {i : Int} (h : RepW K cl H0 m v w) (e : asInt w = some i) : v = .int i := by
  unfold asInt at e
  split at e
  · cases e; cases h; rfl
  · cases e
theorem asBool_ok {i : Bool} (h : RepW K cl H0 m v w) (e : asBool w = some i) : v = .bl i := by
  unfold asBool at e
  split at e
  · cases e; cases h; rfl
  · cases e
theorem asStr_ok {i : Str} (h : RepW K cl H0 m v w) (e : asStr w = some i) : v = .str i := by
  unfold asStr at e
  split at e
  · cases e; cases h; rfl
  · cases e
theorem asTup_ok {l : List D} (h : RepW K cl H0 m v w) (e : asTup w = some l) : ∃ p vs, v = .ref p ∧ H0 p = some (.tup vs) ∧ Reps K cl H0 vs l := by
  unfold asTup at e
  split at e
  · cases e
    cases h
    exact ⟨_, _, rfl, ‹_›, ‹_›⟩
  · cases e
theorem Reps.ws {vs : List V} {l : List D} (h : Reps K cl H0 vs l) : RepWs K cl H0 m vs (wD l) := by
  induction l generalizing vs with
  | nil => cases h; exact .nil
  | cons a l ih =>
    cases h with
    | cons h1 h2 => exact .cons h1 (ih h2)
theorem RepWs.ds {vs : List V} {l : List W} {ds : List D} (h : RepWs K cl H0 m vs l) (e : allData l = some ds) : Reps K cl H0 vs ds := by
  induction h generalizing ds with
  | nil => cases e; exact .nil
  | @cons v d vs l h1 h2 ih =>
    cases d with
    | r n => cases e
    | d x =>
      unfold allData at e
      cases q : allData l with
      | none => rw [q] at e; cases e
      | some z => rw [q] at e; cases e; exact .cons h1 (ih q)
theorem RepWs.ints {vs : List V} {l : List W} {ns : List Int} (h : RepWs K cl H0 m vs l) (e : allInts l = some ns) : vs = ns.map V.int := by
  induction h generalizing ns with
  | nil => cases e; rfl
  | @cons v d vs l h1 h2 ih =>
    unfold allInts at e
    split at e
    · rename_i q; cases q
    · rename_i i r q
      cases q
      cases q2 : allInts l with
      | none => rw [q2] at e; cases e
      | some z => rw [q2] at e; cases e; cases h1; rw [ih q2]; rfl
    · cases e
theorem RepWs.bools {vs : List V} {l : List W} {ns : List Bool} (h : RepWs K cl H0 m vs l) (e : allBools l = some ns) : vs = ns.map V.bl := by
  induction h generalizing ns with
  | nil => cases e; rfl
  | @cons v d vs l h1 h2 ih =>
    unfold allBools at e
    split at e
    · rename_i q; cases q
    · rename_i i r q
      cases q
      cases q2 : allBools l with
      | none => rw [q2] at e; cases e
      | some z => rw [q2] at e; cases e; cases h1; rw [ih q2]; rfl
    · cases e
theorem RepWs.length {vs : List V} {l : List W} (h : RepWs K cl H0 m vs l) : vs.length = l.length := by
  induction h with
  | nil => rfl
  | cons _ _ ih => rw [List.length_cons, List.length_cons, ih]
theorem RepWs.get {vs : List V} {l : List W} (h : RepWs K cl H0 m vs l) : ∀ {i : Nat} {x : W}, l[i]? = some x → ∃ v, vs[i]? = some v ∧ RepW K cl H0 m v x := by
  induction h with
  | nil => intro i x e; simp at e
  | cons h1 _ ih =>
    intro i x e
    cases i with
    | zero => simp at e; subst e; exact ⟨_, rfl, h1⟩
    | succ i =>
      obtain ⟨v, h1, h2⟩ := ih (i := i) (x := x) (by simpa using e)
      exact ⟨v, by simpa using h1, h2⟩
theorem RepWs.set {vs : List V} {l : List W} (h : RepWs K cl H0 m vs l) {v : V} {x : W} (hx : RepW K cl H0 m v x) : ∀ i : Nat, RepWs K cl H0 m (vs.set i v) (l.set i x) := by
  induction h with
  | nil => intro i; exact .nil
  | cons h1 h2 ih =>
    intro i
    cases i with
    | zero => exact .cons hx h2
    | succ i => exact .cons h1 (ih i)
theorem RepWs.append {vs us : List V} {l k : List W} (h : RepWs K cl H0 m vs l) (h' : RepWs K cl H0 m us k) : RepWs K cl H0 m (vs ++ us) (l ++ k) := by
  induction h with
  | nil => exact h'
  | cons h1 _ ih => exact .cons h1 ih
theorem RepWs.take {vs : List V} {l : List W} (h : RepWs K cl H0 m vs l) : ∀ n, RepWs K cl H0 m (vs.take n) (l.take n) := by
  induction h with
  | nil => intro n; simpa using RepWs.nil
  | cons h1 _ ih =>
    intro n
    cases n with
    | zero => exact .nil
    | succ n => exact .cons h1 (ih n)
theorem RepWs.drop {vs : List V} {l : List W} (h : RepWs K cl H0 m vs l) : ∀ n, RepWs K cl H0 m (vs.drop n) (l.drop n) := by
  induction h with
  | nil => intro n; simpa using RepWs.nil
  | cons h1 h2 ih =>
    intro n
    cases n with
    | zero => exact .cons h1 h2
    | succ n => exact ih n
theorem Reps.length {vs : List V} {l : List D} (h : Reps K cl H0 vs l) : vs.length = l.length := by
  have := (h.ws (m := [])).length
  simpa [wD] using this
theorem asLst_ok {l : List W} (st : Stt K cl H0 H m s) (h : RepW K cl H0 m v w) (e : asLst w s = some l) : ∃ p vs, v = .ref p ∧ H p = some (.lst vs) ∧ RepWs K cl H0 m vs l := by
  unfold asLst at e
  split at e
  · cases e
    cases h
    exact ⟨_, _, rfl, st.sub _ _ ‹_›, Reps.ws ‹_›⟩
  · cases e
  · obtain ⟨a, h1, h2⟩ := h
    split at e
    · cases e
      obtain ⟨_, vs, h3, h4⟩ := st.cell _ a _ h1 ‹_›
      exact ⟨a, vs, h2, h3, h4⟩
    · cases e
theorem asTup_at {l : List D} (st : Stt K cl H0 H m s) (h : RepW K cl H0 m v w) (e : asTup w = some l) : ∃ p vs, v = .ref p ∧ H p = some (.tup vs) ∧ RepWs K cl H0 m vs (wD l) := by
  obtain ⟨p, vs, h1, h2, h3⟩ := asTup_ok h e
  exact ⟨p, vs, h1, st.sub _ _ h2, h3.ws⟩
noncomputable def tupC (w : W) (s : S) : Option (List W) := match w with | .r n => (match s[n]? with | some (.tup l) => some l | _ => none) | _ => none
theorem tupC_ok {l : List W} (st : Stt K cl H0 H m s) (h : RepW K cl H0 m v w) (e : tupC w s = some l) : ∃ p vs, v = .ref p ∧ H p = some (.tup vs) ∧ RepWs K cl H0 m vs l := by
  cases w with
  | d x => cases e
  | r n =>
    obtain ⟨a, h1, rfl⟩ := h
    have e : (match s[n]? with | some (.tup l) => some l | _ => none) = some l := e
    split at e
    · rename_i l' q
      cases e
      obtain ⟨vs, h2, h3⟩ := (st.cell n a _ h1 q).2
      exact ⟨a, vs, rfl, h2, h3⟩
    · cases e
noncomputable def asSeq (w : W) (s : S) : Option (List W) := match asTup w with | some l => some (wD l) | none => match asLst w s with | some l => some l | none => tupC w s
theorem asSeq_ok {l : List W} (st : Stt K cl H0 H m s) (h : RepW K cl H0 m v w) (e : asSeq w s = some l) : ∃ p vs, v = .ref p ∧ (H p = some (.lst vs) ∨ H p = some (.tup vs)) ∧ RepWs K cl H0 m vs l := by
  unfold asSeq at e
  split at e
  · rename_i l' q
    cases e
    obtain ⟨p, vs, h1, h2, h3⟩ := asTup_at st h q
    exact ⟨p, vs, h1, .inr h2, h3⟩
  · split at e
    · rename_i l' q
      cases e
      obtain ⟨p, vs, h1, h2, h3⟩ := asLst_ok st h q
      exact ⟨p, vs, h1, .inl h2, h3⟩
    · obtain ⟨p, vs, h1, h2, h3⟩ := tupC_ok st h e
      exact ⟨p, vs, h1, .inr h2, h3⟩

theorem same_upd {H : Hp} {p : Addr} {o : HO} (h : H p = none) : Same H (upd H p o) := fun b x e => by
  rw [upd_ne (ne_of_none e h)]; exact e
theorem CellR.mono (e : Same H0 H0') (q : m <+: m') {a : Addr} {c : Cell} (h : CellR K cl H0 H m a c) (k : ∀ o, H a = some o → H' a = some o) : CellR K cl H0' H' m' a c := by
  cases c with
  | lst l => obtain ⟨vs, h1, h2⟩ := h; exact ⟨vs, k _ h1, h2.mono e q⟩
  | dic l => obtain ⟨vs, h1, h2⟩ := h; exact ⟨vs, k _ h1, h2.mono e q⟩
  | ins c l => obtain ⟨C, dx, fs, h1, h2, h3⟩ := h; exact ⟨C, dx, fs, k _ h1, h2, h3.mono e q⟩
  | tup l => obtain ⟨vs, h1, h2⟩ := h; exact ⟨vs, k _ h1, h2.mono e q⟩
theorem CellR.there {a : Addr} {c : Cell} (h : CellR K cl H0 H m a c) : H a ≠ none := by
  cases c with
  | lst l => obtain ⟨vs, h1, h2⟩ := h; rw [h1]; simp
  | dic l => obtain ⟨vs, h1, h2⟩ := h; rw [h1]; simp
  | ins c l => obtain ⟨C, dx, fs, h1, h2⟩ := h; rw [h1]; simp
  | tup l => obtain ⟨vs, h1, h2⟩ := h; rw [h1]; simp
theorem Stt.cellOf (st : Stt K cl H0 H m s) {a : Addr} (h : a ∈ m) : ∃ (n : Nat) (c : Cell), m[n]? = some a ∧ s[n]? = some c ∧ H0 a = none ∧ CellR K cl H0 H m a c := by
  obtain ⟨n, hn⟩ := List.mem_iff_getElem?.mp h
  have hl : n < s.length := by
    rw [← st.len]; exact (List.getElem?_eq_some_iff.mp hn).1
  have hc : s[n]? = some s[n] := by simp [hl]
  obtain ⟨h1, h2⟩ := st.cell n a _ hn hc
  exact ⟨n, s[n], hn, hc, h1, h2⟩
theorem Stt.notM (st : Stt K cl H0 H m s) (hp : H p = none) : p ∉ m := fun h => by
  obtain ⟨n, c, _, _, _, h2⟩ := st.cellOf h
  exact h2.there hp
theorem Stt.h0 (st : Stt K cl H0 H m s) (hp : H p = none) : H0 p = none := by
  cases e : H0 p with
  | none => rfl
  | some o => rw [st.sub _ _ e] at hp; cases hp
theorem Stt.freeze (st : Stt K cl H0 H m s) (h0 : H0 p = none) (hp : H p = some o) (hm : p ∉ m) : Stt K cl (upd H0 p o) H m s := by
  refine ⟨fun b x e => ?_, st.len, st.nd, fun n a c h1 h2 => ?_⟩
  · by_cases hb : b = p
    · subst hb; rw [upd_same] at e; cases e; exact hp
    · rw [upd_ne hb] at e; exact st.sub _ _ e
  · obtain ⟨q1, q2⟩ := st.cell n a c h1 h2
    have ne : a ≠ p := fun z => hm (z ▸ List.mem_of_getElem? h1)
    exact ⟨by rw [upd_ne ne]; exact q1, q2.mono (same_upd h0) List.prefix_rfl fun _ z => z⟩
theorem Stt.fresh (st : Stt K cl H0 H m s) (hp : H p = none) : Stt K cl H0 (upd H p o) m s := by
  refine ⟨st.sub.trans (same_upd hp), st.len, st.nd, fun n a c h1 h2 => ?_⟩
  obtain ⟨q1, q2⟩ := st.cell n a c h1 h2
  exact ⟨q1, q2.mono (Same.refl _) List.prefix_rfl (same_upd hp a)⟩
theorem Stt.alloc (st : Stt K cl H0 H m s) (hp : H p = none) : Stt K cl (upd H0 p o) (upd H p o) m s :=
  (st.fresh hp).freeze (st.h0 hp) upd_same (st.notM hp)
theorem Go.fresh (hp : H p = none) : GoE H0 H m H0 (upd H p o) m :=
  ⟨Same.refl _, List.prefix_rfl, fun a x h _ _ => same_upd hp a x h, fun a h => by
    unfold upd; split
    · simp
    · exact h, fun _ _ _ _ h => h, fun _ h => .inl h, fun _ h => .inl h⟩
theorem Go.freeze (st : Stt K cl H0 H m s) (g : GoE H0 H m H0' H' m') (hp : H p = none) : GoE H0 H m (upd H0' p o) H' m' := by
  refine ⟨fun b x e => ?_, g.pre, g.fr, g.dom, fun a h h1 h2 h3 => ?_, g.nm, g.nw⟩
  · have : b ≠ p := fun z => by subst z; rw [st.h0 hp] at e; cases e
    rw [upd_ne this]; exact g.s0 _ _ e
  · have : a ≠ p := fun z => h (z ▸ hp)
    rw [upd_ne this]; exact g.n0 a h h1 h2 h3
theorem Go.alloc (st : Stt K cl H0 H m s) (hp : H p = none) : GoE H0 H m (upd H0 p o) (upd H p o) m := (Go.fresh hp).freeze st hp
end

noncomputable def eC (x : D) : Cmp W := fun _ s => .ok (.d x) s
noncomputable def eVar (i : Nat) : Cmp W := fun ρ s => match ρ[i]? with | some (.w x) => .ok x s | _ => .no
noncomputable def eBin (f : W → W → S → Res W) (a b : Cmp W) : Cmp W := fun ρ s => (a ρ s).bind fun x s1 => (b ρ s1).bind fun y s2 => f x y s2
noncomputable def eUn (f : W → S → Res W) (a : Cmp W) : Cmp W := fun ρ s => (a ρ s).bind fun x s1 => f x s1
noncomputable def eTest (a : Cmp W) : Cmp Bool := fun ρ s => (a ρ s).bind fun x s1 => match asBool x with | some b => .ok b s1 | none => .no
noncomputable def eNil : Cmp (List W) := fun _ s => .ok [] s
noncomputable def eCons (a : Cmp W) (b : Cmp (List W)) : Cmp (List W) := fun ρ s => (a ρ s).bind fun x s1 => (b ρ s1).bind fun y s2 => .ok (x :: y) s2
noncomputable def eArgs (f : List W → S → Res W) (a : Cmp (List W)) : Cmp W := fun ρ s => (a ρ s).bind fun x s1 => f x s1
noncomputable def eNoPart : Cmp (Option Int) := fun _ s => .ok none s
noncomputable def ePart (a : Cmp W) : Cmp (Option Int) := fun ρ s => (a ρ s).bind fun x s1 => match asInt x with | some i => .ok (some i) s1 | none => .no
noncomputable def eSl (f : W → Option Int → Option Int → S → Res W) (a : Cmp W) (l h : Cmp (Option Int)) : Cmp W := fun ρ s => (a ρ s).bind fun x s1 => (l ρ s1).bind fun i s2 => (h ρ s2).bind fun j s3 => f x i j s3
noncomputable def eAndT (a b : Cmp Bool) : Cmp Bool := fun ρ s => (a ρ s).bind fun x s1 => if x = true then b ρ s1 else .ok false s1
noncomputable def eOrT (a b : Cmp Bool) : Cmp Bool := fun ρ s => (a ρ s).bind fun x s1 => if x = true then .ok true s1 else b ρ s1
noncomputable def eNotT (a : Cmp Bool) : Cmp Bool := fun ρ s => (a ρ s).bind fun x s1 => .ok (!x) s1
noncomputable def eAndV (a b : Cmp W) : Cmp W := fun ρ s => (a ρ s).bind fun x s1 => match asBool x with | some true => b ρ s1 | some false => .ok (.d (.bl false)) s1 | none => .no
noncomputable def eNotV (a : Cmp W) : Cmp W := fun ρ s => (a ρ s).bind fun x s1 => match asBool x with | some b => .ok (.d (.bl (!b))) s1 | none => .no
noncomputable def eIf (t : Cmp Bool) (a b : Cmp W) : Cmp W := fun ρ s => (t ρ s).bind fun x s1 => if x = true then a ρ s1 else b ρ s1
noncomputable def eChain (f g : W → W → S → Res W) (a b c : Cmp W) : Cmp W := fun ρ s => (a ρ s).bind fun x s1 => (b ρ s1).bind fun y s2 => (f x y s2).bind fun z s3 =>
  match asBool z with | some true => (c ρ s3).bind fun w s4 => g y w s4 | some false => .ok (.d (.bl false)) s3 | none => .no
noncomputable def mkTup (l : List W) (s : S) : Res W := match allData l with | some ds => if ds.length ≤ 16777216 then .ok (.d (.tup ds)) s else .no | none => .no
noncomputable def eTup (a : Cmp (List W)) : Cmp W := fun ρ s => (a ρ s).bind mkTup
noncomputable def eLst (a : Cmp (List W)) : Cmp (List W) := fun ρ s => (a ρ s).bind fun l s1 => if l.length ≤ 16777216 then .ok l s1 else .no
noncomputable def frzL (l : List W) (s : S) : Res W := match allData l with | some ds => .ok (.d (.lst ds)) s | none => .no
noncomputable def eFrz (a : Cmp (List W)) : Cmp W := fun ρ s => (a ρ s).bind frzL
noncomputable def eCell (a : Cmp (List W)) : Cmp W := fun ρ s => (a ρ s).bind fun l s1 => .ok (.r s1.length) (s1 ++ [.lst l])

noncomputable def OpS (K : PySem.W.Frag) (cl : Str → Option Addr) (r : R2) (f : W → W → S → Res W) : Prop := ∀ (Wx : WX) (σ : L2.St) (H0 H : Hp) (m : List Addr) (s : S) (x y : V) (wx wy : W) (Q : VK),
  Stt K cl H0 H m s → RepW K cl H0 m x wx → RepW K cl H0 m y wy → RunE K cl (rrW K cl) Wx H0 H m σ Q (f wx wy s) → r x y H Q
noncomputable def UnS (K : PySem.W.Frag) (cl : Str → Option Addr) (r : V → Hp → VK → Prop) (f : W → S → Res W) : Prop := ∀ (Wx : WX) (σ : L2.St) (H0 H : Hp) (m : List Addr) (s : S) (x : V) (wx : W) (Q : VK),
  Stt K cl H0 H m s → RepW K cl H0 m x wx → RunE K cl (rrW K cl) Wx H0 H m σ Q (f wx s) → r x H Q
noncomputable def CallS (K : PySem.W.Frag) (cl : Str → Option Addr) (r : List V → Hp → VK → Prop) (f : List W → S → Res W) : Prop := ∀ (Wx : WX) (σ : L2.St) (H0 H : Hp) (m : List Addr) (s : S) (xs : List V) (ws : List W) (Q : VK),
  Stt K cl H0 H m s → RepWs K cl H0 m xs ws → RunE K cl (rrW K cl) Wx H0 H m σ Q (f ws s) → r xs H Q
noncomputable def SlS (K : PySem.W.Frag) (cl : Str → Option Addr) (r : V → Option Int → Option Int → Hp → VK → Prop) (f : W → Option Int → Option Int → S → Res W) : Prop := ∀ (Wx : WX) (σ : L2.St) (H0 H : Hp) (m : List Addr) (s : S) (x : V) (i j : Option Int) (wx : W) (Q : VK),
  Stt K cl H0 H m s → RepW K cl H0 m x wx → RunE K cl (rrW K cl) Wx H0 H m σ Q (f wx i j s) → r x i j H Q
theorem OpR.or {X : Cx} {f : Value → Value → Sem Value} {r r' : R2} (h : OpR X f r) (h' : OpR X f r') : OpR X f (fun x y H Q => r x y H Q ∨ r' x y H Q) := fun pins s σ H x y v u Q I a b q => by
  rcases q with q | q
  · exact h pins s σ H x y v u Q I a b q
  · exact h' pins s σ H x y v u Q I a b q
theorem IxR.or {X : Cx} {r r' : R2} (h : IxR X r) (h' : IxR X r') : IxR X (fun x y H Q => r x y H Q ∨ r' x y H Q) := fun va sl pins s σ H x y v u Q I a b q => by
  rcases q with q | q
  · exact h va sl pins s σ H x y v u Q I a b q
  · exact h' va sl pins s σ H x y v u Q I a b q
theorem CallR.or {X : Cx} {f : Value} {r r' : List V → Hp → VK → Prop} (h : CallR X f r) (h' : CallR X f r') : CallR X f (fun x H Q => r x H Q ∨ r' x H Q) := fun pins s σ H x v Q I a q => by
  rcases q with q | q
  · exact h pins s σ H x v Q I a q
  · exact h' pins s σ H x v Q I a q
section
variable {X : Cx} {cl : Str → Option Addr} {Wx : WX} {a b c e : Expr} {es : List Expr} {pos : Pos} {ea eb ec : Cmp W} {el : Cmp (List W)} {et eu : Cmp Bool}

theorem je_var (i : Nat) {x : Str} (hN : X.N[i]? = some x := by rfl) (hv : Vis X.env.scope x := by first | exact Or.inl rfl | exact Or.inr (Or.inl rfl) | exact Or.inr (Or.inr rfl)) (hd : (x == ("__debug__" : Str)) = false := by decide)
    (hcd : (x == ("__classdict__" : Str)) = false := by decide) : JE cl Wx X (.Name x pos) (eVar i) :=
  PE.weaken (pe_var hN hv hd hcd) fun σ H Q ⟨H0, m, ow, s, ρ, cx, h⟩ => by
    unfold eVar at h
    split at h
    · rename_i x e
      obtain ⟨u, h1, h2⟩ := cx.en.slot i _ e
      exact ⟨u, h1, h.done cx.st h2⟩
    · exact h.elim
theorem je_int {i : Int} {j} : JE cl Wx X (.Constant (.int i) j pos) (eC (.int i)) := PE.weaken pe_int fun σ H Q ⟨H0, m, ow, s, ρ, cx, h⟩ => h.done cx.st .int
theorem je_bl {i : Bool} {j} : JE cl Wx X (.Constant (.bool i) j pos) (eC (.bl i)) := PE.weaken pe_bl fun σ H Q ⟨H0, m, ow, s, ρ, cx, h⟩ => h.done cx.st .bl
theorem je_non {j} : JE cl Wx X (.Constant .none j pos) (eC .non) := PE.weaken pe_non fun σ H Q ⟨H0, m, ow, s, ρ, cx, h⟩ => h.done cx.st .non
theorem je_str {x : Str} {j} : JE cl Wx X (.Constant (.str x) j pos) (eC (.str x)) := PE.weaken pe_str fun σ H Q ⟨H0, m, ow, s, ρ, cx, h⟩ => h.done cx.st .str
theorem je_globI {x : Str} {i : Int} {t : Tok} (hg : Gl X x) (hm : X.mg x = some (.int i t)) (hd : (x == ("__debug__" : Str)) = false := by decide) : JE cl Wx X (.Name x pos) (eC (.int i)) :=
  PE.weaken (pe_glob (v := .int i) hg hm ⟨t, rfl⟩ hd) fun σ H Q ⟨H0, m, ow, s, ρ, cx, h⟩ => h.done cx.st .int
theorem tOp_of {r : R2} {f : W → W → S → Res W} (ho : OpS X.K cl r f) {σ : L2.St} {H : Hp} {Q : VK} (h : Tof X.K cl (rrW X.K cl) Wx (eBin f ea eb) σ H Q) : tOp r (Tof X.K cl (rrW X.K cl) Wx ea) (Tof X.K cl (rrW X.K cl) Wx eb) σ H Q := by
  obtain ⟨H0, m, ow, s, ρ, cx, h⟩ := h
  exact ⟨H0, m, ow, s, ρ, cx, RunE.bind h fun x s1 v H1 H1' m1 g st rr h2 => ⟨H1, m1, ow, s1, ρ, cx.go g st, RunE.bind h2 fun y s2 u H2 H2' m2 g' st' rr' h3 =>
    ho Wx σ H2 H2' m2 s2 v u x y Q st' (RepW.mono g'.s0 g'.pre rr) rr' h3⟩⟩
theorem je_bin {op : Operator} {r : R2} {f : W → W → S → Res W} (hf : OpR X (binaryOp op) r) (ho : OpS X.K cl r f) (ha : JE cl Wx X a ea) (hb : JE cl Wx X b eb) : JE cl Wx X (.BinOp a op b pos) (eBin f ea eb) :=
  PE.weaken (pe_op hf ha hb) fun σ H Q h => tOp_of ho h
theorem je_cmp {op : CmpOp} {r : R2} {f : W → W → S → Res W} (hf : OpR X (compareOp op) r) (ho : OpS X.K cl r f) (ha : JE cl Wx X a ea) (hb : JE cl Wx X b eb) (hm : behindInMarks op b = false := by first | exact nobehind _ (by decide) (by decide) | rfl) : JE cl Wx X (.Compare a [op] [b] pos) (eBin f ea eb) :=
  PE.weaken (pe_cmpR hf ha hb hm) fun σ H Q h => tOp_of ho h
theorem tTest_of {t : TE} (hw : ∀ σ H Q, Tof X.K cl (rrW X.K cl) Wx ea σ H Q → t σ H Q) {σ : L2.St} {H : Hp} {Q : Bool → Hp → Prop} (h : Tof X.K cl rrB Wx (eTest ea) σ H Q) : tTest t σ H Q := by
  obtain ⟨H0, m, ow, s, ρ, cx, h⟩ := h
  refine hw σ H _ ⟨H0, m, ow, s, ρ, cx, RunE.bind h fun x s1 v H1 H1' m1 g st rr h2 => ?_⟩
  have h2 : RunE X.K cl rrB Wx H1 H1' m1 σ Q (match asBool x with | some b => .ok b s1 | none => .no) := h2
  cases e : asBool x with
  | none => rw [e] at h2; exact h2.elim
  | some k =>
    rw [e] at h2
    exact ⟨k, asBool_ok rr e, h2.done st rfl⟩
theorem jt_cmp {op : CmpOp} {r : R2} {f : W → W → S → Res W} (hf : OpR X (compareOp op) r) (ho : OpS X.K cl r f) (ha : JE cl Wx X a ea) (hb : JE cl Wx X b eb) (hm : behindInMarks op b = false := by first | exact nobehind _ (by decide) (by decide) | rfl) : JT cl Wx X (.Compare a [op] [b] pos) (eTest (eBin f ea eb)) :=
  PT.weaken (pt_cmpR hf ha hb hm) fun σ H Q h => tTest_of (fun σ H Q h => tOp_of ho h) h
theorem jt_val (ha : JE cl Wx X a ea) (he : ∀ whole, isTrue a X.env whole = (do let v ← whole; standAt a.pos; holding [v] (truthy v)) := by intro _; rfl) : JT cl Wx X a (eTest ea) :=
  PT.weaken (pt_val ha he) fun σ H Q h => tTest_of (fun σ H Q h => h) h
theorem tChain_of {r r' : R2} {f f' : W → W → S → Res W} (ho : OpS X.K cl r f) (ho' : OpS X.K cl r' f') {σ : L2.St} {H : Hp} {Q : VK} (h : Tof X.K cl (rrW X.K cl) Wx (eChain f f' ea eb ec) σ H Q) :
    tChain r r' (Tof X.K cl (rrW X.K cl) Wx ea) (Tof X.K cl (rrW X.K cl) Wx eb) (Tof X.K cl (rrW X.K cl) Wx ec) σ H Q := by
  obtain ⟨H0, m, ow, s, ρ, cx, h⟩ := h
  refine ⟨H0, m, ow, s, ρ, cx, RunE.bind h fun x s1 v H1 H1' m1 g st rr h2 => ⟨H1, m1, ow, s1, ρ, cx.go g st, RunE.bind h2 fun y s2 u H2 H2' m2 g' st' rr' h3 => ?_⟩⟩
  have rr := RepW.mono g'.s0 g'.pre rr
  refine ho Wx σ H2 H2' m2 s2 v u x y _ st' rr rr' (RunE.bind h3 fun z s3 uz H3 H3' m3 g3 st3 rz h4 => ?_)
  have h4 : RunE X.K cl (rrW X.K cl) Wx H3 H3' m3 σ Q (match asBool z with | some true => (ec ρ s3).bind fun w s4 => f' y w s4 | some false => .ok (.d (.bl false)) s3 | none => .no) := h4
  cases e : asBool z with
  | none => rw [e] at h4; exact h4.elim
  | some k =>
    rw [e] at h4
    refine ⟨k, asBool_ok rz e, ?_⟩
    cases k with
    | true =>
      refine iteT ⟨H3, m3, ow, s3, ρ, ((cx.go g st).go g' st').go g3 st3, RunE.bind h4 fun w s4 uw H4 H4' m4 g4 st4 rw' h5 => ?_⟩
      exact ho' Wx σ H4 H4' m4 s4 u uw y w Q st4 (RepW.mono (g3.trans g4).s0 (g3.trans g4).pre rr') rw' h5
    | false => exact iteF (h4.done st3 .bl)
theorem je_chain {op op' : CmpOp} {r r' : R2} {f f' : W → W → S → Res W} (hf : OpR X (compareOp op) r) (hf' : OpR X (compareOp op') r') (ho : OpS X.K cl r f) (ho' : OpS X.K cl r' f') (ha : JE cl Wx X a ea) (hb : JE cl Wx X b eb) (hc : JE cl Wx X c ec)
    (hm : lastMarks [op, op'] [b, c] = false := by rfl) : JE cl Wx X (.Compare a [op, op'] [b, c] pos) (eChain f f' ea eb ec) := PE.weaken (pe_chain hf hf' ha hb hc hm) fun σ H Q h => tChain_of ho ho' h
theorem jt_chain {op op' : CmpOp} {r r' : R2} {f f' : W → W → S → Res W} (hf : OpR X (compareOp op) r) (hf' : OpR X (compareOp op') r') (ho : OpS X.K cl r f) (ho' : OpS X.K cl r' f') (ha : JE cl Wx X a ea) (hb : JE cl Wx X b eb) (hc : JE cl Wx X c ec)
    (hm : lastMarks [op, op'] [b, c] = false := by rfl) : JT cl Wx X (.Compare a [op, op'] [b, c] pos) (eTest (eChain f f' ea eb ec)) := PT.weaken (pt_chain hf hf' ha hb hc hm) fun σ H Q h => tTest_of (fun σ H Q h => tChain_of ho ho' h) h
theorem je_un {op : UnaryOp} {r : V → Hp → VK → Prop} {f : W → S → Res W} (hf : UnR X (unaryOp op) r) (ho : UnS X.K cl r f) (ha : JE cl Wx X a ea) : JE cl Wx X (.UnaryOp op a pos) (eUn f ea) :=
  PE.weaken (pe_un hf ha) fun σ H Q ⟨H0, m, ow, s, ρ, cx, h⟩ => ⟨H0, m, ow, s, ρ, cx, RunE.bind h fun x s1 v H1 H1' m1 g st rr h2 => ho Wx σ H1 H1' m1 s1 v x Q st rr h2⟩
noncomputable def fIsN (neg : Bool) : W → S → Res W := fun x s => .ok (.d (.bl (match x with | .d .non => !neg | _ => neg))) s
theorem isN_ok {K : PySem.W.Frag} {H0 : Hp} {m : List Addr} {v : V} {w : W} (h : RepW K cl H0 m v w) : decide (v = .non) = (match w with | .d .non => true | _ => false) := by
  cases w with
  | r n => obtain ⟨a, _, rfl⟩ := h; simp
  | d x => cases h <;> simp
theorem jt_isN {j p'} (ha : JE cl Wx X a ea) : JT cl Wx X (.Compare a [.Is] [.Constant .none j p'] pos) (eTest (eUn (fIsN false) ea)) :=
  PT.weaken (pt_cmp (pc_isN ha)) fun σ H Q h => tTest_of (fun σ H Q ⟨H0, m, ow, s, ρ, cx, h⟩ => ⟨H0, m, ow, s, ρ, cx, RunE.bind h fun x s1 v H1 H1' m1 g st rr h2 => by
    rw [isN_ok rr]
    refine RunE.done (RR := rrW X.K cl) h2 st ?_
    cases x with
    | r n => exact Rep.bl
    | d x => cases x <;> exact Rep.bl⟩) h
theorem jt_notN {j p'} (ha : JE cl Wx X a ea) : JT cl Wx X (.Compare a [.IsNot] [.Constant .none j p'] pos) (eTest (eUn (fIsN true) ea)) :=
  PT.weaken (pt_cmp (pc_notN ha)) fun σ H Q h => tTest_of (fun σ H Q ⟨H0, m, ow, s, ρ, cx, h⟩ => ⟨H0, m, ow, s, ρ, cx, RunE.bind h fun x s1 v H1 H1' m1 g st rr h2 => by
    rw [isN_ok rr]
    refine RunE.done (RR := rrW X.K cl) h2 st ?_
    cases x with
    | r n => exact Rep.bl
    | d x => cases x <;> exact Rep.bl⟩) h
variable {rest : List Expr}
theorem jw_and1 (ha : JT cl Wx X a et) : JW cl Wx X (.BoolOp .And [a] pos) et := pw_and1 ha
theorem jw_or1 (ha : JT cl Wx X a et) : JW cl Wx X (.BoolOp .Or [a] pos) et := pw_or1 ha
theorem jw_and (ha : JT cl Wx X a et) (hb : JW cl Wx X (.BoolOp .And (b :: rest) pos) eu) : JW cl Wx X (.BoolOp .And (a :: b :: rest) pos) (eAndT et eu) :=
  PW.weaken (pw_and ha hb) fun σ H Q ⟨H0, m, ow, s, ρ, cx, h⟩ => ⟨H0, m, ow, s, ρ, cx, RunE.bind (RR := rrB) h fun x s1 v H1 H1' m1 g st rr h2 => by
    cases rr
    cases x with
    | true => exact iteT ⟨H1, m1, ow, s1, ρ, cx.go g st, h2⟩
    | false => exact iteF (RunE.done (RR := rrB) h2 st rfl)⟩
theorem jw_or (ha : JT cl Wx X a et) (hb : JW cl Wx X (.BoolOp .Or (b :: rest) pos) eu) : JW cl Wx X (.BoolOp .Or (a :: b :: rest) pos) (eOrT et eu) :=
  PW.weaken (pw_or ha hb) fun σ H Q ⟨H0, m, ow, s, ρ, cx, h⟩ => ⟨H0, m, ow, s, ρ, cx, RunE.bind (RR := rrB) h fun x s1 v H1 H1' m1 g st rr h2 => by
    cases rr
    cases x with
    | true => exact iteT (RunE.done (RR := rrB) h2 st rfl)
    | false => exact iteF ⟨H1, m1, ow, s1, ρ, cx.go g st, h2⟩⟩
theorem jt_w (h : JW cl Wx X a et) : JT cl Wx X a et := PW.pt h
theorem jt_not (ha : JT cl Wx X a et) : JT cl Wx X (.UnaryOp .Not a pos) (eNotT et) :=
  PT.weaken (pt_not ha) fun σ H Q ⟨H0, m, ow, s, ρ, cx, h⟩ => ⟨H0, m, ow, s, ρ, cx, RunE.bind (RR := rrB) h fun x s1 v H1 H1' m1 g st rr h2 => by
    cases rr
    exact RunE.done (RR := rrB) h2 st rfl⟩
theorem je_one {op} (h : JE cl Wx X a ea) : JE cl Wx X (.BoolOp op [a] pos) ea := pe_one h
theorem je_and (ha : JE cl Wx X a ea) (hb : JE cl Wx X (.BoolOp .And (b :: rest) pos) eb) : JE cl Wx X (.BoolOp .And (a :: b :: rest) pos) (eAndV ea eb) :=
  PE.weaken (pe_and ha hb) fun σ H Q ⟨H0, m, ow, s, ρ, cx, h⟩ => ⟨H0, m, ow, s, ρ, cx, RunE.bind h fun x s1 v H1 H1' m1 g st rr h2 => by
    have h2 : RunE X.K cl (rrW X.K cl) Wx H1 H1' m1 σ Q (match asBool x with | some true => eb ρ s1 | some false => .ok (.d (.bl false)) s1 | none => .no) := h2
    cases e : asBool x with
    | none => rw [e] at h2; exact h2.elim
    | some k =>
      rw [e] at h2
      refine ⟨k, asBool_ok rr e, ?_⟩
      cases k with
      | true => exact iteT ⟨H1, m1, ow, s1, ρ, cx.go g st, h2⟩
      | false => exact iteF (h2.done st .bl)⟩
theorem je_not (ha : JE cl Wx X a ea) : JE cl Wx X (.UnaryOp .Not a pos) (eNotV ea) :=
  PE.weaken (pe_not ha) fun σ H Q ⟨H0, m, ow, s, ρ, cx, h⟩ => ⟨H0, m, ow, s, ρ, cx, RunE.bind h fun x s1 v H1 H1' m1 g st rr h2 => by
    have h2 : RunE X.K cl (rrW X.K cl) Wx H1 H1' m1 σ Q (match asBool x with | some b => .ok (.d (.bl (!b))) s1 | none => .no) := h2
    cases e : asBool x with
    | none => rw [e] at h2; exact h2.elim
    | some k =>
      rw [e] at h2
      exact ⟨k, asBool_ok rr e, h2.done st .bl⟩⟩
theorem je_if (ht : JT cl Wx X c et) (ha : JE cl Wx X a ea) (hb : JE cl Wx X b eb) : JE cl Wx X (.IfExp c a b pos) (eIf et ea eb) :=
  PE.weaken (pe_ifExp ht ha hb) fun σ H Q ⟨H0, m, ow, s, ρ, cx, h⟩ => ⟨H0, m, ow, s, ρ, cx, RunE.bind (RR := rrB) h fun x s1 v H1 H1' m1 g st rr h2 => by
    cases rr
    cases x with
    | true => exact iteT ⟨H1, m1, ow, s1, ρ, cx.go g st, h2⟩
    | false => exact iteF ⟨H1, m1, ow, s1, ρ, cx.go g st, h2⟩⟩
theorem ja_nil : JA cl Wx X [] eNil := PA.weaken pa_nil fun σ H Q ⟨H0, m, ow, s, ρ, cx, h⟩ => RunE.done (RR := rrA X.K cl) h cx.st .nil
theorem ja_cons (ha : JE cl Wx X e ea) (hr : JA cl Wx X es el) (hs : starEach (e :: es) X.env = (false, eval e X.env) :: starEach es X.env := by rfl) : JA cl Wx X (e :: es) (eCons ea el) :=
  PA.weaken (pa_cons ha hr hs) fun σ H Q ⟨H0, m, ow, s, ρ, cx, h⟩ => ⟨H0, m, ow, s, ρ, cx, RunE.bind h fun x s1 v H1 H1' m1 g st rr h2 => ⟨H1, m1, ow, s1, ρ, cx.go g st, RunE.bind h2 fun y s2 u H2 H2' m2 g' st' rr' h3 =>
    RunE.done (RR := rrA X.K cl) h3 st' (.cons (RepW.mono g'.s0 g'.pre rr) rr')⟩⟩
theorem size_of {n : Nat} (h : n ≤ 16777216) : n ≤ sizeLine := by rw [sizeLine_eq]; exact h
theorem je_tup {x1} (h : JA cl Wx X es el) : JE cl Wx X (.Tuple es x1 pos) (eTup el) :=
  PE.weaken (pe_tup h) fun σ H Q ⟨H0, m, ow, s, ρ, cx, h⟩ => ⟨H0, m, ow, s, ρ, cx, RunE.bind h fun x s1 v H1 H1' m1 g st rr h2 => by
    unfold mkTup at h2
    cases e : allData x with
    | none => rw [e] at h2; exact h2.elim
    | some ds =>
      rw [e] at h2
      have rd := RepWs.ds rr e
      by_cases hl : ds.length ≤ 16777216
      · have h2 : RunE X.K cl (rrW X.K cl) Wx H1 H1' m1 σ Q (if ds.length ≤ 16777216 then .ok (.d (.tup ds)) s1 else .no) := h2
        rw [if_pos hl] at h2
        refine ⟨size_of (by rw [rd.length]; exact hl), fun p hp => ?_⟩
        exact h2 _ _ _ _ (Go.alloc st hp) (st.alloc hp) (Rep.tup upd_same (rd.mono (same_upd (st.h0 hp))))
      · have h2 : RunE X.K cl (rrW X.K cl) Wx H1 H1' m1 σ Q (if ds.length ≤ 16777216 then .ok (.d (.tup ds)) s1 else .no) := h2
        rw [if_neg hl] at h2
        exact h2.elim⟩
theorem jl_lst (h : JA cl Wx X es el) : JL cl Wx X (.List es pos) (eLst el) :=
  PE.weaken (pe_lst h) fun σ H Q ⟨H0, m, ow, s, ρ, cx, h⟩ => ⟨H0, m, ow, s, ρ, cx, RunE.bind h fun x s1 v H1 H1' m1 g st rr h2 => by
    have h2 : RunE X.K cl (rrL X.K cl) Wx H1 H1' m1 σ Q (if x.length ≤ 16777216 then .ok x s1 else .no) := h2
    by_cases hl : x.length ≤ 16777216
    · rw [if_pos hl] at h2
      refine ⟨size_of (by rw [RepWs.length rr]; exact hl), fun p hp => ?_⟩
      exact h2 _ _ _ _ (Go.fresh hp) (st.fresh hp) ⟨p, v, rfl, hp, upd_same, st.h0 hp, st.notM hp, rr⟩
    · rw [if_neg hl] at h2
      exact h2.elim⟩
theorem frz_tof {K : PySem.W.Frag} {σ : L2.St} {H : Hp} {Q : VK} : Tof K cl (rrW K cl) Wx (eFrz el) σ H Q → Tof K cl (rrL K cl) Wx el σ H Q :=
  fun ⟨H0, m, ow, s, ρ, cx, h⟩ => ⟨H0, m, ow, s, ρ, cx, by
    have h : RunE K cl (rrW K cl) Wx H0 H m σ Q ((el ρ s).bind frzL) := h
    cases e1 : el ρ s with
    | no => rw [e1] at h; exact h.elim
    | exc c x s' => rw [e1] at h; exact h
    | ok l s' =>
      rw [e1] at h
      have h : RunE K cl (rrW K cl) Wx H0 H m σ Q (frzL l s') := h
      unfold frzL at h
      cases e2 : allData l with
      | none => rw [e2] at h; exact h.elim
      | some ds =>
        rw [e2] at h
        intro v H0' H' m' g st ⟨p, vs, h1, h2, h3, h4, h5, h6⟩
        exact h v (upd H0' p (.lst vs)) H' m' (g.freeze cx.st h2) (st.freeze h4 h3 h5) (by
          subst h1
          exact Rep.lst upd_same ((h6.ds e2).mono (same_upd h4)))⟩
theorem je_frz (h : JL cl Wx X e el) : JE cl Wx X e (eFrz el) := PE.weaken h fun σ H Q => frz_tof
theorem je_cell (h : JL cl Wx X e el) : JE cl Wx X e (eCell el) :=
  PE.weaken h fun σ H Q ⟨H0, m, ow, s, ρ, cx, h⟩ => ⟨H0, m, ow, s, ρ, cx, by
    have h : RunE X.K cl (rrW X.K cl) Wx H0 H m σ Q ((el ρ s).bind fun l s1 => .ok (.r s1.length) (s1 ++ [.lst l])) := h
    cases e1 : el ρ s with
    | no => rw [e1] at h; exact h.elim
    | exc c x s' => rw [e1] at h; exact h
    | ok l s' =>
      rw [e1] at h
      have h : RunE X.K cl (rrW X.K cl) Wx H0 H m σ Q (.ok (.r s'.length) (s' ++ [.lst l])) := h
      intro v H0' H' m' g st ⟨p, vs, h1, h2, h3, h4, h5, h6⟩
      refine h v H0' H' (m' ++ [p]) ⟨g.s0, g.pre.trans (List.prefix_append _ _), g.fr, g.dom, g.n0, fun a ha => ?_, g.nw⟩ ⟨st.sub, by simp [st.len], ?_, fun n a c q1 q2 => ?_⟩ ?_
      · rcases List.mem_append.mp ha with ha | ha
        · exact g.nm a ha
        · rw [List.mem_singleton] at ha; subst ha; exact .inr (.inr h2)
      · rw [List.nodup_append]
        exact ⟨st.nd, by simp, fun a ha b hb => by rw [List.mem_singleton] at hb; subst hb; intro z; subst z; exact h5 ha⟩
      · by_cases hn : n < m'.length
        · rw [List.getElem?_append_left hn] at q1
          rw [List.getElem?_append_left (by rw [← st.len]; exact hn)] at q2
          obtain ⟨r1, r2⟩ := st.cell n a c q1 q2
          exact ⟨r1, r2.mono (Same.refl _) (List.prefix_append _ _) fun _ z => z⟩
        · have hn' : n = m'.length := by
            have := (List.getElem?_eq_some_iff.mp q1).1
            rw [List.length_append] at this
            simp at this
            omega
          subst hn'
          rw [List.getElem?_append_right (Nat.le_refl _)] at q1
          rw [st.len, List.getElem?_append_right (Nat.le_refl _)] at q2
          simp at q1 q2
          subst q1
          subst q2
          exact ⟨h4, vs, h3, h6.mono (Same.refl _) (List.prefix_append _ _)⟩
      · refine ⟨p, ?_, h1⟩
        rw [← st.len, List.getElem?_append_right (Nat.le_refl _)]
        simp⟩
theorem je_ix {r : R2} {f : W → W → S → Res W} (hf : IxR X r) (ho : OpS X.K cl r f) (ha : JE cl Wx X a ea) (hb : JE cl Wx X b eb) (hs : PlainIx b := by exact fun _ _ => rfl) : JE cl Wx X (.Subscript a b pos) (eBin f ea eb) :=
  PE.weaken (pe_ix hf ha hb hs) fun σ H Q h => tOp_of ho h
variable {lo hi : Option Expr} {p2 : Pos} {elo ehi : Cmp (Option Int)}
theorem jo_none : JO cl Wx X none eNoPart := PO.weaken po_none fun σ H Q ⟨H0, m, ow, s, ρ, cx, h⟩ => RunE.done (RR := rrO) h cx.st rfl
theorem jo_some (ha : JE cl Wx X a ea) : JO cl Wx X (some a) (ePart ea) := PO.weaken (po_some ha) fun σ H Q ⟨H0, m, ow, s, ρ, cx, h⟩ => ⟨H0, m, ow, s, ρ, cx, RunE.bind h fun x s1 v H1 H1' m1 g st rr h2 => by
    have h2 : RunE X.K cl rrO Wx H1 H1' m1 σ Q (match asInt x with | some i => .ok (some i) s1 | none => .no) := h2
    cases e : asInt x with
    | none => rw [e] at h2; exact h2.elim
    | some k =>
      rw [e] at h2
      exact ⟨k, asInt_ok rr e, h2.done st rfl⟩⟩
theorem je_slice {r : V → Option Int → Option Int → Hp → VK → Prop} {f : W → Option Int → Option Int → S → Res W} (hf : SlR X r) (ho : SlS X.K cl r f) (ha : JE cl Wx X a ea) (hl : JO cl Wx X lo elo) (hh : JO cl Wx X hi ehi) :
    JE cl Wx X (.Subscript a (.Slice lo hi none p2) pos) (eSl f ea elo ehi) :=
  PE.weaken (pe_slice hf ha hl hh) fun σ H Q ⟨H0, m, ow, s, ρ, cx, h⟩ => ⟨H0, m, ow, s, ρ, cx, RunE.bind h fun x s1 v H1 H1' m1 g st rr h2 => ⟨H1, m1, ow, s1, ρ, cx.go g st, RunE.bind h2 fun y s2 u H2 H2' m2 g' st' rr' h3 =>
    ⟨H2, m2, ow, s2, ρ, (cx.go g st).go g' st', RunE.bind h3 fun z s3 uz H3 H3' m3 g3 st3 r3 h4 => by
      cases rr'; cases r3
      exact ho Wx σ H3 H3' m3 s3 v y z x Q st3 (RepW.mono (g'.trans g3).s0 (g'.trans g3).pre rr) h4⟩⟩⟩
theorem tCB_of {r : List V → Hp → VK → Prop} {f : List W → S → Res W} (ho : CallS X.K cl r f) {σ : L2.St} {H : Hp} {Q : VK} (h : Tof X.K cl (rrW X.K cl) Wx (eArgs f el) σ H Q) : tCB r (Tof X.K cl (rrA X.K cl) Wx el) σ H Q := by
  obtain ⟨H0, m, ow, s, ρ, cx, h⟩ := h
  exact ⟨H0, m, ow, s, ρ, cx, RunE.bind h fun x s1 v H1 H1' m1 g st rr h2 => ho Wx σ H1 H1' m1 s1 v x Q st rr h2⟩
theorem je_callB {x : Str} {p : Pos} {id : String} {r : List V → Hp → VK → Prop} {f : List W → S → Res W} (hf : CallR X (.builtin id) r) (ho : CallS X.K cl r f) (hg : Gl X x) (hm : X.mg x = none) (hv : bootBuiltins x = some (.builtin id)) (ha : JA cl Wx X (e :: es) el)
    (h1 : x ≠ Str.ofString "__name__" := by decide) (h2 : (x == Str.ofString "__debug__") = false := by decide) (h3 : starEach (e :: es) X.env = (false, eval e X.env) :: starEach es X.env := by rfl) (h4 : ((backTo pos (starEach es X.env)).any fun x => x.fst) = false := by rfl) :
    JE cl Wx X (.Call (.Name x p) (e :: es) [] pos) (eArgs f el) := PE.weaken (pe_callB hf hg hm hv ha h1 h2 h3 h4) fun σ H Q h => tCB_of ho h
theorem je_callTy {x : Str} {p : Pos} {T : String} {r : List V → Hp → VK → Prop} {f : List W → S → Res W} (hf : CallR X (.type T) r) (ho : CallS X.K cl r f) (hg : Gl X x) (hm : X.mg x = none) (hv : bootBuiltins x = some (.type T)) (ha : JA cl Wx X (e :: es) el)
    (h1 : x ≠ Str.ofString "__name__" := by decide) (h2 : (x == Str.ofString "__debug__") = false := by decide) (h3 : starEach (e :: es) X.env = (false, eval e X.env) :: starEach es X.env := by rfl) (h4 : ((backTo pos (starEach es X.env)).any fun x => x.fst) = false := by rfl) :
    JE cl Wx X (.Call (.Name x p) (e :: es) [] pos) (eArgs f el) := PE.weaken (pe_callTy hf hg hm hv ha h1 h2 h3 h4) fun σ H Q h => tCB_of ho h
end
end TG

set_option Elab.async false
set_option linter.all false
set_option maxRecDepth 100000
set_option maxHeartbeats 2000000
namespace TG
open PySem L2 PyProof.Rows

noncomputable def fI2 (g : Int → Int → D) : W → W → S → Res W := fun x y s => match asInt x, asInt y with | some i, some j => .ok (.d (g i j)) s | _, _ => .no
noncomputable def fI2c (c : Int → Int → Bool) (g : Int → Int → D) : W → W → S → Res W := fun x y s => match asInt x, asInt y with | some i, some j => if c i j = true then .ok (.d (g i j)) s else .no | _, _ => .no
noncomputable def kMul (i j : Int) : Bool := decide (i.natAbs < 18446744073709551616 ∨ j.natAbs < 18446744073709551616)
noncomputable def kMod (i j : Int) : Bool := decide (j ≠ 0)
noncomputable def kDiv (i j : Int) : Bool := decide (j ≠ 0 ∧ j.natAbs < 1073741824)
noncomputable def kPow (i j : Int) : Bool := decide (0 ≤ j ∧ j ≤ 1000000 ∧ i.natAbs < 18446744073709551616)
noncomputable def catT (x y : List D) (s : S) : Res W := if x.length + y.length ≤ 16777216 then .ok (.d (.tup (x ++ y))) s else .no
noncomputable def catL (x y : List W) (s : S) : Res W := if x.length + y.length ≤ 16777216 then (match allData (x ++ y) with | some ds => .ok (.d (.lst ds)) s | none => .no) else .no
noncomputable def fAdd : W → W → S → Res W := fun x y s =>
  match asInt x, asInt y with
  | some i, some j => .ok (.d (.int (i + j))) s
  | _, _ => match asStr x, asStr y with
    | some i, some j => if i.length + j.length ≤ 16777216 then .ok (.d (.str (i ++ j))) s else .no
    | _, _ => match asTup x, asTup y with
      | some i, some j => catT i j s
      | _, _ => match asLst x s, asLst y s with
        | some i, some j => catL i j s
        | _, _ => .no
noncomputable def fMul : W → W → S → Res W := fun x y s =>
  match asInt x, asInt y with
  | some i, some j => if kMul i j = true then .ok (.d (.int (i * j))) s else .no
  | _, _ => match asTup x, asInt y with
    | some l, some k => if l ≠ [] ∧ 2 ≤ k ∧ k ≤ 1000 ∧ l.length ≤ 1000 then .ok (.d (.tup (List.replicate k.toNat l).flatten)) s else .no
    | _, _ => .no

section
variable {X : Cx} {K : PySem.W.Frag} {cl : Str → Option Addr}
theorem ops_I2 {g : Int → Int → D} {gv : Int → Int → V} (hg : ∀ H0 i j, Rep K cl H0 (gv i j) (g i j)) : OpS K cl (rI0 gv) (fI2 g) := fun Wx σ H0 H m s x y wx wy Q st rx ry h => by
  unfold fI2 at h
  split at h
  · rename_i i j e1 e2
    exact ⟨i, j, asInt_ok rx e1, asInt_ok ry e2, RunE.done (RR := rrW K cl) h st (hg _ _ _)⟩
  · exact h.elim
theorem ops_I2c {g : Int → Int → D} {gv : Int → Int → V} {c : Int → Int → Bool} {C : Int → Int → Prop} (hc : ∀ i j, c i j = true → C i j) (hg : ∀ H0 i j, Rep K cl H0 (gv i j) (g i j)) : OpS K cl (rI C gv) (fI2c c g) := fun Wx σ H0 H m s x y wx wy Q st rx ry h => by
  unfold fI2c at h
  split at h
  · rename_i i j e1 e2
    split at h
    · exact ⟨i, j, asInt_ok rx e1, asInt_ok ry e2, hc _ _ ‹_›, RunE.done (RR := rrW K cl) h st (hg _ _ _)⟩
    · exact h.elim
  · exact h.elim
noncomputable abbrev fSub := fI2 fun i j => .int (i - j)
noncomputable abbrev fMod := fI2c kMod fun i j => .int (i.fmod j)
noncomputable abbrev fDiv := fI2c kDiv fun i j => .int (i.fdiv j)
noncomputable abbrev fPow := fI2c kPow fun i j => .int (i ^ j.toNat)
noncomputable abbrev fLt := fI2 fun i j => .bl (decide (i < j))
noncomputable abbrev fLe := fI2 fun i j => .bl (decide (i ≤ j))
noncomputable abbrev fGt := fI2 fun i j => .bl (decide (j < i))
noncomputable abbrev fGe := fI2 fun i j => .bl (decide (j ≤ i))
theorem ops_sub : OpS K cl (rI0 fun i j => .int (i - j)) fSub := ops_I2 fun _ _ _ => .int
theorem ops_mod : OpS K cl (rI (fun _ j => j ≠ 0) fun i j => .int (i.fmod j)) fMod := ops_I2c (fun i j h => of_decide_eq_true h) fun _ _ _ => .int
theorem ops_div : OpS K cl (rI CDivN fun i j => .int (i.fdiv j)) fDiv := ops_I2c (fun i j h => by have q : j ≠ 0 ∧ j.natAbs < 1073741824 := of_decide_eq_true h; exact q) fun _ _ _ => .int
theorem ops_pow : OpS K cl (rI CPow fun i j => .int (i ^ j.toNat)) fPow := ops_I2c (fun i j h => by have q : 0 ≤ j ∧ j ≤ 1000000 ∧ i.natAbs < 18446744073709551616 := of_decide_eq_true h; exact ⟨q.1, q.2.1, by rw [show (2 : Nat) ^ 64 = 18446744073709551616 by decide]; exact q.2.2⟩) fun _ _ _ => .int
theorem ops_lt : OpS K cl (rI0 fun i j => .bl (decide (i < j))) fLt := ops_I2 fun _ _ _ => .bl
theorem ops_le : OpS K cl (rI0 fun i j => .bl (decide (i ≤ j))) fLe := ops_I2 fun _ _ _ => .bl
theorem ops_gt : OpS K cl (rI0 fun i j => .bl (decide (j < i))) fGt := ops_I2 fun _ _ _ => .bl
theorem ops_ge : OpS K cl (rI0 fun i j => .bl (decide (j ≤ i))) fGe := ops_I2 fun _ _ _ => .bl
theorem Reps.append {H0 : Hp} {vs us : List V} {l k : List D} (h : Reps K cl H0 vs l) (h' : Reps K cl H0 us k) : Reps K cl H0 (vs ++ us) (l ++ k) := by
  induction l generalizing vs with
  | nil => cases h; exact h'
  | cons a l ih => cases h with | cons h1 h2 => exact .cons h1 (ih h2)
theorem sqL_of {H : Hp} {a : Addr} {xs : List V} (h : H a = some (.lst xs)) : SqL K H a xs := .inl (.inl h)
theorem sqT_of {H : Hp} {a : Addr} {xs : List V} (h : H a = some (.tup xs)) : SqT K H a xs := .inl (.inl h)

noncomputable def rAddAll (K : PySem.W.Frag) : R2 := fun x y H Q => (rI0 (fun i j => .int (i + j)) x y H Q ∨ (∃ i j, x = .str i ∧ y = .str j ∧ i.length + j.length ≤ sizeLine ∧ Q (.str (i ++ j)) H)) ∨ rCatA K x y H Q ∨ rCat x y H Q
theorem op_addAll : OpR X (binaryOp .Add) (rAddAll X.K) := (op_add.or op_add_str).or (op_catA.or op_cat)
theorem ops_add : OpS K cl (rAddAll K) fAdd := fun Wx σ H0 H m s x y wx wy Q st rx ry h => by
  unfold fAdd at h
  split at h
  · rename_i i j e1 e2
    exact .inl (.inl ⟨i, j, asInt_ok rx e1, asInt_ok ry e2, RunE.done (RR := rrW K cl) h st .int⟩)
  split at h
  · rename_i i j e1 e2
    split at h
    · exact .inl (.inr ⟨i, j, asStr_ok rx e1, asStr_ok ry e2, size_of ‹_›, RunE.done (RR := rrW K cl) h st .str⟩)
    · exact h.elim
  split at h
  · rename_i i j e1 e2
    unfold catT at h
    split at h
    · rename_i hl
      obtain ⟨p, vs, h1, h2, h3⟩ := asTup_ok rx e1
      obtain ⟨q, us, k1, k2, k3⟩ := asTup_ok ry e2
      refine .inr (.inl ⟨p, q, vs, us, h1, k1, sqT_of (st.sub _ _ h2), sqT_of (st.sub _ _ k2), size_of (by rw [h3.length, k3.length]; exact hl), fun e => ?_, fun e e' => ?_, fun e e' l hl => ?_⟩)
      · subst e
        have : i = [] := List.eq_nil_of_length_eq_zero (by rw [← h3.length]; rfl)
        subst this
        exact RunE.done (RR := rrW K cl) h st (.tup k2 k3)
      · subst e'
        have : j = [] := List.eq_nil_of_length_eq_zero (by rw [← k3.length]; rfl)
        subst this
        rw [List.append_nil] at h
        exact RunE.done (RR := rrW K cl) h st (.tup h2 h3)
      · exact h _ _ _ _ (Go.alloc st hl) (st.alloc hl) (Rep.tup upd_same ((h3.append k3).mono (same_upd (st.h0 hl))))
    · exact h.elim
  split at h
  · rename_i i j e1 e2
    unfold catL at h
    split at h
    · rename_i hl
      split at h
      · rename_i ds e3
        obtain ⟨p, vs, h1, h2, h3⟩ := asLst_ok st rx e1
        obtain ⟨q, us, k1, k2, k3⟩ := asLst_ok st ry e2
        refine .inr (.inr ⟨p, q, vs, us, h1, k1, h2, k2, size_of (by rw [h3.length, k3.length]; exact hl), fun l hl => ?_⟩)
        exact h _ _ _ _ (Go.alloc st hl) (st.alloc hl) (Rep.lst upd_same (((h3.append k3).ds e3).mono (same_upd (st.h0 hl))))
      · exact h.elim
    · exact h.elim
  · exact h.elim
noncomputable def rMulAll (K : PySem.W.Frag) : R2 := fun x y H Q => rI CMul (fun i j => .int (i * j)) x y H Q ∨ rRepT K x y H Q
theorem op_mulAll : OpR X (binaryOp .Mult) (rMulAll X.K) := op_mul.or op_repT
theorem Reps.rep {H0 : Hp} {vs : List V} {l : List D} (h : Reps K cl H0 vs l) : ∀ k, Reps K cl H0 (List.replicate k vs).flatten (List.replicate k l).flatten
  | 0 => .nil
  | k + 1 => by
    rw [List.replicate_succ, List.replicate_succ, List.flatten_cons, List.flatten_cons]
    exact h.append (h.rep k)
theorem ops_mul : OpS K cl (rMulAll K) fMul := fun Wx σ H0 H m s x y wx wy Q st rx ry h => by
  unfold fMul at h
  split at h
  · rename_i i j e1 e2
    split at h
    · rename_i hc
      refine .inl ⟨i, j, asInt_ok rx e1, asInt_ok ry e2, ?_, RunE.done (RR := rrW K cl) h st .int⟩
      have hc := of_decide_eq_true hc
      unfold CMul
      rw [show ((2 : Int) ^ 64) = 18446744073709551616 by decide]
      omega
    · exact h.elim
  split at h
  · rename_i l k e1 e2
    split at h
    · rename_i hc
      obtain ⟨h0, h1, h2, h3⟩ := hc
      obtain ⟨p, vs, q1, q2, q3⟩ := asTup_ok rx e1
      refine .inr ⟨p, k, vs, q1, asInt_ok ry e2, sqT_of (st.sub _ _ q2), fun z => h0 ?_, h1, h2, by rw [q3.length]; exact h3, fun t ht => ?_⟩
      · subst z
        exact List.eq_nil_of_length_eq_zero (by rw [← q3.length]; rfl)
      · exact h _ _ _ _ (Go.alloc st ht) (st.alloc ht) (Rep.tup upd_same ((q3.rep _).mono (same_upd (st.h0 ht))))
    · exact h.elim
  · exact h.elim

mutual
noncomputable def D.py : D → PyData
  | .non => .none
  | .bl b => .bool b
  | .int i => .int i
  | .str x => .str x
  | .tup l => .tuple (D.pys l)
  | .lst l => .list (D.pys l)
  | .dic _ => .dict []
  | .ins _ _ => .dict []
  | .scr _ => .dict []
noncomputable def D.pys : List D → List PyData
  | [] => []
  | x :: r => D.py x :: D.pys r
end
mutual
theorem Rep.dp {H0 H : Hp} (e : Same H0 H) : ∀ {d : D} {v : V}, Rep K cl H0 v d → d.py.canLay0 = true → Dp K H v d.py
  | .non, _, h, _ => by cases h; exact .non
  | .bl b, _, h, _ => by cases h; exact .bl b
  | .int i, _, h, _ => by cases h; exact .int i
  | .str x, _, h, _ => by cases h; exact .str x
  | .tup l, _, h, c => by
    cases h with
    | tup h1 h2 =>
      unfold D.py at c ⊢
      exact .tup (sqT_of (e _ _ h1)) (Reps.dp e h2 (by rw [PyData.canLay0] at c; exact c))
  | .lst l, _, h, c => by
    cases h with
    | lst h1 h2 =>
      unfold D.py at c ⊢
      exact .lst (sqL_of (e _ _ h1)) (Reps.dp e h2 (by rw [PyData.canLay0] at c; exact c))
  | .dic l, _, h, c => by unfold D.py at c; cases c
  | .ins a l, _, h, c => by unfold D.py at c; cases c
  | .scr l, _, h, c => by unfold D.py at c; cases c
theorem Reps.dp {H0 H : Hp} (e : Same H0 H) : ∀ {l : List D} {vs : List V}, Reps K cl H0 vs l → PyData.canLayAll0 (D.pys l) = true → DpAll K H vs (D.pys l)
  | [], _, h, _ => by cases h; exact .nil
  | x :: r, _, h, c => by
    cases h with
    | cons h1 h2 =>
      unfold D.pys at c ⊢
      rw [PyData.canLayAll0, Bool.and_eq_true] at c
      exact .cons (h1.dp e c.1) (h2.dp e c.2)
end
noncomputable def eqD (a b : D) : Option Bool := if SeqAt.shaped a.py = true ∧ SeqAt.shaped b.py = true then some (PyData.eqv a.py b.py) else none
noncomputable def fEq (neg : Bool) : W → W → S → Res W := fun x y s => match asData x, asData y with
  | some a, some b => match eqD a b with | some k => .ok (.d (.bl (if neg then !k else k))) s | none => .no
  | _, _ => .no
theorem asData_ok {H0 : Hp} {m : List Addr} {v : V} {w : W} {x : D} (h : RepW K cl H0 m v w) (e : asData w = some x) : Rep K cl H0 v x := by
  cases w with
  | d y => cases e; exact h
  | r n => cases e
theorem eqD_ok {a b : D} {k : Bool} (h : eqD a b = some k) : SeqAt.shaped a.py = true ∧ SeqAt.shaped b.py = true ∧ k = PyData.eqv a.py b.py := by
  unfold eqD at h
  split at h
  · rename_i q; cases h; exact ⟨q.1, q.2, rfl⟩
  · cases h
theorem ops_eq : OpS K cl (rEqD K) (fEq false) := fun Wx σ H0 H m s x y wx wy Q st rx ry h => by
  unfold fEq at h
  split at h
  · rename_i a b e1 e2
    split at h
    · rename_i k e3
      obtain ⟨h1, h2, rfl⟩ := eqD_ok e3
      exact ⟨a.py, b.py, (asData_ok rx e1).dp st.sub (SeqAt.canLay_of_shaped h1), (asData_ok ry e2).dp st.sub (SeqAt.canLay_of_shaped h2), h1, h2, RunE.done (RR := rrW K cl) h st .bl⟩
    · exact h.elim
  · exact h.elim
theorem ops_ne : OpS K cl (rNeD K) (fEq true) := fun Wx σ H0 H m s x y wx wy Q st rx ry h => by
  unfold fEq at h
  split at h
  · rename_i a b e1 e2
    split at h
    · rename_i k e3
      obtain ⟨h1, h2, rfl⟩ := eqD_ok e3
      exact ⟨a.py, b.py, (asData_ok rx e1).dp st.sub (SeqAt.canLay_of_shaped h1), (asData_ok ry e2).dp st.sub (SeqAt.canLay_of_shaped h2), h1, h2, RunE.done (RR := rrW K cl) h st .bl⟩
    · exact h.elim
  · exact h.elim

noncomputable def flatD : D → Bool | .non => true | .bl _ => true | .int _ => true | .str _ => true | _ => false
noncomputable def eqF : D → D → Bool
  | .non, .non => true
  | .bl a, .bl b => a == b
  | .bl a, .int b => (if a then 1 else 0) == b
  | .int a, .bl b => a == (if b then 1 else 0)
  | .int a, .int b => a == b
  | .str a, .str b => a == b
  | _, _ => false
noncomputable def inD (x : D) (l : List D) : Bool := l.any fun y => eqF y x
noncomputable def keyD : D → Option Key | .int i => some (.inl i) | .str x => some (.inr x) | _ => none
noncomputable def getK {α : Type} : List (Key × α) → Key → Option α
  | [], _ => none
  | (k, v) :: r, x => if k = x then some v else getK r x
noncomputable def wK (l : List (Key × D)) : List (Key × W) := l.map fun p => (p.1, W.d p.2)
noncomputable def asDic : W → S → Option (List (Key × W))
  | .d (.dic l), _ => some (wK l)
  | .d _, _ => none
  | .r n, s => match s[n]? with | some (.dic l) => some l | _ => none
noncomputable def fIn (neg : Bool) : W → W → S → Res W := fun x y s => match asData x with
  | none => .no
  | some a => match asSeq y s with
    | some l => (match allData l with
      | some ds => if flatD a = true ∧ ds.all flatD = true then .ok (.d (.bl (if neg then !inD a ds else inD a ds))) s else .no
      | none => .no)
    | none => match asDic y s with
      | some kvs => (match keyD a with | some k => .ok (.d (.bl (if neg then !(getK kvs k).isSome else (getK kvs k).isSome))) s | none => .no)
      | none => match a, asStr y with
        | .str z, some t => .ok (.d (.bl (if neg then !!(Builtin.Str.occurrences t z 0 t.length 1).isEmpty else !(Builtin.Str.occurrences t z 0 t.length 1).isEmpty))) s
        | _, _ => .no
theorem flat_ok {H0 : Hp} {v : V} {d : D} (h : Rep K cl H0 v d) (f : flatD d = true) : flatV v = true := by
  cases h <;> first | rfl | cases f
theorem eqF_ok {H0 : Hp} {v u : V} {d e : D} (h : Rep K cl H0 v d) (h' : Rep K cl H0 u e) (f : flatD d = true) (f' : flatD e = true) : eqV v u = eqF d e := by
  cases h <;> first | (cases f; done) | (cases h' <;> first | (cases f'; done) | rfl)
theorem flats_ok {H0 : Hp} {vs : List V} {l : List D} (h : Reps K cl H0 vs l) (f : l.all flatD = true) : vs.all flatV = true := by
  induction l generalizing vs with
  | nil => cases h; rfl
  | cons a l ih =>
    cases h with
    | cons h1 h2 =>
      rw [List.all_cons, Bool.and_eq_true] at f
      rw [List.all_cons, flat_ok h1 f.1, ih h2 f.2]
      rfl
theorem in_ok {H0 : Hp} {v : V} {d : D} (hv : Rep K cl H0 v d) (fv : flatD d = true) {vs : List V} {l : List D} (h : Reps K cl H0 vs l) (f : l.all flatD = true) : inV v vs = inD d l := by
  induction l generalizing vs with
  | nil => cases h; rfl
  | cons a l ih =>
    cases h with
    | cons h1 h2 =>
      rw [List.all_cons, Bool.and_eq_true] at f
      show (eqV _ _ || inV v _) = (eqF _ _ || inD d l)
      rw [eqF_ok h1 hv f.1 fv, ih h2 f.2]
theorem key_ok {H0 : Hp} {v : V} {d : D} {k : Key} (h : Rep K cl H0 v d) (e : keyD d = some k) : v = kV k := by
  cases h <;> first | (cases e; rfl) | cases e
theorem RepK.wk {H0 : Hp} {m : List Addr} {vs : List (Key × V)} {l : List (Key × D)} (h : RepK K cl H0 vs l) : RepWK K cl H0 m vs (wK l) := by
  induction l generalizing vs with
  | nil => cases h; exact .nil
  | cons a l ih => cases h with | cons h1 h2 => exact .cons h1 (ih h2)
theorem asDic_ok {H0 H : Hp} {m : List Addr} {s : S} {v : V} {w : W} {l : List (Key × W)} (st : Stt K cl H0 H m s) (h : RepW K cl H0 m v w) (e : asDic w s = some l) : ∃ p vs, v = .ref p ∧ H p = some (.dK vs) ∧ RepWK K cl H0 m vs l := by
  unfold asDic at e
  split at e
  · cases e
    cases h
    exact ⟨_, _, rfl, st.sub _ _ ‹_›, RepK.wk ‹_›⟩
  · cases e
  · obtain ⟨a, h1, h2⟩ := h
    split at e
    · cases e
      obtain ⟨_, vs, h3, h4⟩ := st.cell _ a _ h1 ‹_›
      exact ⟨a, vs, h2, h3, h4⟩
    · cases e
theorem getK_ok {H0 : Hp} {m : List Addr} {kvs : List (Key × V)} {l : List (Key × W)} (h : RepWK K cl H0 m kvs l) (k : Key) : (∃ v x, valV kvs k = some v ∧ getK l k = some x ∧ RepW K cl H0 m v x) ∨ (valV kvs k = none ∧ getK l k = none) := by
  induction h with
  | nil => exact .inr ⟨rfl, rfl⟩
  | @cons k' v d vs ds h1 h2 ih =>
    by_cases e : k' = k
    · subst e
      exact .inl ⟨v, d, by simp [valV], by simp [getK], h1⟩
    · rcases ih with ⟨u, x, q1, q2, q3⟩ | ⟨q1, q2⟩
      · refine .inl ⟨u, x, ?_, ?_, q3⟩
        · rw [← q1]; simp [valV, e]
        · rw [← q2]; simp [getK, e]
      · refine .inr ⟨?_, ?_⟩
        · rw [← q1]; simp [valV, e]
        · rw [← q2]; simp [getK, e]
end
end TG

set_option Elab.async false
set_option linter.all false
set_option maxRecDepth 100000
set_option maxHeartbeats 2000000
namespace TG
open PySem L2 PyProof.Rows

section
variable {X : Cx} {K : PySem.W.Frag} {cl : Str → Option Addr}
noncomputable def rDIn (neg : Bool) : R2 := fun x y H Q => ∃ a o, y = .ref a ∧ DGet H a x o ∧ Q (.bl (if neg then !o.isSome else o.isSome)) H
noncomputable def rInAll (K : PySem.W.Frag) (neg : Bool) : R2 := fun x y H Q => (rIn K neg x y H Q ∨ rDIn neg x y H Q) ∨ (∃ i j, x = V.str i ∧ y = V.str j ∧ Q (V.bl (if neg then !!(Builtin.Str.occurrences j i 0 j.length 1).isEmpty else !(Builtin.Str.occurrences j i 0 j.length 1).isEmpty)) H)
theorem op_niDict (hu : X.A.units + 1 < cLine) : OpR X (compareOp .NotIn) (rDIn true) := fun pins s σ H x y v u Q I rx ry ⟨a, o, ey, g, q⟩ => by
  subst ey
  obtain rfl : u = Value.ref a := ry
  exact d_notIn hu I g rx fun s3 I3 => ⟨.bl (!o.isSome), H, I3, rfl, q⟩
theorem op_niAll (hu : X.A.units + 1 < cLine) : OpR X (compareOp .NotIn) (rInAll X.K true) := (op_notIn_seq.or (op_niDict hu)).or op_notin_str
theorem ops_in (neg : Bool) : OpS K cl (rInAll K neg) (fIn neg) := fun Wx σ H0 H m s x y wx wy Q st rx ry h => by
  unfold fIn at h
  split at h
  · exact h.elim
  rename_i a e1
  have ra := asData_ok rx e1
  split at h
  · rename_i l e2
    split at h
    · rename_i ds e3
      split at h
      · rename_i hf
        obtain ⟨p, vs, q1, q2, q3⟩ := asSeq_ok st ry e2
        have rd := q3.ds e3
        refine .inl (.inl ⟨p, vs, q1, ?_, flat_ok ra hf.1, flats_ok rd hf.2, ?_⟩)
        · rcases q2 with q2 | q2
          · exact .inl (sqL_of q2)
          · exact .inr (sqT_of q2)
        · rw [in_ok ra hf.1 rd hf.2]
          exact RunE.done (RR := rrW K cl) h st .bl
      · exact h.elim
    · exact h.elim
  · split at h
    · rename_i kvs e3
      split at h
      · rename_i k e4
        obtain ⟨p, vs, q1, q2, q3⟩ := asDic_ok st ry e3
        have q := key_ok ra e4
        subst q
        refine .inl (.inr ⟨p, _, q1, DGet.k q2, ?_⟩)
        have e : (valV vs k).isSome = (getK kvs k).isSome := by
          rcases getK_ok q3 k with ⟨v, x, z1, z2, _⟩ | ⟨z1, z2⟩
          · rw [z1, z2]; rfl
          · rw [z1, z2]; rfl
        rw [e]
        exact RunE.done (RR := rrW K cl) h st .bl
      · exact h.elim
    · split at h
      · rename_i z t e4
        cases ra
        exact .inr ⟨_, _, rfl, asStr_ok ry e4, RunE.done (RR := rrW K cl) h st .bl⟩
      · exact h.elim
noncomputable def fIx : W → W → S → Res W := fun x y s => match asSeq x s, asInt y with
  | some l, some k => (match atI l k with | some w => .ok w s | none => .no)
  | _, _ => match asStr x, asInt y with
    | some z, some k => if z.length ≤ 16777216 then (match atI z.cps.toList k with | some c => .ok (.d (.str ⟨#[c]⟩)) s | none => .no) else .no
    | _, _ => match asDic x s, y with
      | some kvs, .d a => (match keyD a with | some k => (match getK kvs k with | some w => .ok w s | none => .no) | none => .no)
      | _, _ => .no
noncomputable def rDIx : R2 := fun x y H Q => ∃ a v, x = .ref a ∧ DGet H a y (some v) ∧ Q v H
noncomputable def rIxAll (K : PySem.W.Frag) : R2 := fun x y H Q => rIx K x y H Q ∨ rDIx x y H Q
theorem ix_dict (hu : X.A.units + 1 < cLine) : IxR X rDIx := fun va sl pins s σ H x y v u Q I rx ry ⟨a, w, ex, g, q⟩ hs => by
  subst ex
  obtain rfl : v = Value.ref a := rx
  exact tail_any (dict_typeIs I g) PySem.F.slot_dict_getitem.lookup (d_getItem hu I g ry fun w' s3 I3 rw' => ⟨w, H, I3, rw', q⟩) hs
theorem ix_all (hu : X.A.units + 1 < cLine) : IxR X (rIxAll X.K) := ix_seq.or (ix_dict hu)
theorem atI_ok {H0 : Hp} {m : List Addr} {vs : List V} {l : List W} {k : Int} {w : W} (h : RepWs K cl H0 m vs l) (e : atI l k = some w) : ∃ v, atI vs k = some v ∧ RepW K cl H0 m v w := by
  unfold atI at e ⊢
  rw [h.length]
  cases q : ixN l.length k with
  | none => rw [q] at e; cases e
  | some j => rw [q] at e; exact h.get e
theorem ops_ix : OpS K cl (rIxAll K) fIx := fun Wx σ H0 H m s x y wx wy Q st rx ry h => by
  unfold fIx at h
  split at h
  · rename_i l k e1 e2
    split at h
    · rename_i w e3
      obtain ⟨p, vs, q1, q2, q3⟩ := asSeq_ok st rx e1
      obtain ⟨v, r1, r2⟩ := atI_ok q3 e3
      have d := RunE.done (RR := rrW K cl) h st r2
      rcases q2 with q2 | q2
      · exact .inl (.inl ⟨p, vs, k, v, q1, asInt_ok ry e2, sqL_of q2, r1, d⟩)
      · exact .inl (.inr (.inl ⟨p, vs, k, v, q1, asInt_ok ry e2, sqT_of q2, r1, d⟩))
    · exact h.elim
  split at h
  · rename_i z k e1 e2
    split at h
    · rename_i hl
      split at h
      · rename_i c e3
        exact .inl (.inr (.inr ⟨z, k, c, asStr_ok rx e1, asInt_ok ry e2, size_of hl, e3, RunE.done (RR := rrW K cl) h st .str⟩))
      · exact h.elim
    · exact h.elim
  split at h
  · rename_i kvs a e1 _ _
    split at h
    · rename_i k e2
      split at h
      · rename_i w e3
        obtain ⟨p, vs, q1, q2, q3⟩ := asDic_ok st rx e1
        have q := key_ok ry e2
        subst q
        rcases getK_ok q3 k with ⟨v, x, z1, z2, z3⟩ | ⟨z1, z2⟩
        · rw [z2] at e3
          cases e3
          refine .inr ⟨p, v, q1, ?_, RunE.done (RR := rrW K cl) h st z3⟩
          rw [← z1]
          exact DGet.k q2
        · rw [z2] at e3; cases e3
      · exact h.elim
    · exact h.elim
  · exact h.elim
noncomputable def cut {α : Type} (xs : List α) (lo hi : Option Int) : List α := (xs.drop (HT.sIx xs.length 0 lo)).take (HT.sIx xs.length xs.length hi - HT.sIx xs.length 0 lo)
noncomputable def asScr : W → Option (List D) | .d (.scr l) => some l | _ => none
noncomputable def fSl : W → Option Int → Option Int → S → Res W := fun x i j s => match asTup x with
  | some l => .ok (.d (.tup (cut l i j))) s
  | none => match asLst x s with
    | some l => (match allData (cut l i j) with | some ds => .ok (.d (.lst ds)) s | none => .no)
    | none => match asScr x with
      | some l => .ok (.d (.lst (cut l i j))) s
      | none => match asStr x with
        | some z => if z.length ≤ 16777216 then .ok (.d (.str (cutS z i j))) s else .no
        | none => .no
noncomputable def rSlAll (K : PySem.W.Frag) : V → Option Int → Option Int → Hp → VK → Prop := fun x i j H Q => (rSlA K x i j H Q ∨ rSlL K x i j H Q) ∨ rSlS x i j H Q
theorem sl_all : SlR X (rSlAll X.K) := (sl_tupA.or sl_list).or sl_str
theorem Reps.take {H0 : Hp} {vs : List V} {l : List D} (h : Reps K cl H0 vs l) : ∀ n, Reps K cl H0 (vs.take n) (l.take n) := by
  induction l generalizing vs with
  | nil => intro n; cases h; simpa using Reps.nil
  | cons a l ih =>
    intro n
    cases h with
    | cons h1 h2 =>
      cases n with
      | zero => exact .nil
      | succ n => exact .cons h1 (ih h2 n)
theorem Reps.drop {H0 : Hp} {vs : List V} {l : List D} (h : Reps K cl H0 vs l) : ∀ n, Reps K cl H0 (vs.drop n) (l.drop n) := by
  induction l generalizing vs with
  | nil => intro n; cases h; simpa using Reps.nil
  | cons a l ih =>
    intro n
    cases h with
    | cons h1 h2 =>
      cases n with
      | zero => exact .cons h1 h2
      | succ n => exact ih h2 n
theorem Reps.cut {H0 : Hp} {vs : List V} {l : List D} (h : Reps K cl H0 vs l) (i j : Option Int) : Reps K cl H0 (cutV vs i j) (TG.cut l i j) := by
  unfold cutV TG.cut
  rw [h.length]
  exact (h.drop _).take _
theorem RepWs.cut {H0 : Hp} {m : List Addr} {vs : List V} {l : List W} (h : RepWs K cl H0 m vs l) (i j : Option Int) : RepWs K cl H0 m (cutV vs i j) (TG.cut l i j) := by
  unfold cutV TG.cut
  rw [h.length]
  exact (h.drop _).take _
theorem cut_whole {α : Type} {xs : List α} {i j : Option Int} (h1 : HT.sIx xs.length 0 i = 0) (h2 : HT.sIx xs.length xs.length j = xs.length) : cut xs i j = xs := by
  unfold cut
  rw [h1, h2, List.drop_zero, Nat.sub_zero, List.take_length]
theorem sls_all : SlS K cl (rSlAll K) fSl := fun Wx σ H0 H m s x i j wx Q st rx h => by
  unfold fSl at h
  split at h
  · rename_i l e1
    obtain ⟨p, vs, q1, q2, q3⟩ := asTup_ok rx e1
    refine .inl (.inl ⟨p, vs, q1, sqT_of (st.sub _ _ q2), fun ⟨z1, z2⟩ => ?_, fun _ t ht => ?_⟩)
    · rw [q3.length] at z1 z2
      rw [cut_whole z1 z2] at h
      subst q1
      exact RunE.done (RR := rrW K cl) h st (.tup q2 q3)
    · exact h _ _ _ _ (Go.alloc st ht) (st.alloc ht) (Rep.tup upd_same ((q3.cut i j).mono (same_upd (st.h0 ht))))
  split at h
  · rename_i l e1
    split at h
    · rename_i ds e2
      obtain ⟨p, vs, q1, q2, q3⟩ := asLst_ok st rx e1
      refine .inl (.inr ⟨p, vs, q1, sqL_of q2, fun t ht => ?_⟩)
      exact h _ _ _ _ (Go.alloc st ht) (st.alloc ht) (Rep.lst upd_same (((q3.cut i j).ds e2).mono (same_upd (st.h0 ht))))
    · exact h.elim
  split at h
  · rename_i l e1
    cases wx with
    | r n => cases e1
    | d y =>
      cases y <;> first | (cases e1; done) | skip
      cases e1
      cases rx with
      | scr q2 q3 =>
        refine .inl (.inr ⟨_, _, rfl, same_l st.sub q2, fun t ht => ?_⟩)
        exact h _ _ _ _ (Go.alloc st ht) (st.alloc ht) (Rep.lst upd_same ((q3.cut i j).mono (same_upd (st.h0 ht))))
  split at h
  · rename_i z e1
    split at h
    · exact .inr ⟨z, asStr_ok rx e1, size_of ‹_›, RunE.done (RR := rrW K cl) h st .str⟩
    · exact h.elim
  · exact h.elim
noncomputable def fNeg : W → S → Res W := fun x s => match asInt x with | some i => .ok (.d (.int (-i))) s | none => .no
theorem uns_neg : UnS K cl (rU fun i => .int (-i)) fNeg := fun Wx σ H0 H m s x wx Q st rx h => by
  unfold fNeg at h
  split at h
  · rename_i i e; exact ⟨i, asInt_ok rx e, RunE.done (RR := rrW K cl) h st .int⟩
  · exact h.elim
noncomputable def c1 (f : W → S → Res W) : List W → S → Res W | [x], s => f x s | _, _ => .no
noncomputable def c2 (f : W → W → S → Res W) : List W → S → Res W | [x, y], s => f x y s | _, _ => .no
theorem calls1 {r : List V → Hp → VK → Prop} {f : W → S → Res W} (h : UnS K cl (fun x H Q => r [x] H Q) f) : CallS K cl r (c1 f) := fun Wx σ H0 H m s xs ws Q st rx q => by
  cases rx with
  | nil => exact q.elim
  | cons h1 h2 =>
    cases h2 with
    | nil => exact h Wx σ H0 H m s _ _ Q st h1 q
    | cons _ _ => exact q.elim
theorem calls2 {r : List V → Hp → VK → Prop} {f : W → W → S → Res W} (h : OpS K cl (fun x y H Q => r [x, y] H Q) f) : CallS K cl r (c2 f) := fun Wx σ H0 H m s xs ws Q st rx q => by
  cases rx with
  | nil => exact q.elim
  | cons h1 h2 =>
    cases h2 with
    | nil => exact q.elim
    | cons h2 h3 =>
      cases h3 with
      | nil => exact h Wx σ H0 H m s _ _ _ _ Q st h1 h2 q
      | cons _ _ => exact q.elim
noncomputable def fLen : W → S → Res W := fun x s => match asSeq x s with
  | some l => .ok (.d (.int l.length)) s
  | none => match asStr x with
    | some z => if z.length ≤ 16777216 then .ok (.d (.int z.length)) s else .no
    | none => .no
theorem calls_len : CallS K cl (fun xs H Q => ∃ x n, xs = [x] ∧ LenV K x H n ∧ Q (V.int ↑n) H) (c1 fLen) := calls1 fun Wx σ H0 H m s x wx Q st rx h => by
  unfold fLen at h
  split at h
  · rename_i l e1
    obtain ⟨p, vs, q1, q2, q3⟩ := asSeq_ok st rx e1
    subst q1
    refine ⟨_, l.length, rfl, ?_, RunE.done (RR := rrW K cl) h st .int⟩
    rcases q2 with q2 | q2
    · exact .inl ⟨vs, sqL_of q2, q3.length.symm⟩
    · exact .inr ⟨vs, sqT_of q2, q3.length.symm⟩
  split at h
  · rename_i z e1
    split at h
    · have q := asStr_ok rx e1
      subst q
      exact ⟨_, z.length, rfl, ⟨size_of ‹_›, rfl⟩, RunE.done (RR := rrW K cl) h st .int⟩
    · exact h.elim
  · exact h.elim
noncomputable def fAbs : W → S → Res W := fun x s => match asInt x with | some i => .ok (.d (.int (if i < 0 then -i else i))) s | none => .no
theorem calls_abs : CallS K cl (fun xs H Q => ∃ i, xs = [V.int i] ∧ Q (V.int (if i < 0 then -i else i)) H) (c1 fAbs) := calls1 fun Wx σ H0 H m s x wx Q st rx h => by
  unfold fAbs at h
  split at h
  · rename_i i e; exact ⟨i, by rw [asInt_ok rx e], RunE.done (RR := rrW K cl) h st .int⟩
  · exact h.elim
noncomputable abbrev fMin2 := fI2 fun i j => .int (if j < i then j else i)
theorem calls_min2 : CallS K cl (fun xs H Q => ∃ i j, xs = [V.int i, V.int j] ∧ Q (V.int (if j < i then j else i)) H) (c2 fMin2) := calls2 fun Wx σ H0 H m s x y wx wy Q st rx ry h => by
  unfold fMin2 fI2 at h
  split at h
  · rename_i i j e1 e2; exact ⟨i, j, by rw [asInt_ok rx e1, asInt_ok ry e2], RunE.done (RR := rrW K cl) h st .int⟩
  · exact h.elim
noncomputable def asIntsL (x : W) (s : S) : Option (List Int) := (asLst x s).bind allInts
theorem asIntsL_ok {H0 H : Hp} {m : List Addr} {s : S} {v : V} {w : W} {l : List Int} (st : Stt K cl H0 H m s) (h : RepW K cl H0 m v w) (e : asIntsL w s = some l) : ∃ p, v = .ref p ∧ H p = some (.lst (l.map V.int)) := by
  unfold asIntsL at e
  cases q : asLst w s with
  | none => rw [q] at e; cases e
  | some z =>
    rw [q] at e
    obtain ⟨p, vs, q1, q2, q3⟩ := asLst_ok st h q
    have := q3.ints e
    subst this
    exact ⟨p, q1, q2⟩
noncomputable def fMaxL : W → S → Res W := fun x s => match asIntsL x s with | some l => (match l.max? with | some i => .ok (.d (.int i)) s | none => .no) | none => .no
theorem calls_maxL : CallS K cl (rMax K) (c1 fMaxL) := calls1 fun Wx σ H0 H m s x wx Q st rx h => by
  unfold fMaxL at h
  split at h
  · rename_i l e
    split at h
    · rename_i i e2
      obtain ⟨p, q1, q2⟩ := asIntsL_ok st rx e
      have q := List.max?_eq_some_iff.mp e2
      refine ⟨p, l, by rw [q1], sqL_of q2, List.length_pos_of_mem q.1, fun M hM hb => ?_⟩
      have : M = i := Int.le_antisymm (q.2 _ hM) (hb _ q.1)
      subst this
      exact RunE.done (RR := rrW K cl) h st .int
    · exact h.elim
  · exact h.elim
noncomputable def fSum : W → S → Res W := fun x s => match asIntsL x s with | some l => .ok (.d (.int l.sum)) s | none => .no
theorem calls_sum : CallS K cl (rSum K) (c1 fSum) := calls1 fun Wx σ H0 H m s x wx Q st rx h => by
  unfold fSum at h
  split at h
  · rename_i l e
    obtain ⟨p, q1, q2⟩ := asIntsL_ok st rx e
    exact ⟨p, l, by rw [q1], sqL_of q2, RunE.done (RR := rrW K cl) h st .int⟩
  · exact h.elim
noncomputable def fAll : W → S → Res W := fun x s => match (asLst x s).bind allBools with | some l => .ok (.d (.bl (l.all id))) s | none => .no
theorem asBoolsL_ok {H0 H : Hp} {m : List Addr} {s : S} {v : V} {w : W} {l : List Bool} (st : Stt K cl H0 H m s) (h : RepW K cl H0 m v w) (e : (asLst w s).bind allBools = some l) : ∃ p, v = .ref p ∧ H p = some (.lst (l.map V.bl)) := by
  cases q : asLst w s with
  | none => rw [q] at e; cases e
  | some z =>
    rw [q] at e
    obtain ⟨p, vs, q1, q2, q3⟩ := asLst_ok st h q
    have := q3.bools e
    subst this
    exact ⟨p, q1, q2⟩
theorem calls_all : CallS K cl (rAll K) (c1 fAll) := calls1 fun Wx σ H0 H m s x wx Q st rx h => by
  unfold fAll at h
  split at h
  · rename_i l e
    obtain ⟨p, q1, q2⟩ := asBoolsL_ok st rx e
    exact ⟨p, l, by rw [q1], sqL_of q2, RunE.done (RR := rrW K cl) h st .bl⟩
  · exact h.elim
noncomputable def fTuple : W → S → Res W := fun x s => match asTup x with
  | some l => .ok (.d (.tup l)) s
  | none => match (asLst x s).bind allData with | some ds => .ok (.d (.tup ds)) s | none => .no
theorem asDataL_ok {H0 H : Hp} {m : List Addr} {s : S} {v : V} {w : W} {l : List D} (st : Stt K cl H0 H m s) (h : RepW K cl H0 m v w) (e : (asLst w s).bind allData = some l) : ∃ p vs, v = .ref p ∧ H p = some (.lst vs) ∧ Reps K cl H0 vs l := by
  cases q : asLst w s with
  | none => rw [q] at e; cases e
  | some z =>
    rw [q] at e
    obtain ⟨p, vs, q1, q2, q3⟩ := asLst_ok st h q
    exact ⟨p, vs, q1, q2, q3.ds e⟩
theorem calls_tuple : CallS K cl (fun xs H Q => ∃ p ys, xs = [V.ref p] ∧ ((SqL K H p ys ∧ ∀ (l : Addr), H l = none → Q (V.ref l) (upd H l (HO.tup ys))) ∨ SqT K H p ys ∧ Q (V.ref p) H)) (c1 fTuple) := calls1 fun Wx σ H0 H m s x wx Q st rx h => by
  unfold fTuple at h
  split at h
  · rename_i l e
    obtain ⟨p, vs, q1, q2, q3⟩ := asTup_ok rx e
    subst q1
    exact ⟨p, vs, rfl, .inr ⟨sqT_of (st.sub _ _ q2), RunE.done (RR := rrW K cl) h st (.tup q2 q3)⟩⟩
  split at h
  · rename_i l e
    obtain ⟨p, vs, q1, q2, q3⟩ := asDataL_ok st rx e
    refine ⟨p, vs, by rw [q1], .inl ⟨sqL_of q2, fun t ht => ?_⟩⟩
    exact h _ _ _ _ (Go.alloc st ht) (st.alloc ht) (Rep.tup upd_same (q3.mono (same_upd (st.h0 ht))))
  · exact h.elim
noncomputable def fInt : W → S → Res W := fun x s => match asInt x with
  | some i => .ok (.d (.int i)) s
  | none => match asBool x with | some b => .ok (.d (.int (if b = true then 1 else 0))) s | none => .no
theorem calls_int : CallS K cl (fun xs H Q => (∃ i, xs = [V.int i] ∧ Q (V.int i) H) ∨ ∃ k, xs = [V.bl k] ∧ Q (V.int (if k = true then 1 else 0)) H) (c1 fInt) := calls1 fun Wx σ H0 H m s x wx Q st rx h => by
  unfold fInt at h
  split at h
  · rename_i i e; exact .inl ⟨i, by rw [asInt_ok rx e], RunE.done (RR := rrW K cl) h st .int⟩
  split at h
  · rename_i i e; exact .inr ⟨i, by rw [asBool_ok rx e], RunE.done (RR := rrW K cl) h st .int⟩
  · exact h.elim
theorem Reps.ints {H0 : Hp} : ∀ l : List Int, Reps K cl H0 (l.map V.int) (l.map D.int)
  | [] => .nil
  | _ :: r => .cons .int (Reps.ints r)
theorem sort_one {l ys : List Int} (h1 : ys.Perm l) (h2 : ys.Pairwise (· ≤ ·)) : ys = l.mergeSort := by
  refine List.Perm.eq_of_pairwise (le := (· ≤ ·)) (fun a b _ _ x y => Int.le_antisymm x y) h2 ?_ (h1.trans (List.mergeSort_perm l _).symm)
  have := List.pairwise_mergeSort (le := fun a b : Int => decide (a ≤ b)) (fun a b c h h' => by simp at *; omega) (fun a b => by simp; omega) l
  exact this.imp fun h => of_decide_eq_true h
end
end TG

set_option Elab.async false
set_option linter.all false
set_option maxRecDepth 100000
set_option maxHeartbeats 2000000
namespace TG
open PySem L2 PyProof.Rows

inductive RV where
  | w (x : W) | own (l : List W) | ownD (l : List (Key × W))
inductive RS where
  | nx (ρ : Rho) (s : S) | ret (v : RV) (s : S) | brk (ρ : Rho) (s : S) | cnt (ρ : Rho) (s : S) | exc (c : Str) (x : Option D) (ρ : Rho) (s : S) | no
noncomputable abbrev Stm := Rho → S → RS
noncomputable def RS.bind : RS → Stm → RS
  | .nx ρ s, k => k ρ s
  | .ret v s, _ => .ret v s
  | .brk ρ s, _ => .brk ρ s
  | .cnt ρ s, _ => .cnt ρ s
  | .exc c x ρ s, _ => .exc c x ρ s
  | .no, _ => .no
noncomputable def ebS {α : Type} (r : Res α) (ρ : Rho) (k : α → Stm) : RS := match r with
  | .ok a s => k a ρ s
  | .exc c x s => .exc c x ρ s
  | .no => .no

noncomputable def retR (K : PySem.W.Frag) (cl : Str → Option Addr) (H : Hp) (ow : List Addr) (H0' H' : Hp) (m' : List Addr) (v : V) : RV → Prop
  | .w x => RepW K cl H0' m' v x
  | .own l => ∃ p vs, v = .ref p ∧ (p ∈ ow ∨ H p = none) ∧ H' p = some (.lst vs) ∧ H0' p = none ∧ p ∉ m' ∧ RepWs K cl H0' m' vs l
  | .ownD l => ∃ p vs, v = .ref p ∧ (p ∈ ow ∨ H p = none) ∧ H' p = some (.dK vs) ∧ H0' p = none ∧ p ∉ m' ∧ RepWK K cl H0' m' vs l
noncomputable def RunS (K : PySem.W.Frag) (cl : Str → Option Addr) (Wx : WX) (H0 H : Hp) (m ow : List Addr) (E : Ends) : RS → Prop
  | .nx ρ s => ∀ σ' H0' H' m' ow', Go H0 H m ow H0' H' m' ow' → Ctx K cl H0' H' m' ow' s σ' ρ → E.nx σ' H'
  | .brk ρ s => ∀ σ' H0' H' m' ow', Go H0 H m ow H0' H' m' ow' → Ctx K cl H0' H' m' ow' s σ' ρ → E.bk σ' H'
  | .cnt ρ s => ∀ σ' H0' H' m' ow', Go H0 H m ow H0' H' m' ow' → Ctx K cl H0' H' m' ow' s σ' ρ → E.ct σ' H'
  | .ret v s => ∀ u H0' H' m' ow', Go H0 H m ow H0' H' m' ow' → Stt K cl H0' H' m' s → retR K cl H ow H0' H' m' u v → E.rt u H'
  | .exc c x ρ s => ∀ cv dd σ' H0' H' m' ow', Go H0 H m ow H0' H' m' ow' → Ctx K cl H0' H' m' ow' s σ' ρ → ExcR K cl H0' H' cv dd c x → Wx cv dd σ' H'
  | .no => False
noncomputable def Sof (K : PySem.W.Frag) (cl : Str → Option Addr) (Wx : WX) (b : Stm) : TS := fun E σ H => ∃ H0 m ow s ρ, Ctx K cl H0 H m ow s σ ρ ∧ RunS K cl Wx H0 H m ow E (b ρ s)
noncomputable def JS (cl : Str → Option Addr) (Wx : WX) (X : Cx) (st : Stmt) (b : Stm) : Prop := PS X st (Sof X.K cl Wx b)
noncomputable def JB (cl : Str → Option Addr) (Wx : WX) (X : Cx) (st : List Stmt) (b : Stm) : Prop := PSs X st (Sof X.K cl Wx b)

section
variable {K : PySem.W.Frag} {cl : Str → Option Addr} {H0 H H1 H1' H0' H' : Hp} {m m1 m' ow ow1 : List Addr} {s s1 : S} {σ : L2.St} {ρ : Rho} {Wx : WX} {α β γ δ : Type} {E : Ends}
theorem RunS.shift {r : RS} (h : RunS K cl Wx H0 H m ow E r) (g : Go H0 H m ow H1 H1' m1 ow1) : RunS K cl Wx H1 H1' m1 ow1 E r := by
  cases r with
  | nx ρ s => exact fun σ' H0' H' m' ow' g' c => h _ _ _ _ _ (g.trans g') c
  | brk ρ s => exact fun σ' H0' H' m' ow' g' c => h _ _ _ _ _ (g.trans g') c
  | cnt ρ s => exact fun σ' H0' H' m' ow' g' c => h _ _ _ _ _ (g.trans g') c
  | exc c x ρ s => exact fun cv dd σ' H0' H' m' ow' g' c e => h _ _ _ _ _ _ _ (g.trans g') c e
  | no => exact h
  | ret v s =>
    intro u H0' H' m' ow' g' st r
    refine h u H0' H' m' ow' (g.trans g') st ?_
    have fr : ∀ p, (p ∈ ow1 ∨ H1' p = none) → p ∈ ow ∨ H p = none := fun p q => by
      rcases q with q | q
      · exact g.nw p q
      · exact .inr (dom_none g.dom q)
    cases v with
    | w x => exact r
    | own l => obtain ⟨p, vs, a, b, c⟩ := r; exact ⟨p, vs, a, fr p b, c⟩
    | ownD l => obtain ⟨p, vs, a, b, c⟩ := r; exact ⟨p, vs, a, fr p b, c⟩
theorem RunS.ofE {RR : RRT β α} {Q1 : β → Hp → Prop} {r : Res α} {k : α → Stm} (cx : Ctx K cl H0 H m ow s σ ρ) (h : RunS K cl Wx H0 H m ow E (ebS r ρ k))
    (q : ∀ a s1 v H1 H1' m1, GoE H0 H m H1 H1' m1 → Ctx K cl H1 H1' m1 ow s1 σ ρ → RR H H1 H1' m1 v a → RunS K cl Wx H1 H1' m1 ow E (k a ρ s1) → Q1 v H1') : RunE K cl RR Wx H0 H m σ Q1 r := by
  cases r with
  | ok a s' =>
    have h : RunS K cl Wx H0 H m ow E (k a ρ s') := h
    exact fun v H0' H' m' g st rr => q a s' v H0' H' m' g (cx.go g st) rr (h.shift g.lift)
  | exc c x s' => exact fun cv dd H0' H' m' g st e => h cv dd σ H0' H' m' ow g.lift (cx.go g st) e
  | no => exact h
theorem RunS.nxt (h : RunS K cl Wx H0 H m ow E (.nx ρ s)) (cx : Ctx K cl H0 H m ow s σ ρ) : E.nx σ H := h _ _ _ _ _ Go.refl cx
theorem RunS.seq {r : RS} {k : Stm} {N : L2.St → Hp → Prop} (h : RunS K cl Wx H0 H m ow E (r.bind k))
    (q : ∀ ρ s σ' H0' H' m' ow', Go H0 H m ow H0' H' m' ow' → Ctx K cl H0' H' m' ow' s σ' ρ → RunS K cl Wx H0' H' m' ow' E (k ρ s) → N σ' H') : RunS K cl Wx H0 H m ow { E with nx := N } r := by
  cases r with
  | nx ρ s =>
    have h : RunS K cl Wx H0 H m ow E (k ρ s) := h
    exact fun σ' H0' H' m' ow' g c => q ρ s σ' H0' H' m' ow' g c (h.shift g)
  | brk ρ s => exact h
  | cnt ρ s => exact h
  | exc c x ρ s => exact h
  | ret v s => exact h
  | no => exact h

theorem EnvR.setW (e : EnvR K cl H0 H m ow σ ρ) {v : V} {x : W} (r : RepW K cl H0 m v x) (i : Nat) : EnvR K cl H0 H m ow (σ.set i (some v)) (ρ.set i (.w x)) := by
  refine ⟨by simp [e.len], fun j y h => ?_, fun j k y z p h1 h2 h3 h4 h5 h6 => ?_, e.owns⟩
  · by_cases hj : i = j
    · subst hj
      have hl : i < ρ.length := by
        have := (List.getElem?_eq_some_iff.mp h).1
        simpa using this
      rw [List.getElem?_set_self hl] at h
      cases h
      rw [List.getElem?_set_self (by rw [e.len]; exact hl)]
      exact ⟨v, rfl, r⟩
    · rw [List.getElem?_set_ne hj] at h
      rw [List.getElem?_set_ne hj]
      exact e.slot j y h
  · have nj : i ≠ j := fun z => by
      subst z
      have hl : i < ρ.length := by
        have := (List.getElem?_eq_some_iff.mp h1).1
        simpa using this
      rw [List.getElem?_set_self hl] at h1
      cases h1; cases h3
    have nk : i ≠ k := fun z => by
      subst z
      have hl : i < ρ.length := by
        have := (List.getElem?_eq_some_iff.mp h2).1
        simpa using this
      rw [List.getElem?_set_self hl] at h2
      cases h2; cases h4
    rw [List.getElem?_set_ne nj] at h1 h5
    rw [List.getElem?_set_ne nk] at h2 h6
    exact e.apart j k y z p h1 h2 h3 h4 h5 h6
theorem Ctx.setW (c : Ctx K cl H0 H m ow s σ ρ) {v : V} {x : W} (r : RepW K cl H0 m v x) (i : Nat) : Ctx K cl H0 H m ow s (σ.set i (some v)) (ρ.set i (.w x)) := ⟨c.st, c.en.setW r i⟩
theorem EnvR.setOwn (e : EnvR K cl H0 H m ow σ ρ) {p : Addr} {x : EV} (hx : x.isOwn = true) (hp : H p ≠ none) (h0 : H0 p = none) (hm : p ∉ m) (hf : p ∉ ow) (i : Nat) (r : SlotR K cl H0 H m (p :: ow) (some (some (.ref p))) x) :
    EnvR K cl H0 H m (p :: ow) (σ.set i (some (.ref p))) (ρ.set i x) := by
  have more : ∀ {v : Option (Option V)} {y : EV}, SlotR K cl H0 H m ow v y → SlotR K cl H0 H m (p :: ow) v y := fun {v y} h => by
    cases y with
    | no => trivial
    | w x => exact h
    | own l => obtain ⟨p, vs, a, b, c⟩ := h; exact ⟨p, vs, a, List.mem_cons_of_mem _ b, c⟩
    | ownD l => obtain ⟨p, vs, a, b, c⟩ := h; exact ⟨p, vs, a, List.mem_cons_of_mem _ b, c⟩
    | ownI n l => obtain ⟨p, C, dx, fs, a, b, c⟩ := h; exact ⟨p, C, dx, fs, a, List.mem_cons_of_mem _ b, c⟩
  have inow : ∀ {v : Option (Option V)} {y : EV} {q : Addr}, SlotR K cl H0 H m ow v y → y.isOwn = true → v = some (some (.ref q)) → q ∈ ow := fun {v y q} h hy hv => by
    cases y with
    | no => cases hy
    | w x => cases hy
    | own l => obtain ⟨p, vs, a, b, c⟩ := h; rw [a] at hv; cases hv; exact b
    | ownD l => obtain ⟨p, vs, a, b, c⟩ := h; rw [a] at hv; cases hv; exact b
    | ownI n l => obtain ⟨p, C, dx, fs, a, b, c⟩ := h; rw [a] at hv; cases hv; exact b
  have inr : ∀ {j : Nat} {y : EV}, (ρ.set i x)[j]? = some y → i = j → i < ρ.length ∧ y = x := fun {j y} h hj => by
    subst hj
    have hl : i < ρ.length := by
      have := (List.getElem?_eq_some_iff.mp h).1
      simpa using this
    rw [List.getElem?_set_self hl] at h
    cases h
    exact ⟨hl, rfl⟩
  refine ⟨by simp [e.len], fun j y h => ?_, fun j k y z q h1 h2 h3 h4 h5 h6 => ?_, fun q hq => ?_⟩
  · by_cases hj : i = j
    · obtain ⟨hl, rfl⟩ := inr h hj
      subst hj
      rw [List.getElem?_set_self (by rw [e.len]; exact hl)]
      exact r
    · rw [List.getElem?_set_ne hj] at h ⊢
      exact more (e.slot j y h)
  · by_cases hj : i = j <;> by_cases hk : i = k
    · omega
    · obtain ⟨hl, rfl⟩ := inr h1 hj
      subst hj
      rw [List.getElem?_set_self (by rw [e.len]; exact hl)] at h5
      cases h5
      rw [List.getElem?_set_ne hk] at h2 h6
      exact absurd (inow (e.slot k z h2) h4 h6) hf
    · obtain ⟨hl, rfl⟩ := inr h2 hk
      subst hk
      rw [List.getElem?_set_self (by rw [e.len]; exact hl)] at h6
      cases h6
      rw [List.getElem?_set_ne hj] at h1 h5
      exact absurd (inow (e.slot j y h1) h3 h5) hf
    · rw [List.getElem?_set_ne hj] at h1 h5
      rw [List.getElem?_set_ne hk] at h2 h6
      exact e.apart j k y z q h1 h2 h3 h4 h5 h6
  · rcases List.mem_cons.mp hq with rfl | hq
    · exact ⟨hp, h0, hm⟩
    · exact e.owns q hq
theorem SlotR.upd {v : Option (Option V)} {y : EV} {p : Addr} {o : HO} (h : SlotR K cl H0 H m ow v y) (k : y.isOwn = true → v ≠ some (some (.ref p))) : SlotR K cl H0 (upd H p o) m ow v y := by
  cases y with
  | no => trivial
  | w x => exact h
  | own l => obtain ⟨q, vs, a, b, c, d⟩ := h; exact ⟨q, vs, a, b, by rw [upd_ne (fun z => k rfl (by rw [a, z]))]; exact c, d⟩
  | ownD l => obtain ⟨q, vs, a, b, c, d⟩ := h; exact ⟨q, vs, a, b, by rw [upd_ne (fun z => k rfl (by rw [a, z]))]; exact c, d⟩
  | ownI n l => obtain ⟨q, C, dx, fs, a, b, c, d⟩ := h; exact ⟨q, C, dx, fs, a, b, by rw [upd_ne (fun z => k rfl (by rw [a, z]))]; exact c, d⟩
theorem Stt.updOwn (st : Stt K cl H0 H m s) {p : Addr} {o : HO} (h0 : H0 p = none) (hm : p ∉ m) : Stt K cl H0 (upd H p o) m s := by
  refine ⟨fun b x e => ?_, st.len, st.nd, fun n a c h1 h2 => ?_⟩
  · have : b ≠ p := fun z => by subst z; rw [h0] at e; cases e
    rw [upd_ne this]; exact st.sub _ _ e
  · obtain ⟨q1, q2⟩ := st.cell n a c h1 h2
    have ne : a ≠ p := fun z => hm (z ▸ List.mem_of_getElem? h1)
    exact ⟨q1, q2.mono (Same.refl _) List.prefix_rfl fun o z => by rw [upd_ne ne]; exact z⟩
theorem Go.updOwn {p : Addr} {o : HO} (hp : p ∈ ow) : Go H0 H m ow H0 (upd H p o) m ow :=
  ⟨Same.refl _, List.prefix_rfl, fun a x h _ h2 => by
    have : a ≠ p := fun z => h2 (z ▸ hp)
    rw [upd_ne this]; exact h, fun a h => by
    unfold upd; split
    · simp
    · exact h, fun _ _ _ _ h => h, fun _ h => .inl h, fun _ h => .inl h⟩
theorem Ctx.updOwn (c : Ctx K cl H0 H m ow s σ ρ) {p : Addr} {o : HO} {i : Nat} {y x : EV} (hi : ρ[i]? = some y) (hy : y.isOwn = true) (hv : σ[i]? = some (some (.ref p))) (hp : p ∈ ow) (hx : x.isOwn = true) (r : SlotR K cl H0 (upd H p o) m ow (some (some (.ref p))) x) :
    Ctx K cl H0 (upd H p o) m ow s σ (ρ.set i x) := by
  obtain ⟨o1, o2, o3⟩ := c.en.owns p hp
  have hl : i < ρ.length := (List.getElem?_eq_some_iff.mp hi).1
  refine ⟨c.st.updOwn o2 o3, by simp [c.en.len], fun j z h => ?_, fun j k z z' q h1 h2 h3 h4 h5 h6 => ?_, fun q hq => ?_⟩
  · by_cases hj : i = j
    · subst hj
      rw [List.getElem?_set_self hl] at h
      cases h
      rw [hv]
      exact r
    · rw [List.getElem?_set_ne hj] at h
      exact (c.en.slot j z h).upd fun hz e => hj (c.en.apart i j y z p hi h hy hz hv e)
  · have g : ∀ {j : Nat} {z : EV}, (ρ.set i x)[j]? = some z → z.isOwn = true → ∃ z', ρ[j]? = some z' ∧ z'.isOwn = true := fun {j z} h hz => by
      by_cases hj : i = j
      · subst hj; exact ⟨y, hi, hy⟩
      · rw [List.getElem?_set_ne hj] at h; exact ⟨z, h, hz⟩
    obtain ⟨a, a1, a2⟩ := g h1 h3
    obtain ⟨b, b1, b2⟩ := g h2 h4
    exact c.en.apart j k a b q a1 b1 a2 b2 h5 h6
  · obtain ⟨q1, q2, q3⟩ := c.en.owns q hq
    refine ⟨?_, q2, q3⟩
    unfold L2.upd
    split
    · simp
    · exact q1
end

noncomputable def sNext : Stm := fun ρ s => .nx ρ s
noncomputable def sSeq (a b : Stm) : Stm := fun ρ s => (a ρ s).bind b
noncomputable def sExpr (e : Cmp W) : Stm := fun ρ s => ebS (e ρ s) ρ fun _ ρ s => .nx ρ s
noncomputable def sSet (i : Nat) (e : Cmp W) : Stm := fun ρ s => ebS (e ρ s) ρ fun x ρ s => .nx (ρ.set i (.w x)) s
noncomputable def sSetO (i : Nat) (e : Cmp (List W)) : Stm := fun ρ s => ebS (e ρ s) ρ fun x ρ s => .nx (ρ.set i (.own x)) s
noncomputable def sSetD (i : Nat) (e : Cmp (List (Key × W))) : Stm := fun ρ s => ebS (e ρ s) ρ fun x ρ s => .nx (ρ.set i (.ownD x)) s
noncomputable def sIf (t : Cmp Bool) (a b : Stm) : Stm := fun ρ s => ebS (t ρ s) ρ fun x ρ s => if x = true then a ρ s else b ρ s
noncomputable def sRet (e : Cmp W) : Stm := fun ρ s => ebS (e ρ s) ρ fun x _ s => .ret (.w x) s
noncomputable def sRetL (e : Cmp (List W)) : Stm := fun ρ s => ebS (e ρ s) ρ fun x _ s => .ret (.own x) s
noncomputable def sRetO (i : Nat) : Stm := fun ρ s => match ρ[i]? with | some (.own l) => .ret (.own l) s | some (.ownD l) => .ret (.ownD l) s | _ => .no
noncomputable def sApp (i : Nat) (e : Cmp W) : Stm := fun ρ s => match ρ[i]? with
  | some (.own l) => ebS (e ρ s) ρ fun x ρ s => if l.length < 16777216 then .nx (ρ.set i (.own (l ++ [x]))) s else .no
  | _ => .no
noncomputable def sFrz (i : Nat) (b : Stm) : Stm := fun ρ s => match ρ[i]? with
  | some (.own l) => (match allData l with | some ds => b (ρ.set i (.w (.d (.lst ds)))) s | none => .no)
  | _ => .no
noncomputable abbrev Tgt := W → Rho → Option Rho
noncomputable def tgName (i : Nat) : Tgt := fun x ρ => some (ρ.set i (.w x))
noncomputable def tgNil : List W → Rho → Option Rho | [], ρ => some ρ | _ :: _, _ => none
noncomputable def tgCons (t : Tgt) (u : List W → Rho → Option Rho) : List W → Rho → Option Rho | x :: r, ρ => (t x ρ).bind (u r) | [], _ => none
noncomputable def tgTup (n : Nat) (u : List W → Rho → Option Rho) : Tgt := fun x ρ => match asTup x with | some l => if l.length = n then u (wD l) ρ else none | none => none
noncomputable def sSetT (t : Tgt) (e : Cmp W) : Stm := fun ρ s => ebS (e ρ s) ρ fun x ρ s => match t x ρ with | some ρ' => .nx ρ' s | none => .no
noncomputable def forK (k : Stm) : RS → RS
  | .nx ρ s => k ρ s
  | .cnt ρ s => k ρ s
  | .brk ρ s => .nx ρ s
  | .ret v s => .ret v s
  | .exc c x ρ s => .exc c x ρ s
  | .no => .no
noncomputable def forE (t : Tgt) (b : Stm) : List W → Stm
  | [], ρ, s => .nx ρ s
  | x :: r, ρ, s => match t x ρ with
    | none => .no
    | some ρ1 => forK (forE t b r) (b ρ1 s)
noncomputable def sFor (c : Cmp (List W)) (t : Tgt) (b : Stm) : Stm := fun ρ s => ebS (c ρ s) ρ fun l ρ s => forE t b l ρ s

structure XOk (X : Cx) (Wx : WX) : Prop where
  tk : Takes X Wx
  po : PassesOwn (model X.prog X.w) X.A X.env X.xe
  nd : X.N.Nodup

noncomputable def Gof (K : PySem.W.Frag) (cl : Str → Option Addr) (t : Tgt) (sl : List Nat) : TG := fun v σ H Q => ∃ H0 m ow s ρ w ρ', Ctx K cl H0 H m ow s σ ρ ∧ RepW K cl H0 m v w ∧ t w ρ = some ρ' ∧
  ∀ σ', Ctx K cl H0 H m ow s σ' ρ' → σ'.length = σ.length → (∀ j, j ∉ sl → σ'[j]? = σ[j]?) → Q σ' H
noncomputable def Gsof (K : PySem.W.Frag) (cl : Str → Option Addr) (t : List W → Rho → Option Rho) (sl : List Nat) : TGs := fun v σ H Q => ∃ H0 m ow s ρ w ρ', Ctx K cl H0 H m ow s σ ρ ∧ RepWs K cl H0 m v w ∧ t w ρ = some ρ' ∧
  ∀ σ', Ctx K cl H0 H m ow s σ' ρ' → σ'.length = σ.length → (∀ j, j ∉ sl → σ'[j]? = σ[j]?) → Q σ' H
noncomputable def JG (cl : Str → Option Addr) (X : Cx) (tg : Expr) (t : Tgt) (sl : List Nat) : Prop := PG X tg (Gof X.K cl t sl)
noncomputable def JGs (cl : Str → Option Addr) (X : Cx) (tg : List Expr) (t : List W → Rho → Option Rho) (sl : List Nat) : Prop := PGs X tg (Gsof X.K cl t sl)
theorem PG.weaken {X : Cx} {e : Expr} {t t' : TG} (h : PG X e t) (w : ∀ v σ H Q, t' v σ H Q → t v σ H Q) : PG X e t' := ⟨fun pins s σ H v u Q I r q => h.run pins s σ H v u Q I r (w v σ H Q q)⟩
theorem PGs.weaken {X : Cx} {e : List Expr} {t t' : TGs} (h : PGs X e t) (w : ∀ v σ H Q, t' v σ H Q → t v σ H Q) : PGs X e t' := ⟨fun pins s σ H v u Q I r q => h.run pins s σ H v u Q I r (w v σ H Q q)⟩
section
variable {X : Cx} {cl : Str → Option Addr} {Wx : WX} {e c : Expr} {es : List Expr} {st : Stmt} {sts sts' : List Stmt} {pos : Pos} {ea : Cmp W} {el : Cmp (List W)} {ed : Cmp (List (Key × W))} {et : Cmp Bool} {a b : Stm} {t : Tgt} {u : List W → Rho → Option Rho} {sl sl' : List Nat}
theorem jg_name (i : Nat) {x : Str} (nd : X.N.Nodup) (hN : X.N[i]? = some x := by rfl) (hl : L2.Loc X.env.scope x := by first | exact Or.inl rfl | exact Or.inr rfl) (hf : X.fn x = true ∨ List.lookup x X.env.scope.names = some NameKind.local := by first | exact Or.inl rfl | exact Or.inr rfl) :
    JG cl X (.Name x pos) (tgName i) [i] := PG.weaken (pg_name nd hN hl hf) fun v σ H Q ⟨H0, m, ow, s, ρ, w, ρ', cx, r, q, k⟩ => by
  cases q
  exact k _ (cx.setW r i) (List.length_set ..) fun j hj => by rw [List.getElem?_set_ne (fun z => hj (by rw [z]; exact List.mem_singleton.mpr rfl))]
theorem jgs_nil : JGs cl X [] tgNil [] := PGs.weaken pgs_nil fun v σ H Q ⟨H0, m, ow, s, ρ, w, ρ', cx, r, q, k⟩ => by
  cases r with
  | nil => cases q; exact ⟨rfl, k σ cx rfl fun _ _ => rfl⟩
  | cons _ _ => cases q
theorem jgs_cons (h : JG cl X e t sl) (h' : JGs cl X es u sl') (hs : List.map (fun x => x.snd) (assignEach (e :: es) X.env) = assign e X.env :: List.map (fun x => x.snd) (assignEach es X.env) := by rfl) : JGs cl X (e :: es) (tgCons t u) (sl ++ sl') :=
  PGs.weaken (pgs_cons h h' hs) fun v σ H Q ⟨H0, m, ow, s, ρ, w, ρ', cx, r, q, k⟩ => by
    cases r with
    | nil => cases q
    | @cons v x vs xs r1 r2 =>
      have q : (t x ρ).bind (u xs) = some ρ' := q
      cases q1 : t x ρ with
      | none => rw [q1] at q; cases q
      | some ρ1 =>
        rw [q1] at q
        refine ⟨v, vs, rfl, H0, m, ow, s, ρ, x, ρ1, cx, r1, q1, fun σ1 c1 l1 k1 => ⟨H0, m, ow, s, ρ1, xs, ρ', c1, r2, q, fun σ2 c2 l2 k2 => k σ2 c2 (l2.trans l1) fun j hj => ?_⟩⟩
        rw [List.mem_append, not_or] at hj
        rw [k2 j hj.2, k1 j hj.1]
theorem jg_tup {kk : Nat} (n : Nat) (hc : X.calm = true) (h : JGs cl X es u sl) (h1 : (assignEach es X.env).length = n := by rfl) (h2 : List.findIdx? (fun x => x.fst) (assignEach es X.env) = none := by rfl) : JG cl X (.Tuple es kk pos) (tgTup n u) sl :=
  PG.weaken (pg_tup hc h h1 h2) fun v σ H Q ⟨H0, m, ow, s, ρ, w, ρ', cx, r, q, k⟩ => by
    unfold tgTup at q
    cases q1 : asTup w with
    | none => rw [q1] at q; cases q
    | some l =>
      rw [q1] at q
      have q : (if l.length = n then u (wD l) ρ else none) = some ρ' := q
      by_cases hl : l.length = n
      · rw [if_pos hl] at q
        obtain ⟨p, vs, e1, e2, e3⟩ := asTup_ok r q1
        exact ⟨p, vs, e1, sqT_of (cx.st.sub _ _ e2), by rw [e3.length]; exact hl, H0, m, ow, s, ρ, wD l, ρ', cx, e3.ws, q, k⟩
      · rw [if_neg hl] at q; cases q

theorem jb_nil : JB cl Wx X [] sNext := PSs.weaken pss_nil fun E σ H ⟨H0, m, ow, s, ρ, cx, h⟩ => RunS.nxt h cx
theorem jb_cons (h : JS cl Wx X st a) (h' : JB cl Wx X sts b) : JB cl Wx X (st :: sts) (sSeq a b) :=
  PSs.weaken (pss_cons h h') fun E σ H ⟨H0, m, ow, s, ρ, cx, h⟩ => ⟨H0, m, ow, s, ρ, cx, RunS.seq h fun ρ' s' σ' H0' H' m' ow' g c h2 => ⟨H0', m', ow', s', ρ', c, h2⟩⟩
theorem jb_one (h : JS cl Wx X st a) : JB cl Wx X [st] a :=
  PSs.weaken (pss_cons h pss_nil) fun E σ H ⟨H0, m, ow, s, ρ, cx, h⟩ => ⟨H0, m, ow, s, ρ, cx, h⟩
theorem js_expr (h : JE cl Wx X e ea) (hs : swapsWith e none pos.line X.env = pure false := by rfl) : JS cl Wx X (.Expr e pos) (sExpr ea) :=
  PS.weaken (ps_expr h hs) fun E σ H ⟨H0, m, ow, s, ρ, cx, h⟩ => ⟨H0, m, ow, s, ρ, cx, RunS.ofE cx h fun x s1 v H1 H1' m1 g c rr h2 => RunS.nxt h2 c⟩
theorem js_set (i : Nat) {x : Str} {pos' : Pos} (nd : X.N.Nodup) (h : JE cl Wx X e ea) (hN : X.N[i]? = some x := by rfl) (hl : L2.Loc X.env.scope x := by first | exact Or.inl rfl | exact Or.inr rfl)
    (hs : swapsWith e (some (.Name x pos')) pos.line X.env = pure false := by rfl) (hf : X.fn x = true ∨ List.lookup x X.env.scope.names = some NameKind.local := by first | exact Or.inl rfl | exact Or.inr rfl) :
    JS cl Wx X (.Assign [.Name x pos'] e pos) (sSet i ea) :=
  PS.weaken (ps_set nd hN hl h hs hf) fun E σ H ⟨H0, m, ow, s, ρ, cx, h⟩ => ⟨H0, m, ow, s, ρ, cx, RunS.ofE cx h fun x s1 v H1 H1' m1 g c rr h2 => RunS.nxt h2 (c.setW rr i)⟩
theorem ctx_own {K : PySem.W.Frag} {H0 H H1 H1' : Hp} {m m1 ow : List Addr} {s s1 : S} {σ : L2.St} {ρ : Rho} {p : Addr} {x : EV} (cx : Ctx K cl H0 H m ow s σ ρ) (c : Ctx K cl H1 H1' m1 ow s1 σ ρ) (hx : x.isOwn = true) (hn : H p = none) (h1 : H1' p ≠ none) (h0 : H1 p = none) (hm : p ∉ m1) (i : Nat)
    (r : SlotR K cl H1 H1' m1 (p :: ow) (some (some (.ref p))) x) : Ctx K cl H1 H1' m1 (p :: ow) s1 (σ.set i (some (.ref p))) (ρ.set i x) :=
  ⟨c.st, c.en.setOwn hx h1 h0 hm (fun z => (cx.en.owns p z).1 hn) i r⟩
theorem go_own {H0 H H1 H1' : Hp} {m m1 ow : List Addr} {p : Addr} (g : GoE H0 H m H1 H1' m1) (hn : H p = none) : Go H0 H m ow H1 H1' m1 (p :: ow) :=
  ⟨g.s0, g.pre, fun a o h h1 _ => g.fr a o h h1 (by simp), g.dom, fun a h h1 _ h3 => g.n0 a h h1 (by simp) h3, fun a h => by
    rcases g.nm a h with q | q | q
    · exact .inl q
    · cases q
    · exact .inr (.inr q), fun a h => by
    rcases List.mem_cons.mp h with rfl | h
    · exact .inr hn
    · exact .inl h⟩
theorem asg_own {t : TE} {i : Nat} {σ : L2.St} {H : Hp} {E : Ends} (ht : t = Tof X.K cl (rrL X.K cl) Wx el) (h : Sof X.K cl Wx (sSetO i el) E σ H) : tAsg t (gName i) E σ H := by
  subst ht
  obtain ⟨H0, m, ow, s, ρ, cx, h⟩ := h
  refine ⟨H0, m, ow, s, ρ, cx, ?_⟩
  have h : RunS X.K cl Wx H0 H m ow E (ebS (el ρ s) ρ fun x ρ s => .nx (ρ.set i (.own x)) s) := h
  cases e1 : el ρ s with
  | no => rw [e1] at h; exact h
  | exc c x s' =>
    rw [e1] at h
    exact fun cv dd H0' H' m' g st e => h cv dd σ H0' H' m' ow g.lift (cx.go g st) e
  | ok l s' =>
    rw [e1] at h
    intro v H0' H' m' g st ⟨p, vs, h1, h2, h3, h4, h5, h6⟩
    subst h1
    exact h _ _ _ _ _ (go_own g h2) (ctx_own cx (cx.go g st) rfl h2 (by rw [h3]; simp) h4 h5 i ⟨p, vs, rfl, List.mem_cons_self, h3, h6⟩)
theorem js_setO (i : Nat) {x : Str} {pos' : Pos} (nd : X.N.Nodup) (h : JL cl Wx X e el) (hN : X.N[i]? = some x := by rfl) (hl : L2.Loc X.env.scope x := by first | exact Or.inl rfl | exact Or.inr rfl)
    (hs : swapsWith e (some (.Name x pos')) pos.line X.env = pure false := by rfl) (hf : X.fn x = true ∨ List.lookup x X.env.scope.names = some NameKind.local := by first | exact Or.inl rfl | exact Or.inr rfl) :
    JS cl Wx X (.Assign [.Name x pos'] e pos) (sSetO i el) := PS.weaken (ps_set nd hN hl h hs hf) fun E σ H h => asg_own rfl h
theorem js_setD (i : Nat) {x : Str} {pos' : Pos} (nd : X.N.Nodup) (h : JD cl Wx X e ed) (hN : X.N[i]? = some x := by rfl) (hl : L2.Loc X.env.scope x := by first | exact Or.inl rfl | exact Or.inr rfl)
    (hs : swapsWith e (some (.Name x pos')) pos.line X.env = pure false := by rfl) (hf : X.fn x = true ∨ List.lookup x X.env.scope.names = some NameKind.local := by first | exact Or.inl rfl | exact Or.inr rfl) :
    JS cl Wx X (.Assign [.Name x pos'] e pos) (sSetD i ed) := PS.weaken (ps_set nd hN hl h hs hf) fun E σ H ⟨H0, m, ow, s, ρ, cx, h⟩ => by
  refine ⟨H0, m, ow, s, ρ, cx, ?_⟩
  have h : RunS X.K cl Wx H0 H m ow E (ebS (ed ρ s) ρ fun x ρ s => .nx (ρ.set i (.ownD x)) s) := h
  cases e1 : ed ρ s with
  | no => rw [e1] at h; exact h
  | exc c x s' =>
    rw [e1] at h
    exact fun cv dd H0' H' m' g st e => h cv dd σ H0' H' m' ow g.lift (cx.go g st) e
  | ok l s' =>
    rw [e1] at h
    intro v H0' H' m' g st ⟨p, vs, h1, h2, h3, h4, h5, h6⟩
    subst h1
    exact h _ _ _ _ _ (go_own g h2) (ctx_own cx (cx.go g st) rfl h2 (by rw [h3]; simp) h4 h5 i ⟨p, vs, rfl, List.mem_cons_self, h3, h6⟩)
theorem js_setT {tg : Expr} (hg : JG cl X tg t sl) (h : JE cl Wx X e ea) (h1 : swapsWithSole [tg] e pos.line X.env = pure false := by rfl) (h2 : swappedStores [tg] e X.env = pure none := by rfl) (h3 : List.map (fun x => x.snd) (assignEach [tg] X.env) = [assign tg X.env] := by rfl) :
    JS cl Wx X (.Assign [tg] e pos) (sSetT t ea) :=
  PS.weaken (ps_asg h hg h1 h2 h3) fun E σ H ⟨H0, m, ow, s, ρ, cx, h⟩ => ⟨H0, m, ow, s, ρ, cx, RunS.ofE cx h fun x s1 v H1 H1' m1 g c rr h2 => by
    have h2 : RunS X.K cl Wx H1 H1' m1 ow E (match t x ρ with | some ρ' => .nx ρ' s1 | none => .no) := h2
    cases q : t x ρ with
    | none => rw [q] at h2; exact h2.elim
    | some ρ' =>
      rw [q] at h2
      exact ⟨H1, m1, ow, s1, ρ, x, ρ', c, rr, q, fun σ' c' _ _ => RunS.nxt h2 c'⟩⟩
theorem js_if (ht : JT cl Wx X c et) (ha : JB cl Wx X sts a) (hb : JB cl Wx X sts' b) : JS cl Wx X (.If c sts sts' pos) (sIf et a b) :=
  PS.weaken (ps_if ht ha hb) fun E σ H ⟨H0, m, ow, s, ρ, cx, h⟩ => ⟨H0, m, ow, s, ρ, cx, RunS.ofE cx h fun x s1 v H1 H1' m1 g c rr h2 => by
    have rr : v = x := rr
    subst rr
    cases v with
    | true => exact iteT ⟨H1, m1, ow, s1, ρ, c, h2⟩
    | false => exact iteF ⟨H1, m1, ow, s1, ρ, c, h2⟩⟩
theorem js_ret (h : JE cl Wx X e ea) : JS cl Wx X (.Return (some e) pos) (sRet ea) :=
  PS.weaken (ps_ret h) fun E σ H ⟨H0, m, ow, s, ρ, cx, h⟩ => ⟨H0, m, ow, s, ρ, cx, RunS.ofE cx h fun x s1 v H1 H1' m1 g c rr h2 => h2 _ _ _ _ _ Go.refl c.st rr⟩
theorem js_retL (h : JL cl Wx X e el) : JS cl Wx X (.Return (some e) pos) (sRetL el) :=
  PS.weaken (ps_ret h) fun E σ H ⟨H0, m, ow, s, ρ, cx, h⟩ => ⟨H0, m, ow, s, ρ, cx, by
    have h : RunS X.K cl Wx H0 H m ow E (ebS (el ρ s) ρ fun x _ s => .ret (.own x) s) := h
    cases e1 : el ρ s with
    | no => rw [e1] at h; exact h
    | exc c x s' =>
      rw [e1] at h
      exact fun cv dd H0' H' m' g st e => h cv dd σ H0' H' m' ow g.lift (cx.go g st) e
    | ok l s' =>
      rw [e1] at h
      intro v H0' H' m' g st ⟨p, vs, h1, h2, h3⟩
      exact h v H0' H' m' ow g.lift st ⟨p, vs, h1, .inr h2, h3⟩⟩
theorem js_retO (i : Nat) {x : Str} {pos' : Pos} (hN : X.N[i]? = some x := by rfl) (hv : Vis X.env.scope x := by first | exact Or.inl rfl | exact Or.inr (Or.inl rfl) | exact Or.inr (Or.inr rfl)) (hd : (x == ("__debug__" : Str)) = false := by decide)
    (hcd : (x == ("__classdict__" : Str)) = false := by decide) : JS cl Wx X (.Return (some (.Name x pos')) pos) (sRetO i) :=
  PS.weaken (ps_ret (pe_var hN hv hd hcd)) fun E σ H ⟨H0, m, ow, s, ρ, cx, h⟩ => by
    unfold sRetO at h
    split at h
    · rename_i l e
      obtain ⟨p, vs, h1, h2, h3, h4⟩ := cx.en.slot i _ e
      obtain ⟨o1, o2, o3⟩ := cx.en.owns p h2
      exact ⟨.ref p, h1, h _ _ _ _ _ Go.refl cx.st ⟨p, vs, rfl, .inl h2, h3, o2, o3, h4⟩⟩
    · rename_i l e
      obtain ⟨p, vs, h1, h2, h3, h4⟩ := cx.en.slot i _ e
      obtain ⟨o1, o2, o3⟩ := cx.en.owns p h2
      exact ⟨.ref p, h1, h _ _ _ _ _ Go.refl cx.st ⟨p, vs, rfl, .inl h2, h3, o2, o3, h4⟩⟩
    · exact h.elim
theorem size_lt {n : Nat} (h : n < 16777216) : n < sizeLine := by rw [sizeLine_eq]; exact h
theorem js_app (i : Nat) {x : Str} {p1 p2 p3 : Pos} (h : JE cl Wx X e ea) (hN : X.N[i]? = some x := by rfl) (hv : Vis X.env.scope x := by first | exact Or.inl rfl | exact Or.inr (Or.inl rfl) | exact Or.inr (Or.inr rfl)) (hd : (x == ("__debug__" : Str)) = false := by decide)
    (hcd : (x == ("__classdict__" : Str)) = false := by decide)
    (q1 : attributeBase (.Name x p1) "append" X.env (eval (.Name x p1) X.env) = eval (.Name x p1) X.env := by rfl)
    (q2 : ((((backTo p3 (starEach (e :: []) X.env)).all fun x => !x.fst) && (backToKw p3 (keywordEach [] X.env)).all fun x => x.fst.isSome) && decide (((e :: []).length + ([] : List Keyword).length + if ([] : List Keyword).isEmpty = true then 0 else 1) < 30)) = true := by rfl)
    (q3 : (p2.endLine == p3.line) = true := by rfl) (q4 : starEach (e :: []) X.env = (false, eval e X.env) :: starEach [] X.env := by rfl) (q5 : ((backTo p3 (starEach [] X.env)).any fun x => x.fst) = false := by rfl)
    (hs : swapsWith (.Call (.Attribute (.Name x p1) "append" p2) [e] [] p3) none pos.line X.env = pure false := by rfl) :
    JS cl Wx X (.Expr (.Call (.Attribute (.Name x p1) "append" p2) [e] [] p3) pos) (sApp i ea) :=
  PS.weaken (ps_expr (pe_bm PySem.F.plainAttrs_list PySem.F.slot_list_append PySem.F.type_list_append mt_append (pe_var hN hv hd hcd) (pa_cons h pa_nil q4) q1 q2 q3 q4 q5) hs) fun E σ H ⟨H0, m, ow, s, ρ, cx, h⟩ => by
    unfold sApp at h
    split at h
    · rename_i l e0
      obtain ⟨p, vs, h1, h2, h3, h4⟩ := cx.en.slot i _ e0
      refine ⟨.ref p, h1, .inl ⟨rfl, vs, .inl (.inl h3)⟩, H0, m, ow, s, ρ, cx, RunS.ofE cx h fun x s1 v H1 H1' m1 g c rr h5 => ?_⟩
      obtain ⟨p', us, k1, k2, k3, k4⟩ := c.en.slot i _ e0
      rw [h1] at k1
      cases k1
      by_cases hl : l.length < 16777216
      · rw [if_pos hl] at h5
        refine ⟨p, us, v, rfl, rfl, k3, size_lt (by rw [k4.length]; exact hl), ?_⟩
        exact h5 _ _ _ _ _ (Go.updOwn k2) (c.updOwn e0 rfl h1 k2 rfl ⟨p, _, rfl, k2, upd_same, k4.append (.cons rr .nil)⟩)
      · rw [if_neg hl] at h5; exact h5.elim
    · exact h.elim
end
end TG

set_option Elab.async false
set_option linter.all false
set_option maxRecDepth 100000
set_option maxHeartbeats 2000000
namespace TG
open PySem L2 PyProof.Rows

structure Walks (K : PySem.W.Frag) (cl : Str → Option Addr) (J : It) (l : List W) (Ha : Hp) (ma : List Addr) : Prop where
  stop : ∀ (i : Nat) H0 H m s, Same Ha H0 → ma <+: m → Stt K cl H0 H m s → l.length ≤ i → J.stop i H
  go : ∀ (i : Nat) H0 H m s, Same Ha H0 → ma <+: m → Stt K cl H0 H m s → i < l.length → J.go i H
  yld : ∀ (i : Nat) H0 H m s x H', Same Ha H0 → ma <+: m → Stt K cl H0 H m s → i < l.length → J.yld i H x H' → ∃ H0', GoE H0 H m H0' H' m ∧ Stt K cl H0' H' m s ∧ ∃ w, l[i]? = some w ∧ RepW K cl H0' m x w
noncomputable def rrI (K : PySem.W.Frag) (cl : Str → Option Addr) : RRT It (List W) := fun _ H0 _ m J l => Walks K cl J l H0 m
instance {K cl} : Early (rrI K cl) := ⟨fun _ h => h⟩
noncomputable def JI (cl : Str → Option Addr) (Wx : WX) (X : Cx) (tg it : Expr) (c : Cmp (List W)) : Prop := PI X tg it (Tof X.K cl (rrI X.K cl) Wx c)
theorem PI.weaken {X : Cx} {tg it : Expr} {w w' : TI} (h : PI X tg it w) (q : ∀ σ H R, w' σ H R → w σ H R) : PI X tg it w' := ⟨fun pins s σ H R I z => h.run pins s σ H R I (q σ H R z)⟩
theorem PI.or {X : Cx} {tg it : Expr} {w w' : TI} (h : PI X tg it w) (h' : PI X tg it w') : PI X tg it (fun σ H R => w σ H R ∨ w' σ H R) := ⟨fun pins s σ H R I z => by
  rcases z with z | z
  · exact h.run pins s σ H R I z
  · exact h'.run pins s σ H R I z⟩
noncomputable def seqD : W → Option (List D) | .d (.lst l) => some l | .d (.tup l) => some l | _ => none
noncomputable def eSeq (e : Cmp W) : Cmp (List W) := fun ρ s => (e ρ s).bind fun x s1 => match seqD x with | some l => .ok (wD l) s1 | none => .no
noncomputable def rng1 (x : List W) (s1 : S) : Res (List W) := match x with
  | [x] => (match asInt x with | some n => if n < 1000000000 ∧ -1000000000 < n then .ok ((List.range n.toNat).map fun i : Nat => W.d (.int (i : Int))) s1 else .no | none => .no)
  | _ => .no
noncomputable def eRng1 (a : Cmp (List W)) : Cmp (List W) := fun ρ s => (a ρ s).bind rng1
section
variable {K : PySem.W.Frag} {cl : Str → Option Addr} {H0 H H1 H1' H0' H' : Hp} {m m1 m' ow ow1 : List Addr} {s s1 : S} {σ : L2.St} {ρ : Rho} {Wx : WX}
theorem walk_list {p : Addr} {vs : List V} {l : List D} (h : H0 p = some (.lst vs)) (r : Reps K cl H0 vs l) : Walks K cl (Itl K p) (wD l) H0 m := by
  have at' : ∀ {H1 H2 : Hp} {m2 : List Addr} {s2 : S}, Same H0 H1 → Stt K cl H1 H2 m2 s2 → H2 p = some (.lst vs) := fun e st => st.sub _ _ (e _ _ h)
  have hl : (wD l).length = vs.length := by rw [r.length]; simp [wD]
  refine ⟨fun i H1 H2 m2 s2 e _ st hi => ⟨vs, sqL_of (at' e st), by omega⟩, fun i H1 H2 m2 s2 e _ st hi => ⟨vs, vs[i], sqL_of (at' e st), by simp [show i < vs.length by omega]⟩, fun i H1 H2 m2 s2 x H3 e _ st hi y => ?_⟩
  obtain ⟨rfl, y⟩ := y
  have q := y vs (sqL_of (at' e st))
  refine ⟨H1, Go.refl, st, ?_⟩
  have rw' := (r.mono e).ws (m := m2)
  have : i < (wD l).length := hi
  obtain ⟨v, e1, e2⟩ := rw'.get (i := i) (x := (wD l)[i]) (by simp [this])
  rw [q] at e1
  cases e1
  exact ⟨_, by simp [this], e2⟩
theorem walk_tup {p : Addr} {vs : List V} {l : List D} (h : H0 p = some (.tup vs)) (r : Reps K cl H0 vs l) : Walks K cl (Itt K p) (wD l) H0 m := by
  have at' : ∀ {H1 H2 : Hp} {m2 : List Addr} {s2 : S}, Same H0 H1 → Stt K cl H1 H2 m2 s2 → H2 p = some (.tup vs) := fun e st => st.sub _ _ (e _ _ h)
  have hl : (wD l).length = vs.length := by rw [r.length]; simp [wD]
  refine ⟨fun i H1 H2 m2 s2 e _ st hi => ⟨vs, sqT_of (at' e st), by omega⟩, fun i H1 H2 m2 s2 e _ st hi => ⟨vs, vs[i], sqT_of (at' e st), by simp [show i < vs.length by omega]⟩, fun i H1 H2 m2 s2 x H3 e _ st hi y => ?_⟩
  obtain ⟨rfl, y⟩ := y
  have q := y vs (sqT_of (at' e st))
  refine ⟨H1, Go.refl, st, ?_⟩
  have rw' := (r.mono e).ws (m := m2)
  have : i < (wD l).length := hi
  obtain ⟨v, e1, e2⟩ := rw'.get (i := i) (x := (wD l)[i]) (by simp [this])
  rw [q] at e1
  cases e1
  exact ⟨_, by simp [this], e2⟩
theorem walk_rng (lo : Int) (n : Nat) : Walks K cl (Itr lo n) ((List.range n).map fun i : Nat => W.d (.int (lo + (i : Int)))) H0 m := by
  refine ⟨fun i H1 H2 m2 s2 e _ st hi => by (show n ≤ i); simpa using hi, fun i H1 H2 m2 s2 e _ st hi => by (show i < n); simpa using hi, fun i H1 H2 m2 s2 x H3 e _ st hi y => ?_⟩
  obtain ⟨rfl, rfl⟩ := y
  have hi : i < n := by simpa using hi
  exact ⟨H1, Go.refl, st, W.d (.int (lo + (i : Int))), by simp [hi], Rep.int⟩
theorem Tof.none {β α : Type} {RR : RRT β α} {e : Cmp α} {Q : β → Hp → Prop} (cx : Ctx K cl H0 H m ow s σ ρ) (h : RunE K cl RR Wx H0 H m σ Q (e ρ s)) : Tof K cl RR Wx e σ H Q := ⟨H0, m, ow, s, ρ, cx, h⟩
end
section
variable {X : Cx} {cl : Str → Option Addr} {Wx : WX} {tg e c elt : Expr} {es : List Expr} {st : Stmt} {sts sts' : List Stmt} {pos : Pos} {ea : Cmp W} {el ec : Cmp (List W)} {et : Cmp Bool} {a b : Stm} {t : Tgt} {sl sl' : List Nat}
theorem ji_seq (h : JE cl Wx X e ea) : JI cl Wx X tg e (eSeq ea) :=
  PI.weaken (PI.or (pi_list h) (pi_tup h)) fun σ H R ⟨H0, m, ow, s, ρ, cx, q⟩ => by
    have q : RunE X.K cl (rrI X.K cl) Wx H0 H m σ R ((ea ρ s).bind fun x s1 => match seqD x with | some l => .ok (wD l) s1 | none => .no) := q
    cases e0 : ea ρ s with
    | no => rw [e0] at q; exact q.elim
    | exc c x s' => exact .inl ⟨H0, m, ow, s, ρ, cx, by rw [e0] at q ⊢; exact q⟩
    | ok w s' =>
      rw [e0] at q
      have q : RunE X.K cl (rrI X.K cl) Wx H0 H m σ R (match seqD w with | some l => .ok (wD l) s' | none => .no) := q
      unfold seqD at q
      split at q
      · rename_i l e1
        split at e1
        · cases e1
          refine .inl ⟨H0, m, ow, s, ρ, cx, ?_⟩
          rw [e0]
          intro v H0' H' m' g st rr
          cases rr with
          | lst h1 h2 => exact ⟨_, rfl, ⟨_, sqL_of (st.sub _ _ h1)⟩, q _ H0' H' m' g st (walk_list h1 h2)⟩
        · cases e1
          refine .inr ⟨H0, m, ow, s, ρ, cx, ?_⟩
          rw [e0]
          intro v H0' H' m' g st rr
          cases rr with
          | tup h1 h2 => exact ⟨_, rfl, ⟨_, sqT_of (st.sub _ _ h1)⟩, q _ H0' H' m' g st (walk_tup h1 h2)⟩
        · cases e1
      · exact q.elim
theorem ji_rng1 {p : Pos} (hg : Gl X (Str.ofString "range")) (hm : X.mg (Str.ofString "range") = none) (h : JA cl Wx X [e] el) (hs : starEach [e] X.env = [(false, eval e X.env)] := by rfl) : JI cl Wx X tg (.Call (.Name (Str.ofString "range") p) [e] [] pos) (eRng1 el) :=
  PI.weaken (pi_range1 hg hm h hs) fun σ H R ⟨H0, m, ow, s, ρ, cx, q⟩ => ⟨H0, m, ow, s, ρ, cx, RunE.bind q fun x s1 v H1 H1' m1 g st rr h2 => by
    unfold rng1 at h2
    split at h2
    · split at h2
      · rename_i n e1
        split at h2
        · rename_i hn
          cases rr with
          | cons r1 r2 =>
            cases r2
            refine ⟨n, by rw [asInt_ok r1 e1], by rw [show ((2 : Int) ^ 62) = 4611686018427387904 by decide]; omega, by rw [show ((2 : Int) ^ 62) = 4611686018427387904 by decide]; omega, ?_⟩
            have := walk_rng (K := X.K) (cl := cl) (H0 := H1) (m := m1) 0 n.toNat
            simp only [Int.zero_add] at this
            exact h2 _ _ _ _ Go.refl st this
        · exact h2.elim
      · exact h2.elim
    · exact h2.elim⟩
theorem js_for (ok : XOk X Wx) (hc : X.calm = true) (hi : JI cl Wx X tg e ec) (hg : JG cl X tg t sl) (hb : JB cl Wx X sts b) (hs : ∀ x, foldedSetIterable e X.env x = pure x := by exact fun _ => rfl) : JS cl Wx X (.For tg e sts [] pos) (sFor ec t b) :=
  PS.weaken (ps_for ok.po hc hi hg hb hs) fun E σ H ⟨H0, m, ow, s, ρ, cx, h⟩ => ⟨H0, m, ow, s, ρ, cx, RunS.ofE cx h fun l s1 J H1 H1' m1 g c wk h2 => by
    have h2 : RunS X.K cl Wx H1 H1' m1 ow E (forE t b l ρ s1) := h2
    refine ⟨fun i k σ' H' => k = l.length - i ∧ i ≤ l.length ∧ ∃ H0' m' ow' s' ρ', Same H1 H0' ∧ m1 <+: m' ∧ Ctx X.K cl H0' H' m' ow' s' σ' ρ' ∧ RunS X.K cl Wx H0' H' m' ow' E (forE t b (l.drop i) ρ' s'),
      ⟨l.length, by simp, Nat.zero_le _, H1, m1, ow, s1, ρ, Same.refl _, List.prefix_rfl, c, h2⟩, fun i k σ' H' hW => ?_⟩
    obtain ⟨rfl, hi, H0', m', ow', s', ρ', e1, e2, c', h3⟩ := hW
    by_cases hl : i < l.length
    · refine .inr ⟨wk.go i _ _ _ _ e1 e2 c'.st hl, fun σ2 H2 => i + 1 ≤ l.length ∧ ∃ H0' m' ow' s' ρ', Same H1 H0' ∧ m1 <+: m' ∧ Ctx X.K cl H0' H2 m' ow' s' σ2 ρ' ∧ RunS X.K cl Wx H0' H2 m' ow' E (forE t b (l.drop (i + 1)) ρ' s'), fun σ2 H2 q => ⟨l.length - (i + 1), by omega, rfl, q⟩, fun x H3 hy => ?_⟩
      obtain ⟨H0'', g3, st3, w, e3, r3⟩ := wk.yld i _ _ _ _ x H3 e1 e2 c'.st hl hy
      have ed : l.drop i = w :: l.drop (i + 1) := by
        rw [List.drop_eq_getElem_cons hl]
        have : l[i] = w := by rw [List.getElem?_eq_getElem hl] at e3; exact Option.some.inj e3
        rw [this]
      rw [ed] at h3
      have h4 := h3.shift (g3.lift (ow := ow'))
      have h4 : RunS X.K cl Wx H0'' H3 m' ow' E (match t w ρ' with
        | none => .no
        | some ρ1 => forK (forE t b (l.drop (i + 1))) (b ρ1 s')) := h4
      cases e5 : t w ρ' with
      | none => rw [e5] at h4; exact h4.elim
      | some ρ1 =>
        rw [e5] at h4
        refine ⟨H0'', m', ow', s', ρ', w, ρ1, c'.go g3 st3, r3, e5, fun σ2 c2 _ _ => ⟨H0'', m', ow', s', ρ1, c2, ?_⟩⟩
        have e1' : Same H1 H0'' := e1.trans g3.s0
        have h4 : RunS X.K cl Wx H0'' H3 m' ow' E (forK (forE t b (l.drop (i + 1))) (b ρ1 s')) := h4
        cases e6 : b ρ1 s' with
        | nx ρ2 s2 =>
          rw [e6] at h4
          have h4 : RunS X.K cl Wx H0'' H3 m' ow' E (forE t b (l.drop (i + 1)) ρ2 s2) := h4
          exact fun σ' H0' H' m' ow' g' c' => ⟨hl, H0', m', ow', s2, ρ2, e1'.trans g'.s0, e2.trans g'.pre, c', h4.shift g'⟩
        | cnt ρ2 s2 =>
          rw [e6] at h4
          have h4 : RunS X.K cl Wx H0'' H3 m' ow' E (forE t b (l.drop (i + 1)) ρ2 s2) := h4
          exact fun σ' H0' H' m' ow' g' c' => ⟨hl, H0', m', ow', s2, ρ2, e1'.trans g'.s0, e2.trans g'.pre, c', h4.shift g'⟩
        | brk ρ2 s2 => rw [e6] at h4; exact h4
        | ret v s2 => rw [e6] at h4; exact h4
        | exc c x ρ2 s2 => rw [e6] at h4; exact h4
        | no => rw [e6] at h4; exact h4
    · refine .inl ⟨wk.stop i _ _ _ _ e1 e2 c'.st (by omega), ?_⟩
      rw [List.drop_eq_nil_of_le (by omega)] at h3
      exact RunS.nxt h3 c'⟩

noncomputable def wipeR (ρ : Rho) : List Nat → Rho
  | [] => ρ
  | v :: vs => (wipeR ρ vs).set v .no
noncomputable def lcM (t : Tgt) (tst : Cmp Bool) (e : Cmp W) (ρ : Rho) : List W → S → Res (List W)
  | [], s => .ok [] s
  | x :: r, s => match t x ρ with
    | none => .no
    | some ρ1 => match tst ρ1 s with
      | .ok true s1 => (match e ρ1 s1 with
        | .ok y s2 => (match lcM t tst e ρ r s2 with
          | .ok ys s3 => .ok (y :: ys) s3
          | _ => .no)
        | _ => .no)
      | .ok false s1 => lcM t tst e ρ r s1
      | _ => .no
noncomputable def eLc (vs : List Nat) (c : Cmp (List W)) (t : Tgt) (tst : Cmp Bool) (e : Cmp W) : Cmp (List W) := fun ρ s => (c ρ s).bind fun l s1 => if l.length ≤ 16777216 then lcM t tst e (wipeR ρ vs) l s1 else .no
noncomputable def eYes : Cmp Bool := fun _ s => .ok true s
noncomputable def lcA (t : Tgt) (tst : Cmp Bool) (e : Cmp W) (ρ : Rho) : List W → List W → S → Res (List W)
  | acc, [], s => .ok acc s
  | acc, x :: r, s => match t x ρ with
    | none => .no
    | some ρ1 => match tst ρ1 s with
      | .ok true s1 => (match e ρ1 s1 with
        | .ok y s2 => lcA t tst e ρ (acc ++ [y]) r s2
        | _ => .no)
      | .ok false s1 => lcA t tst e ρ acc r s1
      | _ => .no
theorem lcA_eq (t : Tgt) (tst : Cmp Bool) (e : Cmp W) (ρ : Rho) : ∀ (l acc : List W) (s : S), lcA t tst e ρ acc l s = match lcM t tst e ρ l s with | .ok ys s' => .ok (acc ++ ys) s' | _ => .no
  | [], acc, s => by simp [lcA, lcM]
  | x :: r, acc, s => by
    unfold lcA lcM
    cases t x ρ with
    | none => rfl
    | some ρ1 =>
      dsimp only
      cases tst ρ1 s with
      | no => rfl
      | exc c x s => rfl
      | ok b s1 =>
        cases b with
        | false => exact lcA_eq t tst e ρ r acc s1
        | true =>
          dsimp only
          cases e ρ1 s1 with
          | no => rfl
          | exc c x s => rfl
          | ok y s2 =>
            dsimp only
            rw [lcA_eq t tst e ρ r (acc ++ [y]) s2]
            cases lcM t tst e ρ r s2 with
            | no => rfl
            | exc c x s => rfl
            | ok ys s3 => simp
end
section
variable {K : PySem.W.Frag} {cl : Str → Option Addr} {H0 H H1 H1' H0' H' : Hp} {m m1 m' ow ow1 : List Addr} {s s1 : S} {σ : L2.St} {ρ : Rho} {Wx : WX}
theorem EnvR.wipe (e : EnvR K cl H0 H m ow σ ρ) : ∀ vs, EnvR K cl H0 H m ow (wipe σ vs) (wipeR ρ vs)
  | [] => e
  | v :: vs => by
    have ih := e.wipe vs
    unfold L2.wipe wipeR
    refine ⟨by simp [ih.len], fun j y h => ?_, fun j k y z p h1 h2 h3 h4 h5 h6 => ?_, e.owns⟩
    · by_cases hj : v = j
      · subst hj
        have hl : v < (wipeR ρ vs).length := by
          have := (List.getElem?_eq_some_iff.mp h).1
          simpa using this
        rw [List.getElem?_set_self hl] at h
        cases h
        trivial
      · rw [List.getElem?_set_ne hj] at h ⊢
        exact ih.slot j y h
    · have nn : ∀ {j : Nat} {y : EV}, ((wipeR ρ vs).set v .no)[j]? = some y → y.isOwn = true → v ≠ j := fun {j y} h hy z => by
        subst z
        have hl : v < (wipeR ρ vs).length := by
          have := (List.getElem?_eq_some_iff.mp h).1
          simpa using this
        rw [List.getElem?_set_self hl] at h
        cases h; cases hy
      have nj := nn h1 h3
      have nk := nn h2 h4
      rw [List.getElem?_set_ne nj] at h1 h5
      rw [List.getElem?_set_ne nk] at h2 h6
      exact ih.apart j k y z p h1 h2 h3 h4 h5 h6
theorem Ctx.wipe (c : Ctx K cl H0 H m ow s σ ρ) (vs : List Nat) : Ctx K cl H0 H m ow s (wipe σ vs) (wipeR ρ vs) := ⟨c.st, c.en.wipe vs⟩
theorem Go.updNew (g : GoE H0 H m H0' H' m') {p : Addr} {o : HO} (hp : H p = none) : GoE H0 H m H0' (upd H' p o) m' :=
  ⟨g.s0, g.pre, fun a x h h1 h2 => by
    have : a ≠ p := fun z => by subst z; rw [hp] at h; cases h
    rw [upd_ne this]; exact g.fr a x h h1 h2, fun a h => by
    unfold upd; split
    · simp
    · exact g.dom a h, g.n0, g.nm, g.nw⟩
end
noncomputable def W0 : WX := fun _ _ _ _ => False
section
variable {X : Cx} {cl : Str → Option Addr} {Wx : WX} {tg e c elt iter : Expr} {ifs : List Expr} {es : List Expr} {pos : Pos} {ee : Cmp W} {ec : Cmp (List W)} {et : Cmp Bool} {t : Tgt} {sl : List Nat} {own : List (Str × Nat)} {scope : Scope}
noncomputable def JTs (cl : Str → Option Addr) (X : Cx) (ifs : List Expr) (c : Cmp Bool) : Prop := PTs X ifs (Tof X.K cl rrB W0 c)
theorem jts_nil : JTs cl X [] eYes := ⟨fun pins s σ H Q I ⟨H0, m, ow, s', ρ, cx, h⟩ => pts_nil.run pins s σ H Q I (RunE.done (RR := rrB) h cx.st rfl)⟩
theorem jts_one (h : JT cl W0 X c et) : JTs cl X [c] et := pts_one h
theorem wipe_same {σ σ' : L2.St} {vs : List Nat} (hl : σ'.length = σ.length) (h : ∀ j : Nat, j ∉ vs → σ'[j]? = σ[j]?) : wipe σ' vs = wipe σ vs := by
  apply List.ext_getElem?
  intro j
  by_cases hj : j ∈ vs
  · have g : ∀ (τ : L2.St) (us : List Nat), j ∈ us → (wipe τ us)[j]? = if j < τ.length then some none else none := by
      intro τ us
      induction us with
      | nil => intro h; cases h
      | cons v us ih =>
        intro h
        unfold L2.wipe
        by_cases e : v = j
        · subst e
          by_cases hl : v < τ.length
          · rw [if_pos hl, List.getElem?_set_self (by rw [wipe_length]; exact hl)]
          · rw [if_neg hl, List.getElem?_eq_none]; rw [List.length_set, wipe_length]; omega
        · rw [List.getElem?_set_ne e]
          rcases List.mem_cons.mp h with q | q
          · exact absurd q.symm e
          · exact ih q
    rw [g _ _ hj, g _ _ hj, hl]
  · rw [wipe_out hj, wipe_out hj, h j hj]
theorem lc_tof {K : PySem.W.Frag} (hsub : ∀ j ∈ sl, j ∈ own.map (·.2)) : ∀ σ H Q, Tof K cl (rrL K cl) Wx (eLc (own.map (·.2)) ec t et ee) σ H Q → tLc (Tof K cl (rrI K cl) Wx ec) (Gof K cl t sl) (Tof K cl rrB W0 et) (Tof K cl (rrW K cl) W0 ee) (own.map (·.2)) σ H Q := by
  refine fun σ H Q ⟨H0, m, ow, s, ρ, cx, h⟩ => ⟨H0, m, ow, s, ρ, cx, RunE.bind h fun l s1 J H1 H1' m1 g st wk h2 D hD => ?_⟩
  have c1 : Ctx K cl H1 H1' m1 ow s1 σ ρ := cx.go g st
  by_cases hl : l.length ≤ 16777216
  case neg =>
    have h2 : RunE K cl (rrL K cl) Wx H1 H1' m1 σ Q (if l.length ≤ 16777216 then lcM t et ee (wipeR ρ (own.map (·.2))) l s1 else .no) := h2
    rw [if_neg hl] at h2
    exact h2.elim
  have h2 : RunE K cl (rrL K cl) Wx H1 H1' m1 σ Q (lcA t et ee (wipeR ρ (own.map (·.2))) [] l s1) := by
    have h2 : RunE K cl (rrL K cl) Wx H1 H1' m1 σ Q (if l.length ≤ 16777216 then lcM t et ee (wipeR ρ (own.map (·.2))) l s1 else .no) := h2
    rw [if_pos hl] at h2
    rw [lcA_eq]
    cases e1 : lcM t et ee (wipeR ρ (own.map (·.2))) l s1 with
    | no => rw [e1] at h2; exact h2.elim
    | exc c x s => 
      rw [e1] at h2
      exfalso
      have : ∀ (l : List W) (s0 : S), lcM t et ee (wipeR ρ (own.map (·.2))) l s0 ≠ .exc c x s := by
        intro l
        induction l with
        | nil => intro s0 z; cases z
        | cons y r ih =>
          intro s0 z
          unfold lcM at z
          split at z
          · cases z
          · split at z
            · split at z
              · split at z <;> cases z
              · cases z
            · exact ih _ z
            · cases z
      exact this _ _ e1
    | ok ys s' => rw [e1] at h2; exact h2
  clear h
  refine ⟨fun i k H' => k = l.length - i ∧ i ≤ l.length ∧ ∃ H0' m' s' acc accv, GoE H1 H1' m1 H0' H' m' ∧ Stt K cl H0' H' m' s' ∧ H' D = some (.lst accv) ∧ RepWs K cl H0' m' accv acc ∧ acc.length ≤ i ∧ H0' D = none ∧ D ∉ m' ∧
      RunE K cl (rrL K cl) Wx H1 H1' m1 σ Q (lcA t et ee (wipeR ρ (own.map (·.2))) acc (l.drop i) s'),
    ⟨l.length, by simp, Nat.zero_le _, H1, m1, s1, [], [], Go.fresh hD, st.fresh hD, upd_same, .nil, Nat.le_refl _, st.h0 hD, st.notM hD, h2⟩, fun i k H' hW => ?_⟩
  obtain ⟨rfl, hi', H0', m', s', acc, accv, g', st', hD', ra, hla, h0, hm, h3⟩ := hW
  by_cases hlt : i < l.length
  · refine .inr ⟨wk.go i _ _ _ _ g'.s0 g'.pre st' hlt, fun H2 => i + 1 ≤ l.length ∧ ∃ H0' m' s' acc accv, GoE H1 H1' m1 H0' H2 m' ∧ Stt K cl H0' H2 m' s' ∧ H2 D = some (.lst accv) ∧ RepWs K cl H0' m' accv acc ∧ acc.length ≤ i + 1 ∧ H0' D = none ∧ D ∉ m' ∧
        RunE K cl (rrL K cl) Wx H1 H1' m1 σ Q (lcA t et ee (wipeR ρ (own.map (·.2))) acc (l.drop (i + 1)) s'), fun H2 q => ⟨l.length - (i + 1), by omega, rfl, q⟩, fun x H3 hy => ?_⟩
    obtain ⟨H0'', g3, st3, w, e3, r3⟩ := wk.yld i _ _ _ _ x H3 g'.s0 g'.pre st' hlt hy
    have ed : l.drop i = w :: l.drop (i + 1) := by
      rw [List.drop_eq_getElem_cons hlt]
      have : l[i] = w := by rw [List.getElem?_eq_getElem hlt] at e3; exact Option.some.inj e3
      rw [this]
    rw [ed] at h3
    have h3 : RunE K cl (rrL K cl) Wx H1 H1' m1 σ Q (match t w (wipeR ρ (own.map (·.2))) with
      | none => .no
      | some ρ1 => match et ρ1 s' with
        | .ok true s1 => (match ee ρ1 s1 with
          | .ok y s2 => lcA t et ee (wipeR ρ (own.map (·.2))) (acc ++ [y]) (l.drop (i + 1)) s2
          | _ => .no)
        | .ok false s1 => lcA t et ee (wipeR ρ (own.map (·.2))) acc (l.drop (i + 1)) s1
        | _ => .no) := h3
    cases e5 : t w (wipeR ρ (own.map (·.2))) with
    | none => rw [e5] at h3; exact h3.elim
    | some ρ1 =>
      rw [e5] at h3
      dsimp only at h3
      have gD : ∀ {H0a Ha Hb : Hp} {ma mb : List Addr} {H0b : Hp}, GoE H0a Ha ma H0b Hb mb → Ha D = some (.lst accv) → H0a D = none → D ∉ ma → Hb D = some (.lst accv) ∧ H0b D = none ∧ D ∉ mb := fun {H0a Ha Hb ma mb H0b} g a b c =>
        ⟨g.fr D _ a c (by simp), g.n0 D (by rw [a]; simp) c (by simp) b, fun z => by
          rcases g.nm D z with q | q | q
          · exact c q
          · cases q
          · rw [q] at a; cases a⟩
      have g13 : GoE H1 H1' m1 H0'' H3 m' := g'.trans g3
      obtain ⟨d1, d2, d3⟩ := gD g3 hD' h0 hm
      have cb : Ctx K cl H0'' H3 m' ow s' (wipe σ (own.map (·.2))) (wipeR ρ (own.map (·.2))) := (c1.go g13 st3).wipe _
      refine ⟨H0'', m', ow, s', _, w, ρ1, cb, r3, e5, fun σ2 c2 l2 k2 => ⟨(wipe_same l2 fun j hj => k2 j fun z => hj (hsub j z)).trans (wipe_same (wipe_length _ _) fun j hj => wipe_out hj), ?_⟩⟩
      refine ⟨H0'', m', ow, s', ρ1, c2, ?_⟩
      cases e6 : et ρ1 s' with
      | no => rw [e6] at h3; exact h3.elim
      | exc c x s2 => rw [e6] at h3; exact h3.elim
      | ok bb s2 =>
        rw [e6] at h3
        intro bv H4 H4' m4 g4 st4 rb
        have rb : bv = bb := rb
        subst rb
        obtain ⟨f1, f2, f3⟩ := gD g4 d1 d2 d3
        cases bv with
        | false =>
          dsimp only at h3
          refine iteF ⟨hlt, H4, m4, s2, acc, accv, g13.trans g4, st4, f1, ra.mono (g3.trans g4).s0 (g3.trans g4).pre, by omega, f2, f3, h3⟩
        | true =>
          dsimp only at h3
          refine iteT ⟨H4, m4, ow, s2, ρ1, c2.go g4 st4, ?_⟩
          cases e7 : ee ρ1 s2 with
          | no => rw [e7] at h3; exact h3.elim
          | exc c x s3 => rw [e7] at h3; exact h3.elim
          | ok y s3 =>
            rw [e7] at h3
            dsimp only at h3
            intro yv H5 H5' m5 g5 st5 ry
            obtain ⟨k1, k2', k3⟩ := gD g5 f1 f2 f3
            refine ⟨accv, k1, ?_, hlt, H5, m5, s3, acc ++ [y], accv ++ [yv], ((g13.trans g4).trans g5).updNew hD, st5.updOwn k2' k3, upd_same, (ra.mono ((g3.trans g4).trans g5).s0 ((g3.trans g4).trans g5).pre).append (.cons ry .nil), by simp; omega, k2', k3, h3⟩
            have := ra.length
            exact size_lt (by omega)
  · refine .inl ⟨wk.stop i _ _ _ _ g'.s0 g'.pre st' (by omega), ?_⟩
    rw [List.drop_eq_nil_of_le (by omega)] at h3
    exact h3 _ _ _ _ g' st' ⟨D, accv, rfl, hD, hD', h0, hm, ra⟩
theorem jl_lc (hc : X.calm = true) (nd : X.N.Nodup) (hi : JI cl Wx X tg iter ec) (ok : BlkOk X.N X.env.scope scope own)
    (hg : ∀ (s : Shared) (H : Hp) (C : Addr) (cc : List (Str × Addr)) (fp : List Addr), JG cl (X.blk s H scope (compEnvC scope cc C X.env) fp) tg t sl)
    (ht : ∀ (s : Shared) (H : Hp) (C : Addr) (cc : List (Str × Addr)) (fp : List Addr), JTs cl (X.blk s H scope (compEnvC scope cc C X.env) fp) ifs et)
    (he : ∀ (s : Shared) (H : Hp) (C : Addr) (cc : List (Str × Addr)) (fp : List Addr), JE cl W0 (X.blk s H scope (compEnvC scope cc C X.env) fp) elt ee)
    (hsub : ∀ j ∈ sl, j ∈ own.map (·.2) := by decide) (hs : ∀ x, foldedSetIterable iter X.env x = pure x := by exact fun _ => rfl) :
    JL cl Wx X (.ListComp elt [⟨tg, iter, ifs, 0⟩] scope pos) (eLc (own.map (·.2)) ec t et ee) :=
  PE.weaken (pe_lc (g := Gof X.K cl t sl) (tt := Tof X.K cl rrB W0 et) (te := Tof X.K cl (rrW X.K cl) W0 ee) hc nd hi ok hg ht he hs) (lc_tof hsub)
end
end TG

set_option Elab.async false
set_option linter.all false
set_option maxRecDepth 100000
set_option maxHeartbeats 2000000
namespace TG
open PySem L2 PyProof.Rows

noncomputable abbrev Sem1 := List W → S → Res RV
noncomputable def rrV (K : PySem.W.Frag) (cl : Str → Option Addr) : RRT V RV := fun H H0' H' m' v rv => retR K cl H [] H0' H' m' v rv
instance {K cl} : Early (rrV K cl) := ⟨fun {H H1 H0 H' m v x} d h => by
  cases x with
  | w x => exact h
  | own l => obtain ⟨p, vs, a, b, c⟩ := h; exact ⟨p, vs, a, b.imp id (dom_none d), c⟩
  | ownD l => obtain ⟨p, vs, a, b, c⟩ := h; exact ⟨p, vs, a, b.imp id (dom_none d), c⟩⟩
noncomputable def wxE (E : XK) : WX := fun c d _ H => E c d H
noncomputable def spOf (K : PySem.W.Frag) (cl : Str → Option Addr) (f : Sem1) : Sp := fun vs H Q E => ∃ H0 m s ws, Stt K cl H0 H m s ∧ RepWs K cl H0 m vs ws ∧ RunE K cl (rrV K cl) (wxE E) H0 H m [] Q (f ws s)
noncomputable def runF (np nl : Nat) (b : Stm) : Sem1 := fun ws s => if ws.length = np then (match b (ws.map .w ++ List.replicate (nl - np) .no) s with
    | .nx _ s' => .ok (.w (.d .non)) s'
    | .ret v s' => .ok v s'
    | .exc c x _ s' => .exc c x s'
    | _ => .no)
  else .no
section
variable {K : PySem.W.Frag} {cl : Str → Option Addr} {H0 H : Hp} {m : List Addr} {s : S}
theorem RepWs.slot {vs : List V} {ws : List W} (h : RepWs K cl H0 m vs ws) (k : Nat) : EnvR K cl H0 H m [] (vs.map some ++ List.replicate k none) (ws.map .w ++ List.replicate k .no) := by
  refine ⟨by simp [h.length], fun i e hi => ?_, fun i j e e' p h1 h2 h3 => ?_, fun p hp => by cases hp⟩
  · by_cases hl : i < ws.length
    · rw [List.getElem?_append_left (by simpa using hl), List.getElem?_map] at hi
      rw [List.getElem?_append_left (by simpa [h.length] using hl), List.getElem?_map]
      cases q : ws[i]? with
      | none => rw [q] at hi; cases hi
      | some w =>
        rw [q] at hi
        cases hi
        obtain ⟨v, h1, h2⟩ := h.get q
        rw [h1]
        exact ⟨v, rfl, h2⟩
    · rw [List.getElem?_append_right (by simp; omega), List.getElem?_replicate] at hi
      split at hi
      · cases hi; trivial
      · cases hi
  · exfalso
    by_cases hl : i < ws.length
    · rw [List.getElem?_append_left (by simpa using hl), List.getElem?_map] at h1
      cases q : ws[i]? with
      | none => rw [q] at h1; cases h1
      | some w => rw [q] at h1; cases h1; cases h3
    · rw [List.getElem?_append_right (by simp; omega), List.getElem?_replicate] at h1
      split at h1
      · cases h1; cases h3
      · cases h1
end
section
variable {P : Program} {w : World} {K : PySem.W.Frag} {mg : Str → Option Value} {base : Heap} {cl : Str → Option Addr}
theorem fn_ok {x qual : Str} {st : Stmt} {f : Addr} {fd : FuncData} {N ps : List Str} {k : Nat} {b : Stm} (F : Fun K x qual st f fd) (S : FnScope N ps (defScope st))
    (h : ∀ (cdv : Value) (A : Around) (outer : List Env) (s : Shared) (H : Hp) (E : XK), Room k (A.deeper (envOfC qual (defScope st) s.heap.objs.size f cdv)) →
      XOk (cxOf (L2.CX P w) P w K mg base N qual (defScope st) f cdv A outer s H E) (wxE E) → JB cl (wxE E) (cxOf (L2.CX P w) P w K mg base N qual (defScope st) f cdv A outer s H E) (defBody st) b) :
    FnOk P w K mg base (L2.CX P w) (k + 1) f fd ps (spOf K cl (runF ps.length N.length b)) := by
  have len : ∀ {vs : List V} {H : Hp} {Q : VK} {E : XK}, spOf K cl (runF ps.length N.length b) vs H Q E → vs.length = ps.length := fun {vs H Q E} ⟨H0, m, s, ws, _, r, q⟩ => by
    by_cases hl : ws.length = ps.length
    · rw [r.length, hl]
    · unfold runF at q
      rw [if_neg hl] at q
      exact q.elim
  refine F.okX S (fun vs H Q E h => len h) fun cdv A outer s H vs Q E hr hsp => ?_
  have hl := len hsp
  refine ⟨_, h cdv A outer s H E hr ⟨takes_of rfl rfl rfl rfl, passes_of rfl, S.nd⟩, ?_⟩
  obtain ⟨H0, m, s', ws, st', rw', q⟩ := hsp
  have hlw : ws.length = ps.length := by rw [← rw'.length]; exact hl
  unfold runF at q
  rw [if_pos hlw] at q
  refine ⟨H0, m, [], s', ws.map .w ++ List.replicate (N.length - ps.length) .no, ⟨st', ?_⟩, ?_⟩
  · show EnvR K cl H0 H m [] (vs.map some ++ List.replicate (N.length - vs.length) none) _
    rw [hl]
    exact rw'.slot _
  · have g0 : ∀ {H0' H' : Hp} {m' ow' : List Addr}, Go H0 H m [] H0' H' m' ow' → GoE H0 H m H0' H' m' := fun g => ⟨g.s0, g.pre, g.fr, g.dom, g.n0, g.nm, fun a z => by cases z⟩
    cases e1 : b (ws.map .w ++ List.replicate (N.length - ps.length) .no) s' with
    | nx ρ s2 => rw [e1] at q; exact fun σ' H0' H' m' ow' g c => q _ _ _ _ (g0 g) c.st Rep.non
    | ret v s2 => rw [e1] at q; exact fun u H0' H' m' ow' g st r => q u _ _ _ (g0 g) st r
    | exc c x ρ s2 => rw [e1] at q; exact fun cv dd σ' H0' H' m' ow' g c e => q _ _ _ _ _ (g0 g) c.st e
    | brk ρ s2 => rw [e1] at q; exact q.elim
    | cnt ρ s2 => rw [e1] at q; exact q.elim
    | no => rw [e1] at q; exact q.elim
end

noncomputable def allDataK : List (Key × W) → Option (List (Key × D))
  | [] => some []
  | (k, .d x) :: r => (allDataK r).map ((k, x) :: ·)
  | (_, .r _) :: _ => none
noncomputable def frzV : RV → S → Res W
  | .w x, s => .ok x s
  | .own l, s => frzL l s
  | .ownD l, s => match allDataK l with | some ds => .ok (.d (.dic ds)) s | none => .no
noncomputable def eCall (f : Sem1) (a : Cmp (List W)) : Cmp W := fun ρ s => (a ρ s).bind fun ws s1 => (f ws s1).bind frzV
noncomputable def eCallL (f : Sem1) (a : Cmp (List W)) : Cmp (List W) := fun ρ s => (a ρ s).bind fun ws s1 => (f ws s1).bind fun rv s2 => match rv with | .own l => .ok l s2 | _ => .no
section
variable {K : PySem.W.Frag} {cl : Str → Option Addr} {H0 H H0' H' : Hp} {m m' : List Addr} {s s' : S} {σ : L2.St} {Wx : WX} {Q : VK}
theorem RepWK.data {vs : List (Key × V)} {l : List (Key × W)} {ds : List (Key × D)} (h : RepWK K cl H0 m vs l) (e : allDataK l = some ds) : RepK K cl H0 vs ds := by
  induction h generalizing ds with
  | nil => cases e; exact .nil
  | @cons k v d vs l h1 h2 ih =>
    cases d with
    | r n => cases e
    | d x =>
      unfold allDataK at e
      cases q : allDataK l with
      | none => rw [q] at e; cases e
      | some z => rw [q] at e; cases e; exact .cons h1 (ih q)
theorem frz_ok {rv : RV} {v : V} (st : Stt K cl H0 H m s) (h : RunE K cl (rrW K cl) Wx H0 H m σ Q (frzV rv s')) (g : GoE H0 H m H0' H' m') (st' : Stt K cl H0' H' m' s') (r : retR K cl H [] H0' H' m' v rv) : Q v H' := by
  cases rv with
  | w x => exact h v H0' H' m' g st' r
  | own l =>
    have h : RunE K cl (rrW K cl) Wx H0 H m σ Q (frzL l s') := h
    unfold frzL at h
    cases e2 : allData l with
    | none => rw [e2] at h; exact h.elim
    | some ds =>
      rw [e2] at h
      obtain ⟨p, vs, h1, h2, h3, h4, h5, h6⟩ := r
      have h2 : H p = none := by rcases h2 with z | z <;> first | (cases z; done) | exact z
      exact h v (upd H0' p (.lst vs)) H' m' (g.freeze st h2) (st'.freeze h4 h3 h5) (by
        subst h1
        exact Rep.lst upd_same ((h6.ds e2).mono (same_upd h4)))
  | ownD l =>
    have h : RunE K cl (rrW K cl) Wx H0 H m σ Q (match allDataK l with | some ds => .ok (.d (.dic ds)) s' | none => .no) := h
    cases e2 : allDataK l with
    | none => rw [e2] at h; exact h.elim
    | some ds =>
      rw [e2] at h
      obtain ⟨p, vs, h1, h2, h3, h4, h5, h6⟩ := r
      have h2 : H p = none := by rcases h2 with z | z <;> first | (cases z; done) | exact z
      exact h v (upd H0' p (.dK vs)) H' m' (g.freeze st h2) (st'.freeze h4 h3 h5) (by
        subst h1
        exact Rep.dic upd_same ((h6.data e2).mono (same_upd h4)))
theorem call_run {f : Sem1} {vs : List V} {ws : List W} {Q : VK} {E : XK} (st : Stt K cl H0 H m s) (rw' : RepWs K cl H0 m vs ws)
    (h : RunE K cl (rrV K cl) (wxE E) H0 H m [] Q (f ws s))   : spOf K cl f vs H Q E := ⟨H0, m, s, ws, st, rw', h⟩
theorem call_frz {f : Sem1} {ws : List W} (st : Stt K cl H0 H m s) (h : RunE K cl (rrW K cl) Wx H0 H m σ Q ((f ws s).bind frzV)) : RunE K cl (rrV K cl) (wxE (WE Wx σ)) H0 H m [] Q (f ws s) := by
  cases e : f ws s with
  | no => rw [e] at h; exact h
  | exc c x s' => rw [e] at h; exact h
  | ok rv s' =>
    rw [e] at h
    exact fun v H0' H' m' g st' r => frz_ok st h g st' r
theorem call_new {f : Sem1} {ws : List W} (st : Stt K cl H0 H m s) (h : RunE K cl (rrL K cl) Wx H0 H m σ Q ((f ws s).bind fun rv s2 => match rv with | .own l => .ok l s2 | _ => .no)) : RunE K cl (rrV K cl) (wxE (WE Wx σ)) H0 H m [] Q (f ws s) := by
  cases e : f ws s with
  | no => rw [e] at h; exact h
  | exc c x s' => rw [e] at h; exact h
  | ok rv s' =>
    rw [e] at h
    intro v H0' H' m' g st' r
    cases rv with
    | w x => exact h.elim
    | ownD l => exact h.elim
    | own l =>
      obtain ⟨p, vs, h1, h2, h3⟩ := r
      have h2 : H p = none := by rcases h2 with z | z <;> first | (cases z; done) | exact z
      exact h v H0' H' m' g st' ⟨p, vs, h1, h2, h3⟩
end
structure FnAt (P : Program) (w : World) (K : PySem.W.Frag) (mg : Str → Option Value) (base : Heap) (cl : Str → Option Addr) (k : Nat) (x : Str) (ps : List Str) (f : Sem1) : Prop where
  ex : ∃ (a : Addr) (fd : FuncData), mg x = some (.ref a) ∧ PySem.W.keepIn K (.ref a) = true ∧ Binds K fd ps [] ∧ FnOk P w K mg base (L2.CX P w) k a fd ps (spOf K cl f)
theorem FnAt.mono {P : Program} {w : World} {K : PySem.W.Frag} {mg : Str → Option Value} {base : Heap} {cl : Str → Option Addr} {j k : Nat} {x : Str} {ps : List Str} {f : Sem1} (F : FnAt P w K mg base cl j x ps f) (h : j ≤ k) : FnAt P w K mg base cl k x ps f := by
  obtain ⟨a, fd, h1, h2, h3, h4⟩ := F.ex
  exact ⟨a, fd, h1, h2, h3, h4.mono h⟩
section
variable {X : Cx} {cl : Str → Option Addr} {Wx : WX} {e : Expr} {es : List Expr} {pos p : Pos} {el : Cmp (List W)} {k : Nat} {x : Str} {ps : List Str} {f : Sem1}
theorem je_call (ok : XOk X Wx) (hr : Room k X.A) (F : FnAt X.prog X.w X.K X.mg X.base cl k x ps f) (ha : JA cl Wx X (e :: es) el) (hg : Gl X x := by rfl)
    (h1 : (x == Str.ofString "__debug__") = false := by decide) (h2 : starEach (e :: es) X.env = (false, eval e X.env) :: starEach es X.env := by rfl) (h3 : ((backTo pos (starEach es X.env)).any fun x => x.fst) = false := by rfl) :
    JE cl Wx X (.Call (.Name x p) (e :: es) [] pos) (eCall f el) := by
  obtain ⟨a, fd, q1, q2, q3, q4⟩ := F.ex
  refine PE.weaken (pe_callS q4 hr hg q1 q2 q3 (fun σ => passAt ok.tk σ) ha h1 h2 h3) fun σ H Q ⟨H0, m, ow, s, ρ, cx, h⟩ => ⟨H0, m, ow, s, ρ, cx, ?_⟩
  have h : RunE X.K cl (rrW X.K cl) Wx H0 H m σ Q ((el ρ s).bind fun ws s1 => (f ws s1).bind frzV) := h
  revert h
  generalize el ρ s = r
  intro h
  cases r with
  | no => exact h
  | exc c x s' => exact h
  | ok ws s1 =>
    have h : RunE X.K cl (rrW X.K cl) Wx H0 H m σ Q ((f ws s1).bind frzV) := h
    intro vs H1 H1' m1 g st rr
    exact call_run st rr (call_frz st (h.shift g))
theorem jl_call (ok : XOk X Wx) (hr : Room k X.A) (F : FnAt X.prog X.w X.K X.mg X.base cl k x ps f) (ha : JA cl Wx X (e :: es) el) (hg : Gl X x := by rfl)
    (h1 : (x == Str.ofString "__debug__") = false := by decide) (h2 : starEach (e :: es) X.env = (false, eval e X.env) :: starEach es X.env := by rfl) (h3 : ((backTo pos (starEach es X.env)).any fun x => x.fst) = false := by rfl) :
    JL cl Wx X (.Call (.Name x p) (e :: es) [] pos) (eCallL f el) := by
  obtain ⟨a, fd, q1, q2, q3, q4⟩ := F.ex
  refine PE.weaken (pe_callS q4 hr hg q1 q2 q3 (fun σ => passAt ok.tk σ) ha h1 h2 h3) fun σ H Q ⟨H0, m, ow, s, ρ, cx, h⟩ => ⟨H0, m, ow, s, ρ, cx, ?_⟩
  have h : RunE X.K cl (rrL X.K cl) Wx H0 H m σ Q ((el ρ s).bind fun ws s1 => (f ws s1).bind fun rv s2 => match rv with | .own l => .ok l s2 | _ => .no) := h
  revert h
  generalize el ρ s = r
  intro h
  cases r with
  | no => exact h
  | exc c x s' => exact h
  | ok ws s1 =>
    intro vs H1 H1' m1 g st rr
    exact call_run st rr (call_new st (RunE.shift (r := (f ws s1).bind fun rv s2 => match rv with | .own l => .ok l s2 | _ => .no) h g))
end
end TG

set_option Elab.async false
set_option linter.all false
set_option maxRecDepth 100000
set_option maxHeartbeats 4000000
namespace PySem
open Sem (wp)
theorem tg_meets_enum1 {v : Value} {o : Obj} {H : Heap → Prop} (B : Begins v o H) :
    Meets (Builtin.«enumerate.__new__» ⟨[.type "enumerate", v], []⟩) (fun _ R s => H s.heap ∧
      R (.ok (.ret (.ref (s.heap.push o).objs.size))) { s with heap := (s.heap.push o).push { cls := .type "enumerate", data := .fields #[.none, .bool false, .ref s.heap.objs.size, rawInt 0, .none, .none] } }) := by
  refine .of_wp fun prog w A R s h => ?_
  obtain ⟨hp, g, d, tk, os⟩ := s
  obtain ⟨h1, h⟩ := h
  have hsub := sub_enumerate
  have q1 : ∀ {A' : Around} {E : Value → Shared → Prop} {Q : Value → Shared → Prop}, Q (.ref hp.objs.size) ⟨hp.push o, g, d, tk, os⟩ → wpAny (model prog w) A' (pyIter v) Q E ⟨hp, g, d, tk, os⟩ := fun q => B.iter prog w _ _ ⟨hp, g, d, tk, os⟩ _ h1 q
  wp_walk using q1
  refine wpAny_stack_any fun st => wpAny_pure ?_
  split
  · rename_i c _ _ _ _ _
    cases (c == Value.type "enumerate") <;> (wp_walk using q1; exact ⟨_, rfl, h⟩)
  · wp_walk using q1
    exact ⟨_, rfl, h⟩
section
variable {prog : Program} {w : World} {A : Around} {E : Value → Shared → Prop} {s : Shared}
theorem tg_call_enum1 {v : Value} {o : Obj} {H : Heap → Prop} {Q : Value → Shared → Prop} (B : Begins v o H) (h1 : H s.heap)
    (h : ∀ h', IsEnum h' (s.heap.objs.size + 1) s.heap.objs.size 0 .none → h'.get? s.heap.objs.size = some o → (∀ b x, s.heap.get? b = some x → h'.get? b = some x) → Q (.ref (s.heap.objs.size + 1)) { s with heap := h' }) :
    wpAny (model prog w) A (call (.type "enumerate") [v]) Q E s := by
  refine callType_new F.called_enumerate (by decide) (F.typeCall_enumerate_1 _) (F.newCall_enumerate_1 _) (fun obj => F.args_object_init_2 obj _) F.entry_enumerate_new (tg_meets_enum1 B) ⟨h1, ?_⟩
  have hz : (s.heap.push o).objs.size = s.heap.objs.size + 1 := Heap.size_push ..
  show _ ∧ _
  rw [hz]
  have he := Heap.get?_push_size (s.heap.push o) (o := { cls := .type "enumerate", data := .fields #[.none, .bool false, .ref s.heap.objs.size, rawInt 0, .none, .none] }) rfl
  rw [hz] at he
  exact ⟨⟨_, he, rfl⟩, h _ he (Heap.get?_push_of_some _ (Heap.get?_push_size _ B.free)) fun b x q => Heap.get?_push_of_some _ (Heap.get?_push_of_some _ q)⟩
end
end PySem
namespace TG
open PySem L2 PyProof.Rows
noncomputable def IteT (K : PySem.W.Frag) (a : Addr) : It :=
  { go := fun i H => ∃ (xs : List V) (x : V), SqT K H a xs ∧ xs[i]? = some x
    yld := fun i H v H' => ∃ T x, v = .ref T ∧ H T = none ∧ H' = upd H T (.tup [.int (i : Nat), x]) ∧ ∀ xs, SqT K H a xs → xs[i]? = some x
    stop := fun i H => ∃ xs : List V, SqT K H a xs ∧ xs.length ≤ i }
theorem turn_enumT {P : Program} {w : World} {K : PySem.W.Frag} {elts : List Expr} {kk : Nat} {tpos : Pos} (a e it : Addr) (hae : e ≠ a) (hai : a ≠ it) :
    Turn P w K (.Tuple elts kk tpos) (IteT K a) [e, it] e (fun i h => (∃ old, IsEnum h e it ((i : Nat) : Int) old) ∧ h.IsTupleIter it a i ∧ e ≠ it) := by
  refine ⟨by simp, fun i h st b hb => ?_, fun i h h' st k => ?_, ?_, ?_, fun A i s Q E st h => ?_⟩
  · obtain ⟨⟨old, he⟩, ⟨o, ho, _, hd⟩, _⟩ := st
    rcases (by simpa using hb : b = e ∨ b = it) with rfl | rfl
    · exact ⟨_, he, fun v q => nomatch q⟩
    · exact ⟨o, ho, fun v q => by rw [hd] at q; cases q⟩
  · obtain ⟨⟨old, he⟩, hi, hne⟩ := st
    exact ⟨⟨old, k e (by simp) _ he⟩, hi.at fun o q => k it (by simp) o q, hne⟩
  · rintro X rfl rfl rfl hc i pins s σ H E I hf ⟨⟨old, he⟩, hit, hne⟩ ⟨xs, x, hq, hx⟩
    obtain ⟨its, rv, p, hz⟩ := I.tuple hq
    obtain ⟨u, hu, ru⟩ := rv.get hx
    have hel : e < s.heap.objs.size := Heap.lt_size he
    have hil : it < s.heap.objs.size := by obtain ⟨_, q, _⟩ := hit; exact Heap.lt_size q
    have hlt : i < its.toArray.size := by simpa using (List.getElem?_eq_some_iff.mp hu).1
    have D : Draws X.prog X.w X.A.in1 it [it, a] its.toArray.size (fun i v => its.toArray[i]? = some v) (fun i h => h.IsTupleIter it a i ∧ h.IsTuple a its.toArray) := Draws.tuple (A := X.A.in1) (I.ok.hd hc) it a hai its.toArray
    refine wpAny_pyNext_enum_itemD D he ⟨hit, p⟩ hlt hne (by simp [hne, hae]) fun x' h' tk hx' ho st' hT hsz hk => ?_
    have hx2 : x' = u := by
      have : its.toArray[i]? = some u := by simpa using hu
      rw [this] at hx'
      exact (Option.some.inj hx').symm
    subst hx2
    refine ⟨_, rfl, wpAny_letOwnedTupleGo_enum (s := { s with heap := h', toks := tk + 1 }) ho fun h'' he' sb => ?_⟩
    have hT2 : h''.get? s.heap.objs.size = some { cls := .type "tuple", data := .seq #[.int i tk, x'] } := (sb.2 _ (Nat.ne_of_gt hel)).trans hT
    have new : ObjOk X.prog X.w (upd H s.heap.objs.size (.tup [.int (i : Nat), x])) h'' s.heap.objs.size (.tup [.int (i : Nat), x]) :=
      ⟨by show 2 ≤ sizeLine; decide, [.int i tk, x'], .cons ⟨_, rfl⟩ (.cons ru .nil), ⟨_, hT2, rfl, _, rfl⟩⟩
    have I1 : Inv X pins σ (upd H s.heap.objs.size (.tup [.int (i : Nat), x])) { s with heap := h'', toks := tk + 1 } :=
      I.turnedNew (t' := tk + 1) (ch := [e, it]) (fun b ob hb q => (sb.2 b (fun z => hb (by simp [z]))).trans (hk b ob (fun z => hb (by simp [z])) (fun z => hb (by simp [z])) q)) hf (Nat.le_refl _) new
    refine ⟨.ref s.heap.objs.size, _, I1, rfl, ⟨_, x, rfl, I.hok.fresh (Nat.le_refl _), rfl, fun ys hy => by rw [I.tuple_inj hy hq]; exact hx⟩, ⟨⟨x', ?_⟩, st'.1.at fun o q => (sb.2 it (Ne.symm hne)).trans q, hne⟩, fun b hb => ?_⟩
    · have e1 : ((i + 1 : Nat) : Int) = (i : Int) + 1 := by omega
      rw [e1]; exact he'
    · have hb' : b < s.heap.objs.size := by
        rcases (by simpa using hb : b = e ∨ b = it) with rfl | rfl <;> assumption
      rw [upd_ne (Nat.ne_of_lt hb')]
      exact (hf b hb).1
  · rintro X rfl rfl rfl hc i pins s σ H E I hf ⟨⟨old, he⟩, hit, hne⟩ ⟨xs, hq, hx⟩
    obtain ⟨its, rv, p, hz⟩ := I.tuple hq
    obtain ⟨f0, f1, f2, f3, f4, f5⟩ := hf it (by simp)
    have hl : its.length ≤ i := by rw [← rv.length]; exact hx
    have hh := I.ok.hd hc
    have D : Draws X.prog X.w X.A.in1 it [it, a] i (fun _ _ => True) (fun j h => j = i ∧ h.IsTupleIter it a i ∧ h.IsTuple a its.toArray) :=
      { live := fun _ _ st => let ⟨o, ho, _⟩ := st.2.1; ⟨o, ho⟩
        frame := fun _ _ _ st hk => ⟨st.1, st.2.1.at fun o e => hk it (by simp) o e, st.2.2.at fun o e => hk a (by simp) o e⟩
        item := fun j s Q E hj st _ => absurd st.1 (Nat.ne_of_lt hj)
        done := fun s Q E st hE => wpAny_nextOf_tuple_end (A := X.A.in1) hh st.2.1 st.2.2 (by simpa using hl) hE }
    exact wpAny_pyNext_enum_endD D he ⟨rfl, hit, p⟩ fun h' eb => ⟨rfl, I.turned (t' := s.toks) (fun b o hb q => eb b o hb q) f0 f1 f3 f4 f5⟩
  · obtain ⟨⟨_, he⟩, _⟩ := st
    exact wpAny_pyIter_enum he h
noncomputable def iEnumT (K : PySem.W.Frag) (ta : TA) : TI := fun σ H R => ta σ H fun vs H1 => ∃ a xs, vs = [.ref a] ∧ SqT K H1 a xs ∧ R (IteT K a) H1
theorem pi_enumT {X : Cx} {e : Expr} {ta : TA} {p pos tpos : Pos} {elts : List Expr} {kk : Nat} (hg : Gl X "enumerate") (hm : X.mg "enumerate" = none) (ha : PA X [e] ta) (hs : starEach [e] X.env = [(false, eval e X.env)] := by rfl) :
    PI X (.Tuple elts kk tpos) (.Call (.Name "enumerate" p) [e] [] pos) (iEnumT X.K ta) := by
  refine ⟨fun pins s σ H R I h => Call_ (ld_blt I hg hm boot_enumerate (PyProof.Rows.callWith_type1 (thn (ha.run pos pins s σ H _ I h) fun us s1 ⟨vs, H1, I1, r1, a, xs, ex, hq, q⟩ => ?_) hs rfl))⟩
  subst ex
  cases r1 with
  | cons r rr =>
    cases rr
    cases r
    obtain ⟨its, rv, p', hz⟩ := I1.tuple hq
    refine tg_call_enum1 (begins_tuple a its.toArray) p' fun h' he hit hk => wpAny_pyIter_enum he ?_
    have I2 : Inv X pins σ H1 { s1 with heap := h' } := I1.kept (t' := s1.toks) hk
    have hal : a < s1.heap.objs.size := by obtain ⟨_, e1, _⟩ := p'; exact Heap.lt_size e1
    refine ⟨s1.heap.objs.size + 1, [s1.heap.objs.size + 1, s1.heap.objs.size], _, _, H1, rfl, I2, turn_enumT a (s1.heap.objs.size + 1) s1.heap.objs.size (fun z => ?_) (fun z => ?_), ⟨⟨.none, he⟩, ⟨_, hit, rfl, rfl⟩, Nat.succ_ne_self _⟩, fun b hb => ?_, q⟩
    · rw [← z] at hal; exact Nat.not_succ_le_self _ (Nat.le_of_lt hal)
    · rw [z] at hal; exact absurd hal (Nat.lt_irrefl _)
    · have hle : s1.heap.objs.size ≤ b := by
        rcases (by simpa using hb : b = s1.heap.objs.size + 1 ∨ b = s1.heap.objs.size) with z | z
        · rw [z]; exact Nat.le_add_right _ _
        · rw [z]; exact Nat.le_refl _
      exact I1.fpOk hle (I1.hok.fresh hle)
noncomputable def enumD (l : List D) : List W := l.mapIdx fun i x => W.d (.tup [.int (i : Nat), x])
noncomputable def eEnum (a : Cmp (List W)) : Cmp (List W) := fun ρ s => (a ρ s).bind fun x s1 => match x with
  | [x] => (match seqD x with | some l => .ok (enumD l) s1 | none => .no)
  | _ => .no
theorem walk_enum {K : PySem.W.Frag} {cl : Str → Option Addr} {J : It} {l : List D} {vs : List V} {H0 : Hp} {m : List Addr} (r : Reps K cl H0 vs l)
    (hs : ∀ (i : Nat) H1 H2 m2 s2, Same H0 H1 → Stt K cl H1 H2 m2 s2 → vs.length ≤ i → J.stop i H2) (hg : ∀ (i : Nat) H1 H2 m2 s2, Same H0 H1 → Stt K cl H1 H2 m2 s2 → i < vs.length → J.go i H2)
    (hy : ∀ (i : Nat) H1 H2 m2 s2 v H3, Same H0 H1 → Stt K cl H1 H2 m2 s2 → J.yld i H2 v H3 → ∃ T x, v = .ref T ∧ H2 T = none ∧ H3 = upd H2 T (.tup [.int (i : Nat), x]) ∧ vs[i]? = some x) : Walks K cl J (enumD l) H0 m := by
  have hl : (enumD l).length = vs.length := by rw [r.length]; simp [enumD]
  refine ⟨fun i H1 H2 m2 s2 e _ st hi => hs i H1 H2 m2 s2 e st (by omega), fun i H1 H2 m2 s2 e _ st hi => hg i H1 H2 m2 s2 e st (by omega), fun i H1 H2 m2 s2 v H3 e _ st hi y => ?_⟩
  obtain ⟨T, x, rfl, hT, rfl, hx⟩ := hy i H1 H2 m2 s2 v H3 e st y
  have hi' : i < l.length := by simpa [enumD] using hi
  have rw' := (r.mono e).ws (m := m2)
  obtain ⟨u, e1, e2⟩ := rw'.get (i := i) (x := W.d l[i]) (by simp [wD, hi'])
  rw [hx] at e1
  cases e1
  refine ⟨upd H1 T (.tup [.int (i : Nat), x]), Go.alloc st hT, st.alloc hT, W.d (.tup [.int (i : Nat), l[i]]), by simp [enumD, hi'], Rep.tup upd_same (.cons .int (.cons (Rep.mono (same_upd (st.h0 hT)) e2) .nil))⟩
section
variable {X : Cx} {cl : Str → Option Addr} {Wx : WX} {e : Expr} {elts : List Expr} {kk : Nat} {tpos pos p : Pos} {el : Cmp (List W)}
theorem ji_enum (hg : Gl X "enumerate") (hm : X.mg "enumerate" = none) (h : JA cl Wx X [e] el) (hs : starEach [e] X.env = [(false, eval e X.env)] := by rfl) : JI cl Wx X (.Tuple elts kk tpos) (.Call (.Name "enumerate" p) [e] [] pos) (eEnum el) :=
  PI.weaken (PI.or (pi_enum hg hm h hs) (pi_enumT hg hm h hs)) fun σ H R ⟨H0, m, ow, s, ρ, cx, q⟩ => by
    have q : RunE X.K cl (rrI X.K cl) Wx H0 H m σ R ((el ρ s).bind fun x s1 => match x with
      | [x] => (match seqD x with | some l => .ok (enumD l) s1 | none => .no)
      | _ => .no) := q
    cases e0 : el ρ s with
    | no => rw [e0] at q; exact q.elim
    | exc c x s' => exact .inl ⟨H0, m, ow, s, ρ, cx, by rw [e0] at q ⊢; exact q⟩
    | ok ws s' =>
      rw [e0] at q
      cases ws with
      | nil => exact q.elim
      | cons w ws =>
        cases ws with
        | cons _ _ => exact q.elim
        | nil =>
          have q : RunE X.K cl (rrI X.K cl) Wx H0 H m σ R (match seqD w with | some l => .ok (enumD l) s' | none => .no) := q
          unfold seqD at q
          split at q
          · rename_i l e1
            split at e1
            · cases e1
              refine .inl ⟨H0, m, ow, s, ρ, cx, ?_⟩
              rw [e0]
              intro v H0' H' m' g st rr
              cases rr with
              | cons r1 r2 =>
                cases r2
                cases r1 with
                | lst h1 h2 =>
                  refine ⟨_, _, rfl, sqL_of (st.sub _ _ h1), q _ H0' H' m' g st (walk_enum h2 (fun i H1 H2 m2 s2 e st' hi => ⟨_, sqL_of (st'.sub _ _ (e _ _ h1)), hi⟩) (fun i H1 H2 m2 s2 e st' hi => ⟨_, _, sqL_of (st'.sub _ _ (e _ _ h1)), by simp [hi]; rfl⟩) fun i H1 H2 m2 s2 v H3 e st' ⟨T, x, a1, a2, a3, a4⟩ => ⟨T, x, a1, a2, a3, a4 _ (sqL_of (st'.sub _ _ (e _ _ h1)))⟩)⟩
            · cases e1
              refine .inr ⟨H0, m, ow, s, ρ, cx, ?_⟩
              rw [e0]
              intro v H0' H' m' g st rr
              cases rr with
              | cons r1 r2 =>
                cases r2
                cases r1 with
                | tup h1 h2 =>
                  refine ⟨_, _, rfl, sqT_of (st.sub _ _ h1), q _ H0' H' m' g st (walk_enum h2 (fun i H1 H2 m2 s2 e st' hi => ⟨_, sqT_of (st'.sub _ _ (e _ _ h1)), hi⟩) (fun i H1 H2 m2 s2 e st' hi => ⟨_, _, sqT_of (st'.sub _ _ (e _ _ h1)), by simp [hi]; rfl⟩) fun i H1 H2 m2 s2 v H3 e st' ⟨T, x, a1, a2, a3, a4⟩ => ⟨T, x, a1, a2, a3, a4 _ (sqT_of (st'.sub _ _ (e _ _ h1)))⟩)⟩
            · cases e1
          · exact q.elim
end
end TG

set_option Elab.async false
set_option linter.all false
set_option maxRecDepth 100000
set_option maxHeartbeats 2000000
namespace TG
open PySem L2 PyProof.Rows

theorem XOk.blk {X : Cx} {Wx : WX} (ok : XOk X Wx) {s : Shared} {H : Hp} {scope : Scope} {ce : Env} {fp : List Addr} : XOk (X.blk s H scope ce fp) W0 :=
  ⟨fun u s' ⟨a, B, sI, pins, σ, H, cls, d, e, I, nb, up, sky, na, os, ag, z⟩ => z.elim, PassesOwn.never, ok.nd⟩

noncomputable def fListOf (x : W) (s : S) : Res (List W) := match asSeq x s with | some l => .ok l s | none => .no
noncomputable def eListOf (a : Cmp (List W)) : Cmp (List W) := fun ρ s => (a ρ s).bind fun ws s1 => match ws with | [x] => fListOf x s1 | _ => .no
section
variable {X : Cx} {cl : Str → Option Addr} {Wx : WX} {e o i c : Expr} {es : List Expr} {pos p p' : Pos} {el : Cmp (List W)} {ea eo ei ev : Cmp W} {et : Cmp Bool} {b : Stm} {sts : List Stmt}
theorem jl_listof (hg : Gl X "list") (hm : X.mg "list" = none) (ha : JA cl Wx X [e] el) (h3 : starEach (e :: []) X.env = (false, eval e X.env) :: starEach [] X.env := by rfl) (h4 : ((backTo pos (starEach [] X.env)).any fun x => x.fst) = false := by rfl) :
    JL cl Wx X (.Call (.Name "list" p) [e] [] pos) (eListOf el) :=
  PE.weaken (pe_callTy call_list_of hg hm (by decide +kernel) ha (by decide) (by decide) h3 h4) fun σ H Q ⟨H0, m, ow, s, ρ, cx, h⟩ => ⟨H0, m, ow, s, ρ, cx, RunE.bind h fun ws s1 v H1 H1' m1 g st rr h2 => by
    cases rr with
    | nil => exact h2.elim
    | @cons v w vs ws r1 r2 =>
      cases r2 with
      | cons _ _ => exact h2.elim
      | nil =>
        have h2 : RunE X.K cl (rrL X.K cl) Wx H1 H1' m1 σ Q (fListOf w s1) := h2
        unfold fListOf at h2
        split at h2
        · rename_i l q
          obtain ⟨p, us, q1, q2, q3⟩ := asSeq_ok st r1 q
          refine ⟨p, us, by rw [q1], ?_, fun t ht => ?_⟩
          · rcases q2 with q2 | q2
            · exact .inl (sqL_of q2)
            · exact .inr (sqT_of q2)
          · exact h2 _ _ _ _ (Go.fresh ht) (st.fresh ht) ⟨t, us, rfl, ht, upd_same, st.h0 ht, st.notM ht, q3⟩
        · exact h2.elim⟩

noncomputable def setL (x i v : W) (s : S) : Option S := match x, asInt i with
  | .r n, some k => (match s[n]? with
    | some (.lst l) => (ixN l.length k).map fun j => s.set n (.lst (l.set j v))
    | _ => none)
  | _, _ => none
noncomputable def sSetI (o i v : Cmp W) : Stm := fun ρ s => ebS (v ρ s) ρ fun x ρ s => ebS (o ρ s) ρ fun y ρ s => ebS (i ρ s) ρ fun z ρ s => match setL y z x s with | some s' => .nx ρ s' | none => .no
theorem nodup_inj {m : List Addr} (nd : m.Nodup) {i j : Nat} {a : Addr} (h1 : m[i]? = some a) (h2 : m[j]? = some a) : i = j := by
  obtain ⟨i1, j1⟩ := List.getElem?_eq_some_iff.mp h1
  obtain ⟨i2, j2⟩ := List.getElem?_eq_some_iff.mp h2
  have q := List.pairwise_iff_getElem.mp nd
  rcases Nat.lt_trichotomy i j with z | z | z
  · exact absurd (j1.trans j2.symm) (q i j i1 i2 z)
  · exact z
  · exact absurd (j2.trans j1.symm) (q j i i2 i1 z)
theorem Stt.updCell {K : PySem.W.Frag} {H0 H : Hp} {m : List Addr} {s : S} {n : Nat} {a : Addr} {ho : HO} {c : Cell} (st : Stt K cl H0 H m s) (h1 : m[n]? = some a) (h2 : n < s.length) (r : CellR K cl H0 (upd H a ho) m a c) : Stt K cl H0 (upd H a ho) m (s.set n c) := by
  obtain ⟨z1, _⟩ := st.cell n a s[n] h1 (by simp [h2])
  refine ⟨fun b x e => ?_, by simp [st.len], st.nd, fun k q d e1 e2 => ?_⟩
  · have : b ≠ a := fun z => by subst z; rw [z1] at e; cases e
    rw [upd_ne this]; exact st.sub _ _ e
  · by_cases hk : n = k
    · subst hk
      rw [h1] at e1
      cases e1
      rw [List.getElem?_set_self h2] at e2
      cases e2
      exact ⟨z1, r⟩
    · rw [List.getElem?_set_ne hk] at e2
      obtain ⟨y1, y2⟩ := st.cell k q d e1 e2
      have ne : q ≠ a := fun z => by
        subst z
        exact hk (nodup_inj st.nd h1 e1)
      exact ⟨y1, y2.mono (Same.refl _) List.prefix_rfl fun o z => by rw [upd_ne ne]; exact z⟩
theorem Go.updCell {H0 H : Hp} {m : List Addr} {a : Addr} {ho : HO} (h : a ∈ m) : GoE H0 H m H0 (upd H a ho) m :=
  ⟨Same.refl _, List.prefix_rfl, fun b x e h1 _ => by
    have : b ≠ a := fun z => h1 (z ▸ h)
    rw [upd_ne this]; exact e, fun b e => by
    unfold upd; split
    · simp
    · exact e, fun _ _ _ _ e => e, fun _ e => .inl e, fun _ e => .inl e⟩
theorem js_setI (ho : JE cl Wx X o eo) (hi : JE cl Wx X i ei) (hv : JE cl Wx X e ev)
    (ha : ∀ v : Value, assign (.Subscript o i p) X.env v = (do let ov ← holding [v] (eval o X.env); let iv ← holding [v, ov] (eval i X.env); standAt p; holding [v, ov, iv] (setItem ov iv v); release [v, ov, iv] []) := by exact fun _ => rfl)
    (h1 : swapsWithSole [.Subscript o i p] e pos.line X.env = pure false := by rfl) (h2 : swappedStores [.Subscript o i p] e X.env = pure none := by rfl) (h3 : List.map (fun x => x.snd) (assignEach [.Subscript o i p] X.env) = [assign (.Subscript o i p) X.env] := by rfl) :
    JS cl Wx X (.Assign [.Subscript o i p] e pos) (sSetI eo ei ev) :=
  PS.weaken (ps_asg hv (pg_sub ho hi set_list ha) h1 h2 h3) fun E σ H ⟨H0, m, ow, s, ρ, cx, h⟩ => ⟨H0, m, ow, s, ρ, cx, RunS.ofE cx h fun x s1 v H1 H1' m1 g c rr q1 => ⟨H1, m1, ow, s1, ρ, c, RunS.ofE c q1 fun y s2 u H2 H2' m2 g2 c2 r2 q2 => ⟨H2, m2, ow, s2, ρ, c2, RunS.ofE c2 q2 fun z s3 uz H3 H3' m3 g3 c3 r3 q3 => by
    have q3 : RunS X.K cl Wx H3 H3' m3 ow E (match setL y z x s3 with | some s' => .nx ρ s' | none => .no) := q3
    have r2 := RepW.mono g3.s0 g3.pre r2
    have rr := RepW.mono (g2.trans g3).s0 (g2.trans g3).pre rr
    cases e1 : setL y z x s3 with
    | none => rw [e1] at q3; exact q3.elim
    | some s' =>
      rw [e1] at q3
      unfold setL at e1
      split at e1
      · rename_i n k e2 _
        obtain ⟨a, a1, a2⟩ := r2
        split at e1
        · rename_i l e3
          cases e4 : ixN l.length k with
          | none => rw [e4] at e1; cases e1
          | some j =>
            rw [e4] at e1
            cases e1
            obtain ⟨z1, vs, z2, z3⟩ := c3.st.cell n a _ a1 e3
            have hn : n < s3.length := (List.getElem?_eq_some_iff.mp e3).1
            have am : a ∈ m3 := List.mem_of_getElem? a1
            have gg : GoE H3 H3' m3 H3 (upd H3' a (.lst (vs.set j v))) m3 := Go.updCell am
            refine ⟨a, vs, k, j, a2, asInt_ok r3 e2, z2, by rw [z3.length]; exact e4, ?_⟩
            exact q3 σ _ _ _ _ gg.lift (c3.go gg (c3.st.updCell a1 hn ⟨_, upd_same, z3.set rr j⟩))
        · cases e1
      · cases e1⟩⟩⟩

noncomputable def sNo : Stm := fun _ _ => .no
theorem js_never {st : Stmt} : JS cl Wx X st sNo := PS.weaken ps_never fun E σ H ⟨H0, m, ow, s, ρ, cx, h⟩ => h.elim
theorem jb_frz (k : Nat) (h : JB cl Wx X sts b) : JB cl Wx X sts (sFrz k b) := PSs.weaken h fun E σ H ⟨H0, m, ow, s, ρ, cx, h⟩ => by
  unfold sFrz at h
  split at h
  · rename_i l e0
    split at h
    · rename_i ds e1
      obtain ⟨p, vs, h1, h2, h3, h4⟩ := cx.en.slot k _ e0
      obtain ⟨o1, o2, o3⟩ := cx.en.owns p h2
      have rd := h4.ds e1
      have s0 : Same H0 (upd H0 p (.lst vs)) := same_upd o2
      refine ⟨upd H0 p (.lst vs), m, ow.filter (· ≠ p), s, _, ⟨cx.st.freeze o2 h3 o3, ?_⟩, RunS.shift h ?_⟩
      · refine ⟨by simp [cx.en.len], fun j y hj => ?_, fun j k' y z q a1 a2 a3 a4 a5 a6 => ?_, fun q hq => ?_⟩
        · by_cases hjk : k = j
          · subst hjk
            have hl : k < ρ.length := (List.getElem?_eq_some_iff.mp e0).1
            rw [List.getElem?_set_self hl] at hj
            cases hj
            exact ⟨_, h1, Rep.lst upd_same (rd.mono s0)⟩
          · rw [List.getElem?_set_ne hjk] at hj
            have q := cx.en.slot j y hj
            have nn : ∀ r : Addr, σ[j]? = some (some (.ref r)) → y.isOwn = true → r ≠ p := fun r hr hy z => hjk (cx.en.apart k j _ y p e0 hj rfl hy h1 (by rw [hr, z]))
            cases y with
            | no => trivial
            | w x =>
              obtain ⟨u, b1, b2⟩ := q
              exact ⟨u, b1, b2.mono s0 List.prefix_rfl⟩
            | own l' => obtain ⟨r, us, b1, b2, b3, b4⟩ := q; exact ⟨r, us, b1, by simp [b2, nn r b1 rfl], b3, b4.mono s0 List.prefix_rfl⟩
            | ownD l' => obtain ⟨r, us, b1, b2, b3, b4⟩ := q; exact ⟨r, us, b1, by simp [b2, nn r b1 rfl], b3, b4.mono s0 List.prefix_rfl⟩
            | ownI n l' => obtain ⟨r, C, dx, fs, b1, b2, b3, b4, b5⟩ := q; exact ⟨r, C, dx, fs, b1, by simp [b2, nn r b1 rfl], b3, b4, b5.mono s0 List.prefix_rfl⟩
        · have g : ∀ {j : Nat} {y : EV}, (ρ.set k (.w (.d (.lst ds))))[j]? = some y → y.isOwn = true → ρ[j]? = some y := fun {j y} h hy => by
            by_cases hjk : k = j
            · subst hjk
              have hl : k < ρ.length := (List.getElem?_eq_some_iff.mp e0).1
              rw [List.getElem?_set_self hl] at h
              cases h; cases hy
            · rw [List.getElem?_set_ne hjk] at h; exact h
          exact cx.en.apart j k' y z q (g a1 a3) (g a2 a4) a3 a4 a5 a6
        · simp only [List.mem_filter, decide_eq_true_eq] at hq
          obtain ⟨b1, b2, b3⟩ := cx.en.owns q hq.1
          exact ⟨b1, by rw [upd_ne hq.2]; exact b2, b3⟩
      · refine ⟨s0, List.prefix_rfl, fun a o e _ _ => e, fun a e => e, fun a e e1 e2 e3 => ?_, fun a e => .inl e, fun a e => .inl (List.mem_filter.mp e).1⟩
        have : a ≠ p := fun z => e2 (z ▸ h2)
        rw [upd_ne this]; exact e3
    · exact h.elim
  · exact h.elim
end
end TG

set_option Elab.async false
set_option linter.all false
set_option maxRecDepth 100000
set_option maxHeartbeats 2000000
namespace TG
open PySem L2 PyProof.Rows

noncomputable def fldOf (c f : Str) (x : W) (s : S) : Option W := match x with
  | .d (.ins c' l) => if c' = c then (l.lookup f).map W.d else none
  | .r n => (match s[n]? with | some (.ins c' l) => if c' = c then l.lookup f else none | _ => none)
  | _ => none
noncomputable def eFld (c f : Str) (a : Cmp W) : Cmp W := fun ρ s => (a ρ s).bind fun x s1 => match fldOf c f x s1 with | some w => .ok w s1 | none => .no
structure ClsF (K : PySem.W.Frag) (cl : Str → Option Addr) (c f : Str) : Prop where
  at_ : ∀ C, cl c = some C → Cls K C ∧ NoAttr K C f
noncomputable def putW (f : Str) (v : W) : List (Str × W) → List (Str × W)
  | [] => [(f, v)]
  | (g, x) :: r => if g = f then (g, v) :: r else (g, x) :: putW f v r
section
variable {K : PySem.W.Frag} {cl : Str → Option Addr} {H0 : Hp} {m : List Addr}
theorem RepF.look {fs : List (Str × V)} {l : List (Str × D)} {f : Str} {x : D} (h : RepF K cl H0 fs l) (e : l.lookup f = some x) : ∃ v, fs.lookup f = some v ∧ Rep K cl H0 v x := by
  induction l generalizing fs with
  | nil => cases e
  | cons a l ih =>
    obtain ⟨g, y⟩ := a
    cases h with
    | @cons _ v _ vs _ h1 h2 =>
      by_cases q : f = g
      · subst q
        simp [List.lookup] at e ⊢
        subst e
        exact h1
      · have q' : (f == g) = false := by simpa using q
        simp only [List.lookup, q'] at e ⊢
        exact ih h2 e
theorem RepWK.look {fs : List (Str × V)} {l : List (Str × W)} {f : Str} {x : W} (h : RepWK K cl H0 m fs l) (e : l.lookup f = some x) : ∃ v, fs.lookup f = some v ∧ RepW K cl H0 m v x := by
  induction h with
  | nil => cases e
  | @cons g v d vs ds h1 h2 ih =>
    by_cases q : f = g
    · subst q
      simp [List.lookup] at e ⊢
      subst e
      exact h1
    · have q' : (f == g) = false := by simpa using q
      simp only [List.lookup, q'] at e ⊢
      exact ih e
theorem RepWK.put {fs : List (Str × V)} {l : List (Str × W)} (h : RepWK K cl H0 m fs l) (f : Str) {v : V} {x : W} (r : RepW K cl H0 m v x) : RepWK K cl H0 m (putF f v fs) (putW f x l) := by
  induction h with
  | nil => exact .cons r .nil
  | @cons g u d vs ds h1 h2 ih =>
    unfold putF putW
    by_cases q : g = f
    · rw [if_pos q, if_pos q]; exact .cons r h2
    · rw [if_neg q, if_neg q]; exact .cons h1 ih
theorem RepWK.length {κ : Type} {fs : List (κ × V)} {l : List (κ × W)} (h : RepWK K cl H0 m fs l) : fs.length = l.length := by
  induction h with
  | nil => rfl
  | cons _ _ ih => rw [List.length_cons, List.length_cons, ih]
theorem fldOf_ok {H : Hp} {s : S} {c f : Str} {v : V} {x y : W} (F : ClsF K cl c f) (st : Stt K cl H0 H m s) (r : RepW K cl H0 m v x) (e : fldOf c f x s = some y) :
    ∃ a C dx fs u, v = .ref a ∧ H a = some (.ins C dx fs) ∧ Cls K C ∧ NoAttr K C f ∧ fs.lookup f = some u ∧ RepW K cl H0 m u y := by
  unfold fldOf at e
  split at e
  · rename_i c' l
    split at e
    · rename_i hc
      subst hc
      cases r with
      | ins h1 h2 h3 =>
        cases q : l.lookup f with
        | none => rw [q] at e; cases e
        | some z =>
          rw [q] at e
          cases e
          obtain ⟨u, k1, k2⟩ := h3.look q
          exact ⟨_, _, _, _, u, rfl, st.sub _ _ h1, (F.at_ _ h2).1, (F.at_ _ h2).2, k1, k2⟩
    · cases e
  · obtain ⟨a, a1, a2⟩ := r
    split at e
    · rename_i c' l q
      split at e
      · rename_i hc
        subst hc
        obtain ⟨_, C, dx, fs, k1, k2, k3⟩ := st.cell _ a _ a1 q
        obtain ⟨u, j1, j2⟩ := k3.look e
        exact ⟨a, C, dx, fs, u, a2, k1, (F.at_ _ k2).1, (F.at_ _ k2).2, j1, j2⟩
      · cases e
    · cases e
  · cases e
end
section
variable {X : Cx} {cl : Str → Option Addr} {Wx : WX} {e o : Expr} {es : List Expr} {pos p p' : Pos} {ea eo : Cmp W} {el : Cmp (List W)} {c f : Str}
theorem je_fld (F : ClsF X.K cl c f) (h : JE cl Wx X e ea) (hb : attributeBase e f X.env (eval e X.env) = eval e X.env := by rfl) : JE cl Wx X (.Attribute e f pos) (eFld c f ea) :=
  PE.weaken (pe_fld h hb) fun σ H Q ⟨H0, m, ow, s, ρ, cx, h⟩ => ⟨H0, m, ow, s, ρ, cx, RunE.bind h fun x s1 v H1 H1' m1 g st rr h2 => by
    have h2 : RunE X.K cl (rrW X.K cl) Wx H1 H1' m1 σ Q (match fldOf c f x s1 with | some w => .ok w s1 | none => .no) := h2
    cases q : fldOf c f x s1 with
    | none => rw [q] at h2; exact h2.elim
    | some y =>
      rw [q] at h2
      obtain ⟨a, C, dx, fs, u, k1, k2, k3, k4, k5, k6⟩ := fldOf_ok F st rr q
      exact ⟨a, C, dx, fs, u, k1, k2, k3, k4, k5, h2.done st k6⟩⟩
noncomputable def setF (c f : Str) (x v : W) (s : S) : Option S := match x with
  | .r n => (match s[n]? with
    | some (.ins c' l) => if c' = c ∧ l.length < 1000 then some (s.set n (.ins c (putW f v l))) else none
    | _ => none)
  | _ => none
noncomputable def sFld (c f : Str) (o v : Cmp W) : Stm := fun ρ s => ebS (v ρ s) ρ fun x ρ s => ebS (o ρ s) ρ fun y ρ s => match setF c f y x s with | some s' => .nx ρ s' | none => .no
theorem js_fld (F : ClsF X.K cl c f) (ho : JE cl Wx X o eo) (h : JE cl Wx X e ea) (hs : swapsWith e (some (.Attribute o f p')) pos.line X.env = pure false := by rfl) : JS cl Wx X (.Assign [.Attribute o f p'] e pos) (sFld c f eo ea) :=
  PS.weaken (ps_fld ho h hs) fun E σ H ⟨H0, m, ow, s, ρ, cx, h⟩ => ⟨H0, m, ow, s, ρ, cx, RunS.ofE cx h fun x s1 v H1 H1' m1 g ct rr h2 => ⟨H1, m1, ow, s1, ρ, ct, RunS.ofE ct h2 fun y s2 u H2 H2' m2 g2 c2 r2 h3 => by
    have h3 : RunS X.K cl Wx H2 H2' m2 ow E (match setF c f y x s2 with | some s' => .nx ρ s' | none => .no) := h3
    have rr := RepW.mono g2.s0 g2.pre rr
    cases e1 : setF c f y x s2 with
    | none => rw [e1] at h3; exact h3.elim
    | some s' =>
      rw [e1] at h3
      unfold setF at e1
      split at e1
      · obtain ⟨a, a1, a2⟩ := r2
        split at e1
        · rename_i c' l e3
          split at e1
          · rename_i hc
            obtain ⟨rfl, hl⟩ := hc
            cases e1
            obtain ⟨z1, C, dx, fs, k1, k2, k3⟩ := c2.st.cell _ a _ a1 e3
            have hn := (List.getElem?_eq_some_iff.mp e3).1
            have gg : GoE H2 H2' m2 H2 (upd H2' a (.ins C dx (putF f v fs))) m2 := Go.updCell (List.mem_of_getElem? a1)
            refine ⟨a, C, dx, fs, a2, k1, (F.at_ _ k2).1, (F.at_ _ k2).2, by rw [k3.length]; exact hl, ?_⟩
            exact h3 σ _ _ _ _ gg.lift (c2.go gg (c2.st.updCell a1 hn ⟨C, dx, _, upd_same, k2, k3.put f rr⟩))
          · cases e1
        · cases e1
      · cases e1⟩⟩
end

section
variable {K : PySem.W.Frag} {cl : Str → Option Addr} {H0 H H0' H' : Hp} {m m' : List Addr} {s s1 s2 : S} {p : Addr}
theorem Stt.push {c : Cell} (st : Stt K cl H0 H m s) (h0 : H0 p = none) (hm : p ∉ m) (r : CellR K cl H0 H m p c) : Stt K cl H0 H (m ++ [p]) (s ++ [c]) := by
  refine ⟨st.sub, by simp [st.len], ?_, fun n a d q1 q2 => ?_⟩
  · rw [List.nodup_append]
    exact ⟨st.nd, by simp, fun a ha b hb => by rw [List.mem_singleton] at hb; subst hb; intro z; subst z; exact hm ha⟩
  · by_cases hn : n < m.length
    · rw [List.getElem?_append_left hn] at q1
      rw [List.getElem?_append_left (by rw [← st.len]; exact hn)] at q2
      obtain ⟨r1, r2⟩ := st.cell n a d q1 q2
      exact ⟨r1, r2.mono (Same.refl _) (List.prefix_append _ _) fun _ z => z⟩
    · have hn' : n = m.length := by
        have := (List.getElem?_eq_some_iff.mp q1).1
        rw [List.length_append] at this
        simp at this
        omega
      subst hn'
      rw [List.getElem?_append_right (Nat.le_refl _)] at q1
      rw [st.len, List.getElem?_append_right (Nat.le_refl _)] at q2
      simp at q1 q2
      subst q1
      subst q2
      exact ⟨h0, r.mono (Same.refl _) (List.prefix_append _ _) fun _ z => z⟩
theorem Go.push (g : GoE H0 H m H0' H' m') (hp : H p = none) : GoE H0 H m H0' H' (m' ++ [p]) :=
  ⟨g.s0, g.pre.trans (List.prefix_append _ _), g.fr, g.dom, g.n0, fun a ha => by
    rcases List.mem_append.mp ha with ha | ha
    · exact g.nm a ha
    · rw [List.mem_singleton] at ha; subst ha; exact .inr (.inr hp), g.nw⟩
theorem RepWs.back {vs us : List V} {l : List W} (h : RepWs K cl H0 m vs l) (h' : RepWs K cl H0' m' us l) (p : m <+: m') : RepWs K cl H0' m us l := by
  induction h generalizing us with
  | nil => cases h'; exact .nil
  | @cons v d vs l h1 h2 ih =>
    cases h' with
    | cons k1 k2 =>
      refine .cons ?_ (ih k2)
      cases d with
      | d x => exact k1
      | r n =>
        obtain ⟨a, a1, _⟩ := h1
        obtain ⟨b, b1, b2⟩ := k1
        exact ⟨b, by
          obtain ⟨t, rfl⟩ := p
          rw [List.getElem?_append_left (List.getElem?_eq_some_iff.mp a1).1] at b1
          exact b1, b2⟩
theorem RepWK.back {κ : Type} {vs us : List (κ × V)} {l : List (κ × W)} (h : RepWK K cl H0 m vs l) (h' : RepWK K cl H0' m' us l) (p : m <+: m') : RepWK K cl H0' m us l := by
  induction h generalizing us with
  | nil => cases h'; exact .nil
  | @cons k v d vs l h1 h2 ih =>
    cases h' with
    | cons k1 k2 =>
      refine .cons ?_ (ih k2)
      cases d with
      | d x => exact k1
      | r n =>
        obtain ⟨a, a1, _⟩ := h1
        obtain ⟨b, b1, b2⟩ := k1
        exact ⟨b, by
          obtain ⟨t, rfl⟩ := p
          rw [List.getElem?_append_left (List.getElem?_eq_some_iff.mp a1).1] at b1
          exact b1, b2⟩
theorem Stt.trunc (st1 : Stt K cl H0 H m s1) (g : GoE H0 H m H0' H' m') (st2 : Stt K cl H0' H' m' s2) (h : s2.take s1.length = s1) : Stt K cl H0' H' m s1 := by
  refine ⟨st2.sub, st1.len, st1.nd, fun n a c e1 e2 => ?_⟩
  have hn : n < s1.length := (List.getElem?_eq_some_iff.mp e2).1
  have e1' : m'[n]? = some a := by
    obtain ⟨t, rfl⟩ := g.pre
    rw [List.getElem?_append_left (List.getElem?_eq_some_iff.mp e1).1]; exact e1
  have e2' : s2[n]? = some c := by
    rw [← h, List.getElem?_take_of_lt hn] at e2; exact e2
  obtain ⟨q1, q2⟩ := st2.cell n a c e1' e2'
  obtain ⟨_, r2⟩ := st1.cell n a c e1 e2
  refine ⟨q1, ?_⟩
  cases c with
  | lst l =>
    obtain ⟨vs, x1, x2⟩ := q2
    obtain ⟨us, y1, y2⟩ := r2
    exact ⟨vs, x1, y2.back x2 g.pre⟩
  | dic l =>
    obtain ⟨vs, x1, x2⟩ := q2
    obtain ⟨us, y1, y2⟩ := r2
    exact ⟨vs, x1, y2.back x2 g.pre⟩
  | ins c l =>
    obtain ⟨C, dx, vs, x1, x2, x3⟩ := q2
    obtain ⟨_, _, us, y1, _, y2⟩ := r2
    exact ⟨C, dx, vs, x1, x2, y2.back x3 g.pre⟩
  | tup l =>
    obtain ⟨vs, x1, x2⟩ := q2
    obtain ⟨us, y1, y2⟩ := r2
    exact ⟨vs, x1, y2.back x2 g.pre⟩
theorem Go.trunc (g : GoE H0 H m H0' H' m') : GoE H0 H m H0' H' m := ⟨g.s0, List.prefix_rfl, g.fr, g.dom, g.n0, fun _ h => .inl h, fun _ h => by cases h⟩
end

noncomputable def allDataF : List (Str × W) → Option (List (Str × D))
  | [] => some []
  | (k, .d x) :: r => (allDataF r).map ((k, x) :: ·)
  | (_, .r _) :: _ => none
theorem RepWK.dataF {K : PySem.W.Frag} {cl : Str → Option Addr} {H0 : Hp} {m : List Addr} {vs : List (Str × V)} {l : List (Str × W)} {ds : List (Str × D)} (h : RepWK K cl H0 m vs l) (e : allDataF l = some ds) : RepF K cl H0 vs ds := by
  induction h generalizing ds with
  | nil => cases e; exact .nil
  | @cons k v d vs l h1 h2 ih =>
    cases d with
    | r n => cases e
    | d x =>
      unfold allDataF at e
      cases q : allDataF l with
      | none => rw [q] at e; cases e
      | some z => rw [q] at e; cases e; exact .cons h1 (ih q)
open Classical in
noncomputable def madeD (c : Str) (s1 : S) : Res RV → Res W
  | .ok (.w (.d .non)) s2 => (match s2[s1.length]? with
    | some (.ins c' l) => if c' = c ∧ s2.take s1.length = s1 then (match allDataF l with | some ds => .ok (.d (.ins c ds)) s1 | none => .no) else .no
    | _ => .no)
  | .ok _ _ => .no
  | .exc d x s2 => if s2.take s1.length = s1 then .exc d x s1 else .no
  | .no => .no
noncomputable def eMake (c : Str) (f : Sem1) (a : Cmp (List W)) : Cmp W := fun ρ s => (a ρ s).bind fun ws s1 => madeD c s1 (f (.r s1.length :: ws) (s1 ++ [.ins c []]))
noncomputable def madeC (s1 : S) : Res RV → Res W
  | .ok (.w (.d .non)) s2 => .ok (.r s1.length) s2
  | .ok _ _ => .no
  | .exc d x s2 => .exc d x s2
  | .no => .no
noncomputable def eMakeC (c : Str) (f : Sem1) (a : Cmp (List W)) : Cmp W := fun ρ s => (a ρ s).bind fun ws s1 => madeC s1 (f (.r s1.length :: ws) (s1 ++ [.ins c []]))
structure ClsAt (P : Program) (w : World) (K : PySem.W.Frag) (mg : Str → Option Value) (base : Heap) (cl : Str → Option Addr) (k : Nat) (c : Str) (ps : List Str) (f : Sem1) : Prop where
  ex : ∃ (C a : Addr) (fd : FuncData), cl c = some C ∧ mg c = some (.ref C) ∧ Mk K C a ∧ Binds K fd ps [] ∧ FnOk P w K mg base (L2.CX P w) k a fd ps (spOf K cl f)
theorem ClsAt.mono {P : Program} {w : World} {K : PySem.W.Frag} {mg : Str → Option Value} {base : Heap} {cl : Str → Option Addr} {j k : Nat} {c : Str} {ps : List Str} {f : Sem1} (F : ClsAt P w K mg base cl j c ps f) (h : j ≤ k) : ClsAt P w K mg base cl k c ps f := by
  obtain ⟨C, a, fd, h0, h1, h2, h3, h4⟩ := F.ex
  exact ⟨C, a, fd, h0, h1, h2, h3, h4.mono h⟩
section
variable {X : Cx} {cl : Str → Option Addr} {E : XK} {e : Expr} {es : List Expr} {pos p : Pos} {el : Cmp (List W)} {k : Nat} {c : Str} {ps : List Str} {f : Sem1}
theorem passE (ok : XOk X (wxE E)) : Passes (L2.CX X.prog X.w) X E := passes_call ok.tk fun _ _ _ _ h => h
theorem made_start {K : PySem.W.Frag} {H0 H : Hp} {m : List Addr} {s : S} {C x dx : Addr} (st : Stt K cl H0 H m s) (hC : cl c = some C) (hx : H x = none) (hdx : H dx = none) (hn : dx ≠ x) :
    Stt K cl H0 (upd (upd H dx (.own x)) x (.ins C dx [])) (m ++ [x]) (s ++ [.ins c []]) ∧ GoE H0 H m H0 (upd (upd H dx (.own x)) x (.ins C dx [])) (m ++ [x]) := by
  have hx' : (upd H dx (.own x)) x = none := by rw [upd_ne hn.symm]; exact hx
  have st' := (st.fresh (o := .own x) hdx).fresh (o := .ins C dx []) hx'
  exact ⟨st'.push (st.h0 hx) (st.notM hx) ⟨C, dx, [], upd_same, hC, .nil⟩, ((Go.fresh hdx).trans (Go.fresh hx')).push hx⟩
theorem je_make (ok : XOk X (wxE E)) (hr : Room (k + 1) X.A) (F : ClsAt X.prog X.w X.K X.mg X.base cl k c ps f) (ha : JA cl (wxE E) X (e :: es) el) (hg : Gl X c := by rfl)
    (h1 : (c == Str.ofString "__debug__") = false := by decide) (h2 : starEach (e :: es) X.env = (false, eval e X.env) :: starEach es X.env := by rfl) (h3 : ((backTo pos (starEach es X.env)).any fun x => x.fst) = false := by rfl) :
    JE cl (wxE E) X (.Call (.Name c p) (e :: es) [] pos) (eMake c f el) := by
  obtain ⟨C, a, fd, q0, q1, q2, q3, q4⟩ := F.ex
  refine PE.weaken (pe_make q2 q4 hr hg q1 q3 .nil (passE ok) ha h1 h2 h3) fun σ H Q ⟨H0, m, ow, s, ρ, cx, h⟩ => ⟨H0, m, ow, s, ρ, cx, RunE.bind h fun ws s1 vs H1 H1' m1 g st rr h4 x dx hx hdx hn => ?_⟩
  obtain ⟨st1, g1⟩ := made_start (c := c) st q0 hx hdx hn
  refine ⟨H1, m1 ++ [x], _, .r s1.length :: ws, st1, ?_, ?_⟩
  · rw [List.append_nil]
    exact .cons ⟨x, by rw [← st.len]; simp, rfl⟩ (rr.mono (Same.refl _) (List.prefix_append _ _))
  · cases e1 : f (.r s1.length :: ws) (s1 ++ [.ins c []]) with
    | no => rw [e1] at h4; exact h4
    | exc d z s2 =>
      rw [e1] at h4
      unfold madeD at h4
      dsimp only at h4
      split at h4
      · rename_i hs
        exact fun cv dd H0' H' m' g' st' r' => h4 cv dd H0' H' m1 (g1.trans g').trunc (st.trunc (g1.trans g') st' hs) r'
      · exact h4.elim
    | ok rv s2 =>
      rw [e1] at h4
      unfold madeD at h4
      intro v H0' H' m' g' st' r'
      split at h4
      · rename_i s3 e2
        cases e2
        have hv : v = .non := by cases r'; rfl
        subst hv
        refine ⟨rfl, ?_⟩
        split at h4
        · rename_i c' l e3
          split at h4
          · rename_i hc
            obtain ⟨rfl, ht⟩ := hc
            split at h4
            · rename_i ds e4
              have gg := g1.trans g'
              have hm' : m'[s1.length]? = some x := by
                obtain ⟨t, rfl⟩ := g'.pre
                rw [List.append_assoc, ← st.len, List.getElem?_append_right (Nat.le_refl _)]
                simp
              obtain ⟨z1, C', dx', fs, z2, z3, z4⟩ := st'.cell _ x _ hm' e3
              have stT := st.trunc gg st' ht
              have rF := z4.dataF e4
              refine h4 _ (upd H0' x (.ins C' dx' fs)) H' m1 (gg.trunc.freeze st hx) (stT.freeze z1 z2 (st.notM hx)) (Rep.ins upd_same z3 (rF.mono (same_upd z1)))
            · exact h4.elim
          · exact h4.elim
        · exact h4.elim
      · exact h4.elim
      · rename_i e2; cases e2
      · rename_i e2; cases e2
end
end TG

set_option Elab.async false
set_option linter.all false
set_option maxRecDepth 100000
set_option maxHeartbeats 2000000
namespace TG
open PySem L2 PyProof.Rows

section
variable {P : Program} {w : World} {K : PySem.W.Frag} {mg : Str → Option Value} {base : Heap} {cl : Str → Option Addr}
theorem fn_okD {x qual : Str} {params : Arguments} {body : List Stmt} {scope : Scope} {dvs : List V} {f : Addr} {fd : FuncData} {N ps : List Str} {k : Nat} {b : Stm} (F : FunD K x qual params body scope dvs [] f fd) (S : FnScope N ps scope)
    (h : ∀ (cdv : Value) (A : Around) (outer : List Env) (s : Shared) (H : Hp) (E : XK), Room k (A.deeper (envOfC qual scope s.heap.objs.size f cdv)) →
      XOk (cxOf (L2.CX P w) P w K mg base N qual scope f cdv A outer s H E) (wxE E) → JB cl (wxE E) (cxOf (L2.CX P w) P w K mg base N qual scope f cdv A outer s H E) body b) :
    FnOk P w K mg base (L2.CX P w) (k + 1) f fd ps (spOf K cl (runF ps.length N.length b)) := by
  have len : ∀ {vs : List V} {H : Hp} {Q : VK} {E : XK}, spOf K cl (runF ps.length N.length b) vs H Q E → vs.length = ps.length := fun {vs H Q E} ⟨H0, m, s, ws, _, r, q⟩ => by
    by_cases hl : ws.length = ps.length
    · rw [r.length, hl]
    · unfold runF at q
      rw [if_neg hl] at q
      exact q.elim
  refine F.ok S (fun vs H Q E h => len h) fun cdv A outer s H vs Q E hr hsp => ?_
  have hl := len hsp
  refine ⟨_, h cdv A outer s H E hr ⟨takes_of rfl rfl rfl rfl, passes_of rfl, S.nd⟩, ?_⟩
  obtain ⟨H0, m, s', ws, st', rw', q⟩ := hsp
  have hlw : ws.length = ps.length := by rw [← rw'.length]; exact hl
  unfold runF at q
  rw [if_pos hlw] at q
  refine ⟨H0, m, [], s', ws.map .w ++ List.replicate (N.length - ps.length) .no, ⟨st', ?_⟩, ?_⟩
  · show EnvR K cl H0 H m [] (vs.map some ++ List.replicate (N.length - vs.length) none) _
    rw [hl]
    exact rw'.slot _
  · have g0 : ∀ {H0' H' : Hp} {m' ow' : List Addr}, Go H0 H m [] H0' H' m' ow' → GoE H0 H m H0' H' m' := fun g => ⟨g.s0, g.pre, g.fr, g.dom, g.n0, g.nm, fun a z => by cases z⟩
    cases e1 : b (ws.map .w ++ List.replicate (N.length - ps.length) .no) s' with
    | nx ρ s2 => rw [e1] at q; exact fun σ' H0' H' m' ow' g c => q _ _ _ _ (g0 g) c.st Rep.non
    | ret v s2 => rw [e1] at q; exact fun u H0' H' m' ow' g st r => q u _ _ _ (g0 g) st r
    | exc c x ρ s2 => rw [e1] at q; exact fun cv dd σ' H0' H' m' ow' g c e => q _ _ _ _ _ (g0 g) c.st e
    | brk ρ s2 => rw [e1] at q; exact q.elim
    | cnt ρ s2 => rw [e1] at q; exact q.elim
    | no => rw [e1] at q; exact q.elim
theorem fund_mk {x qual : Str} {st : Stmt} {f T : Addr} {oc : Value} {od an : Option Addr} {osl : Array (Option Value)} {kV doc pm cdv ct : Value} {dvs : List V} {its : List Value} {cT : Value} {dT : Option Addr} {n : Nat} {sT : Array (Option Value)}
    (l : K.lookup f = some ⟨oc, od, .func (PySem.W.fnOf x qual (defArgs st) (defBody st) (defScope st) (.ref T) kV doc pm an cdv ct), osl⟩) (c : PySem.W.codeIn K cdv qual = true) (k : PySem.W.keepIn K (.ref f) = true)
    (lT : K.lookup T = some ⟨cT, dT, .seq its.toArray n, sT⟩) (ne : dvs ≠ []) (r : Vals dvs its) :
    FunD K x qual (defArgs st) (defBody st) (defScope st) dvs [] f (PySem.W.fnOf x qual (defArgs st) (defBody st) (defScope st) (.ref T) kV doc pm an cdv ct) :=
  ⟨⟨oc, od, .ref T, kV, doc, pm, an, cdv, ct, osl, rfl, l, c, .inr ⟨ne, T, _, its, n, rfl, lT, rfl, r⟩, .inl rfl⟩, k⟩
theorem bindsD {x qual : Str} {params : Arguments} {body : List Stmt} {scope : Scope} {dvs : List V} {f : Addr} {fd : FuncData} {ps : List Str} (F : FunD K x qual params body scope dvs [] f fd) (hd : dvs ≠ [])
    (h : ∀ (T : Addr) (kV doc pm : Value) (an : Option Addr) (cdv ct : Value) (us its : List Value), us.length = ps.length → its.length = dvs.length →
      ∃ k, bindArgs (PySem.W.fnOf x qual params body scope (.ref T) kV doc pm an cdv ct) ⟨us, []⟩ = seqItems? (.ref T) >>= k ∧ k (some its.toArray) = pure (ps.zip us)) : Binds K fd ps [] := by
  obtain ⟨ds, r, b⟩ := F.binds1 (ps := ps) ps.length dvs.length hd (by simp) fun T kV doc pm an cdv ct us its h1 h2 => by
    obtain ⟨k, e1, e2⟩ := h T kV doc pm an cdv ct us its h1 h2
    refine ⟨k, e1, ?_⟩
    rw [e2, ← h2, List.drop_length, List.append_nil]
  rw [List.drop_length] at r
  cases r
  exact b
noncomputable def spLaw (K : PySem.W.Frag) : Sp := fun vs H Q _ => ∃ (a : Addr) (ns : List Int), vs = [.ref a] ∧ SqL K H a (ns.map V.int) ∧ ns.length ≤ 63 ∧ ∀ H', Q (.bl true) H'
theorem law_ok {k : Nat} {f : Addr} {fd : FuncData} {ps : List Str} {g : Sem1} (F : FnOk P w K mg base (L2.CX P w) k f fd ps (spOf K cl g)) (h : ∀ ns : List Int, ns.length ≤ 63 → ∃ s', g [.d (.scr (ns.map D.int))] [] = .ok (.w (.d (.bl true))) s') :
    FnOk P w K mg base (L2.CX P w) k f fd ps (spLaw K) := F.imp fun vs H Q E ⟨a, ns, e, hS, hl, q⟩ => by
  subst e
  obtain ⟨s', e⟩ := h ns hl
  refine ⟨H, [], [], [.d (.scr (ns.map D.int))], ⟨Same.refl _, rfl, by simp, fun n a c h1 h2 => by simp at h1⟩, .cons (Rep.scr hS (Reps.ints ns)) .nil, ?_⟩
  rw [e]
  intro v H0' H' m' g st r
  cases r
  exact q H'
theorem cx_false {P : Program} {w : World} (H : Hp) (s : Shared) (e : Value) (s' : Shared) : L2.CX P w [] H s (fun _ _ _ => False) e s' → False := fun ⟨_, _, _, _, _, _, _, _, _, _, _, _, z⟩ => z
end
section
variable {X : Cx} {cl : Str → Option Addr} {Wx : WX} {a e elt tg iter : Expr} {ifs : List Expr} {es : List Expr} {pos p py spos : Pos} {ea ee : Cmp W} {el ec : Cmp (List W)} {et : Cmp Bool} {t : Tgt} {sl : List Nat} {own : List (Str × Nat)} {scope : Scope}
theorem je_globI' {x : Str} {i : Int} (hg : Gl X x) (hm : ∃ t, X.mg x = some (.int i t)) (hd : (x == ("__debug__" : Str)) = false := by decide) : JE cl Wx X (.Name x pos) (eC (.int i)) := by
  obtain ⟨t, h⟩ := hm
  exact je_globI hg h hd
theorem asg_lc {i : Nat} {E : Ends} {σ : L2.St} {H : Hp} {tt : TE} (h : Sof X.K cl Wx (sSetO i el) E σ H) (q : ∀ σ H Q, Tof X.K cl (rrL X.K cl) Wx el σ H Q → tt σ H Q) : tAsg tt (gName i) E σ H := q _ _ _ (asg_own rfl h)
theorem js_setLcO (i : Nat) {y : Str} (hc : X.calm = true) (nd : X.N.Nodup) (hN : X.N[i]? = some y) (hi : JI cl Wx X tg iter ec) (ok : BlkOk X.N X.env.scope scope own)
    (hg : ∀ (s : Shared) (H : Hp) (C : Addr) (cc : List (Str × Addr)) (fp : List Addr), JG cl (X.blk s H scope (compEnvC scope cc C X.env) fp) tg t sl)
    (ht : ∀ (s : Shared) (H : Hp) (C : Addr) (cc : List (Str × Addr)) (fp : List Addr), JTs cl (X.blk s H scope (compEnvC scope cc C X.env) fp) ifs et)
    (he : ∀ (s : Shared) (H : Hp) (C : Addr) (cc : List (Str × Addr)) (fp : List Addr), JE cl W0 (X.blk s H scope (compEnvC scope cc C X.env) fp) elt ee)
    (hl : List.lookup y X.env.scope.names = some NameKind.local := by rfl) (hw : swapsWith (.ListComp elt [⟨tg, iter, ifs, 0⟩] scope pos) (some (.Name y py)) spos.line X.env = pure true := by exact sw_true rfl rfl rfl (by decide +kernel))
    (hsub : ∀ j ∈ sl, j ∈ own.map (·.2) := by decide) (hs : ∀ x, foldedSetIterable iter X.env x = pure x := by exact fun _ => rfl) :
    JS cl Wx X (.Assign [.Name y py] (.ListComp elt [⟨tg, iter, ifs, 0⟩] scope pos) spos) (sSetO i (eLc (own.map (·.2)) ec t et ee)) :=
  PS.weaken (ps_setLc (g := Gof X.K cl t sl) (tt := Tof X.K cl rrB W0 et) (te := Tof X.K cl (rrW X.K cl) W0 ee) hc nd hN hl hw hi ok hg ht he hs) fun E σ H h => asg_lc h fun σ H Q q => lc_tof hsub σ H Q q
theorem js_setLc (i : Nat) {y : Str} (hc : X.calm = true) (nd : X.N.Nodup) (hN : X.N[i]? = some y) (hi : JI cl Wx X tg iter ec) (ok : BlkOk X.N X.env.scope scope own)
    (hg : ∀ (s : Shared) (H : Hp) (C : Addr) (cc : List (Str × Addr)) (fp : List Addr), JG cl (X.blk s H scope (compEnvC scope cc C X.env) fp) tg t sl)
    (ht : ∀ (s : Shared) (H : Hp) (C : Addr) (cc : List (Str × Addr)) (fp : List Addr), JTs cl (X.blk s H scope (compEnvC scope cc C X.env) fp) ifs et)
    (he : ∀ (s : Shared) (H : Hp) (C : Addr) (cc : List (Str × Addr)) (fp : List Addr), JE cl W0 (X.blk s H scope (compEnvC scope cc C X.env) fp) elt ee)
    (hl : List.lookup y X.env.scope.names = some NameKind.local := by rfl) (hw : swapsWith (.ListComp elt [⟨tg, iter, ifs, 0⟩] scope pos) (some (.Name y py)) spos.line X.env = pure true := by exact sw_true rfl rfl rfl (by decide +kernel))
    (hsub : ∀ j ∈ sl, j ∈ own.map (·.2) := by decide) (hs : ∀ x, foldedSetIterable iter X.env x = pure x := by exact fun _ => rfl) :
    JS cl Wx X (.Assign [.Name y py] (.ListComp elt [⟨tg, iter, ifs, 0⟩] scope pos) spos) (sSet i (eFrz (eLc (own.map (·.2)) ec t et ee))) :=
  PS.weaken (ps_setLc (g := Gof X.K cl t sl) (tt := Tof X.K cl rrB W0 et) (te := Tof X.K cl (rrW X.K cl) W0 ee) hc nd hN hl hw hi ok hg ht he hs) fun E σ H ⟨H0, m, ow, s, ρ, cx, h⟩ =>
    lc_tof hsub σ H _ (frz_tof ⟨H0, m, ow, s, ρ, cx, RunS.ofE cx h fun x s1 v H1 H1' m1 g c rr h2 => RunS.nxt h2 (c.setW rr i)⟩)
end
end TG

set_option linter.all false
set_option maxRecDepth 100000
namespace TG
open PySem L2
@[simp] theorem bind_ok {α β : Type} (a : α) (s : S) (k : α → S → Res β) : (Res.ok a s).bind k = k a s := (rfl)
@[simp] theorem ebS_ok {α : Type} (a : α) (s : S) (ρ : Rho) (k : α → Stm) : ebS (.ok a s) ρ k = k a ρ s := (rfl)
@[simp] theorem sbind_nx (ρ : Rho) (s : S) (k : Stm) : (RS.nx ρ s).bind k = k ρ s := (rfl)
@[simp] theorem sbind_ret (v : RV) (s : S) (k : Stm) : (RS.ret v s).bind k = .ret v s := (rfl)
@[simp] theorem sbind_exc (c : Str) (x : Option D) (ρ : Rho) (s : S) (k : Stm) : (RS.exc c x ρ s).bind k = .exc c x ρ s := (rfl)
@[simp] theorem forK_nx (k : Stm) (ρ : Rho) (s : S) : forK k (.nx ρ s) = k ρ s := (rfl)
section
noncomputable def kBin (f : W → W → S → Res W) (b : Cmp W) (ρ : Rho) : W → S → Res W := fun x s => (b ρ s).bind (f x)
noncomputable def kTest : W → S → Res Bool := fun x s => match asBool x with | some b => .ok b s | none => .no
noncomputable def kCons2 (x : W) : List W → S → Res (List W) := fun y s => .ok (x :: y) s
noncomputable def kCons (l : Cmp (List W)) (ρ : Rho) : W → S → Res (List W) := fun x s => (l ρ s).bind (kCons2 x)
noncomputable def kPart : W → S → Res (Option Int) := fun x s => match asInt x with | some i => .ok (some i) s | none => .no
noncomputable def kSl2 (f : W → Option Int → Option Int → S → Res W) (q : Cmp (Option Int)) (ρ : Rho) (x : W) : Option Int → S → Res W := fun i s => (q ρ s).bind (f x i)
noncomputable def kSl (f : W → Option Int → Option Int → S → Res W) (p q : Cmp (Option Int)) (ρ : Rho) : W → S → Res W := fun x s => (p ρ s).bind (kSl2 f q ρ x)
noncomputable def kAndT (u : Cmp Bool) (ρ : Rho) : Bool → S → Res Bool := fun x s => if x = true then u ρ s else .ok false s
noncomputable def kOrT (u : Cmp Bool) (ρ : Rho) : Bool → S → Res Bool := fun x s => if x = true then .ok true s else u ρ s
noncomputable def kNotT : Bool → S → Res Bool := fun x s => .ok (!x) s
noncomputable def kAndV (b : Cmp W) (ρ : Rho) : W → S → Res W := fun x s => match asBool x with | some true => b ρ s | some false => .ok (.d (.bl false)) s | none => .no
noncomputable def kNotV : W → S → Res W := fun x s => match asBool x with | some b => .ok (.d (.bl (!b))) s | none => .no
noncomputable def kIf (a b : Cmp W) (ρ : Rho) : Bool → S → Res W := fun x s => if x = true then a ρ s else b ρ s
noncomputable def kCh3 (g : W → W → S → Res W) (d : Cmp W) (ρ : Rho) (y : W) : W → S → Res W := fun z s => match asBool z with | some true => (d ρ s).bind (g y) | some false => .ok (.d (.bl false)) s | none => .no
noncomputable def kCh2 (f g : W → W → S → Res W) (d : Cmp W) (ρ : Rho) (x : W) : W → S → Res W := fun y s => (f x y s).bind (kCh3 g d ρ y)
noncomputable def kCh1 (f g : W → W → S → Res W) (b d : Cmp W) (ρ : Rho) : W → S → Res W := fun x s => (b ρ s).bind (kCh2 f g d ρ x)
noncomputable def kLst : List W → S → Res (List W) := fun z s => if z.length ≤ 16777216 then .ok z s else .no
noncomputable def kCell : List W → S → Res W := fun z s => .ok (.r s.length) (s ++ [.lst z])
noncomputable def kSeq : W → S → Res (List W) := fun x s => match seqD x with | some l => .ok (wD l) s | none => .no
noncomputable def kEnum : List W → S → Res (List W) := fun x s => match x with | [x] => (match seqD x with | some l => .ok (enumD l) s | none => .no) | _ => .no
noncomputable def kListOf : List W → S → Res (List W) := fun ws s => match ws with | [x] => fListOf x s | _ => .no
noncomputable def kLc (vs : List Nat) (tg : Tgt) (t : Cmp Bool) (a : Cmp W) (ρ : Rho) : List W → S → Res (List W) := fun z s => if z.length ≤ 16777216 then lcM tg t a (wipeR ρ vs) z s else .no
noncomputable def kCall (f : Sem1) : List W → S → Res W := fun ws s => (f ws s).bind frzV
noncomputable def kOwn : RV → S → Res (List W) := fun rv s => match rv with | .own l => .ok l s | _ => .no
noncomputable def kCallL (f : Sem1) : List W → S → Res (List W) := fun ws s => (f ws s).bind kOwn
noncomputable def kFld (c f : Str) : W → S → Res W := fun x s => match fldOf c f x s with | some w => .ok w s | none => .no
noncomputable def kMake (c : Str) (f : Sem1) : List W → S → Res W := fun ws s => madeD c s (f (.r s.length :: ws) (s ++ [.ins c []]))
noncomputable def kMakeC (c : Str) (f : Sem1) : List W → S → Res W := fun ws s => madeC s (f (.r s.length :: ws) (s ++ [.ins c []]))
noncomputable def kExpr : W → Stm := fun _ ρ s => .nx ρ s
noncomputable def kSet (i : Nat) : W → Stm := fun x ρ s => .nx (ρ.set i (.w x)) s
noncomputable def kSetO (i : Nat) : List W → Stm := fun x ρ s => .nx (ρ.set i (.own x)) s
noncomputable def kSIf (x y : Stm) : Bool → Stm := fun z ρ s => if z = true then x ρ s else y ρ s
noncomputable def kRet : W → Stm := fun x _ s => .ret (.w x) s
noncomputable def kRetL : List W → Stm := fun x _ s => .ret (.own x) s
noncomputable def kApp (i : Nat) (l : List W) : W → Stm := fun x ρ s => if l.length < 16777216 then .nx (ρ.set i (.own (l ++ [x]))) s else .no
noncomputable def kSetT (tg : Tgt) : W → Stm := fun x ρ s => match tg x ρ with | some ρ' => .nx ρ' s | none => .no
noncomputable def kSetI3 (x y : W) : W → Stm := fun z ρ s => match setL y z x s with | some s' => .nx ρ s' | none => .no
noncomputable def kSetI2 (b : Cmp W) (x : W) : W → Stm := fun y ρ s => ebS (b ρ s) ρ (kSetI3 x y)
noncomputable def kSetI (a b : Cmp W) : W → Stm := fun x ρ s => ebS (a ρ s) ρ (kSetI2 b x)
noncomputable def kSFld2 (c f : Str) (x : W) : W → Stm := fun y ρ s => match setF c f y x s with | some s' => .nx ρ s' | none => .no
noncomputable def kSFld (c f : Str) (a : Cmp W) : W → Stm := fun x ρ s => ebS (a ρ s) ρ (kSFld2 c f x)
@[simp] theorem kBin_eq (f : W → W → S → Res W) (b : Cmp W) (ρ : Rho) (x : W) (s : S) : kBin f b ρ x s = (b ρ s).bind (f x) := (rfl)
@[simp] theorem kTest_eq (x : W) (s : S) : kTest x s = match asBool x with | some b => .ok b s | none => .no := (rfl)
@[simp] theorem kCons2_eq (x : W) (y : List W) (s : S) : kCons2 x y s = .ok (x :: y) s := (rfl)
@[simp] theorem kCons_eq (l : Cmp (List W)) (ρ : Rho) (x : W) (s : S) : kCons l ρ x s = (l ρ s).bind (kCons2 x) := (rfl)
@[simp] theorem kPart_eq (x : W) (s : S) : kPart x s = match asInt x with | some i => .ok (some i) s | none => .no := (rfl)
@[simp] theorem kSl2_eq (f : W → Option Int → Option Int → S → Res W) (q : Cmp (Option Int)) (ρ : Rho) (x : W) (i : Option Int) (s : S) : kSl2 f q ρ x i s = (q ρ s).bind (f x i) := (rfl)
@[simp] theorem kSl_eq (f : W → Option Int → Option Int → S → Res W) (p q : Cmp (Option Int)) (ρ : Rho) (x : W) (s : S) : kSl f p q ρ x s = (p ρ s).bind (kSl2 f q ρ x) := (rfl)
@[simp] theorem kAndT_eq (u : Cmp Bool) (ρ : Rho) (x : Bool) (s : S) : kAndT u ρ x s = if x = true then u ρ s else .ok false s := (rfl)
@[simp] theorem kOrT_eq (u : Cmp Bool) (ρ : Rho) (x : Bool) (s : S) : kOrT u ρ x s = if x = true then .ok true s else u ρ s := (rfl)
@[simp] theorem kNotT_eq (x : Bool) (s : S) : kNotT x s = .ok (!x) s := (rfl)
@[simp] theorem kAndV_eq (b : Cmp W) (ρ : Rho) (x : W) (s : S) : kAndV b ρ x s = match asBool x with | some true => b ρ s | some false => .ok (.d (.bl false)) s | none => .no := (rfl)
@[simp] theorem kNotV_eq (x : W) (s : S) : kNotV x s = match asBool x with | some b => .ok (.d (.bl (!b))) s | none => .no := (rfl)
@[simp] theorem kIf_eq (a b : Cmp W) (ρ : Rho) (x : Bool) (s : S) : kIf a b ρ x s = if x = true then a ρ s else b ρ s := (rfl)
@[simp] theorem kCh3_eq (g : W → W → S → Res W) (d : Cmp W) (ρ : Rho) (y : W) (z : W) (s : S) : kCh3 g d ρ y z s = match asBool z with | some true => (d ρ s).bind (g y) | some false => .ok (.d (.bl false)) s | none => .no := (rfl)
@[simp] theorem kCh2_eq (f g : W → W → S → Res W) (d : Cmp W) (ρ : Rho) (x : W) (y : W) (s : S) : kCh2 f g d ρ x y s = (f x y s).bind (kCh3 g d ρ y) := (rfl)
@[simp] theorem kCh1_eq (f g : W → W → S → Res W) (b d : Cmp W) (ρ : Rho) (x : W) (s : S) : kCh1 f g b d ρ x s = (b ρ s).bind (kCh2 f g d ρ x) := (rfl)
@[simp] theorem kLst_eq (z : List W) (s : S) : kLst z s = if z.length ≤ 16777216 then .ok z s else .no := (rfl)
@[simp] theorem kCell_eq (z : List W) (s : S) : kCell z s = .ok (.r s.length) (s ++ [.lst z]) := (rfl)
@[simp] theorem kSeq_eq (x : W) (s : S) : kSeq x s = match seqD x with | some l => .ok (wD l) s | none => .no := (rfl)
@[simp] theorem kEnum_eq (x : List W) (s : S) : kEnum x s = match x with | [x] => (match seqD x with | some l => .ok (enumD l) s | none => .no) | _ => .no := (rfl)
@[simp] theorem kListOf_eq (ws : List W) (s : S) : kListOf ws s = match ws with | [x] => fListOf x s | _ => .no := (rfl)
@[simp] theorem kLc_eq (vs : List Nat) (tg : Tgt) (t : Cmp Bool) (a : Cmp W) (ρ : Rho) (z : List W) (s : S) : kLc vs tg t a ρ z s = if z.length ≤ 16777216 then lcM tg t a (wipeR ρ vs) z s else .no := (rfl)
@[simp] theorem kCall_eq (f : Sem1) (ws : List W) (s : S) : kCall f ws s = (f ws s).bind frzV := (rfl)
@[simp] theorem kOwn_eq (rv : RV) (s : S) : kOwn rv s = match rv with | .own l => .ok l s | _ => .no := (rfl)
@[simp] theorem kCallL_eq (f : Sem1) (ws : List W) (s : S) : kCallL f ws s = (f ws s).bind kOwn := (rfl)
@[simp] theorem kFld_eq (c f : Str) (x : W) (s : S) : kFld c f x s = match fldOf c f x s with | some w => .ok w s | none => .no := (rfl)
@[simp] theorem kMake_eq (c : Str) (f : Sem1) (ws : List W) (s : S) : kMake c f ws s = madeD c s (f (.r s.length :: ws) (s ++ [.ins c []])) := (rfl)
@[simp] theorem kMakeC_eq (c : Str) (f : Sem1) (ws : List W) (s : S) : kMakeC c f ws s = madeC s (f (.r s.length :: ws) (s ++ [.ins c []])) := (rfl)
@[simp] theorem kExpr_eq (u_0 : W) (ρ : Rho) (s : S) : kExpr u_0 ρ s = .nx ρ s := (rfl)
@[simp] theorem kSet_eq (i : Nat) (x : W) (ρ : Rho) (s : S) : kSet i x ρ s = .nx (ρ.set i (.w x)) s := (rfl)
@[simp] theorem kSetO_eq (i : Nat) (x : List W) (ρ : Rho) (s : S) : kSetO i x ρ s = .nx (ρ.set i (.own x)) s := (rfl)
@[simp] theorem kSIf_eq (x y : Stm) (z : Bool) (ρ : Rho) (s : S) : kSIf x y z ρ s = if z = true then x ρ s else y ρ s := (rfl)
@[simp] theorem kRet_eq (x : W) (u_1 : Rho) (s : S) : kRet x u_1 s = .ret (.w x) s := (rfl)
@[simp] theorem kRetL_eq (x : List W) (u_1 : Rho) (s : S) : kRetL x u_1 s = .ret (.own x) s := (rfl)
@[simp] theorem kApp_eq (i : Nat) (l : List W) (x : W) (ρ : Rho) (s : S) : kApp i l x ρ s = if l.length < 16777216 then .nx (ρ.set i (.own (l ++ [x]))) s else .no := (rfl)
@[simp] theorem kSetT_eq (tg : Tgt) (x : W) (ρ : Rho) (s : S) : kSetT tg x ρ s = match tg x ρ with | some ρ' => .nx ρ' s | none => .no := (rfl)
@[simp] theorem kSetI3_eq (x y : W) (z : W) (ρ : Rho) (s : S) : kSetI3 x y z ρ s = match setL y z x s with | some s' => .nx ρ s' | none => .no := (rfl)
@[simp] theorem kSetI2_eq (b : Cmp W) (x : W) (y : W) (ρ : Rho) (s : S) : kSetI2 b x y ρ s = ebS (b ρ s) ρ (kSetI3 x y) := (rfl)
@[simp] theorem kSetI_eq (a b : Cmp W) (x : W) (ρ : Rho) (s : S) : kSetI a b x ρ s = ebS (a ρ s) ρ (kSetI2 b x) := (rfl)
@[simp] theorem kSFld2_eq (c f : Str) (x : W) (y : W) (ρ : Rho) (s : S) : kSFld2 c f x y ρ s = match setF c f y x s with | some s' => .nx ρ s' | none => .no := (rfl)
@[simp] theorem kSFld_eq (c f : Str) (a : Cmp W) (x : W) (ρ : Rho) (s : S) : kSFld c f a x ρ s = ebS (a ρ s) ρ (kSFld2 c f x) := (rfl)
end
section
variable (ρ : Rho) (s : S) (a b d : Cmp W) (t u : Cmp Bool) (l : Cmp (List W)) (p q : Cmp (Option Int)) (x y : Stm)
@[simp] theorem eC_eq (v : D) : eC v ρ s = .ok (.d v) s := (rfl)
@[simp] theorem eVar_eq (i : Nat) : eVar i ρ s = match (ρ[i]? : Option EV) with | some (.w x) => .ok x s | _ => .no := (rfl)
@[simp] theorem eBin_eq (f : W → W → S → Res W) : eBin f a b ρ s = (a ρ s).bind (kBin f b ρ) := (rfl)
@[simp] theorem eUn_eq (f : W → S → Res W) : eUn f a ρ s = (a ρ s).bind f := (rfl)
@[simp] theorem eTest_eq : eTest a ρ s = (a ρ s).bind kTest := (rfl)
@[simp] theorem eNil_eq : eNil ρ s = .ok [] s := (rfl)
@[simp] theorem eCons_eq : eCons a l ρ s = (a ρ s).bind (kCons l ρ) := (rfl)
@[simp] theorem eArgs_eq (f : List W → S → Res W) : eArgs f l ρ s = (l ρ s).bind f := (rfl)
@[simp] theorem eNoPart_eq : eNoPart ρ s = .ok none s := (rfl)
@[simp] theorem ePart_eq : ePart a ρ s = (a ρ s).bind kPart := (rfl)
@[simp] theorem eSl_eq (f : W → Option Int → Option Int → S → Res W) : eSl f a p q ρ s = (a ρ s).bind (kSl f p q ρ) := (rfl)
@[simp] theorem eAndT_eq : eAndT t u ρ s = (t ρ s).bind (kAndT u ρ) := (rfl)
@[simp] theorem eOrT_eq : eOrT t u ρ s = (t ρ s).bind (kOrT u ρ) := (rfl)
@[simp] theorem eNotT_eq : eNotT t ρ s = (t ρ s).bind kNotT := (rfl)
@[simp] theorem eAndV_eq : eAndV a b ρ s = (a ρ s).bind (kAndV b ρ) := (rfl)
@[simp] theorem eNotV_eq : eNotV a ρ s = (a ρ s).bind kNotV := (rfl)
@[simp] theorem eIf_eq : eIf t a b ρ s = (t ρ s).bind (kIf a b ρ) := (rfl)
@[simp] theorem eChain_eq (f g : W → W → S → Res W) : eChain f g a b d ρ s = (a ρ s).bind (kCh1 f g b d ρ) := (rfl)
@[simp] theorem eTup_eq : eTup l ρ s = (l ρ s).bind mkTup := (rfl)
@[simp] theorem eLst_eq : eLst l ρ s = (l ρ s).bind kLst := (rfl)
@[simp] theorem eFrz_eq (l : Cmp (List W)) : eFrz l ρ s = (l ρ s).bind frzL := (rfl)
@[simp] theorem eCell_eq (l : Cmp (List W)) : eCell l ρ s = (l ρ s).bind kCell := (rfl)
@[simp] theorem eSeq_eq : eSeq a ρ s = (a ρ s).bind kSeq := (rfl)
@[simp] theorem eRng1_eq : eRng1 l ρ s = (l ρ s).bind rng1 := (rfl)
@[simp] theorem eEnum_eq : eEnum l ρ s = (l ρ s).bind kEnum := (rfl)
@[simp] theorem eListOf_eq : eListOf l ρ s = (l ρ s).bind kListOf := (rfl)
@[simp] theorem eLc_eq (vs : List Nat) (tg : Tgt) : eLc vs l tg t a ρ s = (l ρ s).bind (kLc vs tg t a ρ) := (rfl)
@[simp] theorem eCall_eq (f : Sem1) : eCall f l ρ s = (l ρ s).bind (kCall f) := (rfl)
@[simp] theorem eCallL_eq (f : Sem1) : eCallL f l ρ s = (l ρ s).bind (kCallL f) := (rfl)
@[simp] theorem eFld_eq (c f : Str) : eFld c f a ρ s = (a ρ s).bind (kFld c f) := (rfl)
@[simp] theorem eMake_eq (c : Str) (f : Sem1) : eMake c f l ρ s = (l ρ s).bind (kMake c f) := (rfl)
@[simp] theorem eMakeC_eq (c : Str) (f : Sem1) : eMakeC c f l ρ s = (l ρ s).bind (kMakeC c f) := (rfl)
@[simp] theorem sNext_eq : sNext ρ s = .nx ρ s := (rfl)
@[simp] theorem sSeq_eq : sSeq x y ρ s = (x ρ s).bind y := (rfl)
@[simp] theorem sExpr_eq : sExpr a ρ s = ebS (a ρ s) ρ kExpr := (rfl)
@[simp] theorem sSet_eq (i : Nat) : sSet i a ρ s = ebS (a ρ s) ρ (kSet i) := (rfl)
@[simp] theorem sSetO_eq (i : Nat) : sSetO i l ρ s = ebS (l ρ s) ρ (kSetO i) := (rfl)
@[simp] theorem sIf_eq : sIf t x y ρ s = ebS (t ρ s) ρ (kSIf x y) := (rfl)
@[simp] theorem sRet_eq : sRet a ρ s = ebS (a ρ s) ρ kRet := (rfl)
@[simp] theorem sRetL_eq : sRetL l ρ s = ebS (l ρ s) ρ kRetL := (rfl)
@[simp] theorem sRetO_eq (i : Nat) : sRetO i ρ s = match (ρ[i]? : Option EV) with | some (.own l) => .ret (.own l) s | some (.ownD l) => .ret (.ownD l) s | _ => .no := (rfl)
@[simp] theorem sApp_eq (i : Nat) : sApp i a ρ s = match (ρ[i]? : Option EV) with | some (.own l) => ebS (a ρ s) ρ (kApp i l) | _ => .no := (rfl)
@[simp] theorem sFrz_eq (i : Nat) : sFrz i x ρ s = match (ρ[i]? : Option EV) with | some (.own l) => (match allData l with | some ds => x (ρ.set i (.w (.d (.lst ds)))) s | none => .no) | _ => .no := (rfl)
@[simp] theorem sSetT_eq (tg : Tgt) : sSetT tg a ρ s = ebS (a ρ s) ρ (kSetT tg) := (rfl)
@[simp] theorem sFor_eq (tg : Tgt) : sFor l tg x ρ s = ebS (l ρ s) ρ (forE tg x) := (rfl)
@[simp] theorem sSetI_eq : sSetI a b d ρ s = ebS (d ρ s) ρ (kSetI a b) := (rfl)
@[simp] theorem sFld_eq (c f : Str) : sFld c f a b ρ s = ebS (b ρ s) ρ (kSFld c f a) := (rfl)
@[simp] theorem tgName_eq (i : Nat) (w : W) : tgName i w ρ = some (ρ.set i (.w w)) := (rfl)
@[simp] theorem tgTup_eq (n : Nat) (u : List W → Rho → Option Rho) (w : W) : tgTup n u w ρ = match asTup w with | some l => if l.length = n then u (wD l) ρ else none | none => none := (rfl)
@[simp] theorem tgNil_eq : tgNil [] ρ = some ρ := (rfl)
@[simp] theorem tgCons_eq (t : Tgt) (u : List W → Rho → Option Rho) (w : W) (r : List W) : tgCons t u (w :: r) ρ = (t w ρ).bind (u r) := (rfl)
theorem forE_cons (tg : Tgt) (w : W) (r : List W) : forE tg x (w :: r) ρ s = match tg w ρ with | none => .no | some ρ1 => forK (forE tg x r) (x ρ1 s) := (rfl)
end
@[simp] theorem asInt_int (i : Int) : asInt (.d (.int i)) = some i := (rfl)
@[simp] theorem asInt_str (l : Str) : asInt (.d (.str l)) = none := (rfl)
@[simp] theorem asBool_bl (i : Bool) : asBool (.d (.bl i)) = some i := (rfl)
@[simp] theorem asTup_tup (l : List D) : asTup (.d (.tup l)) = some l := (rfl)
@[simp] theorem asLst_lst (l : List D) (s : S) : asLst (.d (.lst l)) s = some (wD l) := (rfl)
@[simp] theorem asLst_r (n : Nat) (s : S) : asLst (.r n) s = match s[n]? with | some (.lst l) => some l | _ => none := (rfl)
@[simp] theorem asSeq_tup (l : List D) (s : S) : asSeq (.d (.tup l)) s = some (wD l) := (rfl)
@[simp] theorem asSeq_lst (l : List D) (s : S) : asSeq (.d (.lst l)) s = some (wD l) := (rfl)
@[simp] theorem asSeq_r (n : Nat) (s : S) : asSeq (.r n) s = match s[n]? with | some (.lst l) => some l | some (.tup l) => some l | _ => none := by
  show (match (match s[n]? with | some (.lst l) => some l | _ => none) with | some l => some l | none => (match s[n]? with | some (.tup l) => some l | _ => none)) = _
  cases s[n]? with
  | none => rfl
  | some c => cases c <;> rfl
@[simp] theorem seqD_lst (l : List D) : seqD (.d (.lst l)) = some l := (rfl)
@[simp] theorem seqD_tup (l : List D) : seqD (.d (.tup l)) = some l := (rfl)
@[simp] theorem allData_nil : allData [] = some [] := (rfl)
@[simp] theorem allData_d (x : D) (r : List W) : allData (.d x :: r) = (allData r).map (x :: ·) := (rfl)
@[simp] theorem allData_w (l : List D) : allData (wD l) = some l := allData_wD l
@[simp] theorem wD_nil : wD [] = [] := (rfl)
@[simp] theorem wD_cons (x : D) (l : List D) : wD (x :: l) = .d x :: wD l := (rfl)
@[simp] theorem wD_len (l : List D) : (wD l).length = l.length := by simp [wD]
@[simp] theorem frzL_w (l : List D) (s : S) : frzL (wD l) s = .ok (.d (.lst l)) s := by unfold frzL; rw [allData_wD]
theorem frzL_eq (l : List W) (s : S) : frzL l s = match allData l with | some ds => .ok (.d (.lst ds)) s | none => .no := (rfl)
@[simp] theorem frzL_cons (x : D) (l : List W) (s : S) : frzL (.d x :: l) s = match allData (.d x :: l) with | some ds => .ok (.d (.lst ds)) s | none => .no := (rfl)
@[simp] theorem frzV_w (x : W) (s : S) : frzV (.w x) s = .ok x s := (rfl)
@[simp] theorem frzV_own (l : List W) (s : S) : frzV (.own l) s = frzL l s := (rfl)
@[simp] theorem mkTup_eq (l : List W) (s : S) : mkTup l s = match allData l with | some ds => if ds.length ≤ 16777216 then .ok (.d (.tup ds)) s else .no | none => .no := (rfl)
@[simp] theorem fAdd_int (i j : Int) (s : S) : fAdd (.d (.int i)) (.d (.int j)) s = .ok (.d (.int (i + j))) s := (rfl)
@[simp] theorem fSub_int (i j : Int) (s : S) : fSub (.d (.int i)) (.d (.int j)) s = .ok (.d (.int (i - j))) s := (rfl)
@[simp] theorem fAdd_tup (i j : List D) (s : S) : fAdd (.d (.tup i)) (.d (.tup j)) s = if i.length + j.length ≤ 16777216 then .ok (.d (.tup (i ++ j))) s else .no := (rfl)
@[simp] theorem fMul_int (i j : Int) (s : S) : fMul (.d (.int i)) (.d (.int j)) s = if kMul i j = true then .ok (.d (.int (i * j))) s else .no := (rfl)
@[simp] theorem fMod_int (i j : Int) (s : S) : fMod (.d (.int i)) (.d (.int j)) s = if kMod i j = true then .ok (.d (.int (i.fmod j))) s else .no := (rfl)
@[simp] theorem fDiv_int (i j : Int) (s : S) : fDiv (.d (.int i)) (.d (.int j)) s = if kDiv i j = true then .ok (.d (.int (i.fdiv j))) s else .no := (rfl)
@[simp] theorem fPow_int (i j : Int) (s : S) : fPow (.d (.int i)) (.d (.int j)) s = if kPow i j = true then .ok (.d (.int (i ^ j.toNat))) s else .no := (rfl)
@[simp] theorem fLt_int (i j : Int) (s : S) : fLt (.d (.int i)) (.d (.int j)) s = .ok (.d (.bl (decide (i < j)))) s := (rfl)
@[simp] theorem fLe_int (i j : Int) (s : S) : fLe (.d (.int i)) (.d (.int j)) s = .ok (.d (.bl (decide (i ≤ j)))) s := (rfl)
@[simp] theorem fGt_int (i j : Int) (s : S) : fGt (.d (.int i)) (.d (.int j)) s = .ok (.d (.bl (decide (j < i)))) s := (rfl)
@[simp] theorem fGe_int (i j : Int) (s : S) : fGe (.d (.int i)) (.d (.int j)) s = .ok (.d (.bl (decide (j ≤ i)))) s := (rfl)
@[simp] theorem fNeg_int (i : Int) (s : S) : fNeg (.d (.int i)) s = .ok (.d (.int (-i))) s := (rfl)
@[simp] theorem fEq_int (neg : Bool) (i j : Int) (s : S) : fEq neg (.d (.int i)) (.d (.int j)) s = .ok (.d (.bl (if neg then !(i == j) else i == j))) s := by
  simp [fEq, asData, eqD, D.py, SeqAt.shaped, PyData.canLay0, PyData.depth, PyData.eqv]
@[simp] theorem fIx_eq (x y : W) (s : S) : fIx x y s = match asSeq x s, asInt y with
  | some l, some k => (match atI l k with | some w => .ok w s | none => .no)
  | _, _ => match asStr x, asInt y with
    | some z, some k => if z.length ≤ 16777216 then (match atI z.cps.toList k with | some c => .ok (.d (.str ⟨#[c]⟩)) s | none => .no) else .no
    | _, _ => match asDic x s, y with
      | some kvs, .d a => (match keyD a with | some k => (match getK kvs k with | some w => .ok w s | none => .no) | none => .no)
      | _, _ => .no := (rfl)
@[simp] theorem c1_eq (f : W → S → Res W) (x : W) (s : S) : c1 f [x] s = f x s := (rfl)
@[simp] theorem c2_eq (f : W → W → S → Res W) (x y : W) (s : S) : c2 f [x, y] s = f x y s := (rfl)
@[simp] theorem fLen_eq (x : W) (s : S) : fLen x s = match asSeq x s with | some l => .ok (.d (.int l.length)) s | none => match asStr x with | some z => if z.length ≤ 16777216 then .ok (.d (.int z.length)) s else .no | none => .no := (rfl)
@[simp] theorem fAbs_int (i : Int) (s : S) : fAbs (.d (.int i)) s = .ok (.d (.int (if i < 0 then -i else i))) s := (rfl)
@[simp] theorem fMin2_int (i j : Int) (s : S) : fMin2 (.d (.int i)) (.d (.int j)) s = .ok (.d (.int (if j < i then j else i))) s := (rfl)
@[simp] theorem fInt_bl (i : Bool) (s : S) : fInt (.d (.bl i)) s = .ok (.d (.int (if i = true then 1 else 0))) s := (rfl)
@[simp] theorem fTuple_lst (l : List D) (s : S) : fTuple (.d (.lst l)) s = .ok (.d (.tup l)) s := by
  show (match (asLst (.d (.lst l)) s).bind allData with | some ds => Res.ok (W.d (.tup ds)) s | none => .no) = _
  rw [asLst_lst, Option.bind_some, allData_wD]
@[simp] theorem fSl_tup (l : List D) (i j : Option Int) (s : S) : fSl (.d (.tup l)) i j s = .ok (.d (.tup (cut l i j))) s := (rfl)
@[simp] theorem fSl_scr (l : List D) (i j : Option Int) (s : S) : fSl (.d (.scr l)) i j s = .ok (.d (.lst (cut l i j))) s := (rfl)
@[simp] theorem fListOf_eq (x : W) (s : S) : fListOf x s = match asSeq x s with | some l => .ok l s | none => .no := (rfl)
@[simp] theorem fAll_bls (l : List Bool) (s : S) : fAll (.d (.lst (l.map D.bl))) s = .ok (.d (.bl (l.all id))) s := by
  show (match (asLst (.d (.lst (l.map D.bl))) s).bind allBools with | some l => Res.ok (W.d (.bl (l.all id))) s | none => .no) = _
  rw [asLst_lst, Option.bind_some, allBools_wD]
@[simp] theorem asIntsL_ints (l : List Int) (s : S) : asIntsL (.d (.lst (l.map D.int))) s = some l := by
  unfold asIntsL; rw [asLst_lst, Option.bind_some, allInts_wD]
@[simp] theorem fMaxL_ints (l : List Int) (s : S) : fMaxL (.d (.lst (l.map D.int))) s = match l.max? with | some i => .ok (.d (.int i)) s | none => .no := by unfold fMaxL; rw [asIntsL_ints] <;> rfl
@[simp] theorem setL_eq (n : Nat) (i : Int) (v : W) (s : S) : setL (.r n) (.d (.int i)) v s = match s[n]? with | some (.lst l) => (ixN l.length i).map fun j => s.set n (.lst (l.set j v)) | _ => none := (rfl)
@[simp] theorem rng1_eq (n : Int) (s : S) : rng1 [.d (.int n)] s = if n < 1000000000 ∧ -1000000000 < n then .ok ((List.range n.toNat).map fun i : Nat => W.d (.int (i : Int))) s else .no := (rfl)
theorem kMod_ne {i j : Int} (h : j ≠ 0) : kMod i j = true := decide_eq_true h
theorem kDiv_ok {i j : Int} (h : j ≠ 0) (h' : j.natAbs < 1073741824) : kDiv i j = true := decide_eq_true ⟨h, h'⟩
theorem kMul_r {i j : Int} (h : j.natAbs < 18446744073709551616) : kMul i j = true := decide_eq_true (.inr h)
theorem atI_nat {α : Type} (l : List α) (i : Int) (h0 : 0 ≤ i) (h : i < l.length) : atI l i = l[i.toNat]? := by
  unfold atI ixN
  rw [if_pos h0, if_pos h]
  rfl
@[simp] theorem ixN_nat (n : Nat) (i : Nat) : ixN n (i : Int) = if i < n then some i else none := by
  unfold ixN
  rw [if_pos (Int.natCast_nonneg i)]
  by_cases h : i < n
  · rw [if_pos h, if_pos (Int.ofNat_lt.mpr h)]; rfl
  · rw [if_neg h, if_neg (fun z => h (Int.ofNat_lt.mp z))]
@[simp] theorem ixN_1 (n : Nat) : ixN n 1 = if 1 < n then some 1 else none := ixN_nat n 1
@[simp] theorem ixN_2 (n : Nat) : ixN n 2 = if 2 < n then some 2 else none := ixN_nat n 2
@[simp] theorem ixN_3 (n : Nat) : ixN n 3 = if 3 < n then some 3 else none := ixN_nat n 3
@[simp] theorem atI_nat' {α : Type} (l : List α) (i : Nat) : atI l (i : Int) = l[i]? := by
  unfold atI; rw [ixN_nat]; by_cases h : i < l.length
  · rw [if_pos h]; rfl
  · rw [if_neg h]; rw [List.getElem?_eq_none (by omega)]; rfl
@[simp] theorem atI_0 {α : Type} (l : List α) : atI l 0 = l[0]? := atI_nat' l 0
@[simp] theorem atI_1 {α : Type} (l : List α) : atI l 1 = l[1]? := atI_nat' l 1
@[simp] theorem atI_2 {α : Type} (l : List α) : atI l 2 = l[2]? := atI_nat' l 2
@[simp] theorem atI_3 {α : Type} (l : List α) : atI l 3 = l[3]? := atI_nat' l 3
end TG

set_option Elab.async false
set_option linter.all false
set_option maxRecDepth 100000
set_option maxHeartbeats 2000000
namespace TG
open PySem L2 PyProof.Rows

theorem PK.weaken {X : Cx} {e : List Keyword} {t t' : TA} (h : PK X e t) (w : ∀ σ H Q, t' σ H Q → t σ H Q) : PK X e t' := ⟨fun pos pins s σ H Q I q => h.run pos pins s σ H Q I (w σ H Q q)⟩
inductive Pk where
  | p (i : Nat) | k (j : Nat) | c (i : Nat)
noncomputable def Pk.get {α : Type} (d : α) (ds us ws : List α) : Pk → α
  | .p i => us.getD i d
  | .k j => ws.getD j d
  | .c i => ds.getD i d
noncomputable def pkV (l : List Pk) (ds us ws : List V) : List V := l.map (Pk.get .non ds us ws)
noncomputable def pkU (l : List Pk) (ds us ws : List Value) : List Value := l.map (Pk.get .none ds us ws)
section
variable {K : PySem.W.Frag} {cl : Str → Option Addr} {H : Hp} {m : List Addr}
end
structure FnAtK (P : Program) (w : World) (K : PySem.W.Frag) (mg : Str → Option Value) (base : Heap) (cl : Str → Option Addr) (k : Nat) (x : Str) (ps : List Str) (f : Sem1) (n : Nat) (ks : List Str) (pk : List Pk) (ds : List Int) : Prop where
  ex : ∃ (a : Addr) (fd : FuncData) (its : List Value), mg x = some (.ref a) ∧ PySem.W.keepIn K (.ref a) = true ∧ KBn K fd ps n ks (fun us ws => pkU pk its us ws) (fun vs zs => pkV pk (ds.map V.int) vs zs) ∧ FnOk P w K mg base (L2.CX P w) k a fd ps (spOf K cl f)
theorem FnAtK.mono {P : Program} {w : World} {K : PySem.W.Frag} {mg : Str → Option Value} {base : Heap} {cl : Str → Option Addr} {j k : Nat} {x : Str} {ps : List Str} {f : Sem1} {n : Nat} {ks : List Str} {pk : List Pk} {ds : List Int} (F : FnAtK P w K mg base cl j x ps f n ks pk ds) (h : j ≤ k) : FnAtK P w K mg base cl k x ps f n ks pk ds := by
  obtain ⟨a, fd, its, h1, h2, h3, h4⟩ := F.ex
  exact ⟨a, fd, its, h1, h2, h3, h4.mono h⟩
section
variable {K : PySem.W.Frag} {x qual : Str} {params : Arguments} {body : List Stmt} {scope : Scope} {f : Addr} {fd : FuncData} {ps : List Str}
end
section
variable {X : Cx} {k : Nat} {a : Addr} {fd : FuncData} {ps ks : List Str} {sp : Sp} {E : XK} {x : Str} {p pos : Pos} {kws : List Keyword} {tk : TA} {g : List Value → List Value → List Value} {gV : List V → List V → List V}
end
section
variable {X : Cx} {cl : Str → Option Addr} {Wx : WX} {e : Expr} {es : List Expr} {nm : Option Str} {kpos pos p : Pos} {ea : Cmp W} {el ek : Cmp (List W)} {k n : Nat} {x : Str} {ps ks : List Str} {f : Sem1} {kws : List Keyword} {pk : List Pk} {ds : List Int}
end
end TG

set_option Elab.async false
set_option linter.all false
set_option maxRecDepth 100000
set_option maxHeartbeats 2000000
namespace TG
open PySem L2 PyProof.Rows

noncomputable def tyD : D → Option String
  | .non => some "NoneType" | .bl _ => some "bool" | .int _ => some "int" | .str _ => some "str" | .tup _ => some "tuple" | .lst _ => some "list" | .dic _ => some "dict" | _ => none
noncomputable def tyW : W → S → Option String
  | .d x, _ => tyD x
  | .r n, s => match s[n]? with | some (.lst _) => some "list" | some (.dic _) => some "dict" | some (.tup _) => some "tuple" | _ => none
theorem tyW_ok {K : PySem.W.Frag} {cl : Str → Option Addr} {H0 H : Hp} {m : List Addr} {s : S} {v : V} {w : W} {t : String} (st : Stt K cl H0 H m s) (r : RepW K cl H0 m v w) (e : tyW w s = some t) : TyX K H v (.type t) := by
  cases w with
  | d x =>
    have r : Rep K cl H0 v x := r
    have e : tyD x = some t := e
    cases r <;> cases e
    · exact .base .non
    · exact .base (.bl _)
    · exact .base (.int _)
    · exact .base (.str _)
    · exact .base (.tup (st.sub _ _ (by assumption)))
    · exact .base (.lst (st.sub _ _ (by assumption)))
    · exact .base (.dK (st.sub _ _ (by assumption)))
  | r n =>
    obtain ⟨a, h1, rfl⟩ := r
    have e : (match s[n]? with | some (.lst _) => some "list" | some (.dic _) => some "dict" | some (.tup _) => some "tuple" | _ => none) = some t := e
    cases q : s[n]? with
    | none => rw [q] at e; cases e
    | some c =>
      have h2 := (st.cell n a c h1 q).2
      rw [q] at e
      cases c with
      | lst l =>
        cases e
        obtain ⟨vs, h3, _⟩ := h2
        exact .base (.lst h3)
      | dic l =>
        cases e
        obtain ⟨vs, h3, _⟩ := h2
        exact .base (.dK h3)
      | ins c l => cases e
      | tup l =>
        cases e
        obtain ⟨vs, h3, _⟩ := h2
        exact .base (.tup h3)
noncomputable def fIsi (t : String) : W → S → Res W := fun x s => match tyW x s with | some a => (match kitB a t with | some b => .ok (.d (.bl b)) s | none => .no) | none => .no
noncomputable def fIsi2 (t u : String) : W → S → Res W := fun x s => match tyW x s with
  | some a => (match kitB a t, kitB a u with | some b, some c => .ok (.d (.bl (b || c))) s | _, _ => .no)
  | none => .no
section
variable {X : Cx} {cl : Str → Option Addr} {Wx : WX} {e : Expr} {pos p q p2 pt : Pos} {ea : Cmp W} {x y z : Str} {k2 : Nat}
theorem je_isi (t : String) (hg : Gl X x) (hm : X.mg x = none) (hv : bootBuiltins x = some (.builtin "isinstance")) (hg2 : Gl X y) (hm2 : X.mg y = none) (hv2 : bootBuiltins y = some (.type t)) (ha : JE cl Wx X e ea)
    (n1 : x ≠ "__name__" := by decide) (n2 : (x == ("__debug__" : Str)) = false := by decide) (n3 : y ≠ "__name__" := by decide) (n4 : (y == ("__debug__" : Str)) = false := by decide)
    (hs : starEach [e, .Name y q] X.env = (false, eval e X.env) :: starEach [.Name y q] X.env := by rfl) (hs2 : starEach [.Name y q] X.env = (false, eval (.Name y q) X.env) :: starEach [] X.env := by rfl) (h4 : ((backTo pos (starEach [.Name y q] X.env)).any fun x => x.fst) = false := by rfl) :
    JE cl Wx X (.Call (.Name x p) [e, .Name y q] [] pos) (eUn (fIsi t) ea) :=
  PE.weaken (pe_callB call_isi hg hm hv (pa_cons ha (pa_cons (pe_bltn hg2 hm2 hv2 (v := .ty t) rfl n3 n4) pa_nil hs2) hs) n1 n2 hs h4) fun σ H Q ⟨H0, m, ow, s, ρ, cx, h⟩ => ⟨H0, m, ow, s, ρ, cx, RunE.bind h fun a s1 v H1 H1' m1 g st rr h2 => by
    have h2 : RunE X.K cl (rrW X.K cl) Wx H1 H1' m1 σ Q (match tyW a s1 with | some a => (match kitB a t with | some b => .ok (.d (.bl b)) s1 | none => .no) | none => .no) := h2
    cases e1 : tyW a s1 with
    | none => rw [e1] at h2; exact h2.elim
    | some ty =>
      rw [e1] at h2
      have h2 : RunE X.K cl (rrW X.K cl) Wx H1 H1' m1 σ Q (match kitB ty t with | some b => .ok (.d (.bl b)) s1 | none => .no) := h2
      cases e2 : kitB ty t with
      | none => rw [e2] at h2; exact h2.elim
      | some b =>
        rw [e2] at h2
        exact ⟨v, .ty t, _, _, b, rfl, .ty t, tyW_ok st rr e1, kit_ty e2, RunE.done (RR := rrW X.K cl) h2 st (Rep.bl : Rep X.K cl H1 (.bl b) (.bl b))⟩⟩
end
end TG
namespace TG
open PySem L2 PyProof.Rows
theorem fnok_no {P : Program} {w : World} {K : PySem.W.Frag} {mg : Str → Option Value} {base : Heap} {cl : Str → Option Addr} {CX : CXT} {k : Nat} {f : Addr} {fd : FuncData} {ps : List Str} : FnOk P w K mg base CX k f fd ps (spOf K cl fun _ _ => .no) :=
  ⟨fun _ _ _ _ ⟨_, _, _, _, _, _, h⟩ => h.elim, fun _ _ _ _ _ _ _ _ _ _ _ _ _ ⟨_, _, _, _, _, _, h⟩ => h.elim⟩
end TG

set_option linter.all false
set_option maxRecDepth 100000
namespace TG
open PySem L2
theorem lcM_map (tg : Tgt) (tst : Cmp Bool) (e : Cmp W) (ρ : Rho) (g : W → W) (s : S) : ∀ (z : List W),
    (∀ w ∈ z, ∃ ρ1, tg w ρ = some ρ1 ∧ tst ρ1 s = .ok true s ∧ e ρ1 s = .ok (g w) s) → lcM tg tst e ρ z s = .ok (z.map g) s
  | [], _ => rfl
  | w :: r, h => by
    obtain ⟨ρ1, e1, e2, e3⟩ := h w (.head _)
    simp [lcM, e1, e2, e3, lcM_map tg tst e ρ g s r (fun w hw => h w (.tail _ hw))]
theorem ints_of (R : Int → Prop) : ∀ (vs : List W), (∀ v ∈ vs, ∃ i, v = .d (.int i) ∧ R i) → ∃ l : List Int, vs = wD (l.map D.int) ∧ l.length = vs.length ∧ ∀ i ∈ l, R i
  | [], _ => ⟨[], rfl, rfl, by simp⟩
  | v :: r, h => by
    obtain ⟨i, rfl, hi⟩ := h v (.head _)
    obtain ⟨l, rfl, hl, hr⟩ := ints_of R r (fun w hw => h w (.tail _ hw))
    refine ⟨i :: l, rfl, by simp [wD], ?_⟩
    intro x hx
    cases hx with
    | head => exact hi
    | tail _ hx => exact hr x hx
theorem quarter (x : Int) (h0 : 0 ≤ x) (h1 : x < 4) : x = 0 ∨ x = 1 ∨ x = 2 ∨ x = 3 := by omega
theorem fifth (x : Int) (h0 : 0 ≤ x) (h1 : x < 5) : x = 0 ∨ x = 1 ∨ x = 2 ∨ x = 3 ∨ x = 4 := by omega
theorem wide_spec (x : Int) (h0 : 0 ≤ x) (h1 : x < 4) (p q r u : Int) (P : Int → Prop) (hp : P p) (hq : P q) (hr : P r) (hu : P u) : ∃ y, P y ∧ atI (wD [.int p, .int q, .int r, .int u]) x = some (.d (.int y)) := by
  rcases quarter x h0 h1 with rfl | rfl | rfl | rfl
  · exact ⟨p, hp, rfl⟩
  · exact ⟨q, hq, rfl⟩
  · exact ⟨r, hr, rfl⟩
  · exact ⟨u, hu, rfl⟩
theorem forE_pre' (tg : Tgt) (x : Stm) (z0 : List W) (I : List W → Rho → S → Prop)
    (hh : ∀ pre w r, z0 = pre ++ w :: r → ∀ ρ s, I pre ρ s → ∃ ρ1, tg w ρ = some ρ1 ∧ ∃ ρ2 s2, x ρ1 s = .nx ρ2 s2 ∧ I (pre ++ [w]) ρ2 s2) : ∀ (z pre : List W) (ρ : Rho) (s : S), z0 = pre ++ z → I pre ρ s →
    ∃ ρ2 s2, forE tg x z ρ s = .nx ρ2 s2 ∧ I z0 ρ2 s2
  | [], pre, ρ, s, e, h => ⟨ρ, s, rfl, by rw [e, List.append_nil]; exact h⟩
  | w :: r, pre, ρ, s, e, h => by
    obtain ⟨ρ1, e1, ρ2, s2, e2, h2⟩ := hh pre w r e ρ s h
    obtain ⟨ρ3, s3, e3, h3⟩ := forE_pre' tg x z0 I hh r (pre ++ [w]) ρ2 s2 (by rw [e]; simp) h2
    exact ⟨ρ3, s3, by rw [forE_cons]; simp [e1, e2, e3], h3⟩
theorem forE_pre (tg : Tgt) (x : Stm) (z0 : List W) (I : List W → Rho → S → Prop)
    (hh : ∀ pre w r, z0 = pre ++ w :: r → ∀ ρ s, I pre ρ s → ∃ ρ1, tg w ρ = some ρ1 ∧ ∃ ρ2 s2, x ρ1 s = .nx ρ2 s2 ∧ I (pre ++ [w]) ρ2 s2) (ρ : Rho) (s : S) (h : I [] ρ s) :
    ∃ ρ2 s2, forE tg x z0 ρ s = .nx ρ2 s2 ∧ I z0 ρ2 s2 := forE_pre' tg x z0 I hh z0 [] ρ s rfl h
theorem rng1_nat (n : Nat) (s : S) (h : n ≤ 1000) : rng1 [.d (.int (n : Nat))] s = .ok ((List.range n).map fun i : Nat => W.d (.int (i : Int))) s := by
  rw [rng1_eq, if_pos (by omega)]
  rfl
theorem cut_all (l : List D) (h : l.length ≤ 63) : cut l none (some 63) = l := by
  have h1 : HT.sIx l.length 0 none = 0 := rfl
  have h2 : HT.sIx l.length l.length (some 63) = l.length := by
    unfold HT.sIx
    simp
    omega
  unfold cut
  rw [h1, h2]
  simp
theorem fmod_rng (x n : Int) (h : 0 < n) : 0 ≤ x.fmod n ∧ x.fmod n < n := ⟨Int.fmod_nonneg_of_pos _ h, Int.fmod_lt_of_pos _ h⟩
theorem fmod_fmod (x n : Int) (h : 0 < n) : (x.fmod n).fmod n = x.fmod n := by
  rw [Int.fmod_eq_emod_of_nonneg _ (by omega), Int.fmod_eq_emod_of_nonneg _ (by omega), Int.emod_emod_of_dvd _ (Int.dvd_refl n)]
theorem third (x : Int) (h0 : 0 ≤ x) (h1 : x < 3) : x = 0 ∨ x = 1 ∨ x = 2 := by omega
end TG

set_option Elab.async false
set_option linter.all false
set_option maxRecDepth 100000
set_option maxHeartbeats 2000000
namespace TG
open PySem L2 PyProof.Rows

structure ExcAt (K : PySem.W.Frag) (mg : Str → Option Value) (cl : Str → Option Addr) (c : Str) : Prop where
  ex : ∃ (C : Addr) (B newId initId : String) (bm : List Value), cl c = some C ∧ mg c = some (.ref C) ∧ ExcBaseFacts B newId initId bm ∧ PySem.W.excIn K C bm newId = true ∧ PySem.W.keepIn K (.ref C) = true ∧
    PySem.W.subIn K (.ref C) (.type "BaseException") = some true ∧ PySem.W.typeIn K (.ref C) = some (.type "type")
section
variable {X : Cx} {C : Addr} {bm : List Value} {B newId initId : String} {x : Str} {p pos : Pos}
theorem pmk_bare (facts : ExcBaseFacts B newId initId bm) (exc : PySem.W.excIn X.K C bm newId = true) (glob : X.mg x = some (.ref C)) (kept : PySem.W.keepIn X.K (.ref C) = true) (rs : Raises X (.ref C)) (hg : Gl X x)
    (nd : (x == Str.ofString "__debug__") = false := by decide) : PMk X (.Call (.Name x p) [] [] pos) (fun _ H Q => Q (.ref C) none H) := fun pins s σ H Q inv q => by
  obtain ⟨_, _, _, _, _, _, _, _, _, _, _, _, _, _, _, _, _, at_, ns, no, tail⟩ := exc_obj inv.kIn exc
  exact wpAny_Call_Name_kw (ld_glob inv hg glob (PySem.W.callWith_K0 inv.kIn kept (wpAny_call_exc_subT facts tail at_ ns no (fun _ _ made => mk_of inv made rs q (inv.hok.gone made.new)) (Nat.zero_le _))) nd)
end
noncomputable def sRaise0 (c : Str) : Stm := fun ρ s => .exc c none ρ s
noncomputable def noExc : RS → RS
  | .exc _ _ _ _ => .no
  | r => r
section
variable {X : Cx} {cl : Str → Option Addr} {Wx : WX} {c : Str} {p p2 pos : Pos} {body : List Stmt} {b : Stm}
theorem js_raise0 (ok : XOk X Wx) (hc : X.calm = true) (F : ExcAt X.K X.mg cl c) (hg : Gl X c := by rfl) (nd : (c == Str.ofString "__debug__") = false := by decide) :
    JS cl Wx X (.Raise (some (.Call (.Name c p) [] [] p2)) none pos) (sRaise0 c) := by
  obtain ⟨C, B, ni, ii, bm, h1, h2, h3, h4, h5, h6, h7⟩ := F.ex
  refine PS.weaken (ps_raise hc ok.tk (pmk_bare h3 h4 h2 h5 (raises_own h6 h7) hg nd)) fun E σ H ⟨H0, m, ow, s, ρ, cx, h⟩ => ?_
  exact h _ _ _ _ _ _ _ Go.refl cx ⟨C, h1, rfl⟩
inductive HdJ (cl : Str → Option Addr) (X : Cx) : List ExceptHandler → List (Str × Stm) → Prop
  | nil : HdJ cl X [] []
  | cons {x : Str} {b₀ : Stmt} {suite : List Stmt} {np pos' : Pos} {hds : List ExceptHandler} {k : Stm} {l : List (Str × Stm)} (hx : ∃ C, cl x = some C ∧ X.mg x = some (.ref C)) (hg : Gl X x) (nd : (x == Str.ofString "__debug__") = false)
      (hs : ∀ (a : Addr) (oe : Obj) (pn : List (Addr × Obj)), XOk (X.suite a ((a, oe) :: pn)) W0 → JB cl W0 (X.suite a ((a, oe) :: pn)) (b₀ :: suite) k) (r : HdJ cl X hds l) :
      HdJ cl X (.ExceptHandler (some (.Name x np)) none (b₀ :: suite) pos' :: hds) ((x, k) :: l)
inductive HdR (K : PySem.W.Frag) (cl : Str → Option Addr) : List (Str × Stm) → List (Value × (Addr → Value → Option Addr → TS)) → Prop
  | nil : HdR K cl [] []
  | cons {x : Str} {k : Stm} {C : Addr} {l r} (h : cl x = some C) (q : HdR K cl l r) : HdR K cl ((x, k) :: l) ((.ref C, fun _ _ _ => Sof K cl W0 k) :: r)
theorem HdJ.ok (nd : X.N.Nodup) : ∀ {hds l}, HdJ cl X hds l → ∃ r, HdsOk X hds r ∧ HdR X.K cl l r
  | _, _, .nil => ⟨[], .nil, .nil⟩
  | _, _, .cons hx hg n hs q => by
    obtain ⟨C, h1, h2⟩ := hx
    obtain ⟨r, h3, h4⟩ := q.ok nd
    exact ⟨_, .cons (ts := fun _ _ _ => Sof X.K cl W0 _) ⟨hg, n, .inl h2⟩ (fun a oe cls d pn _ _ => hs a oe pn ⟨fun u s' ⟨a, B, sI, pins, σ, H, cls, d, e, I, nb, up, sky, na, os, ag, z⟩ => z.elim, PassesOwn.never, nd⟩) h3, .cons h1 h4⟩
theorem RunS.noExc {K : PySem.W.Frag} {H0 H : Hp} {m ow : List Addr} {E : Ends} {r : RS} (h : RunS K cl Wx H0 H m ow E (noExc r)) : RunS K cl W0 H0 H m ow E r := by
  cases r with
  | exc c x ρ s => exact h.elim
  | _ => exact h
end
end TG
namespace TG
open PySem L2 PyProof.Rows
end TG
namespace TG
open PySem L2 PyProof.Rows
end TG

set_option Elab.async false
set_option linter.all false
set_option maxRecDepth 100000
set_option maxHeartbeats 4000000
namespace L2
open PySem PySem.Spec PyProof.Rows
noncomputable abbrev tgSet0 (w : World) : Obj := { cls := .type "set", dict := none, data := .set #[] 0 (.fresh 0 0 (!w.params.followText "set-order")) }
section
variable {P : Program} {w : World} {A : Around} {E : Value → Shared → Prop} {s : Shared}
noncomputable def TgSetMade (w : World) (s : Shared) (ns : List Int) (s2 : Shared) : Prop :=
  ∃ h' tk c, s2 = { s with heap := h', toks := tk } ∧ SetR w h' s.heap.objs.size (fun j => decide (j ∈ ns)) c ∧ c ≤ ns.length ∧ ∀ b o, s.heap.get? b = some o → h'.get? b = some o
theorem tg_set_init {l : Addr} {items : Array Value} (ns : List Int) {R : Result → Shared → Prop} (hh : A.handled = none) (hl : s.heap.IsList l items) (hit : IntsAre items.toList ns) (hb : ns.length + 1 < scanBound)
    (hR : ∀ s2, TgSetMade w s ns s2 → R (.ok (.ret .none)) s2) :
    wpAny (model P w) A.in1 (Builtin.«set.__init__» ⟨[.ref s.heap.objs.size, .ref l], []⟩) (fun fin s' => match fin with
      | .done f => R (.ok f) s'
      | .again c' => c'.quiet = true ∧ codeAny (model P w) A c' R s') (fun e s' => R (.error e) s') { s with heap := s.heap.push (tgSet0 w) } := by
  have hsize : items.size = ns.length := by rw [← Array.length_toList]; exact hit.length
  have hS : (s.heap.push (tgSet0 w)).get? s.heap.objs.size = some (tgSet0 w) := Heap.get?_push_size _ rfl
  obtain ⟨⟨ocls, odict, odata, oslots⟩, hol, hcl, nl, hdl⟩ := hl
  simp only at hcl hdl
  subst hcl; subst hdl
  have hol' : (s.heap.push (tgSet0 w)).get? l = some { cls := .type "list", dict := odict, data := .seq items nl, slots := oslots } := Heap.get?_push_of_some _ hol
  have hl1 : (s.heap.push (tgSet0 w)).IsList l items := ⟨_, hol', rfl, nl, rfl⟩
  have f1 := F.sub_list_set
  have f2 := F.sub_list_frozenset
  have f3 : (Value.type "list" == Value.type "dict") = false := by decide
  unfold Builtin.«set.__init__» noKeywords Builtin.Frozenset.updateFrom
  generalize hPI : pyIter = PI
  wp_walk
  subst hPI
  refine wpAny_pyIter_list hl1 ?_
  refine wpAny_bind (wpAny_runValue ?_)
  have hlS : l < s.heap.objs.size := Heap.lt_size hol
  have hz : (s.heap.push (tgSet0 w)).objs.size = s.heap.objs.size + 1 := Heap.size_push ..
  have hne0 : l ≠ s.heap.objs.size := Nat.ne_of_lt hlS
  have hneI : l ≠ (s.heap.push (tgSet0 w)).objs.size := by rw [hz]; exact Nat.ne_of_lt (Nat.lt_succ_of_lt hlS)
  have hSf : s.heap.objs.size ∉ [(s.heap.push (tgSet0 w)).objs.size, l] := by
    rw [hz]
    intro q
    rcases List.mem_cons.mp q with q | q
    · exact absurd q (Nat.ne_of_lt (Nat.lt_succ_self _))
    · exact hne0 (List.mem_singleton.mp q).symm
  have hval : ∀ (i : Nat) (v : Value), items[i]? = some v → ∃ k t, ns[i]? = some k ∧ v = .int k t := fun i v hv => by
    have hi : i < ns.length := by rw [← hsize]; exact (Array.getElem?_eq_some_iff.mp hv).1
    obtain ⟨t, e⟩ := PyProof.Rows.IntsAre.int_at hit i v (by rw [Array.getElem?_toList]; exact hv)
    exact ⟨ns[i], t, by simp [hi], by rw [e]; simp [List.getD_eq_getElem?_getD, hi]⟩
  have hh3 : A.in1.in1.handled = none := hh
  refine set_update_ints ((Walks.list hh3 _ l hneI items).toS) s.heap.objs.size hSf ns hsize hb hval (items.size - 0) 0 _ (by omega) (Nat.zero_le _) ?_ ?_ ?_
  · exact ⟨⟨_, Heap.get?_push_size _ rfl, rfl, rfl⟩, hl1.push _⟩
  · exact ⟨0, Nat.le_refl 0, setR_new_at (Heap.get?_push_of_some _ hS)⟩
  · rintro ⟨h', g2, d', tk', os'⟩ c' hm hc' hS'
    have eg : g2 = s.gens := hm.gens
    have ed : d' = s.drawn := hm.drawn
    have eo : os' = s.os := hm.os
    subst eg; subst ed; subst eo
    show wpAny _ _ _ _ _ _
    refine wpAny_pure ?_
    show wpAny _ _ (ret Value.none) _ _ _
    refine wpAny_pure (hR _ ⟨h', tk', c', rfl, hS', by omega, fun b o e => ?_⟩)
    have hb0 : b < s.heap.objs.size := Heap.lt_size e
    refine hm.heap b o ?_ (Heap.get?_push_of_some _ (Heap.get?_push_of_some _ e))
    intro q
    rcases List.mem_cons.mp q with q | q
    · exact absurd q (Nat.ne_of_lt hb0)
    · have q := List.mem_singleton.mp q
      rw [hz] at q
      exact absurd q (Nat.ne_of_lt (Nat.lt_succ_of_lt hb0))
theorem tg_call_set {l : Addr} {items : Array Value} (ns : List Int) {Q : Value → Shared → Prop} (hh : A.handled = none) (hl : s.heap.IsList l items) (hit : IntsAre items.toList ns) (hb : ns.length + 1 < scanBound)
    (h : ∀ s2, TgSetMade w s ns s2 → Q (.ref s.heap.objs.size) s2) : wpAny (model P w) A (call (.type "set") [.ref l]) Q E s := by
  obtain ⟨c, tl, hmro⟩ := F.called_set.mro
  have hmade := F.called_set.made
  have hsub := F.called_set.sub
  have h1 := F.called_set.notType
  have h2 := F.called_set.canCreate
  have hct := F.typeCall_set_1 (.ref l)
  refine wpAny_call (codeAny_of_tree ?_)
  show wpAny _ _ (callAny (.type "set") _) _ _ _
  refine wpAny_pure ⟨Code.quiet_builtin _ (by decide +kernel), codeAny_builtin F.entry_type_call ?_⟩
  rw [Around.under_plain (weight_type_call_type "set" [.ref l] []) rfl]
  repeat (any_goals (first | assumption | wp_step))
  refine codeAny_mono (code_set_led1 (.ref l) (E := E) (Q₁ := fun obj s₁ => obj = .ref s.heap.objs.size ∧ s₁ = { s with heap := s.heap.push (tgSet0 w) }) ⟨rfl, rfl⟩) fun r s₁ hr => ?_
  cases r with
  | error e => exact hr
  | ok fl =>
    cases fl with
    | ret obj =>
      obtain ⟨rfl, rfl⟩ := hr
      have hS : (s.heap.push (tgSet0 w)).get? s.heap.objs.size = some (tgSet0 w) := Heap.get?_push_size _ rfl
      have hT : Shared.TypeIs { s with heap := s.heap.push (tgSet0 w) } (.ref s.heap.objs.size) "set" := ⟨_, hS, rfl⟩
      have hli := F.called_set.init.lookup
      have hbi := F.called_set.init.bind (.ref s.heap.objs.size)
      repeat (any_goals (first | assumption | wp_step))
      refine codeAny_mono (codeAny_call_builtin (R := wants (fun r s₂ => r = .none ∧ TgSetMade w s ns s₂) E) F.called_set.init.plain F.entry_set_init (check_set_init_1 hT (tg_set_init ns (by exact hh) hl hit hb fun s2 q => ⟨rfl, q⟩))) fun r₂ s₂ hr₂ => ?_
      cases r₂ with
      | error e => exact hr₂
      | ok fl₂ =>
        cases fl₂ with
        | ret v =>
          obtain ⟨rfl, q⟩ := hr₂
          repeat (any_goals (first | assumption | wp_step))
          exact h _ q
        | _ => exact hr₂.elim
    | _ => exact hr.elim
end
noncomputable def rTgSetL (K : PySem.W.Frag) (w : World) : List V → Hp → VK → Prop := fun xs H Q => ∃ (a : Addr) (ns : List Int), xs = [.ref a] ∧ SqL K H a (ns.map V.int) ∧ ns.length ≤ 1000 ∧
  ∀ p c, H p = none → c ≤ ns.length → Q (.ref p) (upd H p (SetO w p (fun j => decide (j ∈ ns)) c))
theorem cr_tgSetL {X : Cx} (hc : X.calm = true) : CallR X (.type "set") (rTgSetL X.K X.w) := by
  intro pins s σ H vs us Q I r h
  obtain ⟨a, ns, rfl, hq, hl, q⟩ := h
  rw [Vals.ref1 r]
  obtain ⟨its, rv, ⟨⟨cls, dd, data, sl⟩, n, ho, hcl, hdn, hd⟩, hlen⟩ := I.list hq
  simp only at hcl hd
  subst hcl hd
  have hi : IntsAre its.toArray.toList ns := ints_of_vals rv
  refine tg_call_set ns (I.ok.hd hc) (items := its.toArray) ⟨_, ho, rfl, n, rfl⟩ hi (by unfold scanBound; omega) fun s2 ⟨h', tk, c, e, R, hc', k⟩ => ?_
  subst e
  exact ⟨.ref _, upd H s.heap.objs.size (SetO X.w s.heap.objs.size (fun j => decide (j ∈ ns)) c), I.laid (t' := tk) k (Nat.le_refl _) (setO_new R), rfl, q _ _ (I.hok.fresh (Nat.le_refl _)) hc'⟩
end L2
namespace TG
open PySem L2 PyProof.Rows
noncomputable def dedupI : List Int → List Int
  | [] => []
  | a :: r => if a ∈ r then dedupI r else a :: dedupI r
theorem dedupI_mem : ∀ {l : List Int} {x : Int}, x ∈ dedupI l ↔ x ∈ l
  | [], x => Iff.rfl
  | a :: r, x => by
    unfold dedupI
    split
    · rename_i h
      rw [dedupI_mem, List.mem_cons]
      exact ⟨.inr, fun z => z.elim (fun z => z ▸ h) id⟩
    · rw [List.mem_cons, List.mem_cons, dedupI_mem]
theorem dedupI_nodup : ∀ (l : List Int), (dedupI l).Nodup
  | [] => List.nodup_nil
  | a :: r => by
    unfold dedupI
    split
    · exact dedupI_nodup r
    · rename_i h
      exact List.nodup_cons.mpr ⟨fun z => h (dedupI_mem.mp z), dedupI_nodup r⟩
noncomputable def sortD (l : List Int) : List Int := (dedupI l).mergeSort
theorem sortD_mem {l : List Int} {x : Int} : x ∈ sortD l ↔ x ∈ l := by
  unfold sortD
  rw [(List.mergeSort_perm _ _).mem_iff, dedupI_mem]
theorem sortD_lt (l : List Int) : (sortD l).Pairwise (· < ·) := by
  have h1 : (sortD l).Pairwise (· ≤ ·) := by
    have := List.pairwise_mergeSort (le := fun a b : Int => decide (a ≤ b)) (fun a b c h h' => by simp at *; omega) (fun a b => by simp; omega) (dedupI l)
    exact this.imp fun h => of_decide_eq_true h
  have h2 : (sortD l).Nodup := (List.mergeSort_perm _ _).nodup_iff.mpr (dedupI_nodup l)
  exact (h1.and h2).imp fun ⟨a, b⟩ => by omega
section
variable {X : Cx} {cl : Str → Option Addr} {Wx : WX} {e : Expr} {el : Cmp (List W)} {p p2 pos pos2 : Pos}
end
end TG

set_option Elab.async false
set_option linter.all false
set_option maxRecDepth 100000
set_option maxHeartbeats 4000000
namespace TG
open PySem L2 PyProof.Rows
noncomputable def kIxO (l : List W) : W → S → Res W := fun y s => match asInt y with | some k => (match atI l k with | some w => .ok w s | none => .no) | none => .no
noncomputable def eIxO (i : Nat) (e : Cmp W) : Cmp W := fun ρ s => match (ρ[i]? : Option EV) with | some (.own l) => (e ρ s).bind (kIxO l) | _ => .no
noncomputable def eLenO (i : Nat) : Cmp W := fun ρ s => match (ρ[i]? : Option EV) with | some (.own l) => .ok (.d (.int l.length)) s | _ => .no
noncomputable def appC : W → W → S → Option S := fun x v s => match x with
  | .r n => (match s[n]? with | some (.lst l) => if l.length < 16777216 then some (s.set n (.lst (l ++ [v]))) else none | _ => none)
  | _ => none
noncomputable def isCL : W → S → Bool := fun x s => match x with
  | .r n => (match s[n]? with | some (.lst _) => true | _ => false)
  | _ => false
noncomputable def kAppC2 (x : W) : W → Stm := fun y ρ s => match appC x y s with | some s' => .nx ρ s' | none => .no
noncomputable def kAppC (e : Cmp W) : W → Stm := fun x ρ s => if isCL x s = true then ebS (e ρ s) ρ (kAppC2 x) else .no
noncomputable def sAppC (o e : Cmp W) : Stm := fun ρ s => ebS (o ρ s) ρ (kAppC e)
section
variable {X : Cx} {cl : Str → Option Addr} {Wx : WX} {e i o : Expr} {es : List Expr} {pos p1 p2 p3 p : Pos} {ea ei eo : Cmp W} {el : Cmp (List W)} {k : Nat} {x : Str} {ps : List Str} {f : Sem1}
theorem je_lenO (n : Nat) (hg : Gl X "len") (hm : X.mg "len" = none) (hN : X.N[n]? = some x := by rfl) (hv : Vis X.env.scope x := by first | exact Or.inl rfl | exact Or.inr (Or.inl rfl) | exact Or.inr (Or.inr rfl)) (hd : (x == ("__debug__" : Str)) = false := by decide)
    (hcd : (x == ("__classdict__" : Str)) = false := by decide)
    (h3 : starEach [.Name x p1] X.env = (false, eval (.Name x p1) X.env) :: starEach [] X.env := by rfl) (h4 : ((backTo pos (starEach [] X.env)).any fun x => x.fst) = false := by rfl) : JE cl Wx X (.Call (.Name "len" p) [.Name x p1] [] pos) (eLenO n) :=
  PE.weaken (pe_callB (p := p) (pos := pos) call_len hg hm PySem.boot_len (pa_cons (pe_var hN hv hd hcd) pa_nil h3) (by decide) (by decide) h3 h4) fun σ H Q ⟨H0, m, ow, s, ρ, cx, h⟩ => by
    unfold eLenO at h
    split at h
    · rename_i l e0
      obtain ⟨p, vs, h1, h2, h3, h4⟩ := cx.en.slot n _ e0
      exact ⟨.ref p, h1, _, l.length, rfl, .inl ⟨vs, sqL_of h3, h4.length.symm⟩, RunE.done (RR := rrW X.K cl) h cx.st .int⟩
    · exact h.elim
theorem js_appC (ho : JE cl Wx X o eo) (h : JE cl Wx X e ea)
    (q1 : attributeBase o "append" X.env (eval o X.env) = eval o X.env := by rfl)
    (q2 : ((((backTo p3 (starEach (e :: []) X.env)).all fun x => !x.fst) && (backToKw p3 (keywordEach [] X.env)).all fun x => x.fst.isSome) && decide (((e :: []).length + ([] : List Keyword).length + if ([] : List Keyword).isEmpty = true then 0 else 1) < 30)) = true := by rfl)
    (q3 : (p2.endLine == p3.line) = true := by rfl) (q4 : starEach (e :: []) X.env = (false, eval e X.env) :: starEach [] X.env := by rfl) (q5 : ((backTo p3 (starEach [] X.env)).any fun x => x.fst) = false := by rfl)
    (hs : swapsWith (.Call (.Attribute o "append" p2) [e] [] p3) none pos.line X.env = pure false := by rfl) :
    JS cl Wx X (.Expr (.Call (.Attribute o "append" p2) [e] [] p3) pos) (sAppC eo ea) :=
  PS.weaken (ps_expr (pe_bm PySem.F.plainAttrs_list PySem.F.slot_list_append PySem.F.type_list_append mt_append ho (pa_cons h pa_nil q4) q1 q2 q3 q4 q5) hs) fun E σ H ⟨H0, m, ow, s, ρ, cx, h⟩ => ⟨H0, m, ow, s, ρ, cx, RunS.ofE cx h fun y s1 v H1 H1' m1 g c rr h2 => by
    have h2 : RunS X.K cl Wx H1 H1' m1 ow E (kAppC ea y ρ s1) := h2
    unfold kAppC at h2
    split at h2
    · rename_i hc
      cases y with
      | d _ => cases hc
      | r n =>
        obtain ⟨a, a1, a2⟩ := rr
        have hc' : (match s1[n]? with | some (.lst _) => true | _ => false) = true := hc
        split at hc'
        · rename_i l e3
          obtain ⟨z1, vs, z2, z3⟩ := c.st.cell n a _ a1 e3
          subst a2
          refine ⟨.inl ⟨rfl, vs, .inl (.inl z2)⟩, H1, m1, ow, s1, ρ, c, RunS.ofE c h2 fun w s2 u H2 H2' m2 g2 c2 r2 h5 => ?_⟩
          have h5 : RunS X.K cl Wx H2 H2' m2 ow E (kAppC2 (.r n) w ρ s2) := h5
          have h5 : RunS X.K cl Wx H2 H2' m2 ow E (match appC (.r n) w s2 with | some s' => .nx ρ s' | none => .no) := h5
          cases e5 : appC (.r n) w s2 with
          | none => rw [e5] at h5; exact h5.elim
          | some s' =>
            rw [e5] at h5
            have e6 : (match s2[n]? with | some (.lst l) => if l.length < 16777216 then some (s2.set n (.lst (l ++ [w]))) else none | _ => none) = some s' := e5
            split at e6
            · rename_i l2 e7
              split at e6
              · rename_i hl
                cases e6
                have am2 : m2[n]? = some a := by
                  obtain ⟨t, rfl⟩ := g2.pre
                  rw [List.getElem?_append_left (List.getElem?_eq_some_iff.mp a1).1]; exact a1
                obtain ⟨y1, us, y2, y3⟩ := c2.st.cell n a _ am2 e7
                refine ⟨a, us, u, rfl, rfl, y2, size_lt (by rw [y3.length]; exact hl), ?_⟩
                have gg : GoE H2 H2' m2 H2 (upd H2' a (.lst (us ++ [u]))) m2 := Go.updCell (List.mem_of_getElem? am2)
                exact h5 σ _ _ _ _ gg.lift (c2.go gg (c2.st.updCell am2 (List.getElem?_eq_some_iff.mp e7).1 ⟨_, upd_same, y3.append (.cons r2 .nil)⟩))
              · cases e6
            · cases e6
        · cases hc'
    · exact h2.elim⟩
end
end TG

set_option Elab.async false
set_option linter.all false
set_option maxRecDepth 100000
set_option maxHeartbeats 4000000
namespace PySem
open Sem (wp)
noncomputable abbrev IsZipS (h : Heap) (z TI TO : Addr) (f0 : Value) : Prop :=
  h.get? z = some { cls := .type "zip", dict := none, data := .fields #[f0, .bool false, .bool true, .ref TI, .ref TO], slots := #[] }
section
variable {prog : Program} {w : World} {A : Around} {E : Value → Shared → Prop} {s : Shared}
theorem noe_item {it l : Addr} {i : Nat} {items} {x : Value} {Q : Option Value → Shared → Prop} (hit : s.heap.IsTupleIter it l i) (hl : s.heap.IsTuple l items) (hx : items[i]? = some x)
    (hQ : ∀ h', h'.IsTupleIter it l (i + 1) → Heap.SameBut it s.heap h' → Q (some x) { s with heap := h' }) : wpAny (model prog w) A (Builtin.SmallTypes.nextOrEnd (.ref it)) Q E s := by
  unfold Builtin.SmallTypes.nextOrEnd
  exact wpAny_bind (wpAny_attempt (RZ.nextOf_tuple_item hit hl hx fun h' a b => wpAny_pure (hQ h' a b)))
theorem noe_end {it l : Addr} {i : Nat} {items} {Q : Option Value → Shared → Prop} (hh : A.handled = none) (hit : s.heap.IsTupleIter it l i) (hl : s.heap.IsTuple l items) (hx : items[i]? = none)
    (hQ : ∀ h', Heap.ExtBut it s.heap h' → Q none { s with heap := h' }) : wpAny (model prog w) A (Builtin.SmallTypes.nextOrEnd (.ref it)) Q E s := by
  unfold Builtin.SmallTypes.nextOrEnd
  refine wpAny_bind (wpAny_attempt (RZ.nextOf_tuple_end hh hit hl hx fun h' e hk he => ?_))
  obtain ⟨o, ho, hc⟩ := he
  refine wpAny_bind (wpAny_isInstance (T := "StopIteration") (b := true) ⟨o, ho, hc⟩ isSubtype_stop ?_)
  exact wpAny_pure (hQ h' hk)
theorem stop_now {α : Type} {Q : α → Shared → Prop} (hh : A.in1.handled = none) (hE : ∀ h' e, (∀ c o, s.heap.get? c = some o → h'.get? c = some o) → (∃ o, h'.get? e = some o ∧ o.cls = .type "StopIteration") → E (.ref e) { s with heap := h' }) :
    wpAny (model prog w) A (Builtin.SmallTypes.stopIteration : Sem α) Q E s := by
  unfold Builtin.SmallTypes.stopIteration
  refine wpAny_bind ?_
  simp only [newExc, newTuple]
  refine wpAny_bind (wpAny_newObj_type ?_ (by size_fits))
  refine wpAny_bind (m := firstArgMember _ _) (wpAny_of_eq (a := Value.none) (by first | rfl | (simp only [firstArgMember]; rfl)) ?_)
  refine wpAny_newObj_type ?_ (by size_fits)
  simp only [raiseNew]
  refine wpAny_bind (wpAny_handled ?_)
  rw [show A.handled = none from hh]
  refine wpAny_bind (wpAny_pure (wpAny_throw ?_))
  exact hE _ _ (fun c o e => Heap.get?_push_of_some _ (Heap.get?_push_of_some _ e)) ⟨_, Heap.get?_push_size _ rfl, rfl⟩
theorem zipS_item {z TI TO i1 i2 l1 l2 : Addr} {k1 k2 : Nat} {xs ys : Array Value} {x y a b : Value} {Q : Value → Shared → Prop} (D : ZipApart z TI TO i1 i2 l1 l2)
    (hz : IsZipS s.heap z TI TO .none) (hTI : IsPair s.heap TI (.ref i1) (.ref i2)) (hTO : IsPair s.heap TO a b) (h1 : s.heap.IsTupleIter i1 l1 k1) (h2 : s.heap.IsTupleIter i2 l2 k2) (hl1 : s.heap.IsTuple l1 xs) (hl2 : s.heap.IsTuple l2 ys) (hx : xs[k1]? = some x) (hy : ys[k2]? = some y)
    (hQ : ∀ h', IsZipS h' z TI TO (rawInt s.heap.objs.size) → IsPair h' TO x y → h'.IsTupleIter i1 l1 (k1 + 1) → h'.IsTupleIter i2 l2 (k2 + 1) → IsPair h' s.heap.objs.size x y → h'.objs.size = s.heap.objs.size + 1 →
      (∀ c o, c ≠ z → c ≠ TO → c ≠ i1 → c ≠ i2 → s.heap.get? c = some o → h'.get? c = some o) → Q (.ref s.heap.objs.size) { s with heap := h' }) :
    wpAny (model prog w) A (Builtin.«zip.__next__» ⟨[.ref z], []⟩) (fun fin s' => ∃ v, fin = .done (.ret v) ∧ Q v s') E s := by
  show wpAny _ _ (field (.ref z) 2 >>= _) _ _ _
  refine wpAny_bind (wpAny_field hz rfl (x := .bool true) rfl ?_)
  show wpAny _ _ (field (.ref z) 3 >>= _) _ _ _
  refine wpAny_bind (wpAny_field hz rfl (x := .ref TI) rfl (wpAny_bind (wpAny_seqItems hTI rfl ?_)))
  show wpAny _ _ (Builtin.SmallTypes.ownedTupleIsFree (.ref z) >>= _) _ _ _
  refine wpAny_bind ?_
  unfold Builtin.SmallTypes.ownedTupleIsFree
  refine wpAny_bind (wpAny_field hz rfl (x := .none) rfl (wpAny_pure ?_))
  simp only [if_true]
  refine wpAny_bind (wpAny_rule (wpAny_bind (wpAny_field hz rfl (x := .ref TO) rfl (wpAny_bind (wpAny_setField_rec hz (by simp) fun h₁ hz₁ hs₁ => ?_)))))
  replace hz₁ : IsZipS h₁ z TI TO .ellipsis := hz₁
  refine wpAny_bind ?_
  simp only [List.zipIdx_cons, List.zipIdx_nil, List.forIn_cons, List.forIn_nil]
  refine wpAny_bind (wpAny_bind (wpAny_onRaise ?_))
  show wpAny _ _ (Builtin.SmallTypes.nextOrEnd (.ref i1)) _ _ _
  refine noe_item (h1.extBut hs₁.extBut D.i1z) (hl1.extBut hs₁.extBut D.l1z) hx fun h₂ h1₂ hs₂ => ?_
  have hTO₂ : IsPair h₂ TO a b := hs₂.extBut _ _ D.TOi1 (hs₁.extBut _ _ D.TOz hTO)
  refine wpAny_bind (wpAny_seqItems hTO₂ rfl (wpAny_bind (wpAny_updateSeq_pair hTO₂ fun h₃ hTO₃ hs₃ => ?_)))
  replace hTO₃ : IsPair h₃ TO x b := hTO₃
  refine wpAny_bind (wpAny_letGo (wpAny_pure ?_))
  refine wpAny_bind (wpAny_bind (wpAny_onRaise ?_))
  show wpAny _ _ (Builtin.SmallTypes.nextOrEnd (.ref i2)) _ _ _
  refine noe_item (((h2.extBut hs₁.extBut D.i2z).extBut hs₂.extBut D.i12.symm).extBut hs₃.extBut D.TOi2.symm) (((hl2.extBut hs₁.extBut D.l2z).extBut hs₂.extBut D.l2i1).extBut hs₃.extBut D.l2TO) hy fun h₄ h2₄ hs₄ => ?_
  have hTO₄ : IsPair h₄ TO x b := hs₄.extBut _ _ D.TOi2 hTO₃
  refine wpAny_bind (wpAny_seqItems hTO₄ rfl (wpAny_bind (wpAny_updateSeq_pair hTO₄ fun h₅ hTO₅ hs₅ => ?_)))
  replace hTO₅ : IsPair h₅ TO x y := hTO₅
  refine wpAny_bind (wpAny_letGo (wpAny_pure (wpAny_pure ?_)))
  refine wpAny_bind (wpAny_seqItems hTO₅ rfl (wpAny_bind (wpAny_newTuple ?_)))
  have hsz : h₅.objs.size = s.heap.objs.size := by rw [hs₅.1, hs₄.1, hs₃.1, hs₂.1, hs₁.1]
  have hz₅ : IsZipS h₅ z TI TO .ellipsis := hs₅.extBut _ _ D.TOz.symm (hs₄.extBut _ _ D.i2z.symm (hs₃.extBut _ _ D.TOz.symm (hs₂.extBut _ _ D.i1z.symm hz₁)))
  have hk₅ : ∀ c o, c ≠ z → c ≠ TO → c ≠ i1 → c ≠ i2 → s.heap.get? c = some o → h₅.get? c = some o := fun c o c1 c2 c3 c4 e =>
    hs₅.extBut _ _ c2 (hs₄.extBut _ _ c4 (hs₃.extBut _ _ c2 (hs₂.extBut _ _ c3 (hs₁.extBut _ _ c1 e))))
  have h1₅ : h₅.IsTupleIter i1 l1 (k1 + 1) := ((h1₂.extBut hs₃.extBut D.TOi1.symm).extBut hs₄.extBut D.i12).extBut hs₅.extBut D.TOi1.symm
  have h2₅ : h₅.IsTupleIter i2 l2 (k2 + 1) := h2₄.extBut hs₅.extBut D.TOi2.symm
  have hzlt : z < h₅.objs.size := Heap.lt_size hz₅
  show wpAny _ _ (Builtin.SmallTypes.ownedTupleHandOut (.ref z) (.ref h₅.objs.size) >>= _) _ _ _
  refine wpAny_bind ?_
  unfold Builtin.SmallTypes.ownedTupleHandOut
  have hz₆ : IsZipS (h₅.push { cls := .type "tuple", data := .seq #[x, y] }) z TI TO .ellipsis := Heap.get?_push_of_some _ hz₅
  refine wpAny_bind (wpAny_setField_rec hz₆ (by simp) fun h₇ hz₇ hs₇ => ?_)
  replace hz₇ : IsZipS h₇ z TI TO (rawInt h₅.objs.size) := hz₇
  refine wpAny_setField_rec hz₇ (by simp) fun h₈ hz₈ hs₈ => ?_
  replace hz₈ : IsZipS h₈ z TI TO (rawInt h₅.objs.size) := hz₈
  have up : ∀ c o, c ≠ z → h₅.get? c = some o → h₈.get? c = some o := fun c o c1 e => hs₈.extBut _ _ c1 (hs₇.extBut _ _ c1 (Heap.get?_push_of_some _ e))
  have hT₈ : IsPair h₈ h₅.objs.size x y := hs₈.extBut _ _ (Nat.ne_of_gt hzlt) (hs₇.extBut _ _ (Nat.ne_of_gt hzlt) (Heap.get?_push_size _ rfl))
  have hz8 : h₈.objs.size = h₅.objs.size + 1 := by rw [hs₈.1, hs₇.1, Heap.size_push]
  rw [hsz] at hz₈ hT₈ hz8
  refine wpAny_pure ⟨_, rfl, ?_⟩
  show Q (.ref h₅.objs.size) _
  rw [hsz]
  exact hQ h₈ hz₈ (up _ _ D.TOz hTO₅) (h1₅.at fun o e => up _ o D.i1z e) (h2₅.at fun o e => up _ o D.i2z e) hT₈ hz8 fun c o c1 c2 c3 c4 e => up c o c1 (hk₅ c o c1 c2 c3 c4 e)
theorem zipS_end {z TI TO i1 i2 l1 l2 : Addr} {k1 k2 : Nat} {xs ys : Array Value} {a b : Value} {Q : Fin → Shared → Prop} (hh : A.handled = none) (D : ZipApart z TI TO i1 i2 l1 l2)
    (hz : IsZipS s.heap z TI TO .none) (hTI : IsPair s.heap TI (.ref i1) (.ref i2)) (h1 : s.heap.IsTupleIter i1 l1 k1) (h2 : s.heap.IsTupleIter i2 l2 k2) (hl1 : s.heap.IsTuple l1 xs) (hl2 : s.heap.IsTuple l2 ys) (e1 : xs[k1]? = none) (e2 : ys[k2]? = none)
    (hTO : IsPair s.heap TO a b)
    (hE : ∀ h' e, (∀ c o, c ≠ z → c ≠ TO → c ≠ i1 → c ≠ i2 → s.heap.get? c = some o → h'.get? c = some o) → (∃ o, h'.get? e = some o ∧ o.cls = .type "StopIteration") → E (.ref e) { s with heap := h' }) :
    wpAny (model prog w) A (Builtin.«zip.__next__» ⟨[.ref z], []⟩) Q E s := by
  show wpAny _ _ (field (.ref z) 2 >>= _) _ _ _
  refine wpAny_bind (wpAny_field hz rfl (x := .bool true) rfl ?_)
  show wpAny _ _ (field (.ref z) 3 >>= _) _ _ _
  refine wpAny_bind (wpAny_field hz rfl (x := .ref TI) rfl (wpAny_bind (wpAny_seqItems hTI rfl ?_)))
  show wpAny _ _ (Builtin.SmallTypes.ownedTupleIsFree (.ref z) >>= _) _ _ _
  refine wpAny_bind ?_
  unfold Builtin.SmallTypes.ownedTupleIsFree
  refine wpAny_bind (wpAny_field hz rfl (x := .none) rfl (wpAny_pure ?_))
  simp only [if_true]
  refine wpAny_bind (wpAny_rule (wpAny_bind (wpAny_field hz rfl (x := .ref TO) rfl (wpAny_bind (wpAny_setField_rec hz (by simp) fun h₁ hz₁ hs₁ => ?_)))))
  replace hz₁ : IsZipS h₁ z TI TO .ellipsis := hz₁
  refine wpAny_bind ?_
  simp only [List.zipIdx_cons, List.zipIdx_nil, List.forIn_cons, List.forIn_nil]
  refine wpAny_bind (wpAny_bind (wpAny_onRaise ?_))
  show wpAny _ _ (Builtin.SmallTypes.nextOrEnd (.ref i1)) _ _ _
  refine noe_end hh (h1.extBut hs₁.extBut D.i1z) (hl1.extBut hs₁.extBut D.l1z) e1 fun h₂ hs₂ => ?_
  have hz₂ : IsZipS h₂ z TI TO .ellipsis := hs₂ _ _ D.i1z.symm hz₁
  refine wpAny_bind (wpAny_setField_rec hz₂ (by simp) fun h₃ hz₃ hs₃ => ?_)
  have it2 : h₃.IsTupleIter i2 l2 k2 := ((h2.extBut hs₁.extBut D.i2z).extBut hs₂ D.i12.symm).extBut hs₃.extBut D.i2z
  have ht2 : h₃.IsTuple l2 ys := ((hl2.extBut hs₁.extBut D.l2z).extBut hs₂ D.l2i1).extBut hs₃.extBut D.l2z
  have kk : ∀ c o, c ≠ z → c ≠ i1 → s.heap.get? c = some o → h₃.get? c = some o := fun c o c1 c3 e => hs₃.extBut _ _ c1 (hs₂ _ _ c3 (hs₁.extBut _ _ c1 e))
  refine wpAny_bind ?_
  show wpAny _ _ (forIn [((Value.ref i2, 1) : Value × Nat)] PUnit.unit _ >>= _) _ _ _
  simp only [List.forIn_cons, List.forIn_nil]
  refine wpAny_bind (wpAny_bind ?_)
  show wpAny _ _ (Builtin.SmallTypes.nextOrEnd (.ref i2) >>= _) _ _ _
  refine wpAny_bind (noe_end hh it2 ht2 e2 fun h₄ hs₄ => ?_)
  rw [if_neg (by simp)]
  refine wpAny_pure (wpAny_pure ?_)
  refine wpAny_bind (wpAny_rule (stop_now hh fun h₅ e hk he => ?_))
  exact hE h₅ e (fun c o c1 c2 c3 c4 q => hk _ _ (hs₄ _ _ c4 (kk c o c1 c3 q))) he
theorem pyNext_zipS_item {z TI TO i1 i2 l1 l2 : Addr} {k1 k2 : Nat} {xs ys : Array Value} {x y a b : Value} {Q : Option Value → Shared → Prop} (D : ZipApart z TI TO i1 i2 l1 l2)
    (hz : IsZipS s.heap z TI TO .none) (hTI : IsPair s.heap TI (.ref i1) (.ref i2)) (hTO : IsPair s.heap TO a b) (h1 : s.heap.IsTupleIter i1 l1 k1) (h2 : s.heap.IsTupleIter i2 l2 k2) (hl1 : s.heap.IsTuple l1 xs) (hl2 : s.heap.IsTuple l2 ys) (hx : xs[k1]? = some x) (hy : ys[k2]? = some y)
    (hQ : ∀ h', IsZipS h' z TI TO (rawInt s.heap.objs.size) → IsPair h' TO x y → h'.IsTupleIter i1 l1 (k1 + 1) → h'.IsTupleIter i2 l2 (k2 + 1) → IsPair h' s.heap.objs.size x y → h'.objs.size = s.heap.objs.size + 1 →
      (∀ c o, c ≠ z → c ≠ TO → c ≠ i1 → c ≠ i2 → s.heap.get? c = some o → h'.get? c = some o) → Q (some (.ref s.heap.objs.size)) { s with heap := h' }) : wpAny (model prog w) A (pyNext (.ref z)) Q E s := by
  have hT : s.TypeIs (.ref z) "zip" := ⟨_, hz, rfl⟩
  unfold pyNext
  exact wpAny_bind (wpAny_attempt (wpAny_callSpecial?_slot (name := Str.ofString "__next__") hT F.slot_zip_next (wpAny_call_entry F.slot_zip_next hT F.entry_zip_next
    (zipS_item D hz hTI hTO h1 h2 hl1 hl2 hx hy fun h' a1 a2 a3 a4 a5 a6 a7 => wpAny_pure (hQ h' a1 a2 a3 a4 a5 a6 a7)) (F.args_zip_next_1 _))))
theorem pyNext_zipS_end {z TI TO i1 i2 l1 l2 : Addr} {k1 k2 : Nat} {xs ys : Array Value} {a b : Value} {Q : Option Value → Shared → Prop} (hh : A.handled = none) (D : ZipApart z TI TO i1 i2 l1 l2)
    (hz : IsZipS s.heap z TI TO .none) (hTI : IsPair s.heap TI (.ref i1) (.ref i2)) (hTO : IsPair s.heap TO a b) (h1 : s.heap.IsTupleIter i1 l1 k1) (h2 : s.heap.IsTupleIter i2 l2 k2) (hl1 : s.heap.IsTuple l1 xs) (hl2 : s.heap.IsTuple l2 ys) (e1 : xs[k1]? = none) (e2 : ys[k2]? = none)
    (hQ : ∀ h', (∀ c o, c ≠ z → c ≠ TO → c ≠ i1 → c ≠ i2 → s.heap.get? c = some o → h'.get? c = some o) → Q none { s with heap := h' }) : wpAny (model prog w) A (pyNext (.ref z)) Q E s := by
  have hT : s.TypeIs (.ref z) "zip" := ⟨_, hz, rfl⟩
  unfold pyNext
  refine wpAny_bind (wpAny_attempt (wpAny_callSpecial?_slot (name := Str.ofString "__next__") hT F.slot_zip_next
    (wpAny_call_entry F.slot_zip_next hT F.entry_zip_next (zipS_end hh D hz hTI h1 h2 hl1 hl2 e1 e2 hTO fun h' e hk he => ?_) (F.args_zip_next_1 _))))
  obtain ⟨o, ho, hc⟩ := he
  exact wpAny_bind (wpAny_isInstance (T := "StopIteration") (b := true) ⟨o, ho, hc⟩ isSubtype_stop (wpAny_pure (hQ _ hk)))
theorem iter_zipS {z TI TO : Addr} {v : Value} {Q : Value → Shared → Prop} (hz : IsZipS s.heap z TI TO v) (h : Q (.ref z) s) : wpAny (model prog w) A (pyIter (.ref z)) Q E s := by
  have hT : s.TypeIs (.ref z) "zip" := ⟨_, hz, rfl⟩
  refine wpAny_pyIter_slot hT F.slot_zip_iter (wpAny_call_entry F.slot_zip_iter hT F.entry_zip_iter ?_ (F.args_zip_iter_1 _))
  show wpAny _ _ (ret (.ref z)) _ _ s
  exact wpAny_pure ⟨_, rfl, "zip", _, hT, F.slot_zip_next.lookup, h⟩
theorem owned_zipS {elts : List Expr} {x1} {pos : Pos} {z TI TO T : Addr} {Q : Unit → Shared → Prop} (hz : IsZipS s.heap z TI TO (rawInt T))
    (hQ : ∀ h', IsZipS h' z TI TO .none → Heap.SameBut z s.heap h' → Q () { s with heap := h' }) : wpAny (model prog w) A (letOwnedTupleGo (.Tuple elts x1 pos) (.ref z) (.ref T)) Q E s := by
  unfold letOwnedTupleGo
  refine wpAny_bind (wpAny_load hz ?_)
  show wpAny _ _ (if (_ && (#[rawInt T, .bool false, .bool true, .ref TI, .ref TO] : Array Value)[0]? == some (rawInt T)) = true then _ else _) Q E s
  rw [if_pos (by simp)]
  refine wpAny_bind (wpAny_rule ?_)
  show wpAny _ _ (setField (.ref z) 0 .none) Q E s
  exact wpAny_setField_rec hz (by simp) fun h' hz' hs' => hQ h' hz' hs'
end
namespace F
theorem typeCall_zip_strict (a b v : Value) : checkTypeCall "zip" ⟨[a, b], [(Str.ofString "strict", v)]⟩ = pure () := by kernel_rfl
theorem newCall_zip_strict (a b v : Value) : checkBuiltinCall "zip.__new__" ⟨[.type "zip", a, b], [(Str.ofString "strict", v)]⟩ = pure () := by kernel_rfl
theorem args_init_strict (obj a b v : Value) : argsOk "object.__init__" ⟨[obj, a, b], [(Str.ofString "strict", v)]⟩ := by unfold argsOk; kernel_rfl
end F
noncomputable abbrev zpS1 (h : Heap) (l1 : Addr) : Heap := h.push { cls := .type "tuple_iterator", data := .fields #[.ref l1, .int 0 0] }
noncomputable abbrev zpS2 (h : Heap) (l1 l2 : Addr) : Heap := (zpS1 h l1).push { cls := .type "tuple_iterator", data := .fields #[.ref l2, .int 0 0] }
noncomputable abbrev zpS3 (h : Heap) (l1 l2 : Addr) : Heap := (zpS2 h l1 l2).push { cls := .type "tuple", data := .seq #[.ref h.objs.size, .ref (zpS1 h l1).objs.size] }
noncomputable abbrev zpS4 (h : Heap) (l1 l2 : Addr) : Heap := (zpS3 h l1 l2).push { cls := .type "tuple", data := .seq #[.none, .none] }
noncomputable abbrev zpS5 (h : Heap) (l1 l2 : Addr) : Heap := (zpS4 h l1 l2).push { cls := .type "zip", data := .fields #[.none, .bool false, .bool true, .ref (zpS2 h l1 l2).objs.size, .ref (zpS3 h l1 l2).objs.size] }
theorem meets_zipS_new (l1 l2 : Addr) (xs ys : Array Value) :
    Meets (Builtin.«zip.__new__» ⟨[.type "zip", .ref l1, .ref l2], [(Str.ofString "strict", .bool true)]⟩) (fun _ R s => s.heap.IsTuple l1 xs ∧ s.heap.IsTuple l2 ys ∧
      R (.ok (.ret (.ref (zpS4 s.heap l1 l2).objs.size))) { s with heap := zpS5 s.heap l1 l2 }) :=
  .of_wp fun prog w A R s h => by
    obtain ⟨hp, g, d, tk, os⟩ := s; obtain ⟨hl1, hl2, h⟩ := h
    have hsub := sub_zip
    have hL1 : Heap.IsTuple (Shared.heap ⟨hp, g, d, tk, os⟩) l1 xs := hl1
    have hL2 : Heap.IsTuple (Shared.heap ⟨hp.push { cls := .type "tuple_iterator", data := .fields #[.ref l1, .int 0 0] }, g, d, tk, os⟩) l2 ys := Heap.IsTuple.push hl2 _
    have e2 : (Str.ofString "strict" != ("strict" : Str)) = false := by decide +kernel
    wp_walk using wpAny_pyIter_tuple hL1, wpAny_pyIter_tuple hL2
    exact ⟨_, rfl, h⟩
section
variable {prog : Program} {w : World} {A : Around} {E : Value → Shared → Prop} {s : Shared}
theorem call_zipS {l1 l2 : Addr} {xs ys : Array Value} {Q : Value → Shared → Prop} (hl1 : s.heap.IsTuple l1 xs) (hl2 : s.heap.IsTuple l2 ys)
    (h : ∀ h', IsZipS h' (s.heap.objs.size + 4) (s.heap.objs.size + 2) (s.heap.objs.size + 3) .none → IsPair h' (s.heap.objs.size + 2) (.ref s.heap.objs.size) (.ref (s.heap.objs.size + 1)) →
      IsPair h' (s.heap.objs.size + 3) .none .none → h'.IsTupleIter s.heap.objs.size l1 0 → h'.IsTupleIter (s.heap.objs.size + 1) l2 0 → (∀ c o, s.heap.get? c = some o → h'.get? c = some o) → Q (.ref (s.heap.objs.size + 4)) { s with heap := h' }) :
    wpAny (model prog w) A (call (.type "zip") [.ref l1, .ref l2] [(Str.ofString "strict", .bool true)]) Q E s := by
  refine callType_newKw F.called_zip (by decide) (F.typeCall_zip_strict _ _ _) (F.newCall_zip_strict _ _ _) (fun obj => F.args_init_strict obj _ _ _) F.entry_zip_new (meets_zipS_new l1 l2 xs ys) ⟨hl1, hl2, ?_⟩
  have z1 : (zpS1 s.heap l1).objs.size = s.heap.objs.size + 1 := Heap.size_push ..
  have z2 : (zpS2 s.heap l1 l2).objs.size = s.heap.objs.size + 2 := by rw [Heap.size_push, z1]
  have z3 : (zpS3 s.heap l1 l2).objs.size = s.heap.objs.size + 3 := by rw [Heap.size_push, z2]
  have z4 : (zpS4 s.heap l1 l2).objs.size = s.heap.objs.size + 4 := by rw [Heap.size_push, z3]
  have g5 : (zpS5 s.heap l1 l2).get? (zpS4 s.heap l1 l2).objs.size = some _ := Heap.get?_push_size _ rfl
  have g4 : (zpS5 s.heap l1 l2).get? (zpS3 s.heap l1 l2).objs.size = some _ := Heap.get?_push_of_some _ (Heap.get?_push_size _ rfl)
  have g3 : (zpS5 s.heap l1 l2).get? (zpS2 s.heap l1 l2).objs.size = some _ := Heap.get?_push_of_some _ (Heap.get?_push_of_some _ (Heap.get?_push_size _ rfl))
  have g2 : (zpS5 s.heap l1 l2).get? (zpS1 s.heap l1).objs.size = some _ := Heap.get?_push_of_some _ (Heap.get?_push_of_some _ (Heap.get?_push_of_some _ (Heap.get?_push_size _ rfl)))
  have g1 : (zpS5 s.heap l1 l2).get? s.heap.objs.size = some _ := Heap.get?_push_of_some _ (Heap.get?_push_of_some _ (Heap.get?_push_of_some _ (Heap.get?_push_of_some _ (Heap.get?_push_size _ rfl))))
  show _ ∧ _
  rw [z2, z3, z4] at g5
  rw [z1, z2] at g3
  rw [z3] at g4
  rw [z1] at g2
  rw [z4]
  exact ⟨⟨_, g5, rfl⟩, h _ g5 g3 g4 ⟨_, g1, rfl, rfl⟩ ⟨_, g2, rfl, rfl⟩ fun c o e => Heap.get?_push_of_some _ (Heap.get?_push_of_some _ (Heap.get?_push_of_some _ (Heap.get?_push_of_some _ (Heap.get?_push_of_some _ e))))⟩
end
end PySem

namespace PyProof.Rows
open PySem
section
variable {M : Model} {A : Around} {E : Value → Shared → Prop} {s : Shared} {env : Env}
theorem tg_callWith_typeKw {pos : Pos} {T : String} {e : Expr} {rest : List Expr} {kws : List Keyword} {Q : Value → Shared → Prop}
    (h : wpAny M A (spliced (backTo pos (starEach (e :: rest) env))) (fun vs s₁ => wpAny M A (evalAll ((backToKw pos (keywordEach kws env)).map (·.2)))
      (fun kvs s₂ => wpAny M A (call (.type T) vs (((backToKw pos (keywordEach kws env)).filterMap (·.1)).zip kvs)) Q E s₂) E s₁) E s)
    (he : backTo pos (starEach (e :: rest) env) = (false, eval e env) :: backTo pos (starEach rest env) := by rfl) (hp : (backTo pos (starEach (e :: rest) env)).any (·.1) = false := by rfl)
    (hall : (backToKw pos (keywordEach kws env)).all (·.1.isSome) = true := by rfl) (hkw : (backToKw pos (keywordEach kws env)).any (·.1.isNone) = false := by rfl) :
    wpAny M A (callWith pos (.type T) [] (backTo pos (starEach (e :: rest) env)) (backToKw pos (keywordEach kws env))) Q E s := by
  have g : wpAny M A (evalArgs (.type T) true (backTo pos (starEach (e :: rest) env)) (backToKw pos (keywordEach kws env))) (fun a s₁ => wpAny M A (call (.type T) ([] ++ a.pos) a.kw) Q E s₁) E s := by
    rw [he] at h ⊢
    exact evalArgs_kwB hall h
  unfold callWith
  refine wpAny_bind (wpAny_holding (wpAny_mono g (fun a s₁ h₁ => wpAny_bind (wpAny_standAt ?_)) fun _ _ x => x))
  simp only [hp, hkw, Bool.or_false]
  exact wpAny_bind (wpAny_pure (wpAny_bind (wpAny_mono h₁ (fun r s₂ hr => wpAny_bind (wpAny_holding (wpAny_point (wpAny_pure hr)))) fun _ _ x => x)))
end
end PyProof.Rows
namespace TG
open PySem L2 PyProof.Rows
noncomputable def ItzS (K : PySem.W.Frag) (a b : Addr) : It :=
  { go := fun i H => ∃ (xs ys : List V) (x y : V), SqT K H a xs ∧ SqT K H b ys ∧ xs[i]? = some x ∧ ys[i]? = some y
    yld := fun i H v H' => ∃ T x y, v = .ref T ∧ H T = none ∧ H' = upd H T (.tup [x, y]) ∧ (∀ xs, SqT K H a xs → xs[i]? = some x) ∧ ∀ ys, SqT K H b ys → ys[i]? = some y
    stop := fun i H => ∃ xs ys : List V, SqT K H a xs ∧ SqT K H b ys ∧ xs.length ≤ i ∧ ys.length ≤ i }
theorem turn_zipS {P : Program} {w : World} {K : PySem.W.Frag} {elts : List Expr} {kk : Nat} {tpos : Pos} {a b z TI TO i1 i2 : Addr} (D : ZipApart z TI TO i1 i2 a b) :
    Turn P w K (.Tuple elts kk tpos) (ItzS K a b) [z, TI, TO, i1, i2] z (fun i h => IsZipS h z TI TO .none ∧ IsPair h TI (.ref i1) (.ref i2) ∧ (∃ x y, IsPair h TO x y) ∧ h.IsTupleIter i1 a i ∧ h.IsTupleIter i2 b i) where
  mem := by simp
  obj := fun i h st c hc => by
    obtain ⟨hz, hTI, ⟨x, y, hTO⟩, ⟨o1, e1, _, d1⟩, ⟨o2, e2, _, d2⟩⟩ := st
    rcases (by simpa using hc : c = z ∨ c = TI ∨ c = TO ∨ c = i1 ∨ c = i2) with rfl | rfl | rfl | rfl | rfl
    · exact ⟨_, hz, fun v q => nomatch q⟩
    · exact ⟨_, hTI, fun v q => nomatch q⟩
    · exact ⟨_, hTO, fun v q => nomatch q⟩
    · exact ⟨o1, e1, fun v q => by rw [d1] at q; cases q⟩
    · exact ⟨o2, e2, fun v q => by rw [d2] at q; cases q⟩
  keep := fun i h h' st k => by
    obtain ⟨hz, hTI, ⟨x, y, hTO⟩, h1, h2⟩ := st
    exact ⟨k z (by simp) _ hz, k TI (by simp) _ hTI, ⟨x, y, k TO (by simp) _ hTO⟩, h1.at fun o q => k i1 (by simp) o q, h2.at fun o q => k i2 (by simp) o q⟩
  item := by
    intro X hP hw hK hc i pins s σ H E I hf st hg
    subst hP hw hK
    obtain ⟨hz, hTI, ⟨x0, y0, hTO⟩, h1, h2⟩ := st
    obtain ⟨xs, ys, x, y, hqx, hqy, hx, hy⟩ := hg
    obtain ⟨its, rv, p, _⟩ := I.tuple hqx
    obtain ⟨its2, rv2, p2, _⟩ := I.tuple hqy
    obtain ⟨u, hu, ru⟩ := rv.get hx
    obtain ⟨u2, hu2, ru2⟩ := rv2.get hy
    have hzl : z < s.heap.objs.size := Heap.lt_size hz
    refine pyNext_zipS_item D hz hTI hTO h1 h2 p p2 (x := u) (y := u2) (by simpa using hu) (by simpa using hu2) fun h' z' TO' h1' h2' hT hsz hk => ?_
    refine ⟨_, rfl, owned_zipS (s := { s with heap := h' }) z' fun h'' z'' sb => ?_⟩
    have hT2 : h''.get? s.heap.objs.size = some { cls := .type "tuple", data := .seq #[u, u2] } := (sb.2 _ (Nat.ne_of_gt hzl)).trans hT
    have new : ObjOk X.prog X.w (upd H s.heap.objs.size (.tup [x, y])) h'' s.heap.objs.size (.tup [x, y]) := ⟨by show 2 ≤ sizeLine; decide, [u, u2], .cons ru (.cons ru2 .nil), ⟨_, hT2, rfl, _, rfl⟩⟩
    have I1 : Inv X pins σ (upd H s.heap.objs.size (.tup [x, y])) { s with heap := h'' } :=
      I.turnedNew (t' := s.toks) (ch := [z, TI, TO, i1, i2]) (fun c o hb q => (sb.2 c (fun q' => hb (by simp [q']))).trans (hk c o (fun q' => hb (by simp [q'])) (fun q' => hb (by simp [q'])) (fun q' => hb (by simp [q'])) (fun q' => hb (by simp [q'])) q)) hf (Nat.le_refl _) new
    refine ⟨.ref s.heap.objs.size, _, I1, rfl, ⟨_, x, y, rfl, I.hok.fresh (Nat.le_refl _), rfl, fun l hl => by rw [I.tuple_inj hl hqx]; exact hx, fun l hl => by rw [I.tuple_inj hl hqy]; exact hy⟩, ⟨z'', ?_, ⟨u, u2, ?_⟩, ?_, ?_⟩, fun c hcm => ?_⟩
    · exact (sb.2 _ D.TIz).trans (hk _ _ D.TIz D.TITO D.TIi1 D.TIi2 hTI)
    · exact (sb.2 _ D.TOz).trans TO'
    · exact h1'.at fun o q => (sb.2 _ D.i1z).trans q
    · exact h2'.at fun o q => (sb.2 _ D.i2z).trans q
    · have hlt : c < s.heap.objs.size := by
        rcases (by simpa using hcm : c = z ∨ c = TI ∨ c = TO ∨ c = i1 ∨ c = i2) with q | q | q | q | q
        · rw [q]; exact hzl
        · rw [q]; exact Heap.lt_size hTI
        · rw [q]; exact Heap.lt_size hTO
        · rw [q]; obtain ⟨_, e1, _⟩ := h1; exact Heap.lt_size e1
        · rw [q]; obtain ⟨_, e2, _⟩ := h2; exact Heap.lt_size e2
      rw [upd_ne (Nat.ne_of_lt hlt)]
      exact (hf c hcm).1
  done := by
    intro X hP hw hK hc i pins s σ H E I hf st hg
    subst hP hw hK
    obtain ⟨hz, hTI, ⟨x0, y0, hTO⟩, h1, h2⟩ := st
    obtain ⟨xs, ys, hqx, hqy, q1, q2⟩ := hg
    obtain ⟨its, rv, p, _⟩ := I.tuple hqx
    obtain ⟨its2, rv2, p2, _⟩ := I.tuple hqy
    have l1 := rv.length
    have l2 := rv2.length
    exact pyNext_zipS_end (I.ok.hd hc) D hz hTI hTO h1 h2 p p2 (by simp; omega) (by simp; omega) fun h' hk => ⟨rfl, I.turnedL (t' := s.toks) (ch := [z, TI, TO, i1, i2]) (fun c o hb q =>
      hk c o (fun q' => hb (by simp [q'])) (fun q' => hb (by simp [q'])) (fun q' => hb (by simp [q'])) (fun q' => hb (by simp [q'])) q) hf⟩
  self := fun A i s Q E st h => iter_zipS st.1 h
noncomputable def iZipSt (K : PySem.W.Frag) (ta : TA) : TI := fun σ H R => ta σ H fun vs H1 => ∃ a b xs ys, vs = [.ref a, .ref b] ∧ SqT K H1 a xs ∧ SqT K H1 b ys ∧ R (ItzS K a b) H1
theorem pi_zipS {X : Cx} {e e2 : Expr} {ta : TA} {p pos tpos kp cp : Pos} {elts : List Expr} {kk j : Nat} (hg : Gl X "zip") (hm : X.mg "zip" = none) (ha : PA X [e, e2] ta)
    (hs : backTo pos (starEach [e, e2] X.env) = (false, eval e X.env) :: backTo pos (starEach [e2] X.env) := by rfl) (hpl : (backTo pos (starEach [e, e2] X.env)).any (·.1) = false := by rfl) :
    PI X (.Tuple elts kk tpos) (.Call (.Name "zip" p) [e, e2] [⟨some "strict", .Constant (.bool true) j cp, kp⟩] pos) (iZipSt X.K ta) := by
  refine ⟨fun pins s σ H R I h => ?_⟩
  refine wpAny_Call_Name_kw (ld_blt I hg hm PyProof.Rows.boot_zip (PyProof.Rows.tg_callWith_typeKw (thn (ha.run pos pins s σ H _ I h) fun us s1 ⟨vs, H1, I1, r1, q1⟩ => ?_) hs hpl))
  have hk : PK X [⟨some "strict", .Constant (.bool true) j cp, kp⟩] (tCons (tC (.bl true)) tNil) := pk_cons pe_bl pk_nil
  refine thn (hk.run pos pins s1 σ H1 (fun zs H2 => zs = [V.bl true] ∧ H2 = H1) I1 ⟨rfl, rfl⟩) fun ws s2 ⟨zs, H2, I2, r2, q2⟩ => ?_
  obtain ⟨rfl, rfl⟩ := q2
  obtain ⟨a, b, xs, ys, ex, hqx, hqy, q⟩ := q1
  subst ex
  cases r2 with
  | cons rb rn =>
    cases rn
    cases rb
    cases r1 with
    | cons r rr =>
      cases rr with
      | cons r' rr =>
        cases rr
        cases r
        cases r'
        obtain ⟨its, rv, p1, _⟩ := I2.tuple hqx
        obtain ⟨its2, rv2, p2, _⟩ := I2.tuple hqy
        obtain ⟨o1, ho1, _⟩ := id p1
        obtain ⟨o2, ho2, _⟩ := id p2
        refine call_zipS (show s2.heap.IsTuple a its.toArray from p1) (show s2.heap.IsTuple b its2.toArray from p2) fun h' hz hTI hTO h1 h2 hk => iter_zipS hz ?_
        have I3 : Inv X pins σ H2 { s2 with heap := h' } := I2.kept (t' := s2.toks) hk
        refine ⟨s2.heap.objs.size + 4, [s2.heap.objs.size + 4, s2.heap.objs.size + 2, s2.heap.objs.size + 3, s2.heap.objs.size, s2.heap.objs.size + 1], _, _, H2, rfl, I3, turn_zipS (PySem.W.ktu_apart s2.heap.objs.size a b (Heap.lt_size ho1) (Heap.lt_size ho2)), ⟨hz, hTI, ⟨_, _, hTO⟩, h1, h2⟩, fun c hcm => ?_, q⟩
        have hle : s2.heap.objs.size ≤ c := by
          rcases (by simpa using hcm : c = s2.heap.objs.size + 4 ∨ c = s2.heap.objs.size + 2 ∨ c = s2.heap.objs.size + 3 ∨ c = s2.heap.objs.size ∨ c = s2.heap.objs.size + 1) with z | z | z | z | z
          · rw [z]; exact Nat.le_add_right _ _
          · rw [z]; exact Nat.le_add_right _ _
          · rw [z]; exact Nat.le_add_right _ _
          · rw [z]; exact Nat.le_refl _
          · rw [z]; exact Nat.le_add_right _ _
        exact I2.fpOk hle (I2.hok.fresh hle)
noncomputable def zipD (l r : List D) : List W := (l.zip r).map fun p => W.d (.tup [p.1, p.2])
noncomputable def kZipS : List W → S → Res (List W) := fun ws s => match ws with
  | [.d (.tup l), .d (.tup r)] => if l.length = r.length then .ok (zipD l r) s else .no
  | _ => .no
noncomputable def eZipS (a : Cmp (List W)) : Cmp (List W) := fun ρ s => (a ρ s).bind kZipS
section
variable {X : Cx} {cl : Str → Option Addr} {Wx : WX} {e e2 : Expr} {elts : List Expr} {kk j : Nat} {tpos pos p kp cp : Pos} {el : Cmp (List W)}
theorem ji_zipS (hg : Gl X "zip") (hm : X.mg "zip" = none) (h : JA cl Wx X [e, e2] el) (hs : backTo pos (starEach [e, e2] X.env) = (false, eval e X.env) :: backTo pos (starEach [e2] X.env) := by rfl) (hpl : (backTo pos (starEach [e, e2] X.env)).any (·.1) = false := by rfl) :
    JI cl Wx X (.Tuple elts kk tpos) (.Call (.Name "zip" p) [e, e2] [⟨some "strict", .Constant (.bool true) j cp, kp⟩] pos) (eZipS el) :=
  PI.weaken (pi_zipS hg hm h hs hpl) fun σ H R ⟨H0, m, ow, s, ρ, cx, q⟩ => ⟨H0, m, ow, s, ρ, cx, RunE.bind q fun ws s1 vs H1 H1' m1 g st rr q1 => by
    have q1 : RunE X.K cl (rrI X.K cl) Wx H1 H1' m1 σ R (kZipS ws s1) := q1
    unfold kZipS at q1
    split at q1
    · rename_i l r _
      split at q1
      · rename_i hl
        cases rr with
        | cons r1 r2 =>
          cases r2 with
          | cons r2 r3 =>
            cases r3
            cases r1 with
            | tup a1 a2 =>
              cases r2 with
              | tup b1 b2 =>
                rename_i vs1 pa us pb
                refine ⟨_, _, _, _, rfl, sqT_of (st.sub _ _ a1), sqT_of (st.sub _ _ b1), q1 _ H1 H1' m1 Go.refl st ?_⟩
                have l1 := a2.length
                have l2 := b2.length
                have lz : (zipD l r).length = l.length := by simp [zipD, hl]
                refine ⟨fun i H2 H3 m2 s2 e' _ st' hi => ?_, fun i H2 H3 m2 s2 e' _ st' hi => ?_, fun i H2 H3 m2 s2 v H4 e' _ st' hi y => ?_⟩
                · exact ⟨_, _, sqT_of (st'.sub _ _ (e' _ _ a1)), sqT_of (st'.sub _ _ (e' _ _ b1)), by omega, by omega⟩
                · rw [lz] at hi
                  exact ⟨_, _, _, _, sqT_of (st'.sub _ _ (e' _ _ a1)), sqT_of (st'.sub _ _ (e' _ _ b1)), List.getElem?_eq_getElem (by omega), List.getElem?_eq_getElem (by omega)⟩
                · obtain ⟨T, x, z, rfl, hT, rfl, hx, hz⟩ := y
                  rw [lz] at hi
                  have hi2 : i < r.length := by omega
                  have hzp : (l.zip r)[i]? = some (l[i], r[i]) := by rw [List.getElem?_eq_getElem (by rw [List.length_zip]; omega), List.getElem_zip]
                  have hx := hx _ (sqT_of (st'.sub _ _ (e' _ _ a1)))
                  have hz := hz _ (sqT_of (st'.sub _ _ (e' _ _ b1)))
                  obtain ⟨u, e1, e2⟩ := ((a2.mono e').ws (m := m2)).get (i := i) (x := W.d l[i]) (by simp [wD, hi])
                  obtain ⟨u', e3, e4⟩ := ((b2.mono e').ws (m := m2)).get (i := i) (x := W.d r[i]) (by simp [wD, hi2])
                  rw [hx] at e1
                  rw [hz] at e3
                  cases e1
                  cases e3
                  refine ⟨upd H2 T (.tup [x, z]), Go.alloc st' hT, st'.alloc hT, W.d (.tup [l[i], r[i]]), by simp [zipD, hzp], Rep.tup upd_same (.cons (Rep.mono (same_upd (st'.h0 hT)) e2) (.cons (Rep.mono (same_upd (st'.h0 hT)) e4) .nil))⟩
      · exact q1.elim
    · exact q1.elim⟩
end
end TG

set_option Elab.async false
set_option linter.all false
set_option maxRecDepth 100000
set_option maxHeartbeats 4000000
namespace GQ
open PySem PySem.SeqAt
open AutoSeq1 (wpAny_loadPart')
open MeetsSeq MeetsSeq2 MeetsSeq3 SeqRoads2
section
variable {prog : Program} {w : World} {A : Around} {R : Result → Shared → Prop}
theorem tg_ne_loop (l b : Addr) (N : Nat) (I : Nat → Shared → Prop) (hl : ListI prog w A (fun e s' => R (.error e) s') l b N I) (fin : ∀ s, I N s → R (.ok (.ret (.bool false))) s) (k : Nat) :
    ∀ i : Nat, N - i = k → i ≤ N → ∀ s, I i s → wpAny (model prog w) A.in1 (Builtin.«list.__eq__.loop» ⟨[.ref l, .ref b, rawInt i, rawInt 3], []⟩) (FinOf prog w A R) (fun e s' => R (.error e) s') s := by
  induction k with
  | zero =>
    intro i hk hi s h
    obtain ⟨items, items2, n, n2, hl1, hb1, hs1, hs2, _⟩ := hl _ _ h
    have hi' : i = N := by omega
    have hR : R (.ok (.ret (.bool false))) s := fin s (hi' ▸ h)
    obtain ⟨hp, g, d, tk, os⟩ := s
    wp_walk using wpAny_loadPart' hl1, wpAny_loadPart' hb1
    have hi1 : items[((i : Nat) : Int).toNat]? = none := by simp; omega
    have hi2 : items2[((i : Nat) : Int).toNat]? = none := by simp; omega
    rw [hi1, hi2]
    wp_walk using wpAny_loadPart' hl1, wpAny_loadPart' hb1
    show R (.ok (.ret (.bool (items.size != items2.size)))) _
    rw [hs1, hs2]
    simpa using hR
  | succ k ih =>
    intro i hk hi s h
    obtain ⟨items, items2, n, n2, hl1, hb1, hs1, hs2, turn⟩ := hl _ _ h
    have hlt : i < items.size := by omega
    have hlt2 : i < items2.size := by omega
    have ht := turn hlt hlt2
    obtain ⟨hp, g, d, tk, os⟩ := s
    wp_walk using wpAny_loadPart' hl1, wpAny_loadPart' hb1
    have hi1 : items[((i : Nat) : Int).toNat]? = some items[i] := by simp [hlt]
    have hi2 : items2[((i : Nat) : Int).toNat]? = some items2[i] := by simp [hlt2]
    have hc : ((i : Int) + 1) = ((i + 1 : Nat) : Int) := by omega
    rw [hi1, hi2]
    refine wpAny_bind (wpAny_mono ht (fun r s2 h2 => ?_) fun _ _ x => x)
    obtain ⟨hr, h2⟩ := h2
    subst hr
    have hrec := ih (i + 1) (by omega) (by omega) s2 h2
    obtain ⟨hp2, g2, d2, tk2, os2⟩ := s2
    wp_walk
    rw [hc]
    exact ⟨plainId_quiet plain_eq_loop _, codeAny_builtin entry_eq_loop (by
      rw [Around.under_plainId plain_eq_loop _]
      exact hrec)⟩
theorem tg_list_ne (l b : Addr) (N : Nat) (I : Nat → Shared → Prop) (hl : ListI prog w A (fun e s' => R (.error e) s') l b N I) (fin : ∀ s, I N s → R (.ok (.ret (.bool false))) s) {s : Shared} (h : I 0 s) :
    wpAny (model prog w) A.in1 (Builtin.«list.__ne__» ⟨[.ref l, .ref b], []⟩) (FinOf prog w A R) (fun e s' => R (.error e) s') s := by
  obtain ⟨items, items2, n, n2, hl1, hb1, hs1, hs2, _⟩ := hl _ _ h
  have hrec := tg_ne_loop (A := A) (R := R) l b N I hl fin _ 0 rfl (Nat.zero_le _) s h
  obtain ⟨hp, g, d, tk, os⟩ := s
  have f3 := AutoSeq1.sub_list_list
  have hne : ¬ (items.size != items2.size) = true := by simp [hs1, hs2]
  wp_walk using wpAny_loadPart' hl1, wpAny_loadPart' hb1
  exact ⟨plainId_quiet plain_eq_loop _, codeAny_builtin entry_eq_loop (by
    rw [Around.under_plainId plain_eq_loop _]
    exact hrec)⟩
end
section
variable {prog : Program} {w : World} {A : Around} {E : Value → Shared → Prop} {s : Shared}
theorem tg_rc_list_ne {l b : Addr} {N : Nat} {Q : Value → Shared → Prop} (hu : A.units < cLine) (I : Nat → Shared → Prop) (hl : ListI prog w A E l b N I)
    (fin : ∀ s, I N s → Q (.bool false) s) (h : I 0 s) : wpAny (model prog w) A (richCompare .NotEq (.ref l) (.ref b)) Q E s := by
  obtain ⟨items, items2, n, n2, hl1, hb1, _, _, _⟩ := hl _ _ h
  refine wpAny_richCompare_same_room (op := .NotEq) ⟨_, hl1, rfl⟩ ⟨_, hb1, rfl⟩ F.slot_list_ne (call_here F.slot_list_ne ⟨_, hl1, rfl⟩ F.entry_list_ne (F.args_list_ne_2 _ _) ?_) hu
  exact tg_list_ne (R := wants (fun v s' => v ≠ .notImplemented ∧ Q v s') E) l b N I hl (fun s' q => ⟨(fun x => nomatch x), fin s' q⟩) h
end
end GQ
namespace TG
open PySem L2 PyProof.Rows
noncomputable def isFootD : D → Bool
  | .ins c [(f, .tup l), (g, .int _)] => decide (c = "Foot") && decide (f = "drops") && decide (g = "middle") && l.all fun x => match x with | .int _ => true | _ => false
  | _ => false
mutual
noncomputable def D.eqk : D → Bool
  | .int _ => true | .non => true | .bl _ => true
  | .tup l => D.eqks l | .lst l => D.eqks l
  | .ins c l => isFootD (.ins c l)
  | _ => false
noncomputable def D.eqks : List D → Bool
  | [] => true
  | x :: r => D.eqk x && D.eqks r
end
mutual
noncomputable def D.lay : D → Nat
  | .tup l => D.lays l + 1 | .lst l => D.lays l + 1
  | _ => 0
noncomputable def D.lays : List D → Nat
  | [] => 0
  | x :: r => max (D.lay x) (D.lays r)
end
theorem eqks_mem : ∀ {l : List D}, D.eqks l = true → ∀ d ∈ l, d.eqk = true
  | a :: r, h, d, hd => by
    rw [D.eqks, Bool.and_eq_true] at h
    rcases List.mem_cons.mp hd with e | e
    · exact e ▸ h.1
    · exact eqks_mem h.2 d e
theorem lays_mem : ∀ {l : List D} {d : D}, d ∈ l → d.lay ≤ D.lays l
  | a :: r, d, h => by
    rw [D.lays]
    rcases List.mem_cons.mp h with e | e
    · exact e ▸ Nat.le_max_left _ _
    · exact Nat.le_trans (lays_mem e) (Nat.le_max_right _ _)
noncomputable def Two (K : PySem.W.Frag) (cl : Str → Option Addr) (d : D) : Eqv := fun x y H => ∃ H0, Same H0 H ∧ Rep K cl H0 x d ∧ Rep K cl H0 y d
theorem Two.mon {K : PySem.W.Frag} {cl : Str → Option Addr} {d : D} : Mon (Two K cl d) := fun x y H H' e ⟨H0, s, a, b⟩ => ⟨H0, s.trans e, a, b⟩
noncomputable def TwoOf (K : PySem.W.Frag) (cl : Str → Option Addr) (l : List D) : Eqv := fun x y H => ∃ d ∈ l, Two K cl d x y H
theorem TwoOf.mon {K : PySem.W.Frag} {cl : Str → Option Addr} {l : List D} : Mon (TwoOf K cl l) := fun x y H H' e ⟨d, hd, t⟩ => ⟨d, hd, Two.mon x y H H' e t⟩
theorem prs_two {K : PySem.W.Frag} {cl : Str → Option Addr} {H0 H : Hp} (s : Same H0 H) {vs us : List V} {l : List D} (a : Reps K cl H0 vs l) (b : Reps K cl H0 us l) : Prs (TwoOf K cl l) vs us H := by
  refine ⟨by rw [a.length, b.length], fun i x y h1 h2 => ?_⟩
  have hi : i < l.length := by rw [← a.length]; exact (List.getElem?_eq_some_iff.mp h1).1
  obtain ⟨u, e1, e2⟩ := (a.ws (m := [])).get (i := i) (x := W.d l[i]) (by simp [wD, hi])
  obtain ⟨u', e3, e4⟩ := (b.ws (m := [])).get (i := i) (x := W.d l[i]) (by simp [wD, hi])
  rw [h1] at e1
  rw [h2] at e3
  cases e1
  cases e3
  exact ⟨l[i], List.getElem_mem hi, H0, s, e2, e4⟩
structure EqFoot (P : Program) (w : World) (K : PySem.W.Frag) (mg : Str → Option Value) (base : Heap) (cl : Str → Option Addr) (k : Nat) (ps : List Str) (f : Sem1) : Prop where
  ex : ∃ (C a : Addr) (fd : FuncData), cl "Foot" = some C ∧ PySem.W.findIn K (.ref C) "__eq__" = some (some (.ref a)) ∧ PySem.W.isFn K (.ref a) = true ∧ Binds K fd ps [] ∧ FnOk P w K mg base (L2.CX P w) k a fd ps (spOf K cl f)
  self : ∀ d, isFootD d = true → f [.d d, .d d] [] = .ok (.w (.d (.bl true))) []
section
variable {X : Cx} {cl : Str → Option Addr} {k : Nat} {ps : List Str} {f : Sem1}
noncomputable def RFoot (K : PySem.W.Frag) (cl : Str → Option Addr) : Addr → Addr → Hp → Prop := fun a b H => ∃ d, isFootD d = true ∧ Two K cl d (.ref a) (.ref b) H
theorem noPass : Passes (L2.CX X.prog X.w) X E0 := fun _ _ _ _ _ _ _ ⟨_, _, _, _, _, _, _, _, _, _, _, _, z⟩ => z.elim
theorem eqG_foot (F : EqFoot X.prog X.w X.K X.mg X.base cl k ps f) {d : D} (hd : isFootD d = true) : EqG X k (Two X.K cl d) := by
  obtain ⟨C, a, fd, h1, h2, h3, h4, h5⟩ := F.ex
  have G : FnOk X.prog X.w X.K X.mg X.base (L2.CX X.prog X.w) k a fd ps (spEq (RFoot X.K cl)) := h5.imp fun vs H Q E ⟨x, y, e, ⟨d, hf, H0, s, r1, r2⟩, q⟩ => by
    subst e
    refine ⟨H0, [], [], [.d d, .d d], ⟨s, rfl, List.nodup_nil, fun n a c h => by simp at h⟩, .cons r1 (.cons r2 .nil), ?_⟩
    rw [F.self d hf]
    intro v H0' H' m' g st rr
    have e : v = .bl true := by
      have rr : RepW X.K cl H0' m' v (.d (.bl true)) := rr
      cases rr
      rfl
    subst e
    exact q H' fun a o h => g.fr a o h (by simp) (by simp)
  refine (eqG_ins G h2 h3 h4 noPass).imp fun x y H ⟨H0, s, r1, r2⟩ => ?_
  cases d with
  | ins c l =>
    cases r1 with
    | ins a1 a2 a3 =>
      cases r2 with
      | ins b1 b2 b3 =>
        have hc : c = "Foot" := by
          unfold isFootD at hd
          split at hd
          · rename_i e
            injection e with e1 e2
            simp only [Bool.and_eq_true, decide_eq_true_eq] at hd
            rw [e1]
            exact hd.1.1.1
          · cases hd
        subst hc
        rw [h1] at a2 b2
        cases a2
        cases b2
        exact ⟨_, _, _, _, _, _, rfl, rfl, s _ _ a1, s _ _ b1, .ins "Foot" l, hd, H0, s, .ins a1 h1 a3, .ins b1 h1 b3⟩
  | _ => cases hd
theorem eqG_two (F : EqFoot X.prog X.w X.K X.mg X.base cl k ps f) : ∀ (n : Nat) (d : D), d.eqk = true → d.lay ≤ n → EqG X (k + n) (Two X.K cl d)
  | n, .int i, _, _ => (eqG_flat.mono (Nat.zero_le _)).imp fun x y H ⟨H0, s, r1, r2⟩ => by cases r1; cases r2; exact ⟨rfl, rfl, by simp [eqV]⟩
  | n, .non, _, _ => (eqG_flat.mono (Nat.zero_le _)).imp fun x y H ⟨H0, s, r1, r2⟩ => by cases r1; cases r2; exact ⟨rfl, rfl, by simp [eqV]⟩
  | n, .bl b, _, _ => (eqG_flat.mono (Nat.zero_le _)).imp fun x y H ⟨H0, s, r1, r2⟩ => by cases r1; cases r2; exact ⟨rfl, rfl, by simp [eqV]⟩
  | n, .str _, h, _ => by simp [D.eqk] at h
  | n, .dic _, h, _ => by simp [D.eqk] at h
  | n, .scr _, h, _ => by simp [D.eqk] at h
  | n, .ins c l, h, _ => (eqG_foot F (by rw [D.eqk] at h; exact h)).mono (Nat.le_add_right _ _)
  | 0, .tup l, _, h => by rw [D.lay] at h; omega
  | 0, .lst l, _, h => by rw [D.lay] at h; omega
  | n + 1, .tup l, h, hn => by
    have ih : EqG X (k + n) (TwoOf X.K cl l) := fun A pins s σ H x y u v sb I rx ry ⟨d, hd, t⟩ =>
      eqG_two F n d (eqks_mem (by rw [D.eqk] at h; exact h) d hd) (by have := lays_mem hd; rw [D.lay] at hn; omega) A pins s σ H x y u v sb I rx ry t
    refine (eqG_tup TwoOf.mon ih).imp fun x y H ⟨H0, s, r1, r2⟩ => ?_
    cases r1 with
    | tup a1 a2 =>
      cases r2 with
      | tup b1 b2 => exact ⟨_, _, _, _, rfl, rfl, sqT_of (s _ _ a1), sqT_of (s _ _ b1), prs_two s a2 b2⟩
  | n + 1, .lst l, h, hn => by
    have ih : EqG X (k + n) (TwoOf X.K cl l) := fun A pins s σ H x y u v sb I rx ry ⟨d, hd, t⟩ =>
      eqG_two F n d (eqks_mem (by rw [D.eqk] at h; exact h) d hd) (by have := lays_mem hd; rw [D.lay] at hn; omega) A pins s σ H x y u v sb I rx ry t
    refine (eqG_list TwoOf.mon ih).imp fun x y H ⟨H0, s, r1, r2⟩ => ?_
    cases r1 with
    | lst a1 a2 =>
      cases r2 with
      | lst b1 b2 => exact ⟨_, _, _, _, rfl, rfl, s _ _ a1, s _ _ b1, prs_two s a2 b2⟩
noncomputable def rNeF (K : PySem.W.Frag) (cl : Str → Option Addr) : R2 := fun x y H Q => (∃ l : List D, D.eqks l = true ∧ D.lays l ≤ 4 ∧ Two K cl (.lst l) x y H) ∧ ∀ H', Ext H H' → Q (.bl false) H'
theorem op_neF (F : EqFoot X.prog X.w X.K X.mg X.base cl k ps f) (hr : Room (k + 5) X.A) : OpR X (compareOp .NotEq) (rNeF X.K cl) := by
  intro pins s σ H x y v u Q I rx ry hq
  obtain ⟨⟨l, h1, h2, H0, sm, r1, r2⟩, q⟩ := hq
  show wpAny (model X.prog X.w) X.A (richCompare .NotEq v u) (EP X pins σ Q) X.xe s
  have ih : EqG X (k + 4) (TwoOf X.K cl l) := fun A pins s σ H x y u v sb I rx ry ⟨d, hd, t⟩ =>
    eqG_two F 4 d (eqks_mem h1 d hd) (Nat.le_trans (lays_mem hd) h2) A pins s σ H x y u v sb I rx ry t
  cases r1 with
  | lst a1 a2 =>
    cases r2 with
    | lst b1 b2 =>
      rename_i pa vs pb us
      cases rx
      cases ry
      have p := prs_two sm a2 b2
      have sb : Sub X (k + 4 + 1) X.A := ⟨hr, rfl⟩
      refine GQ.tg_rc_list_ne (N := vs.length) sb.room.units0 (fun _ s' => LoopI X pins σ H s') (fun i s' qq => ?_) (fun s' ⟨H', I', e⟩ => ⟨.bl false, H', I', rfl, q H' e⟩) ⟨H, I, Ext.rfl'⟩
      obtain ⟨H1, I1, e1⟩ := id qq
      obtain ⟨z, its, kk, r, e⟩ := I1.hok pa _ (e1 _ _ (sm _ _ a1))
      obtain ⟨z2, its2, k2, r2, e2⟩ := I1.hok pb _ (e1 _ _ (sm _ _ b1))
      refine ⟨its.toArray, its2.toArray, kk, k2, e, e2, by rw [List.size_toArray, ← r.length], by rw [List.size_toArray, ← r2.length, ← p.1], fun h1 h2 => ?_⟩
      exact turnG TwoOf.mon ih sb p r r2 i h1 h2 s' qq
open Classical in
noncomputable def fNeF : W → W → S → Res W := fun x y s => match x, y with
  | .d (.lst l), .d (.lst r) => if l = r ∧ D.eqks l = true ∧ D.lays l ≤ 4 then .ok (.d (.bl false)) s else .no
  | _, _ => .no
theorem ops_neF {K : PySem.W.Frag} : OpS K cl (rNeF K cl) fNeF := fun Wx σ H0 H m s x y wx wy Q st rx ry h => by
  unfold fNeF at h
  split at h
  · rename_i l r
    split at h
    · rename_i hh
      obtain ⟨rfl, h1, h2⟩ := hh
      refine ⟨⟨l, h1, h2, H0, st.sub, rx, ry⟩, fun H' e => ?_⟩
      exact h (.bl false) H0 H' m ⟨Same.refl _, List.prefix_rfl, fun a o h _ _ => e a o h, fun a h => by
        cases q : H a with
        | none => exact absurd q h
        | some o => rw [e a o q]; simp, fun _ _ _ _ h => h, fun _ h => .inl h, fun _ h => .inl h⟩ ⟨st.sub.trans e, st.len, st.nd, fun n a c q1 q2 => by
          obtain ⟨z1, z2⟩ := st.cell n a c q1 q2
          exact ⟨z1, z2.mono (Same.refl _) List.prefix_rfl fun o q => e a o q⟩⟩ .bl
    · exact h.elim
  · exact h.elim
end
noncomputable def fIsO (c : Str) : W → S → Res W := fun x s => match x with
  | .d (.ins c2 _) => if c2 = c then .ok (.d (.bl true)) s else .no
  | _ => .no
structure IsC (K : PySem.W.Frag) (mg : Str → Option Value) (cl : Str → Option Addr) (c : Str) : Prop where
  ex : ∃ C, cl c = some C ∧ mg c = some (.ref C) ∧ C8.InsC K C
section
variable {X : Cx} {cl : Str → Option Addr} {Wx : WX} {e : Expr} {pos p q : Pos} {ea : Cmp W} {x y : Str}
theorem je_isO (c : Str) (hg : Gl X x) (hm : X.mg x = none) (hv : bootBuiltins x = some (.builtin "isinstance")) (hg2 : Gl X c) (F : IsC X.K X.mg cl c) (ha : JE cl Wx X e ea)
    (n1 : x ≠ "__name__" := by decide) (n2 : (x == ("__debug__" : Str)) = false := by decide) (n4 : (c == ("__debug__" : Str)) = false := by decide)
    (hs : starEach [e, .Name c q] X.env = (false, eval e X.env) :: starEach [.Name c q] X.env := by rfl) (hs2 : starEach [.Name c q] X.env = (false, eval (.Name c q) X.env) :: starEach [] X.env := by rfl) (h4 : ((backTo pos (starEach [.Name c q] X.env)).any fun x => x.fst) = false := by rfl) :
    JE cl Wx X (.Call (.Name x p) [e, .Name c q] [] pos) (eUn (fIsO c) ea) := by
  obtain ⟨C, hC, hm2, hc⟩ := F.ex
  exact PE.weaken (pe_callB (C8.call_isC hc) hg hm hv (pa_cons ha (pa_cons (pe_glob hg2 hm2 (v := .ref C) rfl n4) pa_nil hs2) hs) n1 n2 hs h4) fun σ H Q ⟨H0, m, ow, s, ρ, cx, h⟩ => ⟨H0, m, ow, s, ρ, cx, RunE.bind h fun a s1 v H1 H1' m1 g st rr h2 => by
    cases a with
    | r n => exact h2.elim
    | d z =>
      cases z with
      | ins c2 l =>
        by_cases hcc : c2 = c
        · have h2 : RunE X.K cl (rrW X.K cl) Wx H1 H1' m1 σ Q (if c2 = c then .ok (.d (.bl true)) s1 else .no) := h2
          rw [if_pos hcc] at h2
          have h3 : RunE X.K cl (rrW X.K cl) Wx H1 H1' m1 σ Q (.ok (.d (.bl true)) s1) := h2
          clear h2
          subst hcc
          cases rr with
          | ins a1 a2 a3 =>
            rw [hC] at a2
            cases a2
            exact ⟨_, _, _, rfl, st.sub _ _ a1, RunE.done (RR := rrW X.K cl) h3 st (Rep.bl : Rep X.K cl H1 (.bl true) (.bl true))⟩
        · have h2 : RunE X.K cl (rrW X.K cl) Wx H1 H1' m1 σ Q (if c2 = c then .ok (.d (.bl true)) s1 else .no) := h2
          rw [if_neg hcc] at h2
          exact h2.elim
      | _ => exact h2.elim⟩
end
end TG

set_option Elab.async false
set_option linter.all false
set_option maxRecDepth 100000
set_option maxHeartbeats 4000000
namespace TG
open PySem L2 PyProof.Rows
section
variable {K : PySem.W.Frag} {cl : Str → Option Addr}
end
end TG

set_option Elab.async false
set_option linter.all false
set_option maxRecDepth 100000
set_option maxHeartbeats 4000000
namespace TG
open PySem L2 PyProof.Rows
theorem RepWs.erase {K : PySem.W.Frag} {cl : Str → Option Addr} {H0 : Hp} {m : List Addr} : ∀ {n : Nat} {vs : List V} {l : List W}, RepWs K cl H0 m vs l → RepWs K cl H0 m (vs.eraseIdx n) (l.eraseIdx n)
  | _, _, _, .nil => by simp only [List.eraseIdx_nil]; exact .nil
  | 0, _, _, .cons _ b => b
  | n + 1, _, _, .cons a b => .cons a (b.erase (n := n))
noncomputable def kPop (j i : Nat) (f l : List W) : W → Stm := fun y ρ s => match asInt y with
  | some k => (match ixN l.length k with
    | some n => (match l[n]? with
      | some w => if f.length < 16777216 ∧ l.length ≤ 16777216 then .nx ((ρ.set i (.own (l.eraseIdx n))).set j (.own (f ++ [w]))) s else .no
      | none => .no)
    | none => .no)
  | none => .no
noncomputable def sAppPop (j i : Nat) (e : Cmp W) : Stm := fun ρ s => match (ρ[j]? : Option EV) with
  | some (.own f) => (match (ρ[i]? : Option EV) with | some (.own l) => if i ≠ j then ebS (e ρ s) ρ (kPop j i f l) else .no | _ => .no)
  | _ => .no
section
variable {X : Cx} {cl : Str → Option Addr} {Wx : WX} {e : Expr} {pos p1 p2 p3 p4 p5 p6 : Pos} {ea : Cmp W} {x y : Str}
theorem js_appPop (j i : Nat) (h : JE cl Wx X e ea) (hNy : X.N[j]? = some y := by rfl) (hNx : X.N[i]? = some x := by rfl)
    (hvy : Vis X.env.scope y := by first | exact Or.inl rfl | exact Or.inr (Or.inl rfl) | exact Or.inr (Or.inr rfl)) (hvx : Vis X.env.scope x := by first | exact Or.inl rfl | exact Or.inr (Or.inl rfl) | exact Or.inr (Or.inr rfl))
    (hdy : (y == ("__debug__" : Str)) = false := by decide) (hdx : (x == ("__debug__" : Str)) = false := by decide)
    (hcy : (y == ("__classdict__" : Str)) = false := by decide) (hcx : (x == ("__classdict__" : Str)) = false := by decide)
    (q1 : attributeBase (.Name y p1) "append" X.env (eval (.Name y p1) X.env) = eval (.Name y p1) X.env := by rfl)
    (q2 : ((((backTo p3 (starEach ((.Call (.Attribute (.Name x p4) "pop" p5) [e] [] p6) :: []) X.env)).all fun x => !x.fst) && (backToKw p3 (keywordEach [] X.env)).all fun x => x.fst.isSome) && decide (([Expr.Call (.Attribute (.Name x p4) "pop" p5) [e] [] p6].length + ([] : List Keyword).length + if ([] : List Keyword).isEmpty = true then 0 else 1) < 30)) = true := by rfl)
    (q3 : (p2.endLine == p3.line) = true := by rfl) (q4 : starEach ((.Call (.Attribute (.Name x p4) "pop" p5) [e] [] p6) :: []) X.env = (false, eval (.Call (.Attribute (.Name x p4) "pop" p5) [e] [] p6) X.env) :: starEach [] X.env := by rfl) (q5 : ((backTo p3 (starEach [] X.env)).any fun x => x.fst) = false := by rfl)
    (r1 : attributeBase (.Name x p4) "pop" X.env (eval (.Name x p4) X.env) = eval (.Name x p4) X.env := by rfl)
    (r2 : ((((backTo p6 (starEach (e :: []) X.env)).all fun x => !x.fst) && (backToKw p6 (keywordEach [] X.env)).all fun x => x.fst.isSome) && decide (((e :: []).length + ([] : List Keyword).length + if ([] : List Keyword).isEmpty = true then 0 else 1) < 30)) = true := by rfl)
    (r3 : (p5.endLine == p6.line) = true := by rfl) (r4 : starEach (e :: []) X.env = (false, eval e X.env) :: starEach [] X.env := by rfl) (r5 : ((backTo p6 (starEach [] X.env)).any fun x => x.fst) = false := by rfl)
    (hs : swapsWith (.Call (.Attribute (.Name y p1) "append" p2) [.Call (.Attribute (.Name x p4) "pop" p5) [e] [] p6] [] p3) none pos.line X.env = pure false := by rfl) :
    JS cl Wx X (.Expr (.Call (.Attribute (.Name y p1) "append" p2) [.Call (.Attribute (.Name x p4) "pop" p5) [e] [] p6] [] p3) pos) (sAppPop j i ea) :=
  PS.weaken (ps_expr (pe_bm PySem.F.plainAttrs_list PySem.F.slot_list_append PySem.F.type_list_append mt_append (pe_var hNy hvy hdy hcy)
    (pa_cons (pe_bm PySem.F.plainAttrs_list PySem.F.slot_list_pop PySem.F.type_list_pop mt_popAt (pe_var hNx hvx hdx hcx) (pa_cons h pa_nil r4) r1 r2 r3 r4 r5) pa_nil q4) q1 q2 q3 q4 q5) hs) fun E σ H ⟨H0, m, ow, s, ρ, cx, h⟩ => by
    unfold sAppPop at h
    split at h
    · rename_i f ef
      split at h
      · rename_i l el
        split at h
        · rename_i hij
          obtain ⟨p, vs, h1, h2, h3, h4⟩ := cx.en.slot j _ ef
          obtain ⟨p', vs', k1, k2, k3, k4⟩ := cx.en.slot i _ el
          refine ⟨.ref p, h1, .inl ⟨rfl, vs, .inl (.inl h3)⟩, .ref p', k1, .inl ⟨rfl, vs', .inl (.inl k3)⟩, H0, m, ow, s, ρ, cx, RunS.ofE cx h fun z s1 v H1 H1' m1 g c rr h5 => ?_⟩
          obtain ⟨pa, us, a1, a2, a3, a4⟩ := c.en.slot j _ ef
          obtain ⟨pb, us', b1, b2, b3, b4⟩ := c.en.slot i _ el
          rw [h1] at a1
          cases a1
          rw [k1] at b1
          cases b1
          have h5 : RunS X.K cl Wx H1 H1' m1 ow E (kPop j i f l z ρ s1) := h5
          unfold kPop at h5
          split at h5
          · rename_i k ek
            split at h5
            · rename_i n en
              split at h5
              · rename_i w ew
                split at h5
                · rename_i hlen
                  obtain ⟨hl1, hl2⟩ := hlen
                  have hl3 := b4.length
                  rw [← hl3] at en
                  obtain ⟨z1, z2, z3, z4⟩ := ixN_seq en
                  obtain ⟨u, w1, w2⟩ := b4.get ew
                  have c2 := c.updOwn el rfl k1 b2 (x := .own (l.eraseIdx n)) rfl ⟨p', _, rfl, b2, upd_same, b4.erase (n := n)⟩
                  have ef2 : (ρ.set i (.own (l.eraseIdx n)) : Rho)[j]? = some (.own f) := by rw [List.getElem?_set_ne hij]; exact ef
                  obtain ⟨pc, ts, d1, d2, d3, d4⟩ := c2.en.slot j _ ef2
                  rw [h1] at d1
                  cases d1
                  refine ⟨p', us', k, n, u, rfl, by rw [asInt_ok rr ek], b3, by omega, by omega, z1, w1, ?_⟩
                  refine ⟨p, ts, u, rfl, rfl, d3, size_lt (by rw [d4.length]; exact hl1), ?_⟩
                  exact h5 _ _ _ _ _ ((Go.updOwn b2).trans (Go.updOwn d2)) (c2.updOwn ef2 rfl h1 d2 rfl ⟨p, _, rfl, d2, upd_same, d4.append (.cons w2 .nil)⟩)
                · exact h5.elim
              · exact h5.elim
            · exact h5.elim
          · exact h5.elim
        · exact h.elim
      · exact h.elim
    · exact h.elim
end
end TG

set_option Elab.async false
set_option linter.all false
set_option maxRecDepth 100000
set_option maxHeartbeats 4000000
namespace TG
open PySem L2 PyProof.Rows
theorem sortD_nodup (l : List Int) : (sortD l).Nodup := (sortD_lt l).imp fun h => by omega
end TG
namespace L2
open PySem PySem.Spec PyProof.Rows
theorem setR_card {w : World} {h : Heap} {a : Addr} {ns : List Int} {n : Nat} (R : SetR w h a (fun j => decide (j ∈ ns)) n) : n = (TG.sortD ns).length := by
  obtain ⟨o, es, ep, t, h1, h2, h3, h4, h5, h6, h7, h8, h9, _⟩ := R
  have hp := (List.perm_ext_iff_of_nodup h5 (TG.sortD_nodup ns)).mpr fun x => by
    rw [← h6 x, decide_eq_true_eq, TG.sortD_mem]
  have := hp.length_eq
  rw [List.length_map, Array.length_toList] at this
  omega
noncomputable def rTgSetW (K : PySem.W.Frag) (w : World) : List V → Hp → VK → Prop := fun xs H Q => ∃ (a : Addr) (ns : List Int), xs = [.ref a] ∧ SqL K H a (ns.map V.int) ∧ ns.length ≤ 4000 ∧
  ∀ p c, H p = none → c = (TG.sortD ns).length → Q (.ref p) (upd H p (SetO w p (fun j => decide (j ∈ ns)) c))
theorem cr_tgSetW {X : Cx} (hc : X.calm = true) : CallR X (.type "set") (rTgSetW X.K X.w) := by
  intro pins s σ H vs us Q I r h
  obtain ⟨a, ns, rfl, hq, hl, q⟩ := h
  rw [Vals.ref1 r]
  obtain ⟨its, rv, ⟨⟨cls, dd, data, sl⟩, n, ho, hcl, hdn, hd⟩, hlen⟩ := I.list hq
  simp only at hcl hd
  subst hcl hd
  have hi : IntsAre its.toArray.toList ns := ints_of_vals rv
  refine tg_call_set ns (I.ok.hd hc) (items := its.toArray) ⟨_, ho, rfl, n, rfl⟩ hi (by unfold scanBound; omega) fun s2 ⟨h', tk, c, e, R, hc', k⟩ => ?_
  subst e
  exact ⟨.ref _, upd H s.heap.objs.size (SetO X.w s.heap.objs.size (fun j => decide (j ∈ ns)) c), I.laid (t' := tk) k (Nat.le_refl _) (setO_new R), rfl, q _ _ (I.hok.fresh (Nat.le_refl _)) (setR_card R)⟩
end L2
namespace TG
open PySem L2 PyProof.Rows
section
variable {X : Cx} {cl : Str → Option Addr} {Wx : WX} {e : Expr} {el : Cmp (List W)} {p p2 pos pos2 : Pos}
end
end TG

set_option Elab.async false
set_option linter.all false
set_option maxRecDepth 100000
set_option maxHeartbeats 4000000
namespace TG
open PySem L2 PyProof.Rows
structure ClsAtD (P : Program) (w : World) (K : PySem.W.Frag) (mg : Str → Option Value) (base : Heap) (cl : Str → Option Addr) (k : Nat) (c : Str) (ps : List Str) (f : Sem1) (d : Int) : Prop where
  ex : ∃ (C a : Addr) (fd : FuncData) (t : Tok), cl c = some C ∧ mg c = some (.ref C) ∧ Mk K C a ∧ Binds K fd ps [.int d t] ∧ FnOk P w K mg base (L2.CX P w) k a fd ps (spOf K cl f)
theorem ClsAtD.mono {P : Program} {w : World} {K : PySem.W.Frag} {mg : Str → Option Value} {base : Heap} {cl : Str → Option Addr} {j k : Nat} {c : Str} {ps : List Str} {f : Sem1} {d : Int} (F : ClsAtD P w K mg base cl j c ps f d) (h : j ≤ k) : ClsAtD P w K mg base cl k c ps f d := by
  obtain ⟨C, a, fd, t, h0, h1, h2, h3, h4⟩ := F.ex
  exact ⟨C, a, fd, t, h0, h1, h2, h3, h4.mono h⟩
section
variable {X : Cx} {cl : Str → Option Addr} {E : XK} {e : Expr} {es : List Expr} {pos p p2 pos2 : Pos} {el : Cmp (List W)} {ea : Cmp W} {k : Nat} {c : Str} {ps : List Str} {f : Sem1} {Wx : WX}
end
end TG

set_option Elab.async false
set_option linter.all false
set_option maxRecDepth 100000
set_option maxHeartbeats 4000000
namespace L2
open PySem PySem.Spec PyProof.Rows
theorem depth_ints : ∀ ns : List Int, PyData.depthAll (ns.map .int) = 0
  | [] => rfl
  | n :: ns => by simp [PyData.depthAll, PyData.depth, depth_ints ns]
theorem alike_ints (ns : List Int) : PySem.W.AlikeAll (ns.map .int) := by
  constructor
  · intro x hx y hy
    obtain ⟨a, _, rfl⟩ := List.mem_map.mp hx
    obtain ⟨b, _, rfl⟩ := List.mem_map.mp hy
    rfl
  · intro x hx
    obtain ⟨a, _, rfl⟩ := List.mem_map.mp hx
    intro h
    cases h
noncomputable def rMinT (K : PySem.W.Frag) : List V → Hp → VK → Prop := fun vs H Q => ∃ (a : Addr) (n : Int) (ns : List Int), vs = [V.ref a] ∧ SqT K H a ((n :: ns).map V.int) ∧ Q (.int (ns.foldl min n)) H
theorem cr_minT {X : Cx} (hc : X.calm = true) (hu : X.A.units + 1 < cLine) : CallR X (.builtin "min") (rMinT X.K) := by
  intro pins s σ H vs us Q I r h
  obtain ⟨a, n, ns, rfl, hs, q⟩ := h
  obtain ⟨its, rv, hl, _⟩ := I.tuple hs
  rw [Vals.ref1 r]
  have hi : IntsAre its (n :: ns) := ints_of_vals rv
  refine PySem.W.min_tuple_data (I.ok.hd hc) hl (x := .int n) (xs := ns.map .int) (IntsAre.reads _ (by simpa using hi)) (alike_ints (n :: ns)) (by rw [show (PyData.int n :: ns.map PyData.int) = (n :: ns).map PyData.int from rfl, depth_ints]; omega) fun i v h' tk bs _ hr hk => ?_
  rw [PySem.W.minD_ints] at hr
  cases hr
  exact ⟨.int _, H, I.kept hk, ⟨_, rfl⟩, q⟩
end L2
namespace TG
open PySem L2 PyProof.Rows
end TG

set_option Elab.async false
set_option linter.all false
set_option maxRecDepth 100000
set_option maxHeartbeats 4000000
namespace L2
open PySem PySem.Spec PyProof.Rows
noncomputable def tMaxD (K : PySem.W.Frag) (ta : TA) : TE := fun σ H Q => ta σ H fun vs H1 => ∃ (a : Addr) (ns : List Int), vs = [V.ref a] ∧ SqL K H1 a (ns.map V.int) ∧ (ns = [] → Q .non H1) ∧ ∀ n ms, ns = n :: ms → Q (.int (ms.foldl max n)) H1
theorem pe_maxD {X : Cx} {e : Expr} {ta : TA} {p pos kp cp : Pos} {j : Nat} (hc : X.calm = true) (hu : X.A.units + 1 < cLine) (hg : Gl X "max") (hm : X.mg "max" = none) (ha : PA X [e] ta)
    (hs : backTo pos (starEach [e] X.env) = (false, eval e X.env) :: backTo pos (starEach [] X.env) := by rfl) (hpl : (backTo pos (starEach [e] X.env)).any (·.1) = false := by rfl) :
    PE X (.Call (.Name "max" p) [e] [⟨some "default", .Constant .none j cp, kp⟩] pos) (tMaxD X.K ta) := by
  refine ⟨fun pins s σ H Q I h => ?_⟩
  refine wpAny_Call_Name_kw (ld_blt I hg hm PyProof.Rows.boot_max (PyProof.Rows.callWith_kw (thn (ha.run pos pins s σ H _ I h) fun us s1 ⟨vs, H1, I1, r1, q1⟩ => ?_) hs hpl))
  have hk : PK X [⟨some "default", .Constant .none j cp, kp⟩] (tCons (tC .non) tNil) := pk_cons pe_non pk_nil
  refine thn (hk.run pos pins s1 σ H1 (fun zs H2 => zs = [V.non] ∧ H2 = H1) I1 ⟨rfl, rfl⟩) fun ws s2 ⟨zs, H2, I2, r2, q2⟩ => ?_
  obtain ⟨rfl, rfl⟩ := q2
  obtain ⟨a, ns, ex, hq, q0, q⟩ := q1
  subst ex
  cases r2 with
  | cons rb rn =>
    cases rn
    cases rb
    rw [Vals.ref1 r1]
    obtain ⟨its, rv, hl, _⟩ := I2.list hq
    have hi : IntsAre its ns := ints_of_vals rv
    refine PySem.W.max_list_default (I2.ok.hd hc) hl.isList (IntsAre.reads _ (by simpa using hi)) (alike_ints ns) (by rw [depth_ints]; omega) (fun e h' tk hk => ?_) fun y ys i v h' tk bs e hv hr hk => ?_
    · exact ⟨.non, H2, I2.kept hk, rfl, q0 (List.map_eq_nil_iff.mp e)⟩
    · cases ns with
      | nil => cases e
      | cons n ms =>
        cases e
        rw [PySem.W.maxD_ints] at hr
        cases hr
        exact ⟨.int _, H2, I2.kept hk, ⟨_, rfl⟩, q n ms rfl⟩
end L2
namespace TG
open PySem L2 PyProof.Rows
section
variable {X : Cx} {cl : Str → Option Addr} {Wx : WX} {e : Expr} {el : Cmp (List W)} {p pos kp cp : Pos} {j : Nat}
end
end TG

set_option Elab.async false
set_option linter.all false
set_option maxRecDepth 100000
set_option maxHeartbeats 4000000
namespace TG
open PySem L2 PyProof.Rows
section
variable {X : Cx} {cl : Str → Option Addr} {Wx : WX} {el : Cmp (List W)} {pos : Pos}
end
end TG

set_option Elab.async false
set_option linter.all false
set_option maxRecDepth 100000
set_option maxHeartbeats 2000000
namespace TG
open PySem L2 PyProof.Rows
structure LenAt (P : Program) (w : World) (K : PySem.W.Frag) (mg : Str → Option Value) (base : Heap) (cl : Str → Option Addr) (k : Nat) (c : Str) (ps : List Str) (f : Sem1) : Prop where
  ex : ∃ (C a : Addr) (fd : FuncData), cl c = some C ∧ PySem.W.findIn K (.ref C) "__len__" = some (some (.ref a)) ∧ PySem.W.isFn K (.ref a) = true ∧ Binds K fd ps [] ∧ FnOk P w K mg base (L2.CX P w) k a fd ps (spOf K cl f)
theorem LenAt.mono {P : Program} {w : World} {K : PySem.W.Frag} {mg : Str → Option Value} {base : Heap} {cl : Str → Option Addr} {j k : Nat} {c : Str} {ps : List Str} {f : Sem1} (F : LenAt P w K mg base cl j c ps f) (h : j ≤ k) : LenAt P w K mg base cl k c ps f := by
  obtain ⟨C, a, fd, h1, h2, h3, h4, h5⟩ := F.ex
  exact ⟨C, a, fd, h1, h2, h3, h4, h5.mono h⟩
section
variable {X : Cx} {cl : Str → Option Addr} {k : Nat} {ps : List Str} {f : Sem1} {c : Str}
variable {Wx : WX} {e : Expr} {pos p : Pos} {ea : Cmp W} {x : Str}
end
end TG

set_option Elab.async false
set_option linter.all false
set_option maxRecDepth 100000
set_option maxHeartbeats 4000000
namespace PySem
namespace XFld
open PySem.W PySem.Calls PyProof.Rows PySem.HandSPX
open Builtin Builtin.ObjectAttr
noncomputable def rowsX (z : List Value) : List Value → Bool
  | .ref _ :: r => rowsX z r
  | l => l == z
theorem rowsX_cases (z : List Value) : ∀ l : List Value, rowsX z l = true → (∃ c r, l = .ref c :: r ∧ rowsX z r = true) ∨ l = z
  | [], e => .inr (beq_iff_eq.mp e)
  | .ref c :: r, e => .inl ⟨c, r, rfl, e⟩
  | .none :: _, e => .inr (beq_iff_eq.mp e) | .ellipsis :: _, e => .inr (beq_iff_eq.mp e) | .notImplemented :: _, e => .inr (beq_iff_eq.mp e) | .bool _ :: _, e => .inr (beq_iff_eq.mp e)
  | .int _ _ :: _, e => .inr (beq_iff_eq.mp e) | .float _ _ :: _, e => .inr (beq_iff_eq.mp e) | .str _ _ :: _, e => .inr (beq_iff_eq.mp e) | .bytes _ _ :: _, e => .inr (beq_iff_eq.mp e)
  | .type _ :: _, e => .inr (beq_iff_eq.mp e) | .builtin _ :: _, e => .inr (beq_iff_eq.mp e)
theorem rowsX_ind {z : List Value} {p : List Value → Prop} (hz : p z) (hs : ∀ c r, p r → p (.ref c :: r)) : ∀ l : List Value, rowsX z l = true → p l := by
  intro l
  induction l with
  | nil =>
    intro e
    rcases rowsX_cases z [] e with ⟨c, r, q, _⟩ | q
    · cases q
    · rw [q]; exact hz
  | cons a r ih =>
    intro e
    rcases rowsX_cases z (a :: r) e with ⟨c, r', q, h⟩ | q
    · obtain ⟨rfl, rfl⟩ := List.cons.inj q
      exact hs _ _ (ih h)
    · rw [q]; exact hz
section
variable {prog : Program} {w : World} {A : Around} {E : Value → Shared → Prop} {R : Result → Shared → Prop} {hp : Heap} {g : Array GenState} {d : Drawn} {t : Nat} {os : OsState}
theorem osaX {K : W.Frag} {name : Str} {tk : Tok} {v : Value} {x C : Addr} {fv : Array Value} {cd : ClassData}
    (X : K.In hp) (gx : hp.get? x = some { cls := .ref C, data := .fields fv }) (gC : W.clsIn K C = some cd) (ps : refuseLoop (.ref x) "__setattr__" cd.mro = pure ()) (ob : cd.mro.contains (.type "object") = true) (ne : cd.mro.isEmpty = false)
    (hh : cd.hasDict = true) (ha : W.findIn K (.ref C) name = some none)
    (hq : ∀ h' tk' dx, (∀ b o, b ≠ x → hp.get? b = some o → h'.get? b = some o) → hp.objs.size ≤ dx → dx ≠ x → h'.get? x = some { cls := .ref C, dict := some dx, data := .fields fv } →
      h'.Ns1 dx (fun y => if y = name then some v else none) → R (.ok (.ret .none)) ⟨h', g, d, tk', os⟩) :
    codeAny (model prog w) A (.call (.builtin "object.__setattr__") ⟨[.ref x, .str name tk, v], []⟩) R ⟨hp, g, d, t, os⟩ := by
  have I1 : W.InstAt hp x { cls := .ref C, data := .fields fv } C none := ⟨gx, rfl, rfl, trivial⟩
  have S1 := F.store_object
  have xs : x ≠ hp.objs.size := Nat.ne_of_lt (Heap.lt_size gx)
  have is1 : W.Looks (model prog w) hp (isInstance (.ref x) (.type "object")) true := I1.type.andThen (W.looks_mroIn X (by unfold W.mroIn; rw [gC, Option.bind_some, if_neg (by rw [ne]; decide), ob]))
  refine codeAny_call_builtin S1.slot.plain S1.entry (@W.check_slot (model prog w) _ _ ⟨hp, g, d, t, os⟩ "object.__setattr__" "object" "__setattr__" (.ref x) [.str name tk, v] [] _ S1.kind S1.split is1 (S1.args (.ref x) (.str name tk) v) ?_)
  have mr : W.Looks (model prog w) hp (mroOf (.ref C)) cd.mro := (W.looks_clsIn X gC).andThen .now
  have st : W.Looks (model prog w) hp (storeTaker? none) none := .now
  have cl : W.Looks (model prog w) hp (classData C) cd := W.looks_clsIn X gC
  rw [W.osa_eq, refuse_eq]
  refine wpAny_bind (wpAny_bind (I1.type.at (wpAny_bind (mr.at ?_))))
  rw [ps]
  refine wpAny_pure (wpAny_bind (I1.type.at (wpAny_bind ((W.looks_findIn X ha).at (wpAny_bind (st.at ?_))))))
  show wpAny (model prog w) _ (storeInOwnDict (.ref x) (.ref C) (.str name tk) name v false) _ _ _
  obtain ⟨nm, bs, mro, ns, qn, hd, sn, sb, ab, col, del⟩ := cd
  dsimp only at hh
  subst hh
  unfold storeInOwnDict ownDictForStores
  repeat (first | with_reducible refine store_in_new ?_ ?_ | with_reducible refine wpAny_loadPart_at gx ?_ | with_reducible refine cl.at ?_ | wp_step)
  · exact ⟨_, #[], _, (Heap.get?_update_ne _ _ _ _ xs.symm).trans (Heap.get?_push_at rfl rfl), rfl, fun e he => absurd he (by simp), fun _ => rfl⟩
  · intro h' tk' hn' hs
    have gx2 : (hp.push { cls := .type "dict", data := .dict #[] }).get? x = some { cls := .ref C, data := .fields fv } := Heap.get?_push_of_some _ gx
    refine hq h' tk' hp.objs.size (fun b o hb ho => ?_) (Nat.le_refl _) xs.symm ?_ hn'
    · exact (hs.2 b (Nat.ne_of_lt (Heap.lt_size ho))).trans ((Heap.get?_update_ne _ _ _ _ hb).trans (Heap.get?_push_of_some _ ho))
    · exact (hs.2 x xs).trans (Heap.get?_update_self _ gx2 rfl)
end
structure BaseX (B newId initId : String) (z : List Value) : Prop where
  fb : ExcBaseFacts B newId initId z
  ps : ∀ self, refuseLoop self "__setattr__" z = pure ()
  ob : z.contains (.type "object") = true
  ne : z.isEmpty = false
theorem base_VE : BaseX "ValueError" "ValueError.__new__" "ValueError.__init__" [.type "ValueError", .type "Exception", .type "BaseException", .type "object"] := ⟨F.excBase_ValueError, F.store_ValueError.passes, by decide +kernel, rfl⟩
theorem base_LE : BaseX "LookupError" "LookupError.__new__" "LookupError.__init__" [.type "LookupError", .type "Exception", .type "BaseException", .type "object"] := ⟨F.excBase_LookupError, F.store_LookupError.passes, by decide +kernel, rfl⟩
theorem rows_has {z : List Value} (X : String) (l : List Value) (h : rowsX z l = true) : l.contains (.type X) = z.contains (.type X) :=
  rowsX_ind (p := fun l => l.contains (.type X) = z.contains (.type X)) rfl (fun c r e => by rw [List.contains_cons, e]; rfl) l h
theorem rows_pass {z : List Value} (self : Value) (hz : refuseLoop self "__setattr__" z = pure ()) (l : List Value) (h : rowsX z l = true) : refuseLoop self "__setattr__" l = pure () :=
  rowsX_ind (p := fun l => refuseLoop self "__setattr__" l = pure ()) hz (fun c r e => by rw [refuseLoop_ref]; exact e) l h
theorem rows_ne {z : List Value} (hz : z.isEmpty = false) (l : List Value) (h : rowsX z l = true) : l.isEmpty = false := rowsX_ind (p := fun l => l.isEmpty = false) hz (fun c r e => rfl) l h
structure ClsX (K : Frag) (mg : Str → Option Value) (x f : Str) (C fI : Addr) : Prop where
  gC : mg x = some (.ref C)
  cls : ∃ B newId initId z nm q N bs bm sn sub ab col dd k0 k1 k2 k3 k5, BaseX B newId initId z ∧ K.lookup C = some (excClassObj nm q C N bs bm true sn sub ab col dd k0 k1 k2 k3 k5 newId) ∧ rowsX z bm = true
  sa : findIn K (.ref C) "__setattr__" = some (some (.builtin "object.__setattr__"))
  ga : findIn K (.ref C) "__getattribute__" = some (some (.builtin "BaseException.__getattribute__"))
  gg : findIn K (.ref C) "__getattr__" = some none
  noN : findIn K (.ref C) f = some none
  iC : findIn K (.ref C) "__init__" = some (some (.ref fI))
  tC : typeIn K (.ref fI) = some (.type "function")
  kC : keepIn K (.ref C) = true
  exC : subIn K (.ref C) (.type "BaseException") = some true
  tyC : typeIn K (.ref C) = some (.type "type")
  hdC : hasDictIn K C = true
structure DoneX (h h' : Heap) (f : Str) (x C dx t1 : Addr) (v : Value) : Prop where
  keep : ∀ b o, b ≠ x → h.get? b = some o → h'.get? b = some o
  obj : h'.get? x = some { cls := .ref C, dict := some dx, data := .fields #[.ref t1, .none, .none, .none, .bool false, .none] }
  dbig : h.objs.size ≤ dx
  dne : dx ≠ x
  ns : h'.Ns1 dx (fun y => if y = f then some v else none)
noncomputable def InitX (prog : Program) (w : World) (K : Frag) (f : Str) (C fI : Addr) : Prop := ∀ (A : Around) (R : Result → Shared → Prop) (s : Shared) (x t0 : Addr) (v : Value), K.In s.heap → s.heap.NoLimit → s.heap.get? x = some (excO C t0) → K.lookup x = none → A.depth < recursionLimit →
  (∀ h' tk dx, DoneX s.heap h' f x C dx t0 v → R (.ok (.ret .none)) { s with heap := h', toks := tk }) → codeAny (model prog w) A (.call (.ref fI) ⟨[.ref x, v], []⟩) R s
structure MadeX (h h' : Heap) (f : Str) (e C d : Addr) (v : Value) : Prop where
  keep : ∀ b o, h.get? b = some o → h'.get? b = some o
  new : h.objs.size ≤ e
  obj : ∃ oe vs, h'.get? e = some oe ∧ oe.cls = .ref C ∧ oe.dict = some d ∧ oe.data = .fields vs ∧ vs[1]? = some .none
  dbig : h.objs.size ≤ d
  dne : d ≠ e
  ns : h'.Ns1 d (fun y => if y = f then some v else none)
theorem len_one (v : Value) : [v].length ≤ sizeLine := by rw [sizeLine_eq]; exact (by decide : 1 ≤ 16777216)
section
variable {prog : Program} {w : World} {A : Around} {R : Result → Shared → Prop} {s : Shared} {K : Frag} {mg : Str → Option Value} {x f : Str} {C fI : Addr}
theorem madeX (T : ClsX K mg x f C fI) (J : InitX prog w K f C fI) {v : Value} (X : K.In s.heap) (hlim : s.heap.NoLimit) (hroom : A.depth + 1 < recursionLimit)
    (hq : ∀ h' tk e d, MadeX s.heap h' f e C d v → R (.ok (.ret (.ref e))) { s with heap := h', toks := tk }) : codeAny (model prog w) A (.call (.ref C) ⟨[v], []⟩) R s := by
  obtain ⟨B, newId, initId, z, nm, q, N, bs, bm, sn, sub, ab, col, dd, k0, k1, k2, k3, k5, BX, hC, hbm⟩ := T.cls
  obtain ⟨hp, g, dr, tk, os⟩ := s
  have kk : ∀ b o, hp.get? b = some o → ((hp.push (kdv_tup [v])).push (excO C hp.objs.size)).get? b = some o := fun b o e => Heap.get?_push_of_some _ (Heap.get?_push_of_some _ e)
  have got : ((hp.push (kdv_tup [v])).push (excO C hp.objs.size)).get? (hp.objs.size + 1) = some (excO C hp.objs.size) := by heap_get
  have nx : K.lookup (hp.objs.size + 1) = none := by
    cases e : K.lookup (hp.objs.size + 1) with
    | none => rfl
    | some o => exact absurd (Nat.lt_of_succ_lt (Heap.lt_size (show hp.get? (hp.objs.size + 1) = some o from X _ _ e))) (Nat.lt_irrefl _)
  refine call_own BX.fb (fun Y => rows_has Y bm hbm) (X _ _ hC) (looks_findIn X T.iC) (fun self => bind_fn X self T.tC) (len_one v) (J _ _ ⟨(hp.push (kdv_tup [v])).push (excO C hp.objs.size), g, dr, tk, os⟩ _ _ v (X.keeps kk) (hlim.keeps kk) got nx hroom fun h' tk' dx M => ?_)
  have old : ∀ b o, hp.get? b = some o → h'.get? b = some o := fun b o e => M.keep b o (Nat.ne_of_lt (Nat.lt_succ_of_lt (Heap.lt_size e))) (kk b o e)
  have zz : hp.objs.size + 1 + 1 ≤ dx := by
    have y := M.dbig
    simpa only [Heap.size_push] using y
  exact ⟨rfl, hq h' tk' (hp.objs.size + 1) dx ⟨old, Nat.le_succ _, ⟨_, _, M.obj, rfl, rfl, rfl, rfl⟩, Nat.le_trans (Nat.le_trans (Nat.le_succ _) (Nat.le_succ _)) zz, M.dne, M.ns⟩⟩
end
end XFld
end PySem
namespace TG
open PySem PySem.Spec PyProof.Rows L2 PySem.XFld
section
variable {X : Cx} {C fI : Addr} {x f : Str}
noncomputable def tByX (C : Addr) (f : Str) (a : Addr) (cls : Value) (d : Option Addr) (te : TE) : TE := fun σ H Q => te σ H fun x H1 => x = .ref a ∧ cls = .ref C ∧ ∃ (dd : Addr) (v : V), d = some dd ∧ H1 dd = some (.xd [(f, v)]) ∧ Q v H1
theorem pe_byX {a : Addr} {oe : Obj} {cls : Value} {d : Option Addr} {pn : List (Addr × Obj)} {e : Expr} {te : TE} {pos : Pos} (T : ClsX X.K X.mg x f C fI) (hz : Zc cls d oe) (hf : ∃ vs, oe.data = .fields vs) (he : PE (X.suite a ((a, oe) :: pn)) e te)
    (hb : attributeBase e f X.env (eval e X.env) = eval e X.env := by rfl) : PE (X.suite a ((a, oe) :: pn)) (.Attribute e f pos) (tByX C f a cls d te) := by
  refine ⟨fun pins s σ H Q I h => attr_of hb (thn (he.run pins s σ H _ I h) fun u s1 hh => ?_)⟩
  obtain ⟨y, H1, I1, rx, ex, rfl, dd, v, rfl, ea, q⟩ := hh
  subst ex
  obtain rfl : u = Value.ref a := rx
  obtain ⟨ha, _⟩ := I1.pin (a, oe) (List.mem_append_left _ List.mem_cons_self)
  obtain ⟨vs, hd⟩ := hf
  have ox : ObjOk X.prog X.w H1 s1.heap dd (.xd [(f, v)]) := I1.hok dd _ ea
  obtain ⟨mA, hns, hr⟩ := ox
  obtain ⟨od, ho, hl⟩ := lookIn_ns hns
  obtain ⟨u, hu, ru⟩ := RelO.some_of (v := v) (o := mA f) (by
    have := hr f
    rw [show List.lookup f [(f, v)] = some v by simp [List.lookup]] at this
    exact this)
  have J : PySem.W.InstAt s1.heap a oe C (some od) := ⟨ha, hz.1, by unfold PySem.W.notCls; rw [hd] <;> rfl, by rw [hz.2]; exact ho⟩
  exact HandSPX.exc_get I1.kIn J T.ga T.gg T.exC (PySem.W.findObj_own T.hdC T.noN rfl (by rw [hl, hu])) (handed_of ru) ⟨v, H1, I1.tok _, ru, q⟩
end
end TG

set_option Elab.async false
set_option linter.all false
set_option maxRecDepth 100000
set_option maxHeartbeats 4000000
namespace TG
open PySem PySem.Spec PyProof.Rows L2
noncomputable abbrev WishF := Ends → Value → Option Addr → L2.St → Hp → Prop
noncomputable def unset (i : Nat) (D : Ends) : Ends := { nx := fun σ H => D.nx (σ.set i none) H, rt := D.rt, bk := fun σ H => D.bk (σ.set i none) H, ct := fun σ H => D.ct (σ.set i none) H }
inductive HdsMix (X : Cx) : List ExceptHandler → List (Value × WishF) → Prop
  | nil : HdsMix X [] []
  | plain {x : Str} {c : Value} {ts : Addr → Value → Option Addr → TS} {b₀ : Stmt} {suite : List Stmt} {np pos' : Pos} {hds : List ExceptHandler} {l : List (Value × WishF)} (hc : Names X x c)
      (hsu : ∀ (a : Addr) (oe : Obj) (cls : Value) (d : Option Addr) (pn : List (Addr × Obj)), Zc cls d oe → (∃ vs, oe.data = .fields vs) → PSs (X.suite a ((a, oe) :: pn)) (b₀ :: suite) (ts a cls d)) (r : HdsMix X hds l) :
      HdsMix X (.ExceptHandler (some (.Name x np)) none (b₀ :: suite) pos' :: hds) ((c, fun D cls d σ H => ∀ a, H a = none → ts a cls d D σ H) :: l)
  | named {x n : Str} {i : Nat} {c : Value} {ts : Addr → Value → Option Addr → TS} {b₀ : Stmt} {suite : List Stmt} {np pos' : Pos} {hds : List ExceptHandler} {l : List (Value × WishF)} (hi : X.N[i]? = some n) (hln : X.env.kindOf n = some .local) (hc : Names X x c)
      (hsu : ∀ (a : Addr) (oe : Obj) (cls : Value) (d : Option Addr) (pn : List (Addr × Obj)), Zc cls d oe → (∃ vs, oe.data = .fields vs) → PSs (X.suite a ((a, oe) :: pn)) (b₀ :: suite) (ts a cls d)) (r : HdsMix X hds l) :
      HdsMix X (.ExceptHandler (some (.Name x np)) (some n) (b₀ :: suite) pos' :: hds) ((c, fun D cls d σ H => ∀ a, H a = none → ts a cls d (unset i D) (σ.set i (some (.ref a))) H) :: l)
section
variable {X : Cx} {body : List Stmt} {h₀ : ExceptHandler} {hds : List ExceptHandler} {l : List (Value × WishF)} {pos : Pos} {tb : WX → TS} {Wout : WX}
end
end TG

set_option Elab.async false
set_option linter.all false
set_option maxRecDepth 100000
set_option maxHeartbeats 4000000
namespace PySem
namespace XFld
open PySem.W PySem.Calls PyProof.Rows PySem.HandSPX
noncomputable def anumber (p1 p2 : Pos) : Arguments := { posonlyargs := [], args := [{ arg := "self", annotation := none, pos := p1 }, { arg := "number", annotation := none, pos := p2 }], vararg := none, kwonlyargs := [], kw_defaults := [], kwarg := none, defaults := [] }
noncomputable def bnumber (q1 q2 q3 q4 : Pos) : List Stmt := [.Assign [.Attribute (.Name "self" q1) "number" q2] (.Name "number" q3) q4]
noncomputable def snumber : Scope := { kind := .function, names := [(PySem.Str.ofString "self", .local), (PySem.Str.ofString "number", .local)], isGenerator := false, isCoroutine := false, more := [] }
theorem nmnumber {M : Model} {s : Shared} {name : Str} {L a : Addr} {cd : Value} {m : Str → Option Value} {x : Str} {pos : Pos} {v : Value} {Q : Value → Shared → Prop} {A : Around} {E : Value → Shared → Prop} (hn : s.heap.Ns L m) (hv : m x = some v) (h : Q v s)
    (hk : snumber.kind = .function := by rfl) (hl : (envOfC name snumber L a cd).kindOf x = some .local := by rfl) (hd : (x == ("__debug__" : Str)) = false := by decide) : wpAny M A (eval (.Name x pos) (envOfC name snumber L a cd)) Q E s := wpAny_Name (wpAny_loadName_local hk hl hn hv h) hd
theorem initnumber {prog : Program} {w : World} {K : Frag} {mg : Str → Option Value} {x : Str} {C fI : Addr} {args : Arguments} {body : List Stmt} {scope : Scope} {qn : Str} {oc kV doc pm cdv ct : Value} {od an : Option Addr} {osl : Array (Option Value)} (T : ClsX K mg x "number" C fI)
    (ho : K.lookup fI = some ⟨oc, od, .func (fnOf "__init__" qn args body scope .none kV doc pm an cdv ct), osl⟩) (hcd : codeIn K cdv qn = true) (hA : ∃ p1 p2, args = anumber p1 p2) (hB : ∃ q1 q2 q3 q4, body = bnumber q1 q2 q3 q4) (hS : scope = snumber) : InitX prog w K "number" C fI := by
  intro A R s y t0 v X hlim hx hnx hroom hq
  obtain ⟨p1, p2, rfl⟩ := hA
  obtain ⟨q1, q2, q3, q4, rfl⟩ := hB
  subst hS
  obtain ⟨B, newId, initId, z, nm, q, N, bs, bm, sn, sub, ab, col, dd, k0, k1, k2, k3, k5, BX, hC, hbm⟩ := T.cls
  have hcl : clsIn K C = some { name := nm, bases := bs, mro := .ref C :: bm, ns := N, qualname := q, hasDict := true, slotNames := sn, subclasses := sub, abstract := ab, collection := col, hasDel := false } := by unfold clsIn; rw [hC] <;> rfl
  have hbm2 : rowsX z (.ref C :: bm) = true := hbm
  refine Att.call_fn (binds := [("self", .ref y), ("number", v)]) X hlim ho hcd hroom (BindsTo.of_eq (by first | rfl | with_unfolding_all rfl)) (by first | rfl | decide | with_unfolding_all rfl) (fun s₁ IC => ?_) rfl rfl rfl
  obtain ⟨h₁, tk₁, rfl⟩ := IC.toInCall.same
  have k : ∀ b o, s.heap.get? b = some o → h₁.get? b = some o := IC.toInCall.keep
  have hn := IC.toInCall.ns
  show wpAny _ _ (execs _ _) _ _ _
  refine wpAny_execs_cons (plainObj_wpAny_Assign_Attribute ?_)
  refine nmnumber (v := v) hn (by first | rfl | with_unfolding_all rfl | kernel_rfl) (nmnumber (v := .ref y) hn (by first | rfl | with_unfolding_all rfl | kernel_rfl) ?_)
  refine set_plain (X.keeps k) (ox := excO C t0) (od := none) ⟨k _ _ hx, rfl, rfl, trivial⟩ T.sa ?_
  refine osaX (X.keeps k) (k _ _ hx) hcl (rows_pass _ (BX.ps _) _ hbm2) ((rows_has "object" _ hbm2).trans BX.ob) (rows_ne BX.ne _ hbm2) rfl T.noN (fun h₃ tk₃ dx k₃ dn dne hx₃ hn₃ => ?_)
  show wpAny _ _ (execs _ _) _ _ _
  have z : s.heap.objs.size < h₁.objs.size := hn.lt
  exact wpAny_execs_nil (hq h₃ tk₃ dx ⟨fun b o hb e => k₃ b o hb (k b o e), hx₃, Nat.le_of_lt (Nat.lt_of_lt_of_le z dn), dne, hn₃⟩)
end XFld
end PySem

set_option Elab.async false
set_option linter.all false
set_option maxRecDepth 100000
set_option maxHeartbeats 4000000
namespace PySem
namespace XFld
open PySem.W PySem.Calls PyProof.Rows PySem.HandSPX
noncomputable def awish (p1 p2 : Pos) : Arguments := { posonlyargs := [], args := [{ arg := "self", annotation := none, pos := p1 }, { arg := "wish", annotation := none, pos := p2 }], vararg := none, kwonlyargs := [], kw_defaults := [], kwarg := none, defaults := [] }
noncomputable def bwish (q1 q2 q3 q4 : Pos) : List Stmt := [.Assign [.Attribute (.Name "self" q1) "wish" q2] (.Name "wish" q3) q4]
noncomputable def swish : Scope := { kind := .function, names := [(PySem.Str.ofString "self", .local), (PySem.Str.ofString "wish", .local)], isGenerator := false, isCoroutine := false, more := [] }
theorem nmwish {M : Model} {s : Shared} {name : Str} {L a : Addr} {cd : Value} {m : Str → Option Value} {x : Str} {pos : Pos} {v : Value} {Q : Value → Shared → Prop} {A : Around} {E : Value → Shared → Prop} (hn : s.heap.Ns L m) (hv : m x = some v) (h : Q v s)
    (hk : swish.kind = .function := by rfl) (hl : (envOfC name swish L a cd).kindOf x = some .local := by rfl) (hd : (x == ("__debug__" : Str)) = false := by decide) : wpAny M A (eval (.Name x pos) (envOfC name swish L a cd)) Q E s := wpAny_Name (wpAny_loadName_local hk hl hn hv h) hd
theorem initwish {prog : Program} {w : World} {K : Frag} {mg : Str → Option Value} {x : Str} {C fI : Addr} {args : Arguments} {body : List Stmt} {scope : Scope} {qn : Str} {oc kV doc pm cdv ct : Value} {od an : Option Addr} {osl : Array (Option Value)} (T : ClsX K mg x "wish" C fI)
    (ho : K.lookup fI = some ⟨oc, od, .func (fnOf "__init__" qn args body scope .none kV doc pm an cdv ct), osl⟩) (hcd : codeIn K cdv qn = true) (hA : ∃ p1 p2, args = awish p1 p2) (hB : ∃ q1 q2 q3 q4, body = bwish q1 q2 q3 q4) (hS : scope = swish) : InitX prog w K "wish" C fI := by
  intro A R s y t0 v X hlim hx hnx hroom hq
  obtain ⟨p1, p2, rfl⟩ := hA
  obtain ⟨q1, q2, q3, q4, rfl⟩ := hB
  subst hS
  obtain ⟨B, newId, initId, z, nm, q, N, bs, bm, sn, sub, ab, col, dd, k0, k1, k2, k3, k5, BX, hC, hbm⟩ := T.cls
  have hcl : clsIn K C = some { name := nm, bases := bs, mro := .ref C :: bm, ns := N, qualname := q, hasDict := true, slotNames := sn, subclasses := sub, abstract := ab, collection := col, hasDel := false } := by unfold clsIn; rw [hC] <;> rfl
  have hbm2 : rowsX z (.ref C :: bm) = true := hbm
  refine Att.call_fn (binds := [("self", .ref y), ("wish", v)]) X hlim ho hcd hroom (BindsTo.of_eq (by first | rfl | with_unfolding_all rfl)) (by first | rfl | decide | with_unfolding_all rfl) (fun s₁ IC => ?_) rfl rfl rfl
  obtain ⟨h₁, tk₁, rfl⟩ := IC.toInCall.same
  have k : ∀ b o, s.heap.get? b = some o → h₁.get? b = some o := IC.toInCall.keep
  have hn := IC.toInCall.ns
  show wpAny _ _ (execs _ _) _ _ _
  refine wpAny_execs_cons (plainObj_wpAny_Assign_Attribute ?_)
  refine nmwish (v := v) hn (by first | rfl | with_unfolding_all rfl | kernel_rfl) (nmwish (v := .ref y) hn (by first | rfl | with_unfolding_all rfl | kernel_rfl) ?_)
  refine set_plain (X.keeps k) (ox := excO C t0) (od := none) ⟨k _ _ hx, rfl, rfl, trivial⟩ T.sa ?_
  refine osaX (X.keeps k) (k _ _ hx) hcl (rows_pass _ (BX.ps _) _ hbm2) ((rows_has "object" _ hbm2).trans BX.ob) (rows_ne BX.ne _ hbm2) rfl T.noN (fun h₃ tk₃ dx k₃ dn dne hx₃ hn₃ => ?_)
  show wpAny _ _ (execs _ _) _ _ _
  have z : s.heap.objs.size < h₁.objs.size := hn.lt
  exact wpAny_execs_nil (hq h₃ tk₃ dx ⟨fun b o hb e => k₃ b o hb (k b o e), hx₃, Nat.le_of_lt (Nat.lt_of_lt_of_le z dn), dne, hn₃⟩)
end XFld
end PySem

set_option Elab.async false
set_option linter.all false
set_option maxRecDepth 100000
set_option maxHeartbeats 4000000
namespace TG
open PySem PySem.Spec PyProof.Rows L2 PySem.XFld
structure ExcX (P : Program) (w : World) (K : PySem.W.Frag) (mg : Str → Option Value) (cl : Str → Option Addr) (c : Str) : Prop where
  ex : ∃ C fI, cl c = some C ∧ ClsX K mg c (excFld c) C fI ∧ InitX P w K (excFld c) C fI
noncomputable abbrev Clause := Str → Option D → Stm
noncomputable def kPlain (k : Stm) : Clause := fun _ _ => k
noncomputable def retFld : Option D → S → RS
  | some d, s => .ret (.w (.d d)) s
  | none, _ => .no
noncomputable def retFldL (w : Str) : Option D → S → RS
  | some d, s => .ret (.own [.d (.str w), .d d]) s
  | none, _ => .no
noncomputable def kReadF (i : Nat) (x : Str) : Clause := fun c y ρ s => if c = x ∧ i < ρ.length then retFld y s else .no
noncomputable def kReadL (i : Nat) (x w : Str) : Clause := fun c y ρ s => if c = x ∧ i < ρ.length then retFldL w y s else .no
section
variable {X : Cx} {cl : Str → Option Addr} {Wx : WX} {c : Str} {p p2 pos : Pos} {e : Expr} {ea : Cmp TG.W} {k : Nat} {body : List Stmt} {b : Stm}
inductive HdJX (cl : Str → Option Addr) (X : Cx) : List ExceptHandler → List (Str × Clause) → Prop
  | nil : HdJX cl X [] []
  | plain {x : Str} {b₀ : Stmt} {suite : List Stmt} {np pos' : Pos} {hds : List ExceptHandler} {k : Stm} {l : List (Str × Clause)} (hx : ∃ C, cl x = some C ∧ X.mg x = some (.ref C)) (hg : Gl X x) (nd : (x == ("__debug__" : Str)) = false)
      (hs : ∀ (a : Addr) (oe : Obj) (pn : List (Addr × Obj)), XOk (X.suite a ((a, oe) :: pn)) W0 → JB cl W0 (X.suite a ((a, oe) :: pn)) (b₀ :: suite) k) (r : HdJX cl X hds l) :
      HdJX cl X (.ExceptHandler (some (.Name x np)) none (b₀ :: suite) pos' :: hds) ((x, kPlain k) :: l)
  | fld {x n f : Str} {i : Nat} {np pos' q1 q2 q3 : Pos} {hds : List ExceptHandler} {l : List (Str × Clause)} (F : ExcX X.prog X.w X.K X.mg cl x) (hf : excFld x = f) (hi : X.N[i]? = some n) (hln : X.env.kindOf n = some .local) (hv : Vis X.env.scope n) (hg : Gl X x) (nd : (x == ("__debug__" : Str)) = false) (nn : (n == ("__debug__" : Str)) = false) (nc : (n == ("__classdict__" : Str)) = false)
      (hb : attributeBase (.Name n q1) f X.env (eval (.Name n q1) X.env) = eval (.Name n q1) X.env) (r : HdJX cl X hds l) :
      HdJX cl X (.ExceptHandler (some (.Name x np)) (some n) [.Return (some (.Attribute (.Name n q1) f q2)) q3] pos' :: hds) ((x, kReadF i x) :: l)
  | fldL {x n f z : Str} {i : Nat} {j : Nat} {np pos' q1 q2 q3 q4 q5 : Pos} {hds : List ExceptHandler} {l : List (Str × Clause)} (F : ExcX X.prog X.w X.K X.mg cl x) (hf : excFld x = f) (hi : X.N[i]? = some n) (hln : X.env.kindOf n = some .local) (hv : Vis X.env.scope n) (hg : Gl X x) (nd : (x == ("__debug__" : Str)) = false) (nn : (n == ("__debug__" : Str)) = false) (nc : (n == ("__classdict__" : Str)) = false)
      (hb : attributeBase (.Name n q1) f X.env (eval (.Name n q1) X.env) = eval (.Name n q1) X.env)
      (hs1 : starEach [.Constant (.str z) j q4, .Attribute (.Name n q1) f q2] X.env = (false, eval (.Constant (.str z) j q4) X.env) :: starEach [.Attribute (.Name n q1) f q2] X.env) (hs2 : starEach [.Attribute (.Name n q1) f q2] X.env = (false, eval (.Attribute (.Name n q1) f q2) X.env) :: starEach [] X.env) (r : HdJX cl X hds l) :
      HdJX cl X (.ExceptHandler (some (.Name x np)) (some n) [.Return (some (.List [.Constant (.str z) j q4, .Attribute (.Name n q1) f q2] q5)) q3] pos' :: hds) ((x, kReadL i x z) :: l)
noncomputable def okFor (K : PySem.W.Frag) (cl : Str → Option Addr) (ww : WishF) (k : Clause) : Prop := ∀ (D : Ends) (c : Str) (x : Option TG.D) (cv : Value) (dd : Option Addr) (σ : L2.St) (H0 H : Hp) (m ow : List Addr) (s : S) (ρ : Rho),
  Ctx K cl H0 H m ow s σ ρ → ExcR K cl H0 H cv dd c x → RunS K cl W0 H0 H m ow D (noExc (k c x ρ s)) → ww D cv dd σ H
inductive HdRX (K : PySem.W.Frag) (cl : Str → Option Addr) : List (Str × Clause) → List (Value × WishF) → Prop
  | nil : HdRX K cl [] []
  | cons {x : Str} {k : Clause} {C : Addr} {ww : WishF} {l r} (h : cl x = some C) (q : okFor K cl ww k) (z : HdRX K cl l r) : HdRX K cl ((x, k) :: l) ((.ref C, ww) :: r)
theorem set_at {σ : L2.St} {i : Nat} {v : Option V} (h : i < σ.length) : (σ.set i v)[i]? = some v := by simp [h]
theorem HdJX.ok (nd : X.N.Nodup) : ∀ {hds l}, HdJX cl X hds l → ∃ r, HdsMix X hds r ∧ HdRX X.K cl l r
  | _, _, .nil => ⟨[], .nil, .nil⟩
  | _, _, .plain (k := kk) hx hg n hs q => by
    obtain ⟨C, h1, h2⟩ := hx
    obtain ⟨r, h3, h4⟩ := q.ok nd
    refine ⟨_, .plain (ts := fun _ _ _ => Sof X.K cl W0 kk) ⟨hg, n, .inl h2⟩ (fun a oe cls d pn _ _ => hs a oe pn ⟨fun u s' ⟨a, B, sI, pins, σ, H, cls, d, e, I, nb, up, sky, na, os, ag, z⟩ => z.elim, PassesOwn.never, nd⟩) h3, .cons h1 (fun D c x cv dd σ H0 H m ow s ρ cx ex h a ha => ?_) h4⟩
    exact ⟨H0, m, ow, s, ρ, cx, RunS.noExc h⟩
  | _, _, .fld (i := i) (x := x) F hf hi hln hv hg n nn nc hb q => by
    subst hf
    obtain ⟨C, fI, h1, T, J⟩ := F.ex
    obtain ⟨r, h3, h4⟩ := q.ok nd
    refine ⟨_, .named (i := i) (ts := fun a cls d => tRet (tByX C (excFld x) a cls d (tVar i))) hi hln ⟨hg, n, .inl T.gC⟩ (fun a oe cls d pn hz hf => pss_one (ps_ret (pe_byX T hz hf (pe_var hi hv nn nc) hb))) h3, .cons h1 (fun D c y cv dd σ H0 H m ow s ρ cx ex h a ha => ?_) h4⟩
    have hh : RunS X.K cl W0 H0 H m ow D (noExc (if c = x ∧ i < ρ.length then retFld y s else .no)) := h
    clear h
    by_cases hc : c = x ∧ i < ρ.length
    · rw [if_pos hc] at hh
      obtain ⟨rfl, hi2⟩ := hc
      cases y with
      | none => exact hh.elim
      | some y =>
        obtain ⟨C', d, v, e1, e2, e3, e4, e5⟩ := ex
        cases h1.symm.trans e1
        subst e2 e3
        refine ⟨.ref a, set_at (by rw [cx.en.len]; exact hi2), rfl, rfl, d, v, rfl, cx.st.sub _ _ e4, ?_⟩
        exact hh v H0 H m ow Go.refl cx.st e5
    · rw [if_neg hc] at hh
      exact hh.elim
  | _, _, .fldL (i := i) (x := x) (z := z) F hf hi hln hv hg n nn nc hb hs1 hs2 q => by
    subst hf
    obtain ⟨C, fI, h1, T, J⟩ := F.ex
    obtain ⟨r, h3, h4⟩ := q.ok nd
    refine ⟨_, .named (i := i) (ts := fun a cls d => tRet (tLst (tCons (tC (.str z)) (tCons (tByX C (excFld x) a cls d (tVar i)) tNil)))) hi hln ⟨hg, n, .inl T.gC⟩ (fun a oe cls d pn hz hf => pss_one (ps_ret (pe_lst (pa_cons pe_str (pa_cons (pe_byX T hz hf (pe_var hi hv nn nc) hb) pa_nil hs2) hs1)))) h3, .cons h1 (fun D c y cv dd σ H0 H m ow s ρ cx ex h a ha => ?_) h4⟩
    have hh : RunS X.K cl W0 H0 H m ow D (noExc (if c = x ∧ i < ρ.length then retFldL z y s else .no)) := h
    clear h
    by_cases hc : c = x ∧ i < ρ.length
    · rw [if_pos hc] at hh
      obtain ⟨rfl, hi2⟩ := hc
      cases y with
      | none => exact hh.elim
      | some y =>
        obtain ⟨C', d, v, e1, e2, e3, e4, e5⟩ := ex
        cases h1.symm.trans e1
        subst e2 e3
        refine ⟨.ref a, set_at (by rw [cx.en.len]; exact hi2), rfl, rfl, d, v, rfl, cx.st.sub _ _ e4, (by show 2 ≤ sizeLine; decide), fun p hp => ?_⟩
        exact hh (.ref p) H0 (upd H p (.lst [.str z, v])) m ow (Go.fresh hp).lift (cx.st.fresh hp) ⟨p, _, rfl, .inr hp, upd_same, cx.st.h0 hp, cx.st.notM hp, .cons .str (.cons e5 .nil)⟩
    · rw [if_neg hc] at hh
      exact hh.elim
end
end TG

set_option Elab.async false
set_option linter.all false
set_option maxRecDepth 100000
set_option maxHeartbeats 4000000
namespace PySem
namespace XFld
open PySem.W PySem.Calls PyProof.Rows PySem.HandSPX
noncomputable def arow (p1 p2 : Pos) : Arguments := { posonlyargs := [], args := [{ arg := "self", annotation := none, pos := p1 }, { arg := "row", annotation := none, pos := p2 }], vararg := none, kwonlyargs := [], kw_defaults := [], kwarg := none, defaults := [] }
noncomputable def brow (q1 q2 q3 q4 : Pos) : List Stmt := [.Assign [.Attribute (.Name "self" q1) "row" q2] (.Name "row" q3) q4]
noncomputable def srow : Scope := { kind := .function, names := [(PySem.Str.ofString "self", .local), (PySem.Str.ofString "row", .local)], isGenerator := false, isCoroutine := false, more := [] }
theorem nmrow {M : Model} {s : Shared} {name : Str} {L a : Addr} {cd : Value} {m : Str → Option Value} {x : Str} {pos : Pos} {v : Value} {Q : Value → Shared → Prop} {A : Around} {E : Value → Shared → Prop} (hn : s.heap.Ns L m) (hv : m x = some v) (h : Q v s)
    (hk : srow.kind = .function := by rfl) (hl : (envOfC name srow L a cd).kindOf x = some .local := by rfl) (hd : (x == ("__debug__" : Str)) = false := by decide) : wpAny M A (eval (.Name x pos) (envOfC name srow L a cd)) Q E s := wpAny_Name (wpAny_loadName_local hk hl hn hv h) hd
theorem initrow {prog : Program} {w : World} {K : Frag} {mg : Str → Option Value} {x : Str} {C fI : Addr} {args : Arguments} {body : List Stmt} {scope : Scope} {qn : Str} {oc kV doc pm cdv ct : Value} {od an : Option Addr} {osl : Array (Option Value)} (T : ClsX K mg x "row" C fI)
    (ho : K.lookup fI = some ⟨oc, od, .func (fnOf "__init__" qn args body scope .none kV doc pm an cdv ct), osl⟩) (hcd : codeIn K cdv qn = true) (hA : ∃ p1 p2, args = arow p1 p2) (hB : ∃ q1 q2 q3 q4, body = brow q1 q2 q3 q4) (hS : scope = srow) : InitX prog w K "row" C fI := by
  intro A R s y t0 v X hlim hx hnx hroom hq
  obtain ⟨p1, p2, rfl⟩ := hA
  obtain ⟨q1, q2, q3, q4, rfl⟩ := hB
  subst hS
  obtain ⟨B, newId, initId, z, nm, q, N, bs, bm, sn, sub, ab, col, dd, k0, k1, k2, k3, k5, BX, hC, hbm⟩ := T.cls
  have hcl : clsIn K C = some { name := nm, bases := bs, mro := .ref C :: bm, ns := N, qualname := q, hasDict := true, slotNames := sn, subclasses := sub, abstract := ab, collection := col, hasDel := false } := by unfold clsIn; rw [hC] <;> rfl
  have hbm2 : rowsX z (.ref C :: bm) = true := hbm
  refine Att.call_fn (binds := [("self", .ref y), ("row", v)]) X hlim ho hcd hroom (BindsTo.of_eq (by first | rfl | with_unfolding_all rfl)) (by first | rfl | decide | with_unfolding_all rfl) (fun s₁ IC => ?_) rfl rfl rfl
  obtain ⟨h₁, tk₁, rfl⟩ := IC.toInCall.same
  have k : ∀ b o, s.heap.get? b = some o → h₁.get? b = some o := IC.toInCall.keep
  have hn := IC.toInCall.ns
  show wpAny _ _ (execs _ _) _ _ _
  refine wpAny_execs_cons (plainObj_wpAny_Assign_Attribute ?_)
  refine nmrow (v := v) hn (by first | rfl | with_unfolding_all rfl | kernel_rfl) (nmrow (v := .ref y) hn (by first | rfl | with_unfolding_all rfl | kernel_rfl) ?_)
  refine set_plain (X.keeps k) (ox := excO C t0) (od := none) ⟨k _ _ hx, rfl, rfl, trivial⟩ T.sa ?_
  refine osaX (X.keeps k) (k _ _ hx) hcl (rows_pass _ (BX.ps _) _ hbm2) ((rows_has "object" _ hbm2).trans BX.ob) (rows_ne BX.ne _ hbm2) rfl T.noN (fun h₃ tk₃ dx k₃ dn dne hx₃ hn₃ => ?_)
  show wpAny _ _ (execs _ _) _ _ _
  have z : s.heap.objs.size < h₁.objs.size := hn.lt
  exact wpAny_execs_nil (hq h₃ tk₃ dx ⟨fun b o hb e => k₃ b o hb (k b o e), hx₃, Nat.le_of_lt (Nat.lt_of_lt_of_le z dn), dne, hn₃⟩)
end XFld
end PySem

set_option Elab.async false
set_option linter.all false
set_option maxRecDepth 100000
set_option maxHeartbeats 4000000
namespace TG
open PySem PySem.Spec PyProof.Rows L2
section
variable {X : Cx} {cl : Str → Option Addr} {Wx : WX} {e : Expr} {es : List Expr} {pos p : Pos} {el ek : Cmp TG.W} {k n : Nat} {x : Str} {ps ks : List Str} {f : Sem1} {kws : List Keyword} {pk : List Pk} {ds : List Int}
end
end TG

set_option Elab.async false
set_option linter.all false
set_option maxRecDepth 100000
set_option maxHeartbeats 4000000
namespace TG
open PySem PySem.Spec PyProof.Rows L2
mutual
noncomputable def D.noLst : TG.D → Bool
  | .non => true | .bl _ => true | .int _ => true | .str _ => true
  | .tup l => D.noLsts l
  | _ => false
noncomputable def D.noLsts : List TG.D → Bool
  | [] => true
  | x :: r => D.noLst x && D.noLsts r
end
mutual
theorem Rep.nolist {K : PySem.W.Frag} {cl : Str → Option Addr} {H0 H1 : Hp} (k : ∀ a vs, H0 a = some (.tup vs) → H1 a = some (.tup vs)) {v : V} {d : TG.D} (h : Rep K cl H0 v d) (n : d.noLst = true) : Rep K cl H1 v d := match h with
  | .non => .non
  | .bl => .bl
  | .int => .int
  | .str => .str
  | .tup a b => .tup (k _ _ a) (Reps.nolist k b (by rw [D.noLst] at n; exact n))
  | .lst _ _ => by simp [D.noLst] at n
  | .scr _ _ => by simp [D.noLst] at n
  | .dic _ _ => by simp [D.noLst] at n
  | .ins _ _ _ => by simp [D.noLst] at n
theorem Reps.nolist {K : PySem.W.Frag} {cl : Str → Option Addr} {H0 H1 : Hp} (k : ∀ a vs, H0 a = some (.tup vs) → H1 a = some (.tup vs)) {v : List V} {d : List TG.D} (h : Reps K cl H0 v d) (n : D.noLsts d = true) : Reps K cl H1 v d := match h with
  | .nil => .nil
  | .cons a b => .cons (Rep.nolist k a (by rw [D.noLsts, Bool.and_eq_true] at n; exact n.1)) (Reps.nolist k b (by rw [D.noLsts, Bool.and_eq_true] at n; exact n.2))
end
inductive RepO (K : PySem.W.Frag) (cl : Str → Option Addr) (H0 H : Hp) (m : List Addr) : V → TG.W → Prop
  | w {v : V} {x : TG.W} (h : RepW K cl H0 m v x) : RepO K cl H0 H m v x
  | own {p : Addr} {vs : List V} {ds : List TG.D} (h : H p = some (.lst vs)) (r : Reps K cl H0 vs ds) (n : H0 p = none) (q : p ∉ m) : RepO K cl H0 H m (.ref p) (.d (.lst ds))
inductive RepOs (K : PySem.W.Frag) (cl : Str → Option Addr) (H0 H : Hp) (m : List Addr) : List V → List TG.W → Prop
  | nil : RepOs K cl H0 H m [] []
  | cons {v : V} {x : TG.W} {vs : List V} {xs : List TG.W} (a : RepO K cl H0 H m v x) (b : RepOs K cl H0 H m vs xs) : RepOs K cl H0 H m (v :: vs) (x :: xs)
noncomputable def rrAO (K : PySem.W.Frag) (cl : Str → Option Addr) : RRT (List V) (List TG.W) := fun _ H0 H' m v x => RepOs K cl H0 H' m v x
instance {K : PySem.W.Frag} {cl : Str → Option Addr} : Early (rrAO K cl) := ⟨fun _ h => h⟩
section
variable {K : PySem.W.Frag} {cl : Str → Option Addr} {H0 H H1 H1' : Hp} {m m1 : List Addr} {v : V} {x : TG.W}
theorem RepO.mono (g : GoE H0 H m H1 H1' m1) (h : RepO K cl H0 H m v x) : RepO K cl H1 H1' m1 v x := by
  cases h with
  | w h => exact .w (RepW.mono g.s0 g.pre h)
  | own h r n q =>
    refine .own (g.fr _ _ h q (by simp)) (r.mono g.s0) (g.n0 _ (by rw [h]; simp) q (by simp) n) fun z => ?_
    rcases g.nm _ z with z | z | z
    · exact q z
    · cases z
    · rw [h] at z; cases z
noncomputable def upOwn (H0 H : Hp) (P : List Addr) : Hp := fun a => if a ∈ P then H a else H0 a
structure OwnP (H0 H : Hp) (m P : List Addr) : Prop where
  n : ∀ p ∈ P, H0 p = none
  q : ∀ p ∈ P, p ∉ m
  l : ∀ p ∈ P, ∃ vs, H p = some (.lst vs)
theorem up_same {P : List Addr} (o : OwnP H0 H m P) : Same H0 (upOwn H0 H P) := fun a x e => by
  unfold upOwn
  by_cases h : a ∈ P
  · rw [o.n a h] at e; cases e
  · rw [if_neg h]; exact e
theorem up_sub {P : List Addr} (s : Same H0 H) : Same (upOwn H0 H P) H := fun a x e => by
  unfold upOwn at e
  by_cases h : a ∈ P
  · rw [if_pos h] at e; exact e
  · rw [if_neg h] at e; exact s a x e
noncomputable def isDat : TG.W → Bool | .d _ => true | .r _ => false
theorem own_reps : ∀ {vs : List V} {ws : List TG.W}, RepOs K cl H0 H m vs ws → ws.all isDat = true → ∃ P, OwnP H0 H m P ∧ ∀ P', (∀ p ∈ P, p ∈ P') → OwnP H0 H m P' → RepWs K cl (upOwn H0 H P') [] vs ws
  | _, _, .nil, _ => ⟨[], ⟨fun p h => (nomatch h), fun p h => (nomatch h), fun p h => (nomatch h)⟩, fun _ _ _ => .nil⟩
  | _, _, .cons a b, hd => by
    rw [List.all_cons, Bool.and_eq_true] at hd
    obtain ⟨P, o, k⟩ := own_reps b hd.2
    cases a with
    | w h =>
      refine ⟨P, o, fun P' hp o' => .cons ?_ (k P' hp o')⟩
      rename_i x xs v
      cases x with
      | r n => simp [isDat] at hd
      | d x => exact Rep.mono (up_same o') h
    | own h r n q =>
      rename_i xs p vs ds
      refine ⟨p :: P, ⟨fun a ha => ?_, fun a ha => ?_, fun a ha => ?_⟩, fun P' hp o' => .cons ?_ (k P' (fun a ha => hp a (.tail _ ha)) o')⟩
      · rcases List.mem_cons.mp ha with rfl | ha
        · exact n
        · exact o.n a ha
      · rcases List.mem_cons.mp ha with rfl | ha
        · exact q
        · exact o.q a ha
      · rcases List.mem_cons.mp ha with rfl | ha
        · exact ⟨_, h⟩
        · exact o.l a ha
      · refine Rep.lst ?_ (r.mono (up_same o'))
        unfold upOwn
        rw [if_pos (hp p (.head _))]
        exact h
end
noncomputable def outO : Res RV → S → Res TG.W
  | .ok (.w (.d d)) [] => fun s => if d.noLst = true then .ok (.d d) s else .no
  | _ => fun _ => .no
noncomputable def kCallO (f : Sem1) (ws : List TG.W) (s : S) : Res TG.W := if ws.all isDat = true then outO (f ws []) s else .no
noncomputable def eCallO (f : Sem1) (a : Cmp (List TG.W)) : Cmp TG.W := fun ρ s => (a ρ s).bind (kCallO f)
noncomputable def eOwnA (n : Nat) (a : Cmp (List TG.W)) : Cmp (List TG.W) := fun ρ s => match ρ[n]? with
  | some (.own l) => (match allData l with | some ds => (a ρ s).bind fun ws s1 => .ok (.d (.lst ds) :: ws) s1 | none => .no)
  | _ => .no
noncomputable def JAO (cl : Str → Option Addr) (Wx : WX) (X : Cx) (e : List Expr) (c : Cmp (List TG.W)) : Prop := PA X e (Tof X.K cl (rrAO X.K cl) Wx c)
section
variable {X : Cx} {cl : Str → Option Addr} {Wx : WX} {e : Expr} {es : List Expr} {pos p p1 : Pos} {ea : Cmp TG.W} {el : Cmp (List TG.W)} {k : Nat} {x : Str} {ps : List Str} {f : Sem1}
theorem jao_nil : JAO cl Wx X [] eNil := PA.weaken pa_nil fun σ H Q ⟨H0, m, ow, s, ρ, cx, h⟩ => RunE.done (RR := rrAO X.K cl) h cx.st .nil
theorem jao_cons (ha : JE cl Wx X e ea) (hr : JAO cl Wx X es el) (hs : starEach (e :: es) X.env = (false, eval e X.env) :: starEach es X.env := by rfl) : JAO cl Wx X (e :: es) (eCons ea el) :=
  PA.weaken (pa_cons ha hr hs) fun σ H Q ⟨H0, m, ow, s, ρ, cx, h⟩ => ⟨H0, m, ow, s, ρ, cx, RunE.bind h fun x s1 v H1 H1' m1 g st rr h2 => ⟨H1, m1, ow, s1, ρ, cx.go g st, RunE.bind h2 fun y s2 u H2 H2' m2 g' st' rr' h3 =>
    RunE.done (RR := rrAO X.K cl) h3 st' (.cons (RepO.mono g' (.w rr)) rr')⟩⟩
theorem jao_own (n : Nat) (hr : JAO cl Wx X es el) (hN : X.N[n]? = some x := by rfl) (hv : Vis X.env.scope x := by first | exact Or.inl rfl | exact Or.inr (Or.inl rfl) | exact Or.inr (Or.inr rfl)) (hd : (x == ("__debug__" : Str)) = false := by decide)
    (hcd : (x == ("__classdict__" : Str)) = false := by decide) (hs : starEach (.Name x p1 :: es) X.env = (false, eval (.Name x p1) X.env) :: starEach es X.env := by rfl) : JAO cl Wx X (.Name x p1 :: es) (eOwnA n el) :=
  PA.weaken (pa_cons (pe_var hN hv hd hcd) hr hs) fun σ H Q ⟨H0, m, ow, s, ρ, cx, h⟩ => by
    unfold eOwnA at h
    split at h
    · rename_i l e0
      split at h
      · rename_i ds e1
        obtain ⟨p, vs, h1, h2, h3, h4⟩ := cx.en.slot n _ e0
        have own := cx.en.owns p h2
        refine ⟨.ref p, h1, H0, m, ow, s, ρ, cx, RunE.bind h fun ws s1 us H1 H1' m1 g st rr h5 => ?_⟩
        exact RunE.done (RR := rrAO X.K cl) h5 st (.cons (RepO.mono g (.own h3 (h4.ds e1) own.2.1 own.2.2)) rr)
      · exact h.elim
    · exact h.elim
theorem je_callO (ok : XOk X Wx) (hr : Room k X.A) (F : FnAt X.prog X.w X.K X.mg X.base cl k x ps f) (ha : JAO cl Wx X (e :: es) el) (hg : Gl X x := by rfl)
    (h1 : (x == Str.ofString "__debug__") = false := by decide) (h2 : starEach (e :: es) X.env = (false, eval e X.env) :: starEach es X.env := by rfl) (h3 : ((backTo pos (starEach es X.env)).any fun x => x.fst) = false := by rfl) :
    JE cl Wx X (.Call (.Name x p) (e :: es) [] pos) (eCallO f el) := by
  obtain ⟨a, fd, q1, q2, q3, q4⟩ := F.ex
  refine PE.weaken (pe_callS q4 hr hg q1 q2 q3 (fun σ => passAt ok.tk σ) ha h1 h2 h3) fun σ H Q ⟨H0, m, ow, s, ρ, cx, h⟩ => ⟨H0, m, ow, s, ρ, cx, ?_⟩
  have h : RunE X.K cl (rrW X.K cl) Wx H0 H m σ Q ((el ρ s).bind (kCallO f)) := h
  refine RunE.bind h fun ws s1 vs H1 H1' m1 g st rr h4 => ?_
  unfold kCallO at h4
  by_cases hd : ws.all isDat = true
  · rw [if_pos hd] at h4
    obtain ⟨P, o, kk⟩ := own_reps rr hd
    have reps := kk P (fun _ h => h) o
    generalize ef : f ws [] = fr at h4
    unfold outO at h4
    split at h4
    · rename_i d
      by_cases hn : d.noLst = true
      · rw [if_pos hn] at h4
        refine ⟨upOwn H1 H1' P, [], [], ws, ⟨up_sub st.sub, rfl, List.nodup_nil, fun n a c h => by simp at h⟩, reps, ?_⟩
        rw [ef]
        intro v H2 H2' m2 g2 st2 rv
        have rv : RepW X.K cl H2 m2 v (.d d) := rv
        have hl2 : ∀ p ∈ P, ∃ vs, H2 p = some (.lst vs) := fun p hp => by
          obtain ⟨vs, e⟩ := o.l p hp
          exact ⟨vs, g2.s0 _ _ (by unfold upOwn; rw [if_pos hp]; exact e)⟩
        have none2 : ∀ a, H1' a ≠ none → upOwn H1 H1' P a = none → H2 a = none := fun a ha hu => g2.n0 a ha (by simp) (by simp) hu
        have sub2 : Same (fun a => if a ∈ P then none else H2 a) H2' := fun a x e => by
          have e : (if a ∈ P then none else H2 a) = some x := e
          by_cases hp : a ∈ P
          · rw [if_pos hp] at e; cases e
          · rw [if_neg hp] at e; exact st2.sub _ _ e
        have s02 : Same H1 (fun a => if a ∈ P then none else H2 a) := fun a x e => by
          show (if a ∈ P then none else H2 a) = some x
          by_cases hp : a ∈ P
          · rw [o.n a hp] at e; cases e
          · rw [if_neg hp]
            exact g2.s0 _ _ (by unfold upOwn; rw [if_neg hp]; exact e)
        have kp : ∀ a x, H1' a = some x → H2' a = some x := fun a x e => g2.fr a x e (by simp) (by simp)
        refine h4 v (fun a => if a ∈ P then none else H2 a) H2' m1 ⟨s02, List.prefix_rfl, fun a x e _ _ => kp a x e, g2.dom, fun a ha h5 _ h6 => ?_, fun a h => .inl h, fun a h => .inl h⟩ ⟨sub2, st.len, st.nd, fun n a c e1 e2 => ?_⟩ ?_
        · show (if a ∈ P then none else H2 a) = none
          by_cases hp : a ∈ P
          · rw [if_pos hp]
          · rw [if_neg hp]
            exact none2 a ha (by unfold upOwn; rw [if_neg hp]; exact h6)
        · obtain ⟨z1, z2⟩ := st.cell n a c e1 e2
          have am : a ∈ m1 := List.mem_iff_getElem?.mpr ⟨n, e1⟩
          have np : a ∉ P := fun hp => o.q a hp am
          refine ⟨?_, z2.mono s02 List.prefix_rfl fun x e => kp a x e⟩
          show (if a ∈ P then none else H2 a) = none
          rw [if_neg np]
          exact none2 a z2.there (by unfold upOwn; rw [if_neg np]; exact z1)
        · refine Rep.nolist (fun a vs e => ?_) rv hn
          show (if a ∈ P then none else H2 a) = some (.tup vs)
          rw [if_neg fun hp => ?_]
          · exact e
          · obtain ⟨us, e2⟩ := hl2 a hp
            rw [e] at e2
            cases e2
      · rw [if_neg hn] at h4
        exact h4.elim
    · exact h4.elim
  · rw [if_neg hd] at h4
    exact h4.elim
end
end TG

set_option linter.all false
set_option maxRecDepth 100000
namespace TG
open PySem L2
noncomputable def b_v_law_bag : Stm :=
  (sSeq (sSet 1 (eC (.int 977)))
  (sSeq (sFor (eSeq (eSl fSl (eVar 0) eNoPart (ePart (eC (.int 63))))) (tgName 2) (sSet 1 (eBin fMod (eBin fAdd (eBin fAdd (eBin fMul (eVar 1) (eC (.int 48271))) (eBin fMod (eVar 2) (eC (.int 2147483629)))) (eC (.int 11))) (eC (.int 2147483647)))))
  (sRetL (eLst (eCons (eFrz (eListOf (eCons (eSl fSl (eVar 0) eNoPart (ePart (eC (.int 63)))) eNil))) (eCons (eC (.int 0)) (eCons (eC (.int 0)) (eCons (eVar 1) eNil))))))))
noncomputable def f_v_law_bag : Sem1 := runF 1 3 b_v_law_bag
noncomputable def b_v_law_pull : Stm :=
  (sSeq (sIf (eAndT (eTest (eBin (fEq false) (eBin fIx (eVar 0) (eC (.int 2))) (eC (.int 0)))) (eTest (eBin fLt (eBin fIx (eVar 0) (eC (.int 1))) (eArgs (c1 fLen) (eCons (eBin fIx (eVar 0) (eC (.int 0))) eNil))))) (sSeq (sSet 2 (eBin fIx (eBin fIx (eVar 0) (eC (.int 0))) (eBin fIx (eVar 0) (eC (.int 1)))))
  (sSeq (sSetI (eVar 0) (eC (.int 1)) (eBin fAdd (eBin fIx (eVar 0) (eC (.int 1))) (eC (.int 1))))
  (sIf (eTest (eBin fGe (eVar 2) (eBin fPow (eC (.int 10)) (eC (.int 18))))) (sSetI (eVar 0) (eC (.int 2)) (eVar 2)) (sSetI (eVar 0) (eC (.int 3)) (eBin fMod (eBin fAdd (eBin fAdd (eBin fMul (eBin fIx (eVar 0) (eC (.int 3))) (eC (.int 69621))) (eBin fMul (eBin fMod (eVar 2) (eC (.int 2147483629))) (eC (.int 48271)))) (eC (.int 5))) (eC (.int 2147483647))))))) sNext)
  (sSeq (sIf (eTest (eBin fGt (eBin fIx (eVar 0) (eC (.int 2))) (eC (.int 0)))) (sSeq (sSet 3 (eBin fMod (eBin fIx (eVar 0) (eC (.int 2))) (eVar 1)))
  (sSeq (sSetI (eVar 0) (eC (.int 2)) (eBin fDiv (eBin fIx (eVar 0) (eC (.int 2))) (eVar 1)))
  (sRet (eVar 3)))) sNext)
  (sSeq (sSet 4 (eBin fIx (eVar 0) (eC (.int 3))))
  (sSeq (sSetI (eVar 0) (eC (.int 3)) (eBin fMod (eBin fAdd (eBin fAdd (eBin fMul (eVar 4) (eC (.int 39373))) (eBin fMul (eBin fDiv (eVar 4) (eC (.int 127773))) (eC (.int 31)))) (eC (.int 1013904223))) (eC (.int 2147483647))))
  (sRet (eBin fMod (eBin fAdd (eBin fDiv (eBin fIx (eVar 0) (eC (.int 3))) (eC (.int 97))) (eBin fMul (eBin fMod (eBin fIx (eVar 0) (eC (.int 3))) (eC (.int 8191))) (eC (.int 53)))) (eVar 1)))))))
noncomputable def f_v_law_pull : Sem1 := runF 2 5 b_v_law_pull
noncomputable def b_v_law_far : Stm :=
  (sSeq (sSet 1 (eBin fAdd (eBin fPow (eC (.int 10)) (eC (.int 9))) (eCall f_v_law_pull (eCons (eVar 0) (eCons (eBin fPow (eC (.int 10)) (eC (.int 9))) eNil)))))
  (sSeq (sIf (eTest (eBin (fEq false) (eCall f_v_law_pull (eCons (eVar 0) (eCons (eC (.int 2)) eNil))) (eC (.int 0)))) (sSet 1 (eBin fAdd (eVar 1) (eBin fPow (eC (.int 10)) (eC (.int 20))))) sNext)
  (sSeq (sIf (eTest (eBin (fEq false) (eCall f_v_law_pull (eCons (eVar 0) (eCons (eC (.int 2)) eNil))) (eC (.int 0)))) (sRet (eBin fSub (eUn fNeg (eC (.int 1))) (eVar 1))) sNext)
  (sRet (eVar 1)))))
noncomputable def f_v_law_far : Sem1 := runF 1 2 b_v_law_far
noncomputable def b_v_law_height : Stm :=
  (sRet (eBin fIx (eFrz (eLst (eCons (eCall f_v_law_pull (eCons (eVar 0) (eCons (eC (.int 4)) eNil))) (eCons (eCall f_v_law_pull (eCons (eVar 0) (eCons (eC (.int 12)) eNil))) (eCons (eBin fSub (eCall f_v_law_pull (eCons (eVar 0) (eCons (eC (.int 200)) eNil))) (eC (.int 100))) (eCons (eCall f_v_law_far (eCons (eVar 0) eNil)) eNil)))))) (eBin fMod (eBin fDiv (eCall f_v_law_pull (eCons (eVar 0) (eCons (eC (.int 9)) eNil))) (eC (.int 2))) (eC (.int 4)))))
noncomputable def f_v_law_height : Sem1 := runF 1 1 b_v_law_height
noncomputable def b_v_law_rim : Stm :=
  (sSeq (sSet 2 (eBin fAdd (eC (.int 3)) (eCall f_v_law_pull (eCons (eVar 0) (eCons (eBin fSub (eVar 1) (eC (.int 2))) eNil)))))
  (sSeq (sIf (eTest (eBin (fEq false) (eCall f_v_law_pull (eCons (eVar 0) (eCons (eC (.int 10)) eNil))) (eC (.int 0)))) (sSet 2 (eVar 1)) sNext)
  (sSeq (sSet 3 (eCall f_v_law_pull (eCons (eVar 0) (eCons (eC (.int 5)) eNil))))
  (sSeq (sSet 4 (eBin fIx (eFrz (eLst (eCons (eC (.int 4)) (eCons (eC (.int 9)) (eCons (eC (.int 2)) (eCons (eC (.int 30)) eNil)))))) (eCall f_v_law_pull (eCons (eVar 0) (eCons (eC (.int 4)) eNil)))))
  (sSeq (sIf (eTest (eBin (fEq false) (eVar 3) (eC (.int 0)))) (sRet (eArgs (c1 fTuple) (eCons (eFrz (eLc [5] (eRng1 (eCons (eVar 2) eNil)) (tgName 5) eYes (eCall f_v_law_height (eCons (eVar 0) eNil)))) eNil))) sNext)
  (sSeq (sIf (eTest (eBin (fEq false) (eVar 3) (eC (.int 1)))) (sRet (eArgs (c1 fTuple) (eCons (eFrz (eLc [5] (eRng1 (eCons (eVar 2) eNil)) (tgName 5) eYes (eC (.int 5)))) eNil))) sNext)
  (sRet (eArgs (c1 fTuple) (eCons (eFrz (eLc [5] (eRng1 (eCons (eVar 2) eNil)) (tgName 5) eYes (eCall f_v_law_pull (eCons (eVar 0) (eCons (eVar 4) eNil))))) eNil)))))))))
noncomputable def f_v_law_rim : Sem1 := runF 2 6 b_v_law_rim
noncomputable def b_v_law_drops : Stm :=
  (sSeq (sSet 1 (eBin fIx (eFrz (eLst (eCons (eC (.int 1)) (eCons (eC (.int 3)) (eCons (eC (.int 2)) (eCons (eBin fAdd (eC (.int 1)) (eCall f_v_law_pull (eCons (eVar 0) (eCons (eC (.int 9)) eNil)))) (eCons (eC (.int 5)) eNil))))))) (eCall f_v_law_pull (eCons (eVar 0) (eCons (eC (.int 5)) eNil)))))
  (sSeq (sSet 2 (eBin fIx (eFrz (eLst (eCons (eC (.int 1)) (eCons (eC (.int 3)) (eCons (eC (.int 9)) (eCons (eC (.int 100)) eNil)))))) (eCall f_v_law_pull (eCons (eVar 0) (eCons (eC (.int 4)) eNil)))))
  (sRet (eArgs (c1 fTuple) (eCons (eFrz (eLc [3] (eRng1 (eCons (eVar 1) eNil)) (tgName 3) eYes (eCall f_v_law_pull (eCons (eVar 0) (eCons (eVar 2) eNil))))) eNil)))))
noncomputable def f_v_law_drops : Sem1 := runF 1 4 b_v_law_drops
noncomputable def b_v_law_pair : Stm :=
  (sSeq (sSet 1 (eCall f_v_law_drops (eCons (eVar 0) eNil)))
  (sRet (eTup (eCons (eVar 1) (eCons (eCall f_v_law_pull (eCons (eVar 0) (eCons (eArgs (c1 fLen) (eCons (eVar 1) eNil)) eNil))) eNil)))))
noncomputable def f_v_law_pair : Sem1 := runF 1 2 b_v_law_pair
noncomputable def b_good_drops : Stm :=
  (sRet (eAndV (eChain fLe fLe (eC (.int 1)) (eArgs (c1 fLen) (eCons (eVar 0) eNil)) (eC (.int 9))) (eArgs (c1 fAll) (eCons (eFrz (eLc [1] (eSeq (eVar 0)) (tgName 1) eYes (eChain fLe fLe (eC (.int 0)) (eVar 1) (eC (.int 99))))) eNil))))
noncomputable def f_good_drops : Sem1 := runF 1 2 b_good_drops
noncomputable def b_good_foot : Stm :=
  (sRet (eAndV (eCall f_good_drops (eCons (eVar 0) eNil)) (eChain fLe fLt (eC (.int 0)) (eVar 1) (eArgs (c1 fLen) (eCons (eVar 0) eNil)))))
noncomputable def f_good_foot : Sem1 := runF 2 2 b_good_foot
noncomputable def b_Foot_init : Stm :=
  (sSeq (sIf (eNotT (eTest (eCall f_good_foot (eCons (eVar 1) (eCons (eVar 2) eNil))))) (sRaise0 "BadFoot") sNext)
  (sSeq (sFld "Foot" "drops" (eVar 0) (eVar 1))
  (sFld "Foot" "middle" (eVar 0) (eVar 2))))
noncomputable def f_Foot_init : Sem1 := runF 3 3 b_Foot_init
noncomputable def b_v_law_angle : Stm :=
  (sRet (eBin fIx (eFrz (eLst (eCons (eBin fSub (eCall f_v_law_pull (eCons (eVar 0) (eCons (eC (.int 60)) eNil))) (eC (.int 20))) (eCons (eCall f_v_law_far (eCons (eVar 0) eNil)) eNil)))) (eArgs (c1 fInt) (eCons (eBin (fEq false) (eCall f_v_law_pull (eCons (eVar 0) (eCons (eC (.int 5)) eNil))) (eC (.int 0))) eNil))))
noncomputable def f_v_law_angle : Sem1 := runF 1 1 b_v_law_angle
noncomputable def b_v_law_like (fr : Sem1) : Stm :=
  (sSeq (sIf (eOrT (eTest (eBin (fEq true) (eUn (fIsi "tuple") (eVar 1)) (eUn (fIsi "tuple") (eVar 0)))) (eTest (eBin (fEq true) (eUn (fIsi "list") (eVar 1)) (eUn (fIsi "list") (eVar 0))))) (sRet (eC (.bl false))) sNext)
  (sSeq (sIf (eNotT (eTest (eUn (fIsi2 "tuple" "list") (eVar 1)))) (sRet (eAndV (eBin (fEq false) (eUn (fIsi "bool") (eVar 0)) (eUn (fIsi "bool") (eVar 1))) (eBin (fEq false) (eVar 0) (eVar 1)))) sNext)
  (sRet (eAndV (eBin (fEq false) (eArgs (c1 fLen) (eCons (eVar 0) eNil)) (eArgs (c1 fLen) (eCons (eVar 1) eNil))) (eArgs (c1 fAll) (eCons (eFrz (eLc [2] (eRng1 (eCons (eArgs (c1 fLen) (eCons (eVar 1) eNil)) eNil)) (tgName 2) eYes (eCall fr (eCons (eBin fIx (eVar 0) (eVar 2)) (eCons (eBin fIx (eVar 1) (eVar 2)) eNil))))) eNil))))))
noncomputable def f_v_law_like : Nat → Sem1
  | 0 => fun _ _ => .no
  | n + 1 => runF 2 3 (b_v_law_like (f_v_law_like n))
noncomputable def b_is_rim : Stm :=
  (sRet (eChain fLe fLe (eC (.int 3)) (eArgs (c1 fLen) (eCons (eVar 0) eNil)) (eC (.int 48))))
noncomputable def f_is_rim : Sem1 := runF 1 1 b_is_rim
noncomputable def b_look_rim : Stm :=
  (sIf (eNotT (eTest (eCall f_is_rim (eCons (eVar 0) eNil)))) (sRaise0 "BadRim") sNext)
noncomputable def f_look_rim : Sem1 := runF 1 1 b_look_rim
noncomputable def b_touched : Stm :=
  (sSeq (sSetO 3 (eLst eNil))
  (sSeq (sFor (eEnum (eCons (eFld "Foot" "drops" (eVar 1)) eNil)) (tgTup 2 (tgCons (tgName 4) (tgCons (tgName 5) tgNil))) (sApp 3 (eTup (eCons (eBin fMod (eBin fSub (eBin fAdd (eVar 2) (eVar 4)) (eFld "Foot" "middle" (eVar 1))) (eVar 0)) (eCons (eVar 5) eNil)))))
  (sRetO 3)))
noncomputable def f_touched : Sem1 := runF 3 6 b_touched
noncomputable def b_lift_on : Stm :=
  (sRet (eArgs (c1 fMaxL) (eCons (eFrz (eLc [3, 4] (eSeq (eCall f_touched (eCons (eArgs (c1 fLen) (eCons (eVar 0) eNil)) (eCons (eVar 1) (eCons (eVar 2) eNil))))) (tgTup 2 (tgCons (tgName 3) (tgCons (tgName 4) tgNil))) eYes (eBin fSub (eBin fIx (eVar 0) (eVar 3)) (eVar 4)))) eNil)))
noncomputable def f_lift_on : Sem1 := runF 3 5 b_lift_on
noncomputable def b_cut_at : Stm :=
  (sRet (eBin fAdd (eBin fAdd (eSl fSl (eVar 0) eNoPart (ePart (eVar 1))) (eTup (eCons (eArgs (c2 fMin2) (eCons (eBin fIx (eVar 0) (eVar 1)) (eCons (eVar 2) eNil))) eNil))) (eSl fSl (eVar 0) (ePart (eBin fAdd (eVar 1) (eC (.int 1)))) eNoPart)))
noncomputable def f_cut_at : Sem1 := runF 3 3 b_cut_at
noncomputable def b_lies_within : Stm :=
  (sRet (eArgs (c1 fAll) (eCons (eFrz (eLc [2, 3] (eZipS (eCons (eVar 0) (eCons (eVar 1) eNil))) (tgTup 2 (tgCons (tgName 2) (tgCons (tgName 3) tgNil))) eYes (eBin fLe (eVar 2) (eVar 3)))) eNil)))
noncomputable def f_lies_within : Sem1 := runF 2 4 b_lies_within
noncomputable def b_within : Stm :=
  (sSeq (sExpr (eCall f_look_rim (eCons (eVar 0) eNil)))
  (sSeq (sExpr (eCall f_look_rim (eCons (eVar 1) eNil)))
  (sSeq (sIf (eTest (eBin (fEq true) (eArgs (c1 fLen) (eCons (eVar 0) eNil)) (eArgs (c1 fLen) (eCons (eVar 1) eNil)))) (sRaise0 "BadSize") sNext)
  (sRet (eCall f_lies_within (eCons (eVar 0) (eCons (eVar 1) eNil)))))))
noncomputable def f_within : Sem1 := runF 2 2 b_within
noncomputable def b_v_law_mixed : Stm :=
  (sSeq (sSetO 2 (eListOf (eCons (eVar 1) eNil)))
  (sSeq (sSetO 3 (eLst eNil))
  (sSeq (sFor (eRng1 (eCons (eArgs (c1 fLen) (eCons (eVar 1) eNil)) eNil)) (tgName 4) (sAppPop 3 2 (eCall f_v_law_pull (eCons (eVar 0) (eCons (eLenO 2) eNil)))))
  (sRetO 3))))
noncomputable def f_v_law_mixed : Sem1 := runF 2 5 b_v_law_mixed
end TG

set_option linter.all false
set_option maxRecDepth 100000
namespace TG
open PySem L2
inductive wE {α : Type} (E : Str → Option D → S → Prop) (Q : α → S → Prop) : Res α → Prop
  | ok {a : α} {s : S} (h : Q a s) : wE E Q (.ok a s)
  | exc {c : Str} {x : Option D} {s : S} (h : E c x s) : wE E Q (.exc c x s)
noncomputable def nE : Str → Option D → S → Prop := fun _ _ _ => False
structure WP where
  N : Rho → S → Prop
  C : Rho → S → Prop
  B : Rho → S → Prop
  R : RV → S → Prop
  E : Str → Option D → S → Prop
inductive wS (P : WP) : RS → Prop
  | nx {ρ : Rho} {s : S} (h : P.N ρ s) : wS P (.nx ρ s)
  | cnt {ρ : Rho} {s : S} (h : P.C ρ s) : wS P (.cnt ρ s)
  | brk {ρ : Rho} {s : S} (h : P.B ρ s) : wS P (.brk ρ s)
  | ret {v : RV} {s : S} (h : P.R v s) : wS P (.ret v s)
  | exc {c : Str} {x : Option D} {ρ : Rho} {s : S} (h : P.E c x s) : wS P (.exc c x ρ s)
noncomputable def kThen {α β γ : Type} (k : α → S → Res β) (k' : β → S → Res γ) : α → S → Res γ := fun a s => (k a s).bind k'
noncomputable def kThE {α β : Type} (k : α → S → Res β) (k' : β → Stm) : α → Stm := fun a ρ s => ebS (k a s) ρ k'
noncomputable def kThS {α : Type} (k : α → Stm) (k' : Stm) : α → Stm := fun a ρ s => (k a ρ s).bind k'
@[simp] theorem kThen_eq {α β γ : Type} (k : α → S → Res β) (k' : β → S → Res γ) (a : α) (s : S) : kThen k k' a s = (k a s).bind k' := (rfl)
@[simp] theorem kThE_eq {α β : Type} (k : α → S → Res β) (k' : β → Stm) (a : α) (ρ : Rho) (s : S) : kThE k k' a ρ s = ebS (k a s) ρ k' := (rfl)
@[simp] theorem kThS_eq {α : Type} (k : α → Stm) (k' : Stm) (a : α) (ρ : Rho) (s : S) : kThS k k' a ρ s = (k a ρ s).bind k' := (rfl)
@[simp] theorem bind_bind {α β γ : Type} (r : Res α) (k : α → S → Res β) (k' : β → S → Res γ) : (r.bind k).bind k' = r.bind (kThen k k') := by cases r <;> rfl
@[simp] theorem ebS_bind {α β : Type} (r : Res α) (k : α → S → Res β) (ρ : Rho) (k' : β → Stm) : ebS (r.bind k) ρ k' = ebS r ρ (kThE k k') := by cases r <;> rfl
@[simp] theorem sbind_ebS {α : Type} (r : Res α) (ρ : Rho) (k : α → Stm) (k' : Stm) : (ebS r ρ k).bind k' = ebS r ρ (kThS k k') := by cases r <;> rfl
noncomputable def runR : RS → Res RV
  | .nx _ s => .ok (.w (.d .non)) s
  | .ret v s => .ok v s
  | .exc c x _ s => .exc c x s
  | _ => .no
@[simp] theorem runR_nx (ρ : Rho) (s : S) : runR (.nx ρ s) = .ok (.w (.d .non)) s := (rfl)
@[simp] theorem runR_ret (v : RV) (s : S) : runR (.ret v s) = .ok v s := (rfl)
@[simp] theorem runR_exc (c : Str) (x : Option D) (ρ : Rho) (s : S) : runR (.exc c x ρ s) = .exc c x s := (rfl)
noncomputable def kRun {α : Type} (ρ : Rho) (k : α → Stm) : α → S → Res RV := fun a s => runR (k a ρ s)
@[simp] theorem kRun_eq {α : Type} (ρ : Rho) (k : α → Stm) (a : α) (s : S) : kRun ρ k a s = runR (k a ρ s) := (rfl)
@[simp] theorem runR_ebS {α : Type} (r : Res α) (ρ : Rho) (k : α → Stm) : runR (ebS r ρ k) = r.bind (kRun ρ k) := by cases r <;> rfl
theorem runF_eq (np nl : Nat) (b : Stm) (ws : List W) (s : S) : runF np nl b ws s = if ws.length = np then runR (b (ws.map .w ++ List.replicate (nl - np) .no) s) else .no := by
  unfold runF
  by_cases h : ws.length = np
  · rw [if_pos h, if_pos h]
    generalize b (ws.map .w ++ List.replicate (nl - np) .no) s = r
    cases r <;> rfl
  · rw [if_neg h, if_neg h]
section
variable {α β : Type} {E : Str → Option D → S → Prop} {Q : α → S → Prop} {P : WP}
@[simp] theorem wE_ok (a : α) (s : S) : wE E Q (.ok a s) = Q a s := propext ⟨fun h => (by cases h; assumption), .ok⟩
@[simp] theorem wS_nx (ρ : Rho) (s : S) : wS P (.nx ρ s) = P.N ρ s := propext ⟨fun h => (by cases h; assumption), .nx⟩
@[simp] theorem wS_ret (v : RV) (s : S) : wS P (.ret v s) = P.R v s := propext ⟨fun h => (by cases h; assumption), .ret⟩
noncomputable def fnP (E : Str → Option D → S → Prop) (Q : RV → S → Prop) : WP := ⟨fun _ s => Q (.w (.d .non)) s, fun _ _ => False, fun _ _ => False, Q, E⟩
@[simp] theorem fnP_R (Q : RV → S → Prop) (v : RV) (s : S) : (fnP E Q).R v s = Q v s := (rfl)
theorem wE_runR {Q : RV → S → Prop} (r : RS) (h : wS (fnP E Q) r) : wE E Q (runR r) := by
  cases h with
  | nx h => exact .ok h
  | ret h => exact .ok h
  | exc h => exact .exc h
  | cnt h => exact h.elim
  | brk h => exact h.elim
theorem wE_fn {Q : RV → S → Prop} {np nl : Nat} {b : Stm} {ws : List W} {s : S} (h : ws.length = np) (q : wS (fnP E Q) (b (ws.map .w ++ List.replicate (nl - np) .no) s)) : wE E Q (runF np nl b ws s) := by
  rw [runF_eq, if_pos h]; exact wE_runR _ q
theorem wE_imp {Q' : α → S → Prop} {r : Res α} (h : wE E Q r) (k : ∀ a s, Q a s → Q' a s) : wE E Q' r := by
  cases h with
  | ok h => exact .ok (k _ _ h)
  | exc h => exact .exc h
theorem wE_nE {r : Res α} {Q : α → S → Prop} (h : wE nE Q r) : ∃ a s, r = .ok a s ∧ Q a s := by
  cases h with
  | ok h => exact ⟨_, _, rfl, h⟩
  | exc h => exact h.elim
theorem wE_use {Q : β → S → Prop} {r : Res α} {Q1 : α → S → Prop} {K : α → S → Res β} (h : wE nE Q1 r) (k : ∀ a s, Q1 a s → wE E Q (K a s)) : wE E Q (r.bind K) := by
  obtain ⟨a, s, rfl, h'⟩ := wE_nE h
  exact k _ _ h'
theorem wS_use {r : Res α} {Q1 : α → S → Prop} {ρ : Rho} {K : α → Stm} (h : wE nE Q1 r) (k : ∀ a s, Q1 a s → wS P (K a ρ s)) : wS P (ebS r ρ K) := by
  obtain ⟨a, s, rfl, h'⟩ := wE_nE h
  exact k _ _ h'
theorem wS_mid {r : RS} {k : Stm} (M : Rho → S → Prop) (h : wS { P with N := M } r) (q : ∀ ρ s, M ρ s → wS P (k ρ s)) : wS P (r.bind k) := by
  cases h with
  | nx h => exact q _ _ h
  | ret h => exact .ret h
  | brk h => exact .brk h
  | cnt h => exact .cnt h
  | exc h => exact .exc h
noncomputable def Hold (p : Rho → S → Prop) : Rho → S → Prop := p
theorem of_wE {r : Res α} {a : α} (h : wE nE (fun v _ => v = a) r) : ∃ s', r = .ok a s' := by
  obtain ⟨v, s, rfl, rfl⟩ := wE_nE h
  exact ⟨_, rfl⟩
theorem eq_wE {r : Res α} {a : α} {s : S} (h : wE nE (fun v s' => v = a ∧ s' = s) r) : r = .ok a s := by
  obtain ⟨v, s, rfl, rfl, rfl⟩ := wE_nE h
  rfl
noncomputable def lpP (P : WP) (I : Rho → S → Prop) (O : Rho → S → Prop) : WP := { P with N := I, C := I, B := O }
@[simp] theorem lpP_N (I O : Rho → S → Prop) (ρ : Rho) (s : S) : (lpP P I O).N ρ s = I ρ s := (rfl)
theorem wS_forK {I O : Rho → S → Prop} {k : Stm} {r : RS} (h : wS (lpP P I O) r) (q : ∀ ρ s, I ρ s → wS P (k ρ s)) (hO : ∀ ρ s, O ρ s → P.N ρ s) : wS P (forK k r) := by
  cases h with
  | nx h => exact q _ _ h
  | cnt h => exact q _ _ h
  | brk h => exact .nx (hO _ _ h)
  | ret h => exact .ret h
  | exc h => exact .exc h
theorem forE_inv (I : Rho → S → Prop) {tg : Tgt} {x : Stm} : ∀ {z : List W}, (∀ w ∈ z, ∀ ρ s, I ρ s → ∃ ρ1, tg w ρ = some ρ1 ∧ wS (lpP P I P.N) (x ρ1 s)) → ∀ {ρ : Rho} {s : S}, I ρ s → (∀ ρ s, I ρ s → P.N ρ s) → wS P (forE tg x z ρ s)
  | [], _, ρ, s, h0, hk => .nx (hk _ _ h0)
  | w :: r, h, ρ, s, h0, hk => by
    obtain ⟨ρ1, e1, q⟩ := h w (.head _) ρ s h0
    rw [forE_cons, e1]
    exact wS_forK q (fun ρ s hI => forE_inv I (fun w hw => h w (.tail _ hw)) hI hk) (fun _ _ h => h)
theorem forE_at' {γ : Type} {g : γ → W} {l : List γ} (I : List γ → Rho → S → Prop) {tg : Tgt} {x : Stm} (h : ∀ pre a r, l = pre ++ a :: r → ∀ ρ s, I pre ρ s → ∃ ρ1, tg (g a) ρ = some ρ1 ∧ wS (lpP P (I (pre ++ [a])) P.N) (x ρ1 s)) (hk : ∀ ρ s, I l ρ s → P.N ρ s) :
    ∀ (z pre : List γ) (ρ : Rho) (s : S), l = pre ++ z → I pre ρ s → wS P (forE tg x (z.map g) ρ s)
  | [], pre, ρ, s, e, h0 => .nx (hk _ _ (by rw [e, List.append_nil]; exact h0))
  | w :: r, pre, ρ, s, e, h0 => by
    obtain ⟨ρ1, e1, q⟩ := h pre w r e ρ s h0
    rw [List.map_cons, forE_cons, e1]
    exact wS_forK q (fun ρ s hI => forE_at' I h hk r (pre ++ [w]) ρ s (by rw [e]; simp) hI) (fun _ _ h => h)
theorem forE_at {γ : Type} {g : γ → W} {l : List γ} (I : List γ → Rho → S → Prop) {tg : Tgt} {x : Stm} {ρ : Rho} {s : S} (h0 : I [] ρ s) (h : ∀ pre a r, l = pre ++ a :: r → ∀ ρ s, I pre ρ s → ∃ ρ1, tg (g a) ρ = some ρ1 ∧ wS (lpP P (I (pre ++ [a])) P.N) (x ρ1 s)) (hk : ∀ ρ s, I l ρ s → P.N ρ s) :
    wS P (forE tg x (l.map g) ρ s) := forE_at' I h hk l [] ρ s rfl h0
theorem lcM_gen {γ δ : Type} {g : γ → W} (enc : δ → D) (R : γ → δ → Prop) (J : S → Prop) {tg : Tgt} {tst : Cmp Bool} {e : Cmp W} {ρ : Rho} : ∀ {l : List γ} {s : S},
    (∀ a ∈ l, ∀ s, J s → ∃ ρ1, tg (g a) ρ = some ρ1 ∧ tst ρ1 s = .ok true s ∧ wE nE (fun w s' => ∃ b, w = .d (enc b) ∧ R a b ∧ J s') (e ρ1 s)) → J s →
    wE nE (fun ws s' => ∃ bs : List δ, ws = wD (bs.map enc) ∧ bs.length = l.length ∧ (∀ i (h : i < l.length) (h' : i < bs.length), R l[i] bs[i]) ∧ J s') (lcM tg tst e ρ (l.map g) s)
  | [], s, h, hJ => .ok ⟨[], rfl, rfl, fun i h => absurd h (by simp), hJ⟩
  | a :: r, s, h, hJ => by
    obtain ⟨ρ1, e1, e2, e3⟩ := h a (.head _) s hJ
    obtain ⟨w, s', e4, b, rfl, hR, hJ'⟩ := wE_nE e3
    obtain ⟨ws, s2, e5, bs, rfl, hl, hRs, hJ2⟩ := wE_nE (lcM_gen enc R J (l := r) (fun a ha => h a (.tail _ ha)) hJ')
    have e : lcM tg tst e ρ (List.map g (a :: r)) s = .ok (.d (enc b) :: wD (bs.map enc)) s2 := by
      rw [List.map_cons]
      simp only [lcM, e1, e2, e4, e5]
    rw [e]
    refine .ok ⟨b :: bs, rfl, by simp [hl], fun i h h' => ?_, hJ2⟩
    cases i with
    | zero => exact hR
    | succ i => exact hRs i (by simpa using h) (by simpa using h')
end
theorem lcM_fn {γ : Type} {g : γ → W} {tg : Tgt} {tst : Cmp Bool} {e : Cmp W} {ρ : Rho} {s : S} (p : γ → Bool) (v : γ → D) : ∀ {l : List γ},
    (∀ a ∈ l, ∃ ρ1, tg (g a) ρ = some ρ1 ∧ tst ρ1 s = .ok (p a) s ∧ (p a = true → e ρ1 s = .ok (.d (v a)) s)) → lcM tg tst e ρ (l.map g) s = .ok (wD ((l.filter p).map v)) s
  | [], _ => rfl
  | a :: r, h => by
    obtain ⟨ρ1, e1, e2, e3⟩ := h a (.head _)
    have ih := lcM_fn p v (l := r) (fun a ha => h a (.tail _ ha))
    cases hp : p a with
    | true => simp [lcM, e1, e2, e3 hp, hp, ih]
    | false => simp [lcM, e1, e2, hp, ih]
theorem lcM_fn' {γ : Type} {g : γ → W} {tg : Tgt} {e : Cmp W} {ρ : Rho} {s : S} (v : γ → D) {l : List γ}
    (h : ∀ a ∈ l, ∃ ρ1, tg (g a) ρ = some ρ1 ∧ e ρ1 s = .ok (.d (v a)) s) : lcM tg eYes e ρ (l.map g) s = .ok (wD (l.map v)) s := by
  rw [lcM_fn (fun _ => true) v]
  · rw [List.filter_eq_self.mpr (by simp)]
  · intro a ha
    obtain ⟨ρ1, e1, e2⟩ := h a ha
    exact ⟨ρ1, e1, rfl, fun _ => e2⟩
end TG

set_option linter.all false
set_option maxRecDepth 100000
namespace TG
open PySem L2
structure Bag where
  scr : List Int
  at_ : Nat
  big : Int
  salt : Int
  len : scr.length ≤ 63
  big0 : 0 ≤ big
  s0 : 0 ≤ salt
  s1 : salt < 2147483647
noncomputable def bagCell (l : List Int) (a big salt : Int) : Cell := .lst [.d (.lst (l.map .int)), .d (.int a), .d (.int big), .d (.int salt)]
noncomputable def Bag.cell (b : Bag) : Cell := bagCell b.scr b.at_ b.big b.salt
theorem mod_rng (x : Int) : 0 ≤ x.fmod 2147483647 ∧ x.fmod 2147483647 < 2147483647 := ⟨Int.fmod_nonneg_of_pos _ (by decide), Int.fmod_lt_of_pos _ (by decide)⟩
noncomputable def pullTail : Stm :=
  (sSeq (sIf (eTest (eBin fGt (eBin fIx (eVar 0) (eC (.int 2))) (eC (.int 0)))) (sSeq (sSet 3 (eBin fMod (eBin fIx (eVar 0) (eC (.int 2))) (eVar 1)))
  (sSeq (sSetI (eVar 0) (eC (.int 2)) (eBin fDiv (eBin fIx (eVar 0) (eC (.int 2))) (eVar 1)))
  (sRet (eVar 3)))) sNext)
  (sSeq (sSet 4 (eBin fIx (eVar 0) (eC (.int 3))))
  (sSeq (sSetI (eVar 0) (eC (.int 3)) (eBin fMod (eBin fAdd (eBin fAdd (eBin fMul (eVar 4) (eC (.int 39373))) (eBin fMul (eBin fDiv (eVar 4) (eC (.int 127773))) (eC (.int 31)))) (eC (.int 1013904223))) (eC (.int 2147483647))))
  (sRet (eBin fMod (eBin fAdd (eBin fDiv (eBin fIx (eVar 0) (eC (.int 3))) (eC (.int 97))) (eBin fMul (eBin fMod (eBin fIx (eVar 0) (eC (.int 3))) (eC (.int 8191))) (eC (.int 53)))) (eVar 1))))))
theorem pull_tail (l : List Int) (a : Nat) (big salt n : Int) (t : S) (hl : l.length ≤ 63) (hb : 0 ≤ big) (hs0 : 0 ≤ salt) (hs1 : salt < 2147483647)
    (h0 : 0 < n) (h1 : n < 1073741824) (x y z : EV) :
    ∃ (r : Int) (b' : Bag), 0 ≤ r ∧ r < n ∧ pullTail [.w (.r 0), .w (.d (.int n)), x, y, z] (bagCell l a big salt :: t) = .ret (.w (.d (.int r))) (b'.cell :: t) := by
  have k1 : ∀ x : Int, kMod x 2147483647 = true := fun x => kMod_ne (by decide)
  have k2 : ∀ x : Int, kMod x 8191 = true := fun x => kMod_ne (by decide)
  have k3 : ∀ x, kMod x n = true := fun x => kMod_ne (by omega)
  have hD : kDiv big n = true := kDiv_ok (by omega) (by omega)
  unfold pullTail
  by_cases hg : 0 < big
  · refine ⟨big.fmod n, ⟨l, a, big.fdiv n, salt, hl, Int.fdiv_nonneg hb (by omega), hs0, hs1⟩, Int.fmod_nonneg_of_pos _ h0, Int.fmod_lt_of_pos _ h0, ?_⟩
    simp [bagCell, Bag.cell, hg, k3, hD]
  · refine ⟨(((salt * 39373 + salt.fdiv 127773 * 31 + 1013904223).fmod 2147483647).fdiv 97 + ((salt * 39373 + salt.fdiv 127773 * 31 + 1013904223).fmod 2147483647).fmod 8191 * 53).fmod n,
      ⟨l, a, big, (salt * 39373 + salt.fdiv 127773 * 31 + 1013904223).fmod 2147483647, hl, hb, (mod_rng _).1, (mod_rng _).2⟩, Int.fmod_nonneg_of_pos _ h0, Int.fmod_lt_of_pos _ h0, ?_⟩
    simp [bagCell, Bag.cell, hg, k1, k2, k3, kMul, kDiv]
theorem pull_spec (b : Bag) (n : Int) (t : S) (h0 : 0 < n) (h1 : n < 1073741824) :
    ∃ (r : Int) (b' : Bag), 0 ≤ r ∧ r < n ∧ f_v_law_pull [.r 0, .d (.int n)] (b.cell :: t) = .ok (.w (.d (.int r))) (b'.cell :: t) := by
  have k1 : ∀ x : Int, kMod x 2147483647 = true := fun x => kMod_ne (by decide)
  have k2 : ∀ x : Int, kMod x 2147483629 = true := fun x => kMod_ne (by decide)
  obtain ⟨l, a, big, salt, hl, hb, hs0, hs1⟩ := b
  by_cases hc : big = 0 ∧ a < l.length
  · obtain ⟨rfl, ha⟩ := hc
    by_cases hx : (1000000000000000000 : Int) ≤ l[a]
    · obtain ⟨r, b', r0, r1, e⟩ := pull_tail l (a + 1) l[a] salt n t hl (by omega) hs0 hs1 h0 h1 (.w (.d (.int l[a]))) .no .no
      refine ⟨r, b', r0, r1, ?_⟩
      rw [show f_v_law_pull = runF 2 5 b_v_law_pull from rfl, show b_v_law_pull = sSeq _ pullTail from rfl]
      simp [runF, bagCell, Bag.cell, ha, hx, kPow, wD] at e ⊢
      rw [e]
    · obtain ⟨r, b', r0, r1, e⟩ := pull_tail l (a + 1) 0 ((salt * 69621 + l[a].fmod 2147483629 * 48271 + 5).fmod 2147483647) n t hl (by omega) (mod_rng _).1 (mod_rng _).2 h0 h1 (.w (.d (.int l[a]))) .no .no
      refine ⟨r, b', r0, r1, ?_⟩
      rw [show f_v_law_pull = runF 2 5 b_v_law_pull from rfl, show b_v_law_pull = sSeq _ pullTail from rfl]
      simp [runF, bagCell, Bag.cell, ha, hx, kPow, wD, kMul, k1, k2] at e ⊢
      rw [e]
  · obtain ⟨r, b', r0, r1, e⟩ := pull_tail l a big salt n t hl hb hs0 hs1 h0 h1 .no .no .no
    refine ⟨r, b', r0, r1, ?_⟩
    rw [show f_v_law_pull = runF 2 5 b_v_law_pull from rfl, show b_v_law_pull = sSeq _ pullTail from rfl]
    by_cases h2 : big = 0
    · subst h2
      have ha : ¬ a < l.length := fun h => hc ⟨rfl, h⟩
      simp [runF, bagCell, Bag.cell, ha] at e ⊢
      rw [e]
    · simp [runF, bagCell, Bag.cell, h2] at e ⊢
      rw [e]
theorem lcM_draw (tg : Tgt) (tst : Cmp Bool) (e : Cmp W) (ρ : Rho) (P : W → Prop) : ∀ (z : List W),
    (∀ w ∈ z, ∃ ρ1, tg w ρ = some ρ1 ∧ (∀ s, tst ρ1 s = .ok true s) ∧ ∀ (b : Bag) t, ∃ v, ∃ b' : Bag, P v ∧ e ρ1 (b.cell :: t) = .ok v (b'.cell :: t)) →
    ∀ (b : Bag) t, ∃ vs, ∃ b' : Bag, vs.length = z.length ∧ (∀ v ∈ vs, P v) ∧ lcM tg tst e ρ z (b.cell :: t) = .ok vs (b'.cell :: t)
  | [], _, b, t => ⟨[], b, rfl, by simp, rfl⟩
  | w :: r, h, b, t => by
    obtain ⟨ρ1, e1, e2, e3⟩ := h w (.head _)
    obtain ⟨v, b1, hv, e4⟩ := e3 b t
    obtain ⟨vs, b2, hl, hvs, e5⟩ := lcM_draw tg tst e ρ P r (fun w hw => h w (.tail _ hw)) b1 t
    refine ⟨v :: vs, b2, by simp [hl], ?_, ?_⟩
    · intro x hx
      cases hx with
      | head => exact hv
      | tail _ hx => exact hvs x hx
    · simp [lcM, e1, e2, e4, e5]
theorem bag_spec (ns : List Int) (h : ns.length ≤ 63) (s : S) : ∃ b : Bag, ∃ z, Cell.lst z = b.cell ∧ f_v_law_bag [.d (.scr (ns.map .int))] s = .ok (.own z) s := by
  obtain ⟨ρ2, s2, e, hs, x2, salt, s0, s1, hρ⟩ := forE_pre (tgName 2) (sSet 1 (eBin fMod (eBin fAdd (eBin fAdd (eBin fMul (eVar 1) (eC (.int 48271))) (eBin fMod (eVar 2) (eC (.int 2147483629)))) (eC (.int 11))) (eC (.int 2147483647))))
    (wD (ns.map .int)) (fun pre ρ s' => s' = s ∧ ∃ x2, ∃ salt : Int, 0 ≤ salt ∧ salt < 2147483647 ∧ ρ = [.w (.d (.scr (ns.map .int))), .w (.d (.int salt)), x2]) (by
      intro pre w r hz ρ s' ⟨hs, x2, salt, s0, s1, hρ⟩
      subst hs hρ
      have hw : w ∈ wD (ns.map .int) := by rw [hz]; simp
      unfold wD at hw
      obtain ⟨d, hd, rfl⟩ := List.mem_map.mp hw
      obtain ⟨i, hi, rfl⟩ := List.mem_map.mp hd
      refine ⟨_, rfl, ?_⟩
      refine ⟨_, _, by simp [kMul, kMod]; exact ⟨rfl, rfl⟩, rfl, _, _, (mod_rng _).1, (mod_rng _).2, rfl⟩) [.w (.d (.scr (ns.map .int))), .w (.d (.int 977)), .no] s ⟨rfl, _, 977, by decide, by decide, rfl⟩
  subst hs hρ
  have hc : cut (ns.map D.int) none (some 63) = ns.map D.int := cut_all _ (by simpa using h)
  refine ⟨⟨ns, 0, 0, salt, h, by decide, s0, s1⟩, [.d (.lst (ns.map .int)), .d (.int 0), .d (.int 0), .d (.int salt)], rfl, ?_⟩
  simp [f_v_law_bag, runF, b_v_law_bag, hc, e]
end TG

set_option linter.all false
set_option maxRecDepth 100000
namespace TG
open PySem L2
theorem far_spec (b : Bag) (t : S) : ∃ (x : Int) (b' : Bag), x.natAbs < 200000000000000000000 ∧ f_v_law_far [.r 0] (b.cell :: t) = .ok (.w (.d (.int x))) (b'.cell :: t) := by
  obtain ⟨x1, b1, p1, q1, h1⟩ := pull_spec b 1000000000 t (by decide) (by decide)
  obtain ⟨x2, b2, p2, q2, h2⟩ := pull_spec b1 2 t (by decide) (by decide)
  obtain ⟨x3, b3, p3, q3, h3⟩ := pull_spec b2 2 t (by decide) (by decide)
  by_cases c2 : x2 = 0 <;> by_cases c3 : x3 = 0
  all_goals
    refine ⟨?_, b3, ?g, ?h⟩
    case h => simp [f_v_law_far, runF, b_v_law_far, kPow, h1, h2, h3, c2, c3]; exact rfl
    case g => omega
end TG

set_option linter.all false
set_option maxRecDepth 100000
namespace TG
open PySem L2
theorem height_spec (b : Bag) (t : S) : ∃ (x : Int) (b' : Bag), f_v_law_height [.r 0] (b.cell :: t) = .ok (.w (.d (.int x))) (b'.cell :: t) := by
  obtain ⟨x1, b1, p1, q1, h1⟩ := pull_spec b 4 t (by decide) (by decide)
  obtain ⟨x2, b2, p2, q2, h2⟩ := pull_spec b1 12 t (by decide) (by decide)
  obtain ⟨x3, b3, p3, q3, h3⟩ := pull_spec b2 200 t (by decide) (by decide)
  obtain ⟨x4, b4, q4, h4⟩ := far_spec b3 t
  obtain ⟨x5, b5, p5, q5, h5⟩ := pull_spec b4 9 t (by decide) (by decide)
  have hk : ∃ k : Nat, k < 4 ∧ (x5.fdiv 2).fmod 4 = k := ⟨((x5.fdiv 2).fmod 4).toNat, by
    have := Int.fmod_nonneg_of_pos (x5.fdiv 2) (show (0:Int) < 4 by decide)
    have := Int.fmod_lt_of_pos (x5.fdiv 2) (show (0:Int) < 4 by decide)
    omega, by
    have := Int.fmod_nonneg_of_pos (x5.fdiv 2) (show (0:Int) < 4 by decide)
    omega⟩
  obtain ⟨k, k4, hk⟩ := hk
  have hk0 : k = 0 ∨ k = 1 ∨ k = 2 ∨ k = 3 := by omega
  rcases hk0 with rfl | rfl | rfl | rfl <;> (refine ⟨?_, b5, ?h⟩; case h => simp [f_v_law_height, runF, b_v_law_height, h1, h2, h3, h4, h5, hk, kMod, kDiv, frzL_eq]; exact rfl)
end TG

set_option linter.all false
set_option maxRecDepth 100000
namespace TG
open PySem L2
noncomputable def rimTail : Stm := (sSeq (sIf (eTest (eBin (fEq false) (eVar 3) (eC (.int 0)))) (sRet (eArgs (c1 fTuple) (eCons (eFrz (eLc [5] (eRng1 (eCons (eVar 2) eNil)) (tgName 5) eYes (eCall f_v_law_height (eCons (eVar 0) eNil)))) eNil))) sNext)
  (sSeq (sIf (eTest (eBin (fEq false) (eVar 3) (eC (.int 1)))) (sRet (eArgs (c1 fTuple) (eCons (eFrz (eLc [5] (eRng1 (eCons (eVar 2) eNil)) (tgName 5) eYes (eC (.int 5)))) eNil))) sNext)
  (sRet (eArgs (c1 fTuple) (eCons (eFrz (eLc [5] (eRng1 (eCons (eVar 2) eNil)) (tgName 5) eYes (eCall f_v_law_pull (eCons (eVar 0) (eCons (eVar 4) eNil))))) eNil)))))
theorem rim_tail (b : Bag) (t : S) (n kind wide : Int) (h0 : 3 ≤ n) (h1 : n ≤ 48) (hw0 : 0 < wide) (hw1 : wide < 100) (most : W) (x : EV) :
    ∃ (l : List Int) (b' : Bag), l.length = n.toNat ∧ rimTail [.w (.r 0), .w most, .w (.d (.int n)), .w (.d (.int kind)), .w (.d (.int wide)), x] (b.cell :: t) = .ret (.w (.d (.tup (l.map D.int)))) (b'.cell :: t) := by
  have hr : n < 1000000000 ∧ -1000000000 < n := by omega
  have hL : n.toNat ≤ 16777216 := by omega
  unfold rimTail
  by_cases k0 : kind = 0
  · obtain ⟨vs, b1, e1, e2, e3⟩ := lcM_draw (tgName 5) eYes (eCall f_v_law_height (eCons (eVar 0) eNil)) (wipeR [.w (.r 0), .w most, .w (.d (.int n)), .w (.d (.int kind)), .w (.d (.int wide)), x] [5]) (fun v => ∃ i, v = .d (.int i) ∧ True) ((List.range n.toNat).map fun i : Nat => W.d (.int (i : Int))) (by
      intro w hw
      refine ⟨_, rfl, fun s => rfl, ?_⟩
      intro b t
      obtain ⟨x, b', e⟩ := height_spec b t
      exact ⟨_, b', ⟨x, rfl, trivial⟩, by simp [wipeR, e]⟩) b t
    obtain ⟨l, rfl, hl, _⟩ := ints_of _ vs e2
    refine ⟨l, b1, by simp [hl, e1], ?_⟩
    simp [hr, k0, hL] at e3 ⊢
    simp [e3]
  · by_cases k1 : kind = 1
    · subst k1
      have e3 := lcM_map (tgName 5) eYes (eC (.int 5)) (wipeR [.w (.r 0), .w most, .w (.d (.int n)), .w (.d (.int 1)), .w (.d (.int wide)), x] [5]) (fun _ => .d (.int 5)) (b.cell :: t) ((List.range n.toNat).map fun i : Nat => W.d (.int (i : Int))) (fun w hw => ⟨_, rfl, rfl, rfl⟩)
      refine ⟨List.replicate n.toNat 5, b, by simp, ?_⟩
      have e4 : List.map (fun x => W.d (D.int 5)) ((List.range n.toNat).map fun i : Nat => W.d (.int (i : Int))) = wD ((List.replicate n.toNat 5).map D.int) := by
        simp [wD, List.eq_replicate_iff]
      rw [e4] at e3
      simp [hr, hL, e3]
    · obtain ⟨vs, b1, e1, e2, e3⟩ := lcM_draw (tgName 5) eYes (eCall f_v_law_pull (eCons (eVar 0) (eCons (eVar 4) eNil))) (wipeR [.w (.r 0), .w most, .w (.d (.int n)), .w (.d (.int kind)), .w (.d (.int wide)), x] [5]) (fun v => ∃ i, v = .d (.int i) ∧ True) ((List.range n.toNat).map fun i : Nat => W.d (.int (i : Int))) (by
        intro w hw
        refine ⟨_, rfl, fun s => rfl, ?_⟩
        intro b t
        obtain ⟨x, b', _, _, e⟩ := pull_spec b wide t hw0 (by omega)
        exact ⟨_, b', ⟨x, rfl, trivial⟩, by simp [wipeR, e]⟩) b t
      obtain ⟨l, rfl, hl, _⟩ := ints_of _ vs e2
      refine ⟨l, b1, by simp [hl, e1], ?_⟩
      simp [hr, k0, k1, hL, e3]
theorem rim_spec (b : Bag) (t : S) (most : Int) (h0 : 3 ≤ most) (h1 : most ≤ 48) :
    ∃ (l : List Int) (b' : Bag), 3 ≤ l.length ∧ (l.length : Int) ≤ most ∧ f_v_law_rim [.r 0, .d (.int most)] (b.cell :: t) = .ok (.w (.d (.tup (l.map D.int)))) (b'.cell :: t) := by
  obtain ⟨x1, b1, p1, q1, e1⟩ := pull_spec b (most - 2) t (by omega) (by omega)
  obtain ⟨x2, b2, p2, q2, e2⟩ := pull_spec b1 10 t (by omega) (by omega)
  obtain ⟨x3, b3, p3, q3, e3⟩ := pull_spec b2 5 t (by omega) (by omega)
  obtain ⟨x4, b4, p4, q4, e4⟩ := pull_spec b3 4 t (by omega) (by omega)
  obtain ⟨w, ⟨w0, w1⟩, ew⟩ := wide_spec x4 p4 q4 4 9 2 30 (fun w => 0 < w ∧ w < 100) (by decide) (by decide) (by decide) (by decide)
  have hb : f_v_law_rim = runF 2 6 b_v_law_rim := rfl
  by_cases c : x2 = 0
  · obtain ⟨l, b5, hl, e5⟩ := rim_tail b4 t most x3 w h0 h1 w0 w1 (.d (.int most)) .no
    refine ⟨l, b5, by omega, by omega, ?_⟩
    rw [hb, show b_v_law_rim = sSeq _ (sSeq _ (sSeq _ (sSeq _ rimTail))) from rfl]
    simp [runF, e1, e2, e3, e4, c] at ew ⊢
    simp [ew, e5]
  · obtain ⟨l, b5, hl, e5⟩ := rim_tail b4 t (3 + x1) x3 w (by omega) (by omega) w0 w1 (.d (.int most)) .no
    refine ⟨l, b5, by omega, by omega, ?_⟩
    rw [hb, show b_v_law_rim = sSeq _ (sSeq _ (sSeq _ (sSeq _ rimTail))) from rfl]
    simp [runF, e1, e2, e3, e4, c] at ew ⊢
    simp [ew, e5]
end TG

set_option linter.all false
set_option maxRecDepth 100000
namespace TG
open PySem L2
theorem angle_spec (b : Bag) (t : S) : ∃ (x : Int) (b' : Bag), x.natAbs < 200000000000000000000 ∧ f_v_law_angle [.r 0] (b.cell :: t) = .ok (.w (.d (.int x))) (b'.cell :: t) := by
  obtain ⟨x1, b1, p1, q1, h1⟩ := pull_spec b 60 t (by decide) (by decide)
  obtain ⟨x2, b2, q2, h2⟩ := far_spec b1 t
  obtain ⟨x3, b3, p3, q3, h3⟩ := pull_spec b2 5 t (by decide) (by decide)
  by_cases c : x3 = 0
  · exact ⟨x2, b3, q2, by simp [f_v_law_angle, runF, b_v_law_angle, h1, h2, h3, c]⟩
  · exact ⟨x1 - 20, b3, by omega, by simp [f_v_law_angle, runF, b_v_law_angle, h1, h2, h3, c]⟩
end TG

set_option linter.all false
set_option maxRecDepth 100000
namespace TG
open PySem L2
theorem drops_spec (b : Bag) (t : S) : ∃ (l : List Int) (b' : Bag), 1 ≤ l.length ∧ l.length ≤ 9 ∧ (∀ x ∈ l, 0 ≤ x ∧ x ≤ 99) ∧ f_v_law_drops [.r 0] (b.cell :: t) = .ok (.w (.d (.tup (l.map D.int)))) (b'.cell :: t) := by
  obtain ⟨x1, b1, p1, q1, e1⟩ := pull_spec b 9 t (by omega) (by omega)
  obtain ⟨x2, b2, p2, q2, e2⟩ := pull_spec b1 5 t (by omega) (by omega)
  obtain ⟨x3, b3, p3, q3, e3⟩ := pull_spec b2 4 t (by omega) (by omega)
  obtain ⟨w, ⟨w0, w1⟩, ew⟩ := wide_spec x3 p3 q3 1 3 9 100 (fun w => 0 < w ∧ w ≤ 100) (by decide) (by decide) (by decide) (by decide)
  have hn : ∃ n : Int, 1 ≤ n ∧ n ≤ 9 ∧ atI (wD [.int 1, .int 3, .int 2, .int (1 + x1), .int 5]) x2 = some (.d (.int n)) := by
    rcases fifth x2 p2 q2 with rfl | rfl | rfl | rfl | rfl
    · exact ⟨1, by decide, by decide, rfl⟩
    · exact ⟨3, by decide, by decide, rfl⟩
    · exact ⟨2, by decide, by decide, rfl⟩
    · exact ⟨1 + x1, by omega, by omega, rfl⟩
    · exact ⟨5, by decide, by decide, rfl⟩
  obtain ⟨n, n0, n1, en⟩ := hn
  obtain ⟨vs, b4, f1, f2, f3⟩ := lcM_draw (tgName 3) eYes (eCall f_v_law_pull (eCons (eVar 0) (eCons (eVar 2) eNil))) (wipeR [.w (.r 0), .w (.d (.int n)), .w (.d (.int w)), .no] [3]) (fun v => ∃ i, v = .d (.int i) ∧ 0 ≤ i ∧ i ≤ 99) ((List.range n.toNat).map fun i : Nat => W.d (.int (i : Int))) (by
      intro w' hw
      refine ⟨_, rfl, fun s => rfl, ?_⟩
      intro b t
      obtain ⟨x, b', _, _, e⟩ := pull_spec b w t w0 (by omega)
      exact ⟨_, b', ⟨x, rfl, by omega, by omega⟩, by simp [wipeR, e]⟩) b3 t
  obtain ⟨l, rfl, hl, hl2⟩ := ints_of _ vs f2
  simp at f1
  refine ⟨l, b4, by omega, by omega, hl2, ?_⟩
  have hr : n < 1000000000 ∧ -1000000000 < n := by omega
  have hL : n.toNat ≤ 16777216 := by omega
  simp [f_v_law_drops, runF, b_v_law_drops, e1, e2, e3] at en ew ⊢
  simp [en, ew, hr, hL, f3, e3]
theorem pair_spec (b : Bag) (t : S) : ∃ (l : List Int) (m : Int) (b' : Bag), 1 ≤ l.length ∧ l.length ≤ 9 ∧ (∀ x ∈ l, 0 ≤ x ∧ x ≤ 99) ∧ 0 ≤ m ∧ m < l.length ∧ f_v_law_pair [.r 0] (b.cell :: t) = .ok (.w (.d (.tup [.tup (l.map D.int), .int m]))) (b'.cell :: t) := by
  obtain ⟨l, b1, h1, h2, h3, e1⟩ := drops_spec b t
  obtain ⟨m, b2, p2, q2, e2⟩ := pull_spec b1 l.length t (by omega) (by omega)
  refine ⟨l, m, b2, h1, h2, h3, p2, q2, ?_⟩
  simp [f_v_law_pair, runF, b_v_law_pair, e1, e2]
end TG

set_option linter.all false
set_option maxRecDepth 100000
namespace TG
open PySem L2
@[simp] theorem sRaise0_eq (c : Str) (ρ : Rho) (s : S) : sRaise0 c ρ s = .exc c none ρ s := (rfl)
@[simp] theorem fIsN_eq (neg : Bool) (x : W) (s : S) : fIsN neg x s = .ok (.d (.bl (match x with | .d .non => !neg | _ => neg))) s := (rfl)
end TG

set_option linter.all false
set_option maxRecDepth 100000
namespace TG
open PySem L2
theorem wE_of {α : Type} {E : Str → Option D → S → Prop} {Q : α → S → Prop} {r : Res α} {a : α} {s : S} (e : r = .ok a s) (h : Q a s) : wE E Q r := by rw [e]; exact .ok h
noncomputable def BS (t s : S) : Prop := ∃ b : Bag, s = b.cell :: t
theorem bs {b : Bag} {t : S} : BS t (b.cell :: t) := ⟨b, rfl⟩
noncomputable abbrev intsD (l : List Int) : W := .d (.tup (l.map .int))
theorem pull_wp (b : Bag) (n : Int) (t : S) (h0 : 0 < n) (h1 : n < 1073741824) : wE nE (fun v s => ∃ x b', v = .w (.d (.int x)) ∧ s = Bag.cell b' :: t ∧ 0 ≤ x ∧ x < n) (f_v_law_pull [.r 0, .d (.int n)] (b.cell :: t)) := by
  obtain ⟨x, b', p, q, e⟩ := pull_spec b n t h0 h1
  exact wE_of e ⟨x, b', rfl, rfl, p, q⟩
theorem rim_wp (b : Bag) (t : S) (most : Int) (h0 : 3 ≤ most) (h1 : most ≤ 48) : wE nE (fun v s => ∃ (l : List Int) (b' : Bag), v = .w (intsD l) ∧ s = b'.cell :: t ∧ 3 ≤ l.length ∧ l.length ≤ 48 ∧ (l.length : Int) ≤ most) (f_v_law_rim [.r 0, .d (.int most)] (b.cell :: t)) := by
  obtain ⟨l, b', p, q, e⟩ := rim_spec b t most h0 h1
  exact wE_of e ⟨l, b', rfl, rfl, p, by omega, q⟩
theorem angle_wp (b : Bag) (t : S) : wE nE (fun v s => ∃ (x : Int) (b' : Bag), v = .w (.d (.int x)) ∧ s = b'.cell :: t) (f_v_law_angle [.r 0] (b.cell :: t)) := by
  obtain ⟨x, b', _, e⟩ := angle_spec b t
  exact wE_of e ⟨x, b', rfl, rfl⟩
structure GoodF (l : List Int) (m : Int) : Prop where
  l1 : 1 ≤ l.length
  l9 : l.length ≤ 9
  dr : ∀ x ∈ l, 0 ≤ x ∧ x ≤ 99
  m0 : 0 ≤ m
  m1 : m < l.length
theorem pair_wp (b : Bag) (t : S) : wE nE (fun v s => ∃ (l : List Int) (m : Int) (b' : Bag), v = .w (.d (.tup [.tup (l.map .int), .int m])) ∧ s = b'.cell :: t ∧ GoodF l m) (f_v_law_pair [.r 0] (b.cell :: t)) := by
  obtain ⟨l, m, b', h1, h2, h3, h4, h5, e⟩ := pair_spec b t
  exact wE_of e ⟨l, m, b', rfl, rfl, ⟨h1, h2, h3, h4, h5⟩⟩
theorem bag_wp (ns : List Int) (h : ns.length ≤ 63) (s : S) : wE nE (fun v s' => ∃ (b : Bag) (z : List W), v = .own z ∧ Cell.lst z = b.cell ∧ s' = s) (f_v_law_bag [.d (.scr (ns.map .int))] s) := by
  obtain ⟨b, z, hz, e⟩ := bag_spec ns h s
  exact wE_of e ⟨b, z, rfl, hz, rfl⟩
theorem three (x : Int) (h0 : 0 ≤ x) (h1 : x < 3) (p q r : Int) : ∃ y, (y = p ∨ y = q ∨ y = r) ∧ atI (wD [.int p, .int q, .int r]) x = some (.d (.int y)) := by
  rcases third x h0 h1 with rfl | rfl | rfl
  · exact ⟨p, .inl rfl, rfl⟩
  · exact ⟨q, .inr (.inl rfl), rfl⟩
  · exact ⟨r, .inr (.inr rfl), rfl⟩
end TG

set_option linter.all false
set_option maxRecDepth 100000
namespace TG
open PySem L2
noncomputable def footD (l : List Int) (m : Int) : D := .ins "Foot" [("drops", .tup (l.map .int)), ("middle", .int m)]
@[simp] theorem fld_drops (l : List Int) (m : Int) (s : S) : fldOf "Foot" "drops" (.d (footD l m)) s = some (.d (.tup (l.map .int))) := rfl
@[simp] theorem fld_middle (l : List Int) (m : Int) (s : S) : fldOf "Foot" "middle" (.d (footD l m)) s = some (.d (.int m)) := rfl
noncomputable def tchD (n : Int) (l : List Int) (m a : Int) : List D := l.mapIdx fun i d => .tup [.int ((a + (i : Nat) - m).fmod n), .int d]
noncomputable def tchW (n m a : Int) : W → W
  | .d (.tup [.int i, .int d]) => .d (.tup [.int ((a + i - m).fmod n), .int d])
  | w => w
theorem enum_tch (n m a : Int) (l : List Int) : (enumD (l.map .int)).map (tchW n m a) = wD (tchD n l m a) := by
  unfold enumD tchD wD
  apply List.ext_getElem?
  intro i
  simp [List.getElem?_mapIdx]
  cases l[i]? <;> rfl
theorem enum_mem {w : W} {l : List Int} (hw : w ∈ enumD (l.map .int)) : ∃ (i : Nat) (d : Int), w = .d (.tup [.int i, .int d]) ∧ l[i]? = some d := by
  obtain ⟨i, hi⟩ := List.mem_iff_getElem?.mp hw
  unfold enumD at hi
  simp [List.getElem?_mapIdx] at hi
  obtain ⟨d, h1, h2⟩ := hi
  exact ⟨i, d, h2.symm, h1⟩
theorem touched_eq (n : Int) (l : List Int) (m a : Int) (s : S) (hn : n ≠ 0) (hl : l.length ≤ 1000) : f_touched [.d (.int n), .d (footD l m), .d (.int a)] s = .ok (.own (wD (tchD n l m a))) s := by
  have kn : ∀ x, kMod x n = true := fun x => kMod_ne hn
  obtain ⟨ρ2, s2, e, ⟨hs, x4, x5, hρ⟩⟩ := forE_pre (tgTup 2 (tgCons (tgName 4) (tgCons (tgName 5) tgNil))) (sApp 3 (eTup (eCons (eBin fMod (eBin fSub (eBin fAdd (eVar 2) (eVar 4)) (eFld "Foot" "middle" (eVar 1))) (eVar 0)) (eCons (eVar 5) eNil))))
    (enumD (l.map .int)) (fun pre ρ s' => s' = s ∧ ∃ x4 x5, ρ = [.w (.d (.int n)), .w (.d (footD l m)), .w (.d (.int a)), .own (pre.map (tchW n m a)), x4, x5]) (by
      intro pre w r hz ρ s' ⟨hs, x4, x5, hρ⟩
      subst hs hρ
      obtain ⟨i, d, rfl, _⟩ := enum_mem (show w ∈ enumD (l.map .int) by rw [hz]; simp)
      have hc : pre.length < 16777216 := by
        have := congrArg List.length hz
        simp [enumD] at this
        omega
      refine ⟨_, by simp; rfl, ?_⟩
      refine ⟨_, _, by simp [kn, hc]; rfl, rfl, ?_⟩
      simp [tchW]) [.w (.d (.int n)), .w (.d (footD l m)), .w (.d (.int a)), .own [], .no, .no] s ⟨rfl, _, _, rfl⟩
  subst hs hρ
  rw [enum_tch] at e
  simp [f_touched, runF, b_touched, e] at e ⊢

noncomputable def maxI (l : List Int) : Int := l.max?.getD 0
theorem maxI_some {l : List Int} (h : l ≠ []) : l.max? = some (maxI l) := by
  cases l with
  | nil => exact absurd rfl h
  | cons a r => rfl
noncomputable def cellV (rim : List Int) (c : Int) : Int := rim[(c.fmod rim.length).toNat]?.getD 0
noncomputable def liftV (rim l : List Int) (m a : Int) : Int := maxI (l.mapIdx fun i d => cellV rim (a + (i : Nat) - m) - d)
theorem item_tup (rim : List Int) (c : Int) (h : 0 < rim.length) (h0 : 0 ≤ c) (h1 : c < rim.length) : atI (wD (rim.map .int)) c = some (.d (.int (cellV rim c))) := by
  rw [atI_nat _ _ h0 (by simpa using h1)]
  have hc : c.fmod rim.length = c := by rw [Int.fmod_eq_emod_of_nonneg _ (by omega)]; exact Int.emod_eq_of_lt h0 h1
  have hl : c.toNat < rim.length := by omega
  simp [wD, cellV, hc, hl]
theorem tch_lift (rim l : List Int) (m a : Int) (h : 0 < rim.length) (g : W → W) (hg : ∀ c d : Int, 0 ≤ c → c < rim.length → g (.d (.tup [.int c, .int d])) = .d (.int (cellV rim c - d))) :
    (wD (tchD rim.length l m a)).map g = wD ((l.mapIdx fun i d => cellV rim (a + (i : Nat) - m) - d).map .int) := by
  unfold tchD wD
  apply List.ext_getElem?
  intro i
  simp [List.getElem?_mapIdx]
  cases l[i]? with
  | none => rfl
  | some d =>
    have hr := fmod_rng (a + i - m) rim.length (by omega)
    simp [hg _ _ hr.1 hr.2, cellV, fmod_fmod _ _ (show (0 : Int) < rim.length by omega)]
theorem tch_mem {n : Int} {l : List Int} {m a : Int} {w : W} (hn : 0 < n) (h : w ∈ wD (tchD n l m a)) : ∃ c d, 0 ≤ c ∧ c < n ∧ w = .d (.tup [.int c, .int d]) := by
  obtain ⟨i, hi⟩ := List.mem_iff_getElem?.mp h
  unfold tchD wD at hi
  simp [List.getElem?_mapIdx] at hi
  obtain ⟨d, h1, h2⟩ := hi
  exact ⟨_, d, (fmod_rng _ n hn).1, (fmod_rng _ n hn).2, h2.symm⟩
noncomputable def liftG (rim : List Int) : W → W
  | .d (.tup [.int c, .int d]) => .d (.int (cellV rim c - d))
  | w => w
theorem liftOn_eq (rim l : List Int) (m a : Int) (s : S) (h : 0 < rim.length) (hl : 1 ≤ l.length) (hl' : l.length ≤ 1000) :
    f_lift_on [.d (.tup (rim.map .int)), .d (footD l m), .d (.int a)] s = .ok (.w (.d (.int (liftV rim l m a)))) s := by
  have hT := touched_eq rim.length l m a s (by omega) hl'
  have e3 := lcM_map (tgTup 2 (tgCons (tgName 3) (tgCons (tgName 4) tgNil))) eYes (eBin fSub (eBin fIx (eVar 0) (eVar 3)) (eVar 4)) (wipeR [.w (.d (.tup (rim.map .int))), .w (.d (footD l m)), .w (.d (.int a)), .no, .no] [3, 4]) (liftG rim) s (wD (tchD rim.length l m a)) (by
    intro w hw
    obtain ⟨c, d, h0, h1, rfl⟩ := tch_mem (by omega) hw
    refine ⟨_, by simp [wipeR]; rfl, rfl, ?_⟩
    simp [item_tup rim c h h0 h1, liftG])
  rw [tch_lift rim l m a h _ (fun c d _ _ => rfl)] at e3
  have hlen : (tchD rim.length l m a).length ≤ 16777216 := by simp [tchD]; omega
  have hne : (l.mapIdx fun i d => cellV rim (a + (i : Nat) - m) - d) ≠ [] := by
    intro e
    have := congrArg List.length e
    simp at this
    subst this
    simp at hl
  simp only [f_lift_on, runF, b_lift_on]
  simp [hT, hlen, e3, maxI_some hne]
  rfl
theorem lookRim_eq (rim : List Int) (s : S) (h : 3 ≤ rim.length) (h' : rim.length ≤ 48) : f_look_rim [.d (.tup (rim.map .int))] s = .ok (.w (.d .non)) s := by
  have h1 : (3 : Int) ≤ rim.length := by omega
  have h2 : (rim.length : Int) ≤ 48 := by omega
  simp [f_look_rim, runF, b_look_rim, f_is_rim, b_is_rim, h1, h2]
theorem goodDrops_eq (l : List Int) (s : S) (h : 1 ≤ l.length) (h' : l.length ≤ 9) (hl : ∀ x ∈ l, 0 ≤ x ∧ x ≤ 99) : f_good_drops [.d (.tup (l.map .int))] s = .ok (.w (.d (.bl true))) s := by
  have e3 := lcM_map (tgName 1) eYes (eChain fLe fLe (eC (.int 0)) (eVar 1) (eC (.int 99))) (wipeR [.w (.d (.tup (l.map .int))), .no] [1]) (fun _ => .d (.bl true)) s (wD (l.map .int)) (by
    intro w hw
    unfold wD at hw
    obtain ⟨d, hd, rfl⟩ := List.mem_map.mp hw
    obtain ⟨i, hi, rfl⟩ := List.mem_map.mp hd
    refine ⟨_, rfl, rfl, ?_⟩
    simp [wipeR, (hl i hi).1, (hl i hi).2])
  have e4 : (wD (l.map .int)).map (fun _ => W.d (.bl true)) = wD ((List.replicate l.length true).map .bl) := by
    simp [wD, List.eq_replicate_iff]
  rw [e4] at e3
  have hL : l.length ≤ 16777216 := by omega
  have h1 : (1 : Int) ≤ l.length := by omega
  have h2 : (l.length : Int) ≤ 9 := by omega
  have h3 := fAll_bls (List.replicate l.length true) s
  simp at h3 e3
  simp [f_good_drops, runF, b_good_drops, h1, h2, hL, e3, h3]
theorem goodFoot_eq (l : List Int) (m : Int) (s : S) (h : 1 ≤ l.length) (h' : l.length ≤ 9) (hl : ∀ x ∈ l, 0 ≤ x ∧ x ≤ 99) (h0 : 0 ≤ m) (h1 : m < l.length) : f_good_foot [.d (.tup (l.map .int)), .d (.int m)] s = .ok (.w (.d (.bl true))) s := by
  simp [f_good_foot, runF, b_good_foot, goodDrops_eq l s h h' hl, h0, h1]
theorem footInit_eq (l : List Int) (m : Int) (s : S) (h : 1 ≤ l.length) (h' : l.length ≤ 9) (hl : ∀ x ∈ l, 0 ≤ x ∧ x ≤ 99) (h0 : 0 ≤ m) (h1 : m < l.length) :
    f_Foot_init [.r s.length, .d (.tup (l.map .int)), .d (.int m)] (s ++ [.ins "Foot" []]) = .ok (.w (.d .non)) (s ++ [.ins "Foot" [("drops", .d (.tup (l.map .int))), ("middle", .d (.int m))]]) := by
  have e1 : setF "Foot" "drops" (.r s.length) (.d (.tup (l.map .int))) (s ++ [.ins "Foot" []]) = some (s ++ [.ins "Foot" [("drops", .d (.tup (l.map .int)))]]) := by
    simp [setF, putW]
  have e2 : setF "Foot" "middle" (.r s.length) (.d (.int m)) (s ++ [.ins "Foot" [("drops", .d (.tup (l.map .int)))]]) = some (s ++ [.ins "Foot" [("drops", .d (.tup (l.map .int))), ("middle", .d (.int m))]]) := by
    simp [setF, putW]
    decide
  simp [f_Foot_init, runF, b_Foot_init, goodFoot_eq l m _ h h' hl h0 h1, e1, e2]
theorem foot_made (l : List Int) (m : Int) (s : S) (h : 1 ≤ l.length) (h' : l.length ≤ 9) (hl : ∀ x ∈ l, 0 ≤ x ∧ x ≤ 99) (h0 : 0 ≤ m) (h1 : m < l.length) :
    madeD "Foot" s (f_Foot_init [.r s.length, .d (.tup (l.map .int)), .d (.int m)] (s ++ [.ins "Foot" []])) = .ok (.d (footD l m)) s := by
  rw [footInit_eq l m s h h' hl h0 h1]
  simp [madeD, allDataF, footD]
end TG

set_option linter.all false
set_option maxRecDepth 100000
namespace TG
open PySem L2
mutual
noncomputable def D.plain : D → Bool
  | .non => true | .bl _ => true | .int _ => true | .str x => (PyData.str x).canLay0
  | .tup l => D.plains l | .lst l => D.plains l
  | _ => false
noncomputable def D.plains : List D → Bool
  | [] => true
  | x :: r => D.plain x && D.plains r
end
mutual
noncomputable def D.dep : D → Nat
  | .tup l => D.deps l + 1 | .lst l => D.deps l + 1
  | _ => 0
noncomputable def D.deps : List D → Nat
  | [] => 0
  | x :: r => max (D.dep x) (D.deps r)
end
mutual
theorem plain_py : ∀ {d : D}, d.plain = true → d.py.canLay0 = true ∧ d.py.depth = d.dep ∧ PyData.eqv d.py d.py = true
  | .non, _ => ⟨rfl, rfl, rfl⟩
  | .bl b, _ => ⟨rfl, rfl, by simp [D.py, PyData.eqv]⟩
  | .int i, _ => ⟨rfl, rfl, by simp [D.py, PyData.eqv]⟩
  | .str x, h => ⟨h, rfl, by simp [D.py, PyData.eqv]⟩
  | .tup l, h => by
    have q := plains_py (l := l) (by simpa [D.plain] using h)
    exact ⟨by simpa [D.py, PyData.canLay0] using q.1, by simp [D.py, PyData.depth, D.dep, q.2.1], by simpa [D.py, PyData.eqv] using q.2.2⟩
  | .lst l, h => by
    have q := plains_py (l := l) (by simpa [D.plain] using h)
    exact ⟨by simpa [D.py, PyData.canLay0] using q.1, by simp [D.py, PyData.depth, D.dep, q.2.1], by simpa [D.py, PyData.eqv] using q.2.2⟩
  | .dic _, h => by cases h
  | .ins _ _, h => by cases h
  | .scr _, h => by cases h
theorem plains_py : ∀ {l : List D}, D.plains l = true → PyData.canLayAll0 (D.pys l) = true ∧ PyData.depthAll (D.pys l) = D.deps l ∧ PyData.eqvAll (D.pys l) (D.pys l) = true
  | [], _ => ⟨rfl, rfl, rfl⟩
  | x :: r, h => by
    simp only [D.plains, Bool.and_eq_true] at h
    have q1 := plain_py h.1
    have q2 := plains_py h.2
    exact ⟨by simp [D.pys, PyData.canLayAll0, q1.1, q2.1], by simp [D.pys, PyData.depthAll, D.deps, q1.2.1, q2.2.1], by simp [D.pys, PyData.eqvAll, q1.2.2, q2.2.2]⟩
end
theorem shaped_of {d : D} (h : d.plain = true) (k : d.dep ≤ 64) : SeqAt.shaped d.py = true := by
  have q := plain_py h
  simp [SeqAt.shaped, q.1, q.2.1, k]
theorem fEq_refl (neg : Bool) (d : D) (s : S) (h : d.plain = true) (k : d.dep ≤ 64) : fEq neg (.d d) (.d d) s = .ok (.d (.bl (!neg))) s := by
  have q := plain_py h
  cases neg <;> simp [fEq, asData, eqD, shaped_of h k, q.2.2]
@[simp] theorem fEq_bl (neg : Bool) (a b : Bool) (s : S) : fEq neg (.d (.bl a)) (.d (.bl b)) s = .ok (.d (.bl (if neg then !(a == b) else a == b))) s := by
  simp [fEq, asData, eqD, D.py, SeqAt.shaped, PyData.canLay0, PyData.depth, PyData.eqv]
@[simp] theorem plain_int (i : Int) : (D.int i).plain = true := rfl
@[simp] theorem plain_bl (i : Bool) : (D.bl i).plain = true := rfl
@[simp] theorem plain_non : D.non.plain = true := rfl
@[simp] theorem plain_tup (l : List D) : (D.tup l).plain = D.plains l := by rw [D.plain]
@[simp] theorem plain_lst (l : List D) : (D.lst l).plain = D.plains l := by rw [D.plain]
theorem plains_iff {l : List D} : D.plains l = true ↔ ∀ x ∈ l, x.plain = true := by
  induction l with
  | nil => simp [D.plains]
  | cons a r ih => simp [D.plains, ih]
theorem deps_le {l : List D} {n : Nat} : D.deps l ≤ n ↔ ∀ x ∈ l, x.dep ≤ n := by
  induction l with
  | nil => simp [D.deps]
  | cons a r ih => simp [D.deps, ih, Nat.max_le]
@[simp] theorem plains_ints (l : List Int) : D.plains (l.map D.int) = true := plains_iff.mpr (by simp)
theorem deps_ints (l : List Int) : D.deps (l.map D.int) = 0 := Nat.le_zero.mp (deps_le.mpr (by simp [D.dep]))
theorem dep_tup (l : List D) : (D.tup l).dep = D.deps l + 1 := by rw [D.dep]
theorem dep_lst (l : List D) : (D.lst l).dep = D.deps l + 1 := by rw [D.dep]
@[simp] theorem kb_it : kitB "int" "tuple" = some false := by decide +kernel
@[simp] theorem kb_il : kitB "int" "list" = some false := by decide +kernel
@[simp] theorem kb_ib : kitB "int" "bool" = some false := by decide +kernel
@[simp] theorem kb_ii : kitB "int" "int" = some true := by decide +kernel
@[simp] theorem kb_bt : kitB "bool" "tuple" = some false := by decide +kernel
@[simp] theorem kb_bl : kitB "bool" "list" = some false := by decide +kernel
@[simp] theorem kb_bb : kitB "bool" "bool" = some true := by decide +kernel
@[simp] theorem kb_bi : kitB "bool" "int" = some true := by decide +kernel
@[simp] theorem kb_nt : kitB "NoneType" "tuple" = some false := by decide +kernel
@[simp] theorem kb_nl : kitB "NoneType" "list" = some false := by decide +kernel
@[simp] theorem kb_nb : kitB "NoneType" "bool" = some false := by decide +kernel
@[simp] theorem kb_ni : kitB "NoneType" "int" = some false := by decide +kernel
@[simp] theorem kb_st : kitB "str" "tuple" = some false := by decide +kernel
@[simp] theorem kb_sl : kitB "str" "list" = some false := by decide +kernel
@[simp] theorem kb_sb : kitB "str" "bool" = some false := by decide +kernel
@[simp] theorem kb_si : kitB "str" "int" = some false := by decide +kernel
@[simp] theorem kb_tt : kitB "tuple" "tuple" = some true := by decide +kernel
@[simp] theorem kb_tl : kitB "tuple" "list" = some false := by decide +kernel
@[simp] theorem kb_tb : kitB "tuple" "bool" = some false := by decide +kernel
@[simp] theorem kb_ti : kitB "tuple" "int" = some false := by decide +kernel
@[simp] theorem kb_lt : kitB "list" "tuple" = some false := by decide +kernel
@[simp] theorem kb_ll : kitB "list" "list" = some true := by decide +kernel
@[simp] theorem kb_lb : kitB "list" "bool" = some false := by decide +kernel
@[simp] theorem kb_li : kitB "list" "int" = some false := by decide +kernel
@[simp] theorem fIsi_eq (t : String) (x : W) (s : S) : fIsi t x s = match tyW x s with | some a => (match kitB a t with | some b => .ok (.d (.bl b)) s | none => .no) | none => .no := (rfl)
@[simp] theorem fIsi2_eq (t u : String) (x : W) (s : S) : fIsi2 t u x s = match tyW x s with | some a => (match kitB a t, kitB a u with | some b, some c => .ok (.d (.bl (b || c))) s | _, _ => .no) | none => .no := (rfl)
@[simp] theorem tyW_d (d : D) (s : S) : tyW (.d d) s = tyD d := (rfl)
@[simp] theorem tyD_non : tyD .non = some "NoneType" := (rfl)
@[simp] theorem tyD_bl (b : Bool) : tyD (.bl b) = some "bool" := (rfl)
@[simp] theorem tyD_int (b : Int) : tyD (.int b) = some "int" := (rfl)
@[simp] theorem tyD_str (b : Str) : tyD (.str b) = some "str" := (rfl)
@[simp] theorem tyD_tup (b : List D) : tyD (.tup b) = some "tuple" := (rfl)
@[simp] theorem tyD_lst (b : List D) : tyD (.lst b) = some "list" := (rfl)
mutual
noncomputable def D.slim : D → Bool
  | .tup l => decide (l.length ≤ 1000) && D.slims l
  | .lst l => decide (l.length ≤ 1000) && D.slims l
  | _ => true
noncomputable def D.slims : List D → Bool
  | [] => true
  | x :: r => D.slim x && D.slims r
end
theorem slims_iff {l : List D} : D.slims l = true ↔ ∀ x ∈ l, x.slim = true := by
  induction l with
  | nil => simp [D.slims]
  | cons a r ih => simp [D.slims, ih]
theorem all_true (n : Nat) (s : S) : fAll (.d (.lst (List.replicate n (D.bl true)))) s = .ok (.d (.bl true)) s := by
  have h := fAll_bls (List.replicate n true) s
  simpa using h
theorem like_many (n : Nat) (l : List D) (x y : D) (hx : ∀ s, asSeq (.d x) s = some (wD l)) (s : S) (ih : ∀ d ∈ l, f_v_law_like n [.d d, .d d] s = .ok (.w (.d (.bl true))) s) :
    lcM (tgName 2) eYes (eCall (f_v_law_like n) (eCons (eBin fIx (eVar 0) (eVar 2)) (eCons (eBin fIx (eVar 1) (eVar 2)) eNil))) (wipeR [.w (.d x), .w (.d x), .no] [2]) ((List.range l.length).map fun i : Nat => W.d (.int (i : Int))) s = .ok (wD (List.replicate l.length (.bl true))) s := by
  rw [lcM_map (g := fun _ => .d (.bl true))]
  · simp [wD, List.eq_replicate_iff]
  · intro w hw
    obtain ⟨i, hi, rfl⟩ := List.mem_map.mp hw
    have hi := List.mem_range.mp hi
    refine ⟨_, rfl, rfl, ?_⟩
    have e : (wD l)[i]? = some (.d l[i]) := by simp [wD, hi]
    simp [wipeR, hx, e, ih l[i] (List.getElem_mem hi)]
theorem like_refl : ∀ (n : Nat) (d : D) (s : S), d.plain = true → d.slim = true → d.dep < n → n ≤ 64 → f_v_law_like n [.d d, .d d] s = .ok (.w (.d (.bl true))) s
  | 0, _, _, _, _, h, _ => by omega
  | n + 1, d, s, hp, hs, hd, hn => by
    have rf := fun neg => fEq_refl neg d s hp (by omega)
    rw [show f_v_law_like (n + 1) = runF 2 3 (b_v_law_like (f_v_law_like n)) from rfl]
    cases d with
    | non => simp [runF, b_v_law_like, rf]
    | bl b => simp [runF, b_v_law_like]
    | int i => simp [runF, b_v_law_like]
    | str x => simp [runF, b_v_law_like, rf]
    | tup l =>
      rw [D.slim, Bool.and_eq_true] at hs
      have hl : l.length ≤ 1000 := of_decide_eq_true hs.1
      rw [dep_tup] at hd
      have ih := like_many n l (.tup l) (.tup l) (fun _ => rfl) s fun d hdl => like_refl n d s (plains_iff.mp (by simpa using hp) d hdl) (slims_iff.mp hs.2 d hdl) (by have := deps_le.mp (Nat.le_refl (D.deps l)) d hdl; omega) (by omega)
      have hL : l.length ≤ 16777216 := by omega
      simp [runF, b_v_law_like, rng1_nat _ _ hl, hL, ih, all_true, -rng1_eq]
    | lst l =>
      rw [D.slim, Bool.and_eq_true] at hs
      have hl : l.length ≤ 1000 := of_decide_eq_true hs.1
      rw [dep_lst] at hd
      have ih := like_many n l (.lst l) (.lst l) (fun _ => rfl) s fun d hdl => like_refl n d s (plains_iff.mp (by simpa using hp) d hdl) (slims_iff.mp hs.2 d hdl) (by have := deps_le.mp (Nat.le_refl (D.deps l)) d hdl; omega) (by omega)
      have hL : l.length ≤ 16777216 := by omega
      simp [runF, b_v_law_like, rng1_nat _ _ hl, hL, ih, all_true, -rng1_eq]
    | dic _ => cases hp
    | ins _ _ => cases hp
    | scr _ => cases hp
end TG

set_option linter.all false
set_option maxRecDepth 100000
namespace TG
open PySem L2
noncomputable def bestV : List Int → Option Int
  | [] => none
  | x :: r => some (r.foldl (fun b y => if y > b then y else b) x)
theorem bestV_app (l : List Int) (y : Int) : bestV (l ++ [y]) = some (match bestV l with | none => y | some b => if y > b then y else b) := by
  cases l with
  | nil => rfl
  | cons x r => simp [bestV, List.foldl_append]
noncomputable def optD : Option Int → D
  | none => .non
  | some i => .int i
end TG

set_option linter.all false
set_option maxRecDepth 100000
namespace TG
open PySem L2
@[simp] theorem eIxO_eq (i : Nat) (e : Cmp W) (ρ : Rho) (s : S) : eIxO i e ρ s = match (ρ[i]? : Option EV) with | some (.own l) => (e ρ s).bind (kIxO l) | _ => .no := (rfl)
@[simp] theorem eLenO_eq (i : Nat) (ρ : Rho) (s : S) : eLenO i ρ s = match (ρ[i]? : Option EV) with | some (.own l) => .ok (.d (.int l.length)) s | _ => .no := (rfl)
@[simp] theorem kAppC2_eq (x y : W) (ρ : Rho) (s : S) : kAppC2 x y ρ s = match appC x y s with | some s' => .nx ρ s' | none => .no := (rfl)
@[simp] theorem kAppC_eq (e : Cmp W) (x : W) (ρ : Rho) (s : S) : kAppC e x ρ s = if isCL x s = true then ebS (e ρ s) ρ (kAppC2 x) else .no := (rfl)
@[simp] theorem sAppC_eq (o e : Cmp W) (ρ : Rho) (s : S) : sAppC o e ρ s = ebS (o ρ s) ρ (kAppC e) := (rfl)
end TG

set_option linter.all false
set_option maxRecDepth 100000
namespace TG
open PySem L2
@[simp] theorem kZipS_eq (l r : List D) (s : S) : kZipS [.d (.tup l), .d (.tup r)] s = if l.length = r.length then .ok (zipD l r) s else .no := (rfl)
@[simp] theorem eZipS_eq (a : Cmp (List W)) (ρ : Rho) (s : S) : eZipS a ρ s = (a ρ s).bind kZipS := (rfl)
noncomputable def isRimB (l : List Int) : Bool := decide (3 ≤ l.length) && decide (l.length ≤ 48)
theorem isRim_eq (l : List Int) (s : S) : f_is_rim [.d (.tup (l.map .int))] s = .ok (.w (.d (.bl (isRimB l)))) s := by
  unfold isRimB
  by_cases h : 3 ≤ l.length
  · have h1 : (3 : Int) ≤ l.length := by omega
    by_cases h' : l.length ≤ 48
    · have h2 : (l.length : Int) ≤ 48 := by omega
      simp [f_is_rim, runF, b_is_rim, h, h1, h2, h']
    · have h2 : ¬ (l.length : Int) ≤ 48 := by omega
      simp [f_is_rim, runF, b_is_rim, h, h1, h2, h']
  · have h1 : ¬ (3 : Int) ≤ l.length := by omega
    simp [f_is_rim, runF, b_is_rim, h, h1]
noncomputable def wthB (l r : List Int) : Bool := (l.zip r).all fun p => decide (p.1 ≤ p.2)
theorem zipD_ints (l r : List Int) : zipD (l.map .int) (r.map .int) = (l.zip r).map fun p => W.d (.tup [.int p.1, .int p.2]) := by
  unfold zipD
  rw [List.zip_map, List.map_map]
  rfl
theorem lies_eq (l r : List Int) (s : S) (h : l.length = r.length) (hl : l.length ≤ 1000) : f_lies_within [.d (.tup (l.map .int)), .d (.tup (r.map .int))] s = .ok (.w (.d (.bl (wthB l r)))) s := by
  rw [f_lies_within, runF_eq]
  have hL : (zipD (l.map .int) (r.map .int)).length ≤ 16777216 := by simp [zipD]; omega
  simp [b_lies_within, h, hL, wipeR]
  rw [zipD_ints, lcM_fn' (v := fun p : Int × Int => .bl (decide (p.1 ≤ p.2)))]
  · have ha := fAll_bls ((l.zip r).map fun p : Int × Int => decide (p.1 ≤ p.2)) s
    rw [List.map_map, List.all_map] at ha
    have e : (l.zip r).map (D.bl ∘ fun p : Int × Int => decide (p.1 ≤ p.2)) = (l.zip r).map fun p : Int × Int => D.bl (decide (p.1 ≤ p.2)) := rfl
    rw [e] at ha
    simp [ha]
    rfl
  · intro p hp
    exact ⟨_, by simp; rfl, by simp⟩
theorem within_eq (l r : List Int) (s : S) (h3 : 3 ≤ l.length) (h4 : l.length ≤ 48) (k3 : 3 ≤ r.length) (k4 : r.length ≤ 48) :
    f_within [.d (.tup (l.map .int)), .d (.tup (r.map .int))] s = if l.length = r.length then .ok (.w (.d (.bl (wthB l r)))) s else .exc "BadSize" none s := by
  rw [f_within, runF_eq]
  by_cases h : l.length = r.length
  · simp [b_within, lookRim_eq l s h3 h4, lookRim_eq r s k3 k4, h, lies_eq l r s h (by omega)]
  · have hb : ¬ ((l.length : Nat) : Int) = ((r.length : Nat) : Int) := by omega
    simp [b_within, lookRim_eq l s h3 h4, lookRim_eq r s k3 k4, h, hb]
end TG

set_option linter.all false
set_option maxRecDepth 100000
namespace TG
open PySem L2
structure Wish where
  l : List Int
  m : Int
  a : Int
  row : List (Option (Int × Int))
noncomputable def rowD : Option (Int × Int) → D
  | none => .non
  | some p => .tup [.int p.1, .int p.2]
noncomputable def Wish.d (w : Wish) : D := .tup [footD w.l w.m, .int w.a, .tup (w.row.map rowD)]
noncomputable def cutV (r : List Int) (c h : Int) : List Int := r.set c.toNat (min (r.getD c.toNat 0) h)
@[simp] theorem cutV_len (r : List Int) (c h : Int) : (cutV r c h).length = r.length := by simp [cutV]
theorem sIx_nat (n d c : Nat) (h : c ≤ n) : HT.sIx n d (some (c : Int)) = c := by
  have h0 : ¬ (c : Int) < 0 := by omega
  unfold HT.sIx
  simp only [h0, if_false]
  omega
theorem cut_take (l : List D) (c : Nat) (h : c ≤ l.length) : cut l none (some (c : Int)) = l.take c := by
  unfold cut
  rw [sIx_nat _ _ _ h]
  simp [HT.sIx]
theorem cut_drop (l : List D) (c : Nat) (h : c ≤ l.length) : cut l (some (c : Int)) none = l.drop c := by
  unfold cut
  rw [sIx_nat _ _ _ h]
  simp [HT.sIx]
  exact List.take_of_length_le (by rw [List.length_drop]; exact Nat.le_refl _)
theorem cut_eq (r : List Int) (c h : Int) (s : S) (h0 : 0 ≤ c) (h1 : c < r.length) (hl : r.length ≤ 1000) : f_cut_at [.d (.tup (r.map .int)), .d (.int c), .d (.int h)] s = .ok (.w (.d (.tup ((cutV r c h).map .int)))) s := by
  obtain ⟨k, rfl⟩ : ∃ k : Nat, c = k := ⟨c.toNat, by omega⟩
  have hk : k < r.length := by omega
  have e1 : cut (r.map D.int) none (some (k : Int)) = (r.map D.int).take k := cut_take _ _ (by simp; omega)
  have e2 : cut (r.map D.int) (some ((k : Int) + 1)) none = (r.map D.int).drop (k + 1) := by
    have := cut_drop (r.map D.int) (k + 1) (by simp; omega)
    simpa using this
  have e3 : ∀ h, (wD (r.map D.int))[k]'h = .d (.int r[k]) := by intro h; simp [wD]
  have e4 : (if h < r[k] then h else r[k]) = min r[k] h := by rw [Int.min_def]; split <;> split <;> omega
  have hL : min k r.length + 1 ≤ 16777216 := by omega
  have hL2 : min k r.length + 1 + (r.length - (k + 1)) ≤ 16777216 := by omega
  rw [f_cut_at, runF_eq]
  simp [b_cut_at, e1, e2, hk, e3, e4, hL, hL2]
  have e5 : r.getD ((k : Int)).toNat 0 = r[k] := by simp [List.getD_eq_getElem?_getD, hk]
  unfold cutV
  rw [e5, List.set_eq_take_append_cons_drop, if_pos (by simpa using hk), List.map_append, List.map_cons, List.map_take, List.map_drop]
  rfl
end TG

set_option linter.all false
set_option maxRecDepth 100000
namespace TG
open PySem L2
end TG

set_option linter.all false
set_option maxRecDepth 100000
namespace TG
open PySem L2
end TG

set_option linter.all false
set_option maxRecDepth 100000
namespace TG
open PySem L2
noncomputable def gt (r : List Int) (i : Nat) : Int := r.getD i 0
noncomputable def LeR (a b : List Int) : Prop := a.length = b.length ∧ ∀ i, i < a.length → gt a i ≤ gt b i
theorem LeR.refl (a : List Int) : LeR a a := ⟨rfl, fun _ _ => Int.le_refl _⟩
theorem LeR.trans {a b c : List Int} (h : LeR a b) (k : LeR b c) : LeR a c := ⟨h.1.trans k.1, fun i hi => Int.le_trans (h.2 i hi) (k.2 i (h.1 ▸ hi))⟩
end TG

set_option linter.all false
set_option maxRecDepth 100000
namespace TG
open PySem L2
noncomputable abbrev Foot := List Int × Int
end TG

set_option linter.all false
set_option maxRecDepth 100000
namespace TG
open PySem L2
end TG

set_option linter.all false
set_option maxRecDepth 100000
namespace TG
open PySem L2
end TG

set_option linter.all false
set_option maxRecDepth 100000
namespace TG
open PySem L2
end TG

set_option linter.all false
set_option maxRecDepth 100000
namespace TG
open PySem L2
noncomputable def RowOk (row : List (Option (Int × Int))) : Prop := ∀ q, some q ∈ row → q.1 ≤ q.2
theorem RowOk.sub {row row' : List (Option (Int × Int))} (h : RowOk row) (hs : ∀ o ∈ row', o ∈ row) : RowOk row' := fun q hq => h q (hs _ hq)
end TG

set_option linter.all false
set_option maxRecDepth 100000
namespace TG
open PySem L2
end TG

set_option linter.all false
set_option maxRecDepth 100000
namespace TG
open PySem L2
@[simp] theorem sAppPop_eq (j i : Nat) (e : Cmp W) (ρ : Rho) (s : S) : sAppPop j i e ρ s = match (ρ[j]? : Option EV) with
  | some (.own f) => (match (ρ[i]? : Option EV) with | some (.own l) => if i ≠ j then ebS (e ρ s) ρ (kPop j i f l) else .no | _ => .no)
  | _ => .no := (rfl)
@[simp] theorem kPop_eq (j i : Nat) (f l : List W) (y : W) (ρ : Rho) (s : S) : kPop j i f l y ρ s = match asInt y with
  | some k => (match ixN l.length k with
    | some n => (match l[n]? with
      | some w => if f.length < 16777216 ∧ l.length ≤ 16777216 then .nx ((ρ.set i (.own (l.eraseIdx n))).set j (.own (f ++ [w]))) s else .no
      | none => .no)
    | none => .no)
  | none => .no := (rfl)
theorem map_erase {α β : Type} (f : α → β) : ∀ (l : List α) (n : Nat), (l.map f).eraseIdx n = (l.eraseIdx n).map f
  | [], _ => rfl
  | _ :: _, 0 => rfl
  | a :: l, n + 1 => by simp [List.eraseIdx, map_erase f l n]
theorem wD_erase (l : List D) (n : Nat) : (wD l).eraseIdx n = wD (l.eraseIdx n) := map_erase _ _ _
theorem erase_perm {α : Type} : ∀ (l : List α) (n : Nat) (h : n < l.length), (l[n] :: l.eraseIdx n).Perm l
  | a :: l, 0, _ => List.Perm.refl _
  | a :: l, n + 1, h => by
    have h2 : n < l.length := Nat.lt_of_succ_lt_succ h
    have ih := erase_perm l n h2
    simp only [List.getElem_cons_succ, List.eraseIdx_cons_succ]
    exact (List.Perm.swap a l[n] (l.eraseIdx n)).trans (List.Perm.cons a ih)
theorem perm_pop {γ : Type} {f l z : List γ} {n : Nat} (h : n < l.length) (p : (f ++ l).Perm z) : (f ++ [l[n]] ++ l.eraseIdx n).Perm z := by
  refine List.Perm.trans ?_ p
  rw [List.append_assoc]
  exact List.Perm.append_left f (erase_perm l n h)
noncomputable def I_mix {γ : Type} (g : γ → D) (l : List γ) (t : S) (pre : List Nat) (ρ : Rho) (s : S) : Prop := (∃ (found left : List γ) (x4 : EV), ρ = [.w (.r 0), .w (.d (.lst (l.map g))), .own (wD (left.map g)), .own (wD (found.map g)), x4] ∧ (found ++ left).Perm l ∧ found.length = pre.length) ∧ BS t s
theorem mixed_wp {γ : Type} (g : γ → D) (l : List γ) (b : Bag) (t : S) (hl : l.length ≤ 1000) :
    wE nE (fun v s => ∃ z : List γ, v = .own (wD (z.map g)) ∧ z.Perm l ∧ BS t s) (f_v_law_mixed [.r 0, .d (.lst (l.map g))] (b.cell :: t)) := by
  rw [f_v_law_mixed]
  refine wE_fn (by rfl) ?_
  have hL : l.length ≤ 16777216 := by omega
  have hr := fun s => rng1_nat l.length s (by omega)
  simp [b_v_law_mixed, hr, hL, wipeR, -rng1_eq]
  refine wS_mid (I_mix g l t (List.range l.length)) ?_ ?_
  · refine forE_at (g := fun i : Nat => W.d (.int i)) (I_mix g l t) ⟨⟨[], l, _, by simp; rfl, by simp, rfl⟩, bs⟩ ?_ fun ρ s h => h
    rintro pre i rr hz ρ s ⟨⟨found, left, x4, rfl, hp, hlen⟩, b, rfl⟩
    have h3 := congrArg List.length hz
    rw [List.length_append, List.length_cons, List.length_range] at h3
    have h4 := hp.length_eq
    rw [List.length_append] at h4
    refine ⟨_, rfl, ?_⟩
    simp [wipeR, -rng1_eq]
    refine wS_use (pull_wp _ _ _ (by omega) (by omega)) ?_
    rintro _ _ ⟨k, b, rfl, rfl, k0, k1⟩
    simp [wipeR, -rng1_eq]
    obtain ⟨kn, rfl⟩ := Int.eq_ofNat_of_zero_le k0
    have hk : kn < left.length := by omega
    have c1 : found.length < 16777216 := by omega
    have c2 : left.length ≤ 16777216 := by omega
    have e1 : (wD (left.map g))[kn]? = some (.d (g left[kn])) := by simp [wD, hk]
    simp [hk, c1, c2, e1, wipeR, -rng1_eq]
    refine ⟨⟨found ++ [left[kn]], left.eraseIdx kn, .w (.d (.int i)), ?_, perm_pop hk hp, by simp [hlen]⟩, bs⟩
    rw [wD_erase]
    simp [wD, map_erase]
  · rintro ρ s ⟨⟨found, left, x4, rfl, hp, hlen⟩, b, rfl⟩
    rw [List.length_range] at hlen
    have h4 := hp.length_eq
    rw [List.length_append] at h4
    have : left = [] := List.eq_nil_of_length_eq_zero (by omega)
    subst this
    rw [List.append_nil] at hp
    simp [wipeR, -rng1_eq]
    exact ⟨found, rfl, hp, bs⟩
end TG

set_option linter.all false
set_option maxRecDepth 100000
namespace TG
open PySem L2
end TG

set_option linter.all false
set_option maxRecDepth 100000
namespace TG
open PySem L2
end TG

set_option linter.all false
set_option maxRecDepth 100000
namespace TG
open PySem L2
end TG

set_option Elab.async false
set_option linter.all false
set_option maxRecDepth 100000
set_option maxHeartbeats 4000000
namespace TG
open PySem PySem.Spec PyProof.Rows L2
section
variable (X : Cx) (cl : Str → Option Addr) (k : Nat)
inductive FL : List Expr → List Sem1 → Prop
  | nil : FL [] []
  | cons {x : Str} {p : Pos} {f : Sem1} {ps : List Str} {es : List Expr} {fs : List Sem1} (F : FnAt X.prog X.w X.K X.mg X.base cl k x ps f) (hg : Gl X x) (nd : (x == ("__debug__" : Str)) = false) (hs : starEach (.Name x p :: es) X.env = (false, eval (.Name x p) X.env) :: starEach es X.env) (r : FL es fs) : FL (.Name x p :: es) (f :: fs)
end
noncomputable def tAll (vs : List V) : TA := fun _ H Q => Q vs H
inductive FA (X : Cx) (cl : Str → Option Addr) (k : Nat) : List Addr → List Sem1 → Prop
  | nil : FA X cl k [] []
  | cons {a : Addr} {fd : FuncData} {f : Sem1} {ps : List Str} {as : List Addr} {fs : List Sem1} (h1 : PySem.W.keepIn X.K (.ref a) = true) (h2 : Binds X.K fd ps []) (h3 : FnOk X.prog X.w X.K X.mg X.base (L2.CX X.prog X.w) k a fd ps (spOf X.K cl f)) (r : FA X cl k as fs) : FA X cl k (a :: as) (f :: fs)
section
variable {X : Cx} {cl : Str → Option Addr} {Wx : WX} {k : Nat}
theorem FL.all : ∀ {es : List Expr} {fs : List Sem1}, FL X cl k es fs → ∃ as, FA X cl k as fs ∧ PA X es (tAll (as.map V.ref))
  | _, _, .nil => ⟨[], .nil, pa_nil⟩
  | _, _, .cons F hg nd hs r => by
    obtain ⟨a, fd, q1, q2, q3, q4⟩ := F.ex
    obtain ⟨as, h1, h2⟩ := r.all
    exact ⟨a :: as, .cons q2 q3 q4 h1, PA.weaken (pa_cons (pe_glob hg q1 (v := .ref a) rfl nd) h2 hs) fun σ H Q h => h⟩
theorem FA.len {as : List Addr} {fs : List Sem1} (h : FA X cl k as fs) : as.length = fs.length := by
  induction h with
  | nil => rfl
  | cons _ _ _ _ ih => simp [ih]
theorem FA.at {as : List Addr} {fs : List Sem1} (h : FA X cl k as fs) : ∀ {i : Nat} {f : Sem1}, fs[i]? = some f → ∃ a fd ps, as[i]? = some a ∧ PySem.W.keepIn X.K (.ref a) = true ∧ Binds X.K fd ps [] ∧ FnOk X.prog X.w X.K X.mg X.base (L2.CX X.prog X.w) k a fd ps (spOf X.K cl f) := by
  induction h with
  | nil => intro i f e; simp at e
  | @cons a fd g ps as fs h1 h2 h3 r ih =>
    intro i f e
    cases i with
    | zero =>
      simp at e
      subst e
      exact ⟨a, fd, ps, rfl, h1, h2, h3⟩
    | succ i => exact ih (by simpa using e)
end
end TG

set_option Elab.async false
set_option linter.all false
set_option maxRecDepth 100000
set_option maxHeartbeats 4000000
namespace TG
open PySem PySem.Spec PyProof.Rows L2
structure MethAt (P : Program) (w : World) (K : PySem.W.Frag) (mg : Str → Option Value) (base : Heap) (cl : Str → Option Addr) (k : Nat) (c m : Str) (ps : List Str) (f : Sem1) : Prop where
  ex : ∃ (C a : Addr) (fd : FuncData), cl c = some C ∧ Cls K C ∧ Meth K C m a ∧ Binds K fd ps [] ∧ FnOk P w K mg base (L2.CX P w) k a fd ps (spOf K cl f)
theorem MethAt.mono {P : Program} {w : World} {K : PySem.W.Frag} {mg : Str → Option Value} {base : Heap} {cl : Str → Option Addr} {j k : Nat} {c m : Str} {ps : List Str} {f : Sem1} (F : MethAt P w K mg base cl j c m ps f) (h : j ≤ k) : MethAt P w K mg base cl k c m ps f := by
  obtain ⟨C, a, fd, h1, h2, h3, h4, h5⟩ := F.ex
  exact ⟨C, a, fd, h1, h2, h3, h4, h5.mono h⟩
noncomputable def tMethA (C : Addr) (m : Str) (sp : Sp) (E : L2.St → XK) (ta : TE) (t : TA) : TE := fun σ H Q => ta σ H fun x H1 => ∃ a dx fs, x = .ref a ∧ H1 a = some (.ins C dx fs) ∧ fs.lookup m = none ∧ t σ H1 fun vs H2 => sp (.ref a :: vs) H2 Q (E σ)
section
variable {X : Cx} {CX : CXT} {k : Nat} {f C : Addr} {fd : FuncData} {ps : List Str} {sp : Sp} {E : L2.St → XK} {m : Str} {apos pos : Pos} {e o : Expr} {es : List Expr} {ta : TE} {t : TA}
theorem pe_methA {pl : Sem Bool} (he : PE X o ta) (c : Cls X.K C) (hm : Meth X.K C m f) (F : FnOk X.prog X.w X.K X.mg X.base CX k f fd ps sp) (hr : Room k X.A) (hb : Binds X.K fd ps []) (hx : ∀ σ, PassesAt CX X σ (E σ)) (ha : PA X (e :: es) t)
    (q1 : starEach (e :: es) X.env = (false, eval e X.env) :: starEach es X.env) (q2 : (backTo pos (starEach es X.env)).any (·.1) = false)
    (q3 : eval (.Call (.Attribute o m apos) (e :: es) [] pos) X.env = (do
      let ov ← eval o X.env
      standAt apos.atName
      let (f, first) ← holding [ov] (getMethod ov m pl)
      callWith pos f first (backTo pos (starEach (e :: es) X.env)) (backToKw pos (keywordEach [] X.env)))) : PE X (.Call (.Attribute o m apos) (e :: es) [] pos) (tMethA C m sp E ta t) :=
  ⟨fun pins s σ H Q I h => PySem.W.methodCall_KW (pl := pl) (thn (he.run pins s σ H _ I h) fun u s1 ⟨x, H1, I1, rx, a, dx, fs, ex, ea, l, q⟩ => by
    subst ex
    obtain rfl : u = Value.ref a := rx
    exact getmeth_ok I1 ea c hm l (PySem.W.callWith_K (first := [.ref a]) (h₀ := X.base) I.ok.mod.kin hm.kp (thn (ha.run pos pins s1 σ H1 _ I1 q) fun us s2 ⟨vs, H2, I2, r, qq⟩ => ⟨I2.kIn, run_fnS (us := .ref a :: us) (vs := .ref a :: vs) F hr hb (hx σ) I2 (.cons rfl r) qq⟩) q1 q2)) q3⟩
theorem pe_methA0 {pl : Sem Bool} (he : PE X o ta) (c : Cls X.K C) (hm : Meth X.K C m f) (F : FnOk X.prog X.w X.K X.mg X.base CX k f fd ps sp) (hr : Room k X.A) (hb : Binds X.K fd ps []) (hx : ∀ σ, PassesAt CX X σ (E σ))
    (q3 : eval (.Call (.Attribute o m apos) [] [] pos) X.env = (do
      let ov ← eval o X.env
      standAt apos.atName
      let (f, first) ← holding [ov] (getMethod ov m pl)
      callWith pos f first (backTo pos (starEach [] X.env)) (backToKw pos (keywordEach [] X.env)))) : PE X (.Call (.Attribute o m apos) [] [] pos) (tMethA C m sp E ta tNil) :=
  ⟨fun pins s σ H Q I h => PySem.W.methodCall_KW (pl := pl) (thn (he.run pins s σ H _ I h) fun u s1 ⟨x, H1, I1, rx, a, dx, fs, ex, ea, l, q⟩ => by
    subst ex
    obtain rfl : u = Value.ref a := rx
    exact getmeth_ok I1 ea c hm l (PySem.W.callWith_K0 (first := [.ref a]) I1.kIn hm.kp (run_fnS (us := [.ref a]) (vs := [.ref a]) F hr hb (hx σ) I1 (.cons rfl .nil) q))) q3⟩
end
noncomputable def insOf (c m : Str) (x : TG.W) (s : S) : Bool := match x with
  | .d (.ins c' l) => decide (c' = c) && (l.lookup m).isNone
  | .d _ => false
  | .r n => match s[n]? with | some (.ins c' l) => decide (c' = c) && (l.lookup m).isNone | _ => false
section
variable {K : PySem.W.Frag} {cl : Str → Option Addr} {H0 H : Hp} {mm : List Addr} {s : S}
theorem RepF.none {fs : List (Str × V)} {l : List (Str × TG.D)} {f : Str} (h : RepF K cl H0 fs l) (e : l.lookup f = none) : fs.lookup f = none := by
  induction l generalizing fs with
  | nil => cases h; rfl
  | cons a l ih =>
    obtain ⟨g, y⟩ := a
    cases h with
    | @cons _ v _ vs _ h1 h2 =>
      cases q : (f == g) with
      | true => simp [List.lookup, q] at e
      | false =>
        simp only [List.lookup, q] at e ⊢
        exact ih h2 e
theorem RepWK.none {fs : List (Str × V)} {l : List (Str × TG.W)} {f : Str} (h : RepWK K cl H0 mm fs l) (e : l.lookup f = none) : fs.lookup f = none := by
  induction h with
  | nil => rfl
  | @cons g v d vs ds h1 h2 ih =>
    cases q : (f == g) with
    | true => simp [List.lookup, q] at e
    | false =>
      simp only [List.lookup, q] at e ⊢
      exact ih e
theorem insOf_ok {c m : Str} {C : Addr} {v : V} {x : TG.W} (hC : cl c = some C) (st : Stt K cl H0 H mm s) (r : RepW K cl H0 mm v x) (e : insOf c m x s = true) : ∃ a dx fs, v = .ref a ∧ H a = some (.ins C dx fs) ∧ fs.lookup m = none := by
  cases x with
  | d x =>
    cases x with
    | ins c' l =>
      have e : (decide (c' = c) && (l.lookup m).isNone) = true := e
      rw [Bool.and_eq_true, decide_eq_true_eq, Option.isNone_iff_eq_none] at e
      obtain ⟨rfl, e2⟩ := e
      cases r with
      | ins h1 h2 h3 =>
        rw [hC] at h2
        cases h2
        exact ⟨_, _, _, rfl, st.sub _ _ h1, h3.none e2⟩
    | _ => exact Bool.noConfusion (show false = true from e)
  | r n =>
    obtain ⟨a, h1, rfl⟩ := r
    have e : (match s[n]? with | some (.ins c' l) => decide (c' = c) && (l.lookup m).isNone | _ => false) = true := e
    split at e
    · rename_i c' l hs
      rw [Bool.and_eq_true, decide_eq_true_eq, Option.isNone_iff_eq_none] at e
      obtain ⟨rfl, e2⟩ := e
      obtain ⟨_, C', dx, fs, k1, k2, k3⟩ := st.cell n a _ h1 hs
      rw [hC] at k2
      cases k2
      exact ⟨a, dx, fs, rfl, k1, k3.none e2⟩
    · cases e
end
noncomputable def kMeth2 {α : Type} (f : Sem1) (out : RV → S → Res α) (x : TG.W) : List TG.W → S → Res α := fun ws s => (f (x :: ws) s).bind out
noncomputable def kMeth {α : Type} (c m : Str) (f : Sem1) (out : RV → S → Res α) (a : Cmp (List TG.W)) (ρ : Rho) : TG.W → S → Res α := fun x s => if insOf c m x s = true then (a ρ s).bind (kMeth2 f out x) else .no
noncomputable def eMeth (c m : Str) (f : Sem1) (o : Cmp TG.W) (a : Cmp (List TG.W)) : Cmp TG.W := fun ρ s => (o ρ s).bind (kMeth c m f frzV a ρ)
section
variable {X : Cx} {cl : Str → Option Addr} {Wx : WX} {e o : Expr} {es : List Expr} {pos apos : Pos} {eo : Cmp TG.W} {el : Cmp (List TG.W)} {k : Nat} {c m : Str} {ps : List Str} {f : Sem1} {pl : Sem Bool}
theorem je_meth (ok : XOk X Wx) (hr : Room k X.A) (F : MethAt X.prog X.w X.K X.mg X.base cl k c m ps f) (ho : JE cl Wx X o eo) (ha : JA cl Wx X (e :: es) el)
    (q1 : starEach (e :: es) X.env = (false, eval e X.env) :: starEach es X.env := by rfl) (q2 : (backTo pos (starEach es X.env)).any (·.1) = false := by rfl)
    (q3 : eval (.Call (.Attribute o m apos) (e :: es) [] pos) X.env = (do
      let ov ← eval o X.env
      standAt apos.atName
      let (f, first) ← holding [ov] (getMethod ov m pl)
      callWith pos f first (backTo pos (starEach (e :: es) X.env)) (backToKw pos (keywordEach [] X.env))) := by rfl) : JE cl Wx X (.Call (.Attribute o m apos) (e :: es) [] pos) (eMeth c m f eo el) := by
  obtain ⟨C, a, fd, hC, h2, h3, h4, h5⟩ := F.ex
  refine PE.weaken (pe_methA ho h2 h3 h5 hr h4 (fun σ => passAt ok.tk σ) ha q1 q2 q3) fun σ H Q ⟨H0, mm, ow, s, ρ, cx, h⟩ => ⟨H0, mm, ow, s, ρ, cx, RunE.bind h fun x s1 v H1 H1' m1 g st rr h6 => ?_⟩
  by_cases hi : insOf c m x s1 = true
  · have h7 : RunE X.K cl (rrW X.K cl) Wx H1 H1' m1 σ Q (if insOf c m x s1 = true then (el ρ s1).bind (kMeth2 f frzV x) else .no) := h6
    rw [if_pos hi] at h7
    obtain ⟨p, dx, fs, rfl, k1, k2⟩ := insOf_ok hC st rr hi
    exact ⟨p, dx, fs, rfl, k1, k2, H1, m1, ow, s1, ρ, cx.go g st, RunE.bind h7 fun ws s2 vs H2 H2' m2 g' st' rr' h8 => call_run st' (.cons (RepW.mono g'.s0 g'.pre rr) rr') (call_frz st' h8)⟩
  · have h7 : RunE X.K cl (rrW X.K cl) Wx H1 H1' m1 σ Q (if insOf c m x s1 = true then (el ρ s1).bind (kMeth2 f frzV x) else .no) := h6
    rw [if_neg hi] at h7
    exact h7.elim
theorem je_meth0 (ok : XOk X Wx) (hr : Room k X.A) (F : MethAt X.prog X.w X.K X.mg X.base cl k c m ps f) (ho : JE cl Wx X o eo)
    (q3 : eval (.Call (.Attribute o m apos) [] [] pos) X.env = (do
      let ov ← eval o X.env
      standAt apos.atName
      let (f, first) ← holding [ov] (getMethod ov m pl)
      callWith pos f first (backTo pos (starEach [] X.env)) (backToKw pos (keywordEach [] X.env))) := by rfl) : JE cl Wx X (.Call (.Attribute o m apos) [] [] pos) (eMeth c m f eo eNil) := by
  obtain ⟨C, a, fd, hC, h2, h3, h4, h5⟩ := F.ex
  refine PE.weaken (pe_methA0 ho h2 h3 h5 hr h4 (fun σ => passAt ok.tk σ) q3) fun σ H Q ⟨H0, mm, ow, s, ρ, cx, h⟩ => ⟨H0, mm, ow, s, ρ, cx, RunE.bind h fun x s1 v H1 H1' m1 g st rr h6 => ?_⟩
  by_cases hi : insOf c m x s1 = true
  · have h7 : RunE X.K cl (rrW X.K cl) Wx H1 H1' m1 σ Q (if insOf c m x s1 = true then (f [x] s1).bind frzV else .no) := h6
    rw [if_pos hi] at h7
    obtain ⟨p, dx, fs, rfl, k1, k2⟩ := insOf_ok hC st rr hi
    exact ⟨p, dx, fs, rfl, k1, k2, call_run st (.cons rr .nil) (call_frz st h7)⟩
  · have h7 : RunE X.K cl (rrW X.K cl) Wx H1 H1' m1 σ Q (if insOf c m x s1 = true then (f [x] s1).bind frzV else .no) := h6
    rw [if_neg hi] at h7
    exact h7.elim
end
end TG

set_option Elab.async false
set_option linter.all false
set_option maxRecDepth 100000
set_option maxHeartbeats 4000000
namespace NE
open PySem PySem.Spec PyProof.Rows PySem.SeqAt
section
variable {M : Model} {prog : Program} {w : World} {A : Around} {E : Value → Shared → Prop} {s : Shared} {K : PySem.W.Frag} {x C f h₀L : Addr} {ox : Obj} {od : Option Obj} {b : Value}
theorem ifBound_objNe {args : List Value} {Q : Option Value → Shared → Prop} (X : K.In s.heap) (I : PySem.W.InstAt s.heap x ox C od) (hs : PySem.W.findIn K (.ref C) "__ne__" = some (some (.builtin "object.__ne__")))
    (h : wpAny M A (call (.builtin "object.__ne__") (.ref x :: args)) (fun v => Q (some v)) E s) : wpAny M A (callSpecialIfBound? (.ref x) "__ne__" args) Q E s := by
  simp only [callSpecialIfBound?, bindSpecialIfBound?]
  refine wpAny_holding (wpAny_bind (wpAny_bind (wpAny_bind (I.type.here ((PySem.W.looks_findIn X hs).here ?_)))))
  refine wpAny_bind (wpAny_askSetting (wpAny_ite ?_))
  have fin : wpAny M A (call (.builtin "object.__ne__") ([.ref x] ++ args) >>= fun v => pure (some v)) Q E s := wpAny_bind (wpAny_mono h (fun v s' h' => wpAny_pure h') fun _ _ h' => h')
  split
  · exact wpAny_bind (wpAny_of_eq (F.cmp_object.ne.bind _) (wpAny_pure (by exact fin)))
  · exact wpAny_tryCatch (wpAny_bind (wpAny_of_eq (F.cmp_object.ne.bind _) (wpAny_pure (by exact fin))))
theorem objNe_entry (X : K.In s.heap) (I : PySem.W.InstAt s.heap x ox C od) (hs : PySem.W.findIn K (.ref C) "__eq__" = some (some (.ref f))) (hf : PySem.W.isFn K (.ref f) = true) (hu : A.units < cLine) {Q : Fin → Shared → Prop}
    (hcall : wpAny (model prog w) A (call (.ref f) [.ref x, b]) (fun v s' => v = .bool true ∧ Q (.done (.ret (.bool false))) s') E s) :
    wpAny (model prog w) A (Builtin.«object.__ne__» ⟨[.ref x, b], []⟩) Q E s := by
  unfold Builtin.«object.__ne__»
  repeat (first
    | with_reducible refine wpAny_cRoomFor hu ?_
    | (refine wpAny_bind (m := callSpecialIfBound? (.ref x) (Str.ofString "__eq__") [b])
        (PySem.W.ifBound_K X I hs hf (wpAny_mono hcall (fun r s' hr => by
          obtain ⟨rfl, hq⟩ := hr
          repeat (first | exact hq | exact wpAny_pure hq | exact wpAny_truthy_bool hq | (refine wpAny_bind (m := truthy (.bool _)) (wpAny_truthy_bool ?_)) | wp_step)) fun _ _ e => e)))
    | wp_step)
theorem rc_ne (X : K.In s.heap) (I : PySem.W.InstAt s.heap x ox C od) (hb : PySem.W.Looks (model prog w) s.heap (typeOf b) (.ref C)) (hm : PySem.W.mroIn K C (.type "object") = some true)
    (hn : PySem.W.findIn K (.ref C) "__ne__" = some (some (.builtin "object.__ne__")))
    (hs : PySem.W.findIn K (.ref C) "__eq__" = some (some (.ref f))) (hf : PySem.W.isFn K (.ref f) = true) (hu : A.units + 1 < cLine) {Q : Value → Shared → Prop}
    (hcall : wpAny (model prog w) A.in1 (call (.ref f) [.ref x, b]) (fun v s' => v = .bool true ∧ Q (.bool false) s') E s) :
    wpAny (model prog w) A (richCompare .NotEq (.ref x) b) Q E s := by
  have one : wpAny (model prog w) A (tryCompare (.ref x) "__ne__" b) (fun r s' => r = some (.bool false) ∧ Q (.bool false) s') E s := by
    unfold tryCompare
    refine wpAny_bind (ifBound_objNe X I hn (wpAny_call (codeAny_call_builtin F.cmp_object.ne.plain F.cmpEntry_ne (PySem.W.check_slot F.cmpKind_ne F.cmpSplit_ne (I.type.andThen (PySem.W.looks_mroIn X hm)) (F.cmpArgs_ne _ _)
      (objNe_entry (A := A.in1) X I hs hf hu (wpAny_mono hcall (fun v s' hv => ?_) fun _ _ e => e))))))
    obtain ⟨rfl, hq⟩ := hv
    first | exact ⟨rfl, wpAny_pure ⟨rfl, hq⟩⟩ | exact ⟨rfl, wpAny_pure (wpAny_pure ⟨rfl, hq⟩)⟩ | exact ⟨rfl, rfl, hq⟩
  unfold richCompare
  simp only [oneThing_ref]
  refine wpAny_holding (wpAny_bind (wpAny_cRoomFor (Nat.lt_of_succ_lt hu) ?_))
  refine wpAny_bind (I.type.here (wpAny_bind (hb.here ?_)))
  rw [cmpInfo_NotEq]
  dsimp only
  rw [show (Value.ref C != Value.ref C) = false from by simp]
  simp only [Bool.false_eq_true, if_false]
  refine wpAny_bind (wpAny_pure ?_)
  simp only [Bool.false_eq_true, if_false]
  refine wpAny_bind (wpAny_mono one (fun r s' z => ?_) fun _ _ e => e)
  obtain ⟨rfl, hq⟩ := z
  first | exact wpAny_pure hq | exact wpAny_pure (wpAny_pure hq)
end
end NE
namespace L2
open PySem PySem.Spec PyProof.Rows
theorem rc_neIns {X : Cx} {n : Nat} {CX : CXT} {C f : Addr} {fd : FuncData} {ps : List Str} {R : Addr → Addr → Hp → Prop} {E : XK} (F : FnOk X.prog X.w X.K X.mg X.base CX n f fd ps (spEq R))
    (hm : PySem.W.mroIn X.K C (.type "object") = some true) (hn : PySem.W.findIn X.K (.ref C) "__ne__" = some (some (.builtin "object.__ne__")))
    (hs : PySem.W.findIn X.K (.ref C) "__eq__" = some (some (.ref f))) (hf : PySem.W.isFn X.K (.ref f) = true) (hb : Binds X.K fd ps []) (hx : Passes CX X E)
    {A : Around} {pins : List (Addr × Obj)} {s : Shared} {σ : St} {H : Hp} {a b dx dy : Addr} {fs gs : List (Str × V)} (sb : Sub X (n + 1) A) (I : Inv X pins σ H s) (ha : H a = some (.ins C dx fs)) (hb' : H b = some (.ins C dy gs)) (hr : R a b H) :
    wpAny (model X.prog X.w) A (richCompare .NotEq (.ref a) (.ref b)) (fun r s' => r = .bool false ∧ ∃ H', Inv X pins σ H' s' ∧ Ext H H') X.xe s := by
  obtain ⟨mA, J, _⟩ := ins_get I.hok ha
  obtain ⟨mB, J', _⟩ := ins_get I.hok hb'
  obtain ⟨od, J, _⟩ := J.look
  obtain ⟨od', J', _⟩ := J'.look
  have hu : A.units + 1 < cLine := by have := sb.room.units; omega
  refine NE.rc_ne I.kIn J J'.type hm hn hs hf hu ?_
  have hsp : spEq R [.ref a, .ref b] H (fun v H' => v = .bl true ∧ Ext H H') E := ⟨a, b, rfl, hr, fun H' e => ⟨rfl, e⟩⟩
  have sb1 := sb.in1
  have e0 : Env0 X.prog X.w X.K X.mg X.base A.in1 X.stack s H := by
    have e := I.env0
    exact ⟨by rw [sb1.fr]; exact e.frames, e.mod, e.bs, e.bsz, e.funs, e.frf, e.hok, e.bare⟩
  have hl := F.len _ _ _ _ hsp
  have r2 : Vals [V.ref a, V.ref b] [Value.ref a, Value.ref b] := .cons rfl (.cons rfl .nil)
  refine wpAny_call (codeAny_mono (F.run A.in1 X.stack s H ⟨[.ref a, .ref b], []⟩ [.ref a, .ref b] [.ref a, .ref b] _ E sb1.room e0 (by
    have := hb s [.ref a, .ref b] I.kIn (by simpa using hl)
    simpa using this) r2 hsp) fun r s' hq => ?_)
  cases r with
  | error e => exact hx pins σ H s e s' I hq
  | ok fl =>
    cases fl with
    | ret w =>
      obtain ⟨z, H', I', rz, ez, ex⟩ := I.after hq
      subst ez
      cases rz
      exact ⟨rfl, rfl, H', I', ex⟩
    | next => exact False.elim hq
    | brk => exact False.elim hq
    | cont => exact False.elim hq
noncomputable def rMaxT (K : PySem.W.Frag) : List V → Hp → VK → Prop := fun vs H Q => ∃ (a : Addr) (n : Int) (ns : List Int), vs = [V.ref a] ∧ SqT K H a ((n :: ns).map V.int) ∧ Q (.int (ns.foldl max n)) H
theorem cr_maxT {X : Cx} (hc : X.calm = true) (hu : X.A.units + 1 < cLine) : CallR X (.builtin "max") (rMaxT X.K) := by
  intro pins s σ H vs us Q I r h
  obtain ⟨a, n, ns, rfl, hs, q⟩ := h
  obtain ⟨its, rv, hl, _⟩ := I.tuple hs
  rw [Vals.ref1 r]
  have hi : IntsAre its (n :: ns) := ints_of_vals rv
  refine PySem.W.max_tuple_data (I.ok.hd hc) hl (x := .int n) (xs := ns.map .int) (IntsAre.reads _ (by simpa using hi)) (alike_ints (n :: ns)) (by rw [show (PyData.int n :: ns.map PyData.int) = (n :: ns).map PyData.int from rfl, depth_ints]; omega) fun i v h' tk bs _ hr hk => ?_
  rw [PySem.W.maxD_ints] at hr
  cases hr
  exact ⟨.int _, H, I.kept hk, ⟨_, rfl⟩, q⟩
end L2
namespace TG
open PySem PySem.Spec PyProof.Rows L2
noncomputable def fMaxT : TG.W → S → Res TG.W := fun x s => match asTup x with
  | some l => (match allInts (wD l) with | some (n :: ns) => .ok (.d (.int (ns.foldl max n))) s | _ => .no)
  | none => .no
section
variable {X : Cx} {cl : Str → Option Addr} {k : Nat} {ps : List Str} {f : Sem1}
end
noncomputable def keyI (k : Int) : Key := .inl k
noncomputable def valDW (l : List (Key × TG.W)) (k : Key) : Option TG.W := (l.find? fun kv => decide (kv.1 = k)).map (·.2)
noncomputable def putDW (l : List (Key × TG.W)) (k : Key) (v : TG.W) : List (Key × TG.W) :=
  if (l.any fun kv => decide (kv.1 = k)) = true then l.map (fun kv => if kv.1 = k then (kv.1, v) else kv) else l ++ [(k, v)]
section
variable {K : PySem.W.Frag} {cl : Str → Option Addr} {H0 : Hp} {m : List Addr} {kvs : List (Key × V)} {l : List (Key × TG.W)}
theorem rdk_get (h : RepWK K cl H0 m kvs l) (k : Key) : (valV kvs k = none ∧ valDW l k = none) ∨ ∃ v x, valV kvs k = some v ∧ valDW l k = some x ∧ RepW K cl H0 m v x := by
  induction h with
  | nil => exact .inl ⟨rfl, rfl⟩
  | @cons q v d vs ds h1 h2 ih =>
    by_cases e : q = k
    · exact .inr ⟨v, d, by simp [valV, e], by simp [valDW, e], h1⟩
    · have e1 : valV ((q, v) :: vs) k = valV vs k := valV_neg (p := (q, v)) e
      have e2 : valDW ((q, d) :: ds) k = valDW ds k := by simp [valDW, List.find?_cons, e]
      rw [e1, e2]
      exact ih
theorem rdk_keys (h : RepWK K cl H0 m kvs l) (k : Key) : (kvs.any fun kv => decide (kv.1 = k)) = l.any fun kv => decide (kv.1 = k) := by
  induction h with
  | nil => rfl
  | cons h1 h2 ih => rw [List.any_cons, List.any_cons, ih]
theorem rdk_repl {v : V} {x : TG.W} (r : RepW K cl H0 m v x) (k : Key) (h : RepWK K cl H0 m kvs l) : RepWK K cl H0 m (kvs.map fun kv => if kv.1 = k then (kv.1, v) else kv) (l.map fun kv => if kv.1 = k then (kv.1, x) else kv) := by
  induction h with
  | nil => exact .nil
  | @cons q u d vs ds h1 h2 ih =>
    rw [List.map_cons, List.map_cons]
    by_cases e : q = k
    · rw [if_pos e, if_pos e]; exact .cons r ih
    · rw [if_neg e, if_neg e]; exact .cons h1 ih
theorem rdk_snoc {v : V} {x : TG.W} (r : RepW K cl H0 m v x) (k : Key) (h : RepWK K cl H0 m kvs l) : RepWK K cl H0 m (kvs ++ [(k, v)]) (l ++ [(k, x)]) := by
  induction h with
  | nil => exact .cons r .nil
  | cons h1 h2 ih => exact .cons h1 ih
theorem rdk_put {v : V} {x : TG.W} (h : RepWK K cl H0 m kvs l) (r : RepW K cl H0 m v x) (k : Key) : RepWK K cl H0 m (putK kvs k v) (putDW l k x) := by
  unfold putK putDW
  rw [rdk_keys h k]
  split
  · exact rdk_repl r k h
  · exact rdk_snoc r k h
theorem rdk_len (h : RepWK K cl H0 m kvs l) : kvs.length = l.length := by
  induction h with
  | nil => rfl
  | cons h1 h2 ih => rw [List.length_cons, List.length_cons, ih]
end
noncomputable def eDNew : Cmp (List (Key × TG.W)) := fun _ s => .ok [] s
noncomputable def kGetO2 (l : List (Key × TG.W)) (k : Int) : TG.W → S → Res TG.W := fun z s => .ok ((valDW l (keyI k)).getD z) s
noncomputable def kGetO (l : List (Key × TG.W)) (f : Cmp TG.W) (ρ : Rho) : TG.W → S → Res TG.W := fun y s => match asInt y with | some k => (f ρ s).bind (kGetO2 l k) | none => .no
noncomputable def eGetO (i : Nat) (e f : Cmp TG.W) : Cmp TG.W := fun ρ s => match (ρ[i]? : Option EV) with | some (.ownD l) => (e ρ s).bind (kGetO l f ρ) | _ => .no
noncomputable def kSetKO2 (i : Nat) (l : List (Key × TG.W)) (x : TG.W) : TG.W → Stm := fun z ρ s => match asInt z with | some k => if l.length < 16777216 then .nx (ρ.set i (.ownD (putDW l (keyI k) x))) s else .no | none => .no
noncomputable def kSetKO (i : Nat) (k : Cmp TG.W) : TG.W → Stm := fun x ρ s => match (ρ[i]? : Option EV) with | some (.ownD l) => ebS (k ρ s) ρ (kSetKO2 i l x) | _ => .no
noncomputable def sSetKO (i : Nat) (k v : Cmp TG.W) : Stm := fun ρ s => ebS (v ρ s) ρ (kSetKO i k)
section
variable {X : Cx} {cl : Str → Option Addr} {Wx : WX} {e i o f : Expr} {pos p1 p2 p3 p : Pos} {ea ei ef : Cmp TG.W} {x : Str}
theorem jd_new : JD cl Wx X (.Dict [] [] pos) eDNew := PE.weaken pe_dnewK fun σ H Q ⟨H0, m, ow, s, ρ, cx, h⟩ p hp => by
  have h : RunE X.K cl (rrD X.K cl) Wx H0 H m σ Q (.ok [] s) := h
  have h0 : H0 p = none := by
    cases q : H0 p with
    | none => rfl
    | some o => have := cx.st.sub _ _ q; rw [hp] at this; cases this
  have hm : p ∉ m := fun z => by
    obtain ⟨n, hn, hn2⟩ := List.mem_iff_getElem.mp z
    have e1 : m[n]? = some p := by rw [List.getElem?_eq_getElem hn, hn2]
    obtain ⟨c, hc⟩ : ∃ c, s[n]? = some c := ⟨s[n]'(by rw [← cx.st.len]; exact hn), List.getElem?_eq_getElem _⟩
    obtain ⟨_, k1⟩ := cx.st.cell n p c e1 hc
    cases c with
    | lst l => obtain ⟨vs, k2, _⟩ := k1; rw [hp] at k2; cases k2
    | dic l => obtain ⟨vs, k2, _⟩ := k1; rw [hp] at k2; cases k2
    | ins c l => obtain ⟨C, dx, fs, k2, _⟩ := k1; rw [hp] at k2; cases k2
    | tup l => obtain ⟨vs, k2, _⟩ := k1; rw [hp] at k2; cases k2
  have ne : ∀ a o, H a = some o → a ≠ p := fun a o q z => by subst z; rw [hp] at q; cases q
  refine h (.ref p) H0 (upd H p (.dK [])) m ⟨Same.refl _, List.prefix_rfl, fun a o q _ _ => by rw [upd_ne (ne a o q)]; exact q, fun a q => by
    unfold upd; split
    · simp
    · exact q, fun _ _ _ _ q => q, fun _ q => .inl q, fun _ q => .inl q⟩ (cx.st.updOwn h0 hm) ⟨p, [], rfl, hp, upd_same, h0, hm, .nil⟩
theorem je_getO (n : Nat) (hr : Room 1 X.A) (he : JE cl Wx X e ei) (hf : JE cl Wx X f ef) (hN : X.N[n]? = some x := by rfl) (hv : Vis X.env.scope x := by first | exact Or.inl rfl | exact Or.inr (Or.inl rfl) | exact Or.inr (Or.inr rfl)) (hd : (x == ("__debug__" : Str)) = false := by decide)
    (hcd : (x == ("__classdict__" : Str)) = false := by decide)
    (m1 : attributeBase (.Name x p1) "get" X.env (eval (.Name x p1) X.env) = eval (.Name x p1) X.env := by rfl)
    (m2 : ((backTo p3 (starEach [e, f] X.env)).all (fun x => !x.1) && (backToKw p3 (keywordEach [] X.env)).all (fun x => x.1.isSome) && decide (([e, f] : List Expr).length + ([] : List Keyword).length + (if ([] : List Keyword).isEmpty then 0 else 1) < 30)) = true := by rfl)
    (m3 : (p2.endLine == p3.line) = true := by rfl) (m4 : backTo p3 (starEach [e, f] X.env) = [(false, eval e X.env), (false, eval f X.env)] := by rfl) :
    JE cl Wx X (.Call (.Attribute (.Name x p1) "get" p2) [e, f] [] p3) (eGetO n ei ef) :=
  PE.weaken (pe_dget2 (by have := hr.units; omega) (pe_var hN hv hd hcd) he hf ⟨m1, m2, m3, m4⟩) fun σ H Q ⟨H0, m, ow, s, ρ, cx, h⟩ => by
    unfold eGetO at h
    split at h
    · rename_i l e0
      obtain ⟨p, vs, h1, h2, h3, h4⟩ := cx.en.slot n _ e0
      refine ⟨.ref p, h1, p, rfl, .inl ⟨vs, .inl h3⟩, H0, m, ow, s, ρ, cx, RunE.bind h fun y s1 v H1 H1' m1 g st rr q => ?_⟩
      have q : RunE X.K cl (rrW X.K cl) Wx H1 H1' m1 σ Q (match asInt y with | some k => (ef ρ s1).bind (kGetO2 l k) | none => .no) := q
      split at q
      · rename_i kk e1
        have c1 := cx.go g st
        refine ⟨H1, m1, ow, s1, ρ, c1, RunE.bind q fun z s2 v2 H2 H2' m2 g2 st2 rr2 q2 => ?_⟩
        have q2 : RunE X.K cl (rrW X.K cl) Wx H2 H2' m2 σ Q (.ok ((valDW l (keyI kk)).getD z) s2) := q2
        obtain ⟨p', us, k1, k2, k3, k4⟩ := (c1.go g2 st2).en.slot n _ e0
        rw [h1] at k1
        cases k1
        have ek : v = .int kk := asInt_ok rr e1
        subst ek
        rcases rdk_get k4 (keyI kk) with ⟨z1, z2⟩ | ⟨u, w, z1, z2, z3⟩
        · refine ⟨none, .inl ⟨us, keyI kk, .inl k3, rfl, z1.symm⟩, ?_⟩
          rw [z2] at q2
          exact RunE.done (RR := rrW X.K cl) q2 st2 rr2
        · refine ⟨some u, .inl ⟨us, keyI kk, .inl k3, rfl, z1.symm⟩, ?_⟩
          rw [z2] at q2
          exact RunE.done (RR := rrW X.K cl) q2 st2 z3
      · exact q.elim
    · exact h.elim
theorem js_setKO (n : Nat) (hr : Room 1 X.A) (hi : JE cl Wx X i ei) (h : JE cl Wx X e ea) (hN : X.N[n]? = some x := by rfl) (hv : Vis X.env.scope x := by first | exact Or.inl rfl | exact Or.inr (Or.inl rfl) | exact Or.inr (Or.inr rfl)) (hd : (x == ("__debug__" : Str)) = false := by decide)
    (hcd : (x == ("__classdict__" : Str)) = false := by decide)
    (ha : ∀ v : Value, assign (.Subscript (.Name x p1) i p2) X.env v = (do let ov ← holding [v] (eval (.Name x p1) X.env); let iv ← holding [v, ov] (eval i X.env); standAt p2; holding [v, ov, iv] (setItem ov iv v); release [v, ov, iv] []) := by exact fun _ => rfl)
    (h1 : swapsWithSole [.Subscript (.Name x p1) i p2] e pos.line X.env = pure false := by rfl) (h2 : swappedStores [.Subscript (.Name x p1) i p2] e X.env = pure none := by rfl) (h3 : List.map (fun x => x.snd) (assignEach [.Subscript (.Name x p1) i p2] X.env) = [assign (.Subscript (.Name x p1) i p2) X.env] := by rfl) :
    JS cl Wx X (.Assign [.Subscript (.Name x p1) i p2] e pos) (sSetKO n ei ea) :=
  PS.weaken (ps_asg h (pg_sub (pe_var hN hv hd hcd) hi (set_dict (by have := hr.units; omega)) ha) h1 h2 h3) fun E σ H ⟨H0, m, ow, s, ρ, cx, h⟩ => ⟨H0, m, ow, s, ρ, cx, RunS.ofE cx h fun y s1 v H1 H1' m1 g c rr q1 => by
    have q1 : RunS X.K cl Wx H1 H1' m1 ow E (kSetKO n ei y ρ s1) := q1
    unfold kSetKO at q1
    split at q1
    · rename_i l e0
      obtain ⟨p, vs, h1, h2, h3, h4⟩ := c.en.slot n _ e0
      refine ⟨.ref p, h1, H1, m1, ow, s1, ρ, c, RunS.ofE c q1 fun z s2 uz H2 H2' m2 g2 c2 r2 q2 => ?_⟩
      have q2 : RunS X.K cl Wx H2 H2' m2 ow E (kSetKO2 n l y z ρ s2) := q2
      obtain ⟨p', us, k1, k2, k3, k4⟩ := c2.en.slot n _ e0
      rw [h1] at k1
      cases k1
      have rr := RepW.mono g2.s0 g2.pre rr
      unfold kSetKO2 at q2
      split at q2
      · rename_i kk e1
        split at q2
        · rename_i hl
          have ek : uz = .int kk := asInt_ok r2 e1
          subst ek
          refine ⟨p, _, rfl, .inl ⟨us, keyI kk, k3, rfl, size_lt (by rw [rdk_len k4]; exact hl), rfl⟩, ?_⟩
          exact q2 _ _ _ _ _ (Go.updOwn k2) (c2.updOwn e0 rfl h1 k2 rfl ⟨p, _, rfl, k2, upd_same, rdk_put k4 rr _⟩)
        · exact q2.elim
      · exact q2.elim
    · exact q1.elim⟩
end
end TG

set_option Elab.async false
set_option linter.all false
set_option maxRecDepth 100000
set_option maxHeartbeats 4000000
namespace HT
open PySem PySem.Spec PyProof.Rows
section
variable {prog : Program} {w : World} {A : Around} {E : Value → Shared → Prop} {s : Shared}
theorem adjust_rev (n : Nat) : Builtin.Slice.sliceAdjust none none (-1) (n : Int) = ((n : Int) - 1, -1) := by
  unfold Builtin.Slice.sliceAdjust
  have h1 : (-1 : Int) < 0 := by omega
  simp only [h1, if_true]
theorem places_rev (n : Nat) : Builtin.Slice.slicePlaces ((n : Int) - 1) (-1) (-1) = n := by
  unfold Builtin.Slice.slicePlaces
  have h1 : ¬ ((-1 : Int) > 0) := by omega
  simp only [h1, if_false]
  by_cases h : (n : Int) - 1 > -1
  · rw [if_pos h, show (- -1 : Int) = 1 by decide, Int.ediv_one]
    omega
  · rw [if_neg h]
    omega
theorem pick_rev (xs : Array Value) : ((List.range xs.size).filterMap fun (m : Nat) => xs[(((xs.size : Nat) : Int) - 1 + (m : Int) * (-1)).toNat]?).toArray = xs.toList.reverse.toArray := by
  have e : (fun (m : Nat) => xs[(((xs.size : Nat) : Int) - 1 + (m : Int) * (-1)).toNat]?) = (fun k => xs[k]?) ∘ fun m => xs.size - 1 - m := by
    funext m
    show xs[(((xs.size : Nat) : Int) - 1 + (m : Int) * (-1)).toNat]? = xs[xs.size - 1 - m]?
    rw [show (((xs.size : Nat) : Int) - 1 + (m : Int) * (-1)).toNat = xs.size - 1 - m by omega]
  rw [e, ← List.filterMap_map, PySem.W.krv_range, List.filterMap_reverse, PySem.W.krv_all]
theorem sliceApplied_rev {sl : Addr} {vl vu vs : Value} {n : Nat} {Q : Int × Int × Nat → Shared → Prop} (hs : s.heap.IsSliceOf sl vl vu vs) (pl : IsPart vl none) (pu : IsPart vu none) (ps : IsPart vs (some (-1)))
    (h : Q ((n : Int) - 1, -1, n) s) : wpAny (model prog w) A (Builtin.Slice.sliceApplied (.ref sl) (pure (n : Int))) Q E s := by
  obtain ⟨os, hos, hcs, hds⟩ := id hs
  unfold Builtin.Slice.sliceApplied Builtin.Slice.sliceFields
  refine wpAny_bind (wpAny_bind (wpAny_field hos hds (x := vl) rfl (wpAny_bind (wpAny_field hos hds (x := vu) rfl (wpAny_bind (wpAny_field hos hds (x := vs) rfl (wpAny_pure ?_)))))))
  refine wpAny_bind (slicePart_ ps ?_)
  show wpAny _ _ (if ((-1 : Int) == 0) = true then _ else _) _ _ s
  rw [if_neg (by decide)]
  refine wpAny_bind (slicePart_ pl (wpAny_bind (slicePart_ pu (wpAny_bind (wpAny_pure ?_)))))
  show wpAny _ _ (match Builtin.Slice.sliceAdjust none none (-1) (n : Int) with | (lo, hi) => pure (lo, (-1 : Int), Builtin.Slice.slicePlaces lo hi (-1))) _ _ s
  rw [adjust_rev n]
  show wpAny _ _ (pure ((n : Int) - 1, (-1 : Int), Builtin.Slice.slicePlaces ((n : Int) - 1) (-1) (-1))) _ _ s
  rw [places_rev]
  exact wpAny_pure h
theorem getItem_tuple_rev {t sl : Addr} {items : Array Value} {vl vu vs : Value} {Q : Value → Shared → Prop} (ht : IsTup s.heap t items) (hs : s.heap.IsSliceOf sl vl vu vs) (pl : IsPart vl none) (pu : IsPart vu none) (ps : IsPart vs (some (-1)))
    (h : Q (.ref s.heap.objs.size) { s with heap := s.heap.push { cls := .type "tuple", data := .seq items.toList.reverse.toArray } })
    (hsz : items.size ≤ sizeLine) : wpAny (model prog w) A (getItem (.ref t) (.ref sl)) Q E s := by
  have htake : sizeOk (.seq items.toList.reverse.toArray) := by
    show items.toList.reverse.toArray.size ≤ sizeLine
    rw [List.size_toArray, List.length_reverse, Array.length_toList]
    exact hsz
  obtain ⟨os, hos, hcs, hds⟩ := id hs
  have hTs : s.TypeIs (.ref sl) "slice" := ⟨os, hos, hcs⟩
  unfold getItem
  try with_reducible refine wpAny_holding ?_
  first | refine wpAny_bind (wpAny_pure ?_) | skip
  refine wpAny_bind (wpAny_sequenceKey ht.typeIs (by decide) ?_)
  refine wpAny_bind (wpAny_callSpecial?_slot (name := Str.ofString "__getitem__") ht.typeIs PyProof.Rows.slot_tuple_getitem
    (wpAny_call_entry PyProof.Rows.slot_tuple_getitem ht.typeIs entry_tuple_getitem ?_ (args_tuple_getitem _ _)))
  show wpAny _ _ (Builtin.Tuple.tupleItemsOf (.ref t) >>= _) _ _ s
  refine wpAny_bind (tupleItemsOf_ ht ?_)
  refine wpAny_bind (wpAny_typeOf hTs ?_)
  rw [if_pos (by decide)]
  refine wpAny_bind (sliceApplied_rev hs pl pu ps ?_)
  have hno : ¬ ((((items.size : Nat) : Int) - 1 == 0 && (-1 : Int) == 1 && items.size == items.size) = true) := by
    intro q
    rw [Bool.and_eq_true, Bool.and_eq_true] at q
    exact absurd q.1.2 (by decide)
  show wpAny _ _ (if (((items.size : Nat) : Int) - 1 == 0 && (-1 : Int) == 1 && items.size == items.size) = true then _ else _) _ _ s
  rw [if_neg hno, pick_rev]
  first
    | exact wpAny_bind (m := Builtin.Tuple.tupleExact _) (wpAny_newObj_type (wpAny_pure ⟨_, rfl, wpAny_pure h⟩) htake)
    | exact wpAny_bind (m := Builtin.Tuple.tupleExact _) (wpAny_newObj_type (wpAny_bind (wpAny_pure (wpAny_pure ⟨_, rfl, wpAny_pure h⟩))) htake)
    | exact wpAny_bind (wpAny_bind (m := Builtin.Tuple.tupleExact _) (wpAny_newObj_type (wpAny_pure (wpAny_pure ⟨_, rfl, wpAny_pure h⟩)) htake))
    | exact wpAny_bind (wpAny_bind (m := Builtin.Tuple.tupleExact _) (wpAny_newObj_type (wpAny_pure ⟨_, rfl, wpAny_pure h⟩) htake))
end
end HT
namespace L2
open PySem PySem.Spec PyProof.Rows
section
variable {X : Cx}
noncomputable def tRevT (K : PySem.W.Frag) (te : TE) : TE := fun σ H Q => te σ H fun x H1 => ∃ a xs, x = .ref a ∧ SqT K H1 a xs ∧ ∀ p, H1 p = none → Q (.ref p) (upd H1 p (.tup xs.reverse))
theorem pe_revT {e : Expr} {te : TE} {k : Nat} {p1 p2 p3 pos : Pos} (he : PE X e te) : PE X (.Subscript e (.Slice none none (some (.UnaryOp .USub (.Constant (.int 1) k p1) p2)) p3) pos) (tRevT X.K te) := by
  refine ⟨fun pins s σ H Q I h => ?_⟩
  refine Subscript_ (thn (he.run pins s σ H _ I h) fun v s1 ⟨x, H1, I1, r1, q1⟩ => ?_)
  obtain ⟨a, xs, ex, hx, q⟩ := q1
  subst ex
  cases r1
  have hst : PO X (some (.UnaryOp .USub (.Constant (.int 1) k p1) p2)) (tPart (tUn (rU fun i => .int (-i)) (tC (.int 1)))) := po_some (pe_un un_neg pe_int)
  refine wpAny_Slice (thn (po_none.run pins s1 σ H1 (fun o H2 => o = none ∧ H2 = H1) I1 ⟨rfl, rfl⟩) fun vl s2 ⟨l, H2, I2, pl, el, e2⟩ => ?_)
  subst el e2
  refine thn (po_none.run pins s2 σ H2 (fun o H3 => o = none ∧ H3 = H2) I2 ⟨rfl, rfl⟩) fun vu s3 ⟨u, H3, I3, pu, eu, e3⟩ => ?_
  subst eu e3
  refine thn (hst.run pins s3 σ H3 (fun o H4 => o = some (-1) ∧ H4 = H3) I3 ⟨1, rfl, -1, rfl, rfl, rfl⟩) fun vs s4 ⟨o, H4, I4, ps, eo, e4⟩ => ?_
  subst eo e4
  have I5 : Inv X pins σ H4 { s4 with heap := s4.heap.push { cls := .type "slice", data := .fields #[vl, vu, vs] } } := I4.kept (t' := s4.toks) fun b ob q => Heap.get?_push_of_some _ q
  obtain ⟨its, r, ht, hz⟩ := I5.tuple hx
  have hlen := r.length
  show wpAny (model X.prog X.w) X.A (subscriptTail e (.Slice none none (some (.UnaryOp .USub (.Constant (.int 1) k p1) p2)) p3) (.ref a) (.ref s4.heap.objs.size)) (EP X pins σ Q) X.xe { s4 with heap := s4.heap.push { cls := .type "slice", data := .fields #[vl, vu, vs] } }
  refine tail_any (ops := [.ref a, .ref s4.heap.objs.size]) ht.typeIs (PyProof.Rows.slot_tuple_getitem.lookup) ?_ (by with_unfolding_all rfl)
  refine HT.getItem_tuple_rev ht (Heap.IsSliceOf.new _ vl vu vs) pl pu ps ?_ (by rw [List.size_toArray]; omega)
  refine ⟨.ref _, _, I5.laid (t' := s4.toks) (o := .tup xs.reverse) (fun b ob q => Heap.get?_push_of_some _ q) (Nat.le_refl _) ?_, rfl, q _ (I5.hok.fresh (Nat.le_refl _))⟩
  exact ⟨by rw [List.length_reverse]; exact hz, _, r.reverse, IsTup.new _ _⟩
noncomputable def rMin3 : List V → Hp → VK → Prop := fun xs H Q => ∃ i j k : Int, xs = [V.int i, V.int j, V.int k] ∧ Q (V.int (if k < (if j < i then j else i) then k else (if j < i then j else i))) H
theorem call_min3 (hc : X.calm = true) : CallR X (.builtin "min") rMin3 := by
  intro pins s σ H xs us Q I r h
  obtain ⟨i, j, k, rfl, q⟩ := h
  refine call_min3Nu hc pins s σ H _ us Q I r ⟨_, _, _, _, rfl, ?_, q⟩
  by_cases h1 : j < i
  · by_cases h2 : k < j <;> simp [nuMin3, nuMin2, nuLt, nuCB, h1, h2]
  · by_cases h2 : k < i <;> simp [nuMin3, nuMin2, nuLt, nuCB, h1, h2]
end
end L2
namespace TG
open PySem PySem.Spec PyProof.Rows L2
section
variable {X : Cx} {cl : Str → Option Addr} {Wx : WX} {e : Expr} {es : List Expr} {pos p1 p2 p3 : Pos} {ea : Cmp TG.W} {u : List TG.W → Rho → Option Rho} {sl : List Nat}
noncomputable def c3 (f : TG.W → TG.W → TG.W → S → Res TG.W) : List TG.W → S → Res TG.W | [x, y, z], s => f x y z s | _, _ => .no
end
end TG

set_option Elab.async false
set_option linter.all false
set_option maxRecDepth 100000
set_option maxHeartbeats 4000000
namespace TG
open PySem PySem.Spec PyProof.Rows L2
section
variable {X : Cx} {cl : Str → Option Addr} {Wx : WX} {es : List Expr} {pos : Pos} {el : Cmp (List TG.W)}
end
end TG

set_option Elab.async false
set_option linter.all false
set_option maxRecDepth 100000
set_option maxHeartbeats 4000000
namespace NE
open PySem PySem.Spec PyProof.Rows PySem.SeqAt
section
variable {M : Model} {prog : Program} {w : World} {A : Around} {E : Value → Shared → Prop} {s : Shared} {K : PySem.W.Frag} {x C f : Addr} {ox : Obj} {od : Option Obj} {b : Value}
theorem objNe_entryB (X : K.In s.heap) (I : PySem.W.InstAt s.heap x ox C od) (hs : PySem.W.findIn K (.ref C) "__eq__" = some (some (.ref f))) (hf : PySem.W.isFn K (.ref f) = true) (hu : A.units < cLine) {Q : Fin → Shared → Prop}
    (hcall : wpAny (model prog w) A (call (.ref f) [.ref x, b]) (fun v s' => ∃ c, v = .bool c ∧ Q (.done (.ret (.bool (!c)))) s') E s) :
    wpAny (model prog w) A (Builtin.«object.__ne__» ⟨[.ref x, b], []⟩) Q E s := by
  unfold Builtin.«object.__ne__»
  repeat (first
    | with_reducible refine wpAny_cRoomFor hu ?_
    | (refine wpAny_bind (m := callSpecialIfBound? (.ref x) (Str.ofString "__eq__") [b])
        (PySem.W.ifBound_K X I hs hf (wpAny_mono hcall (fun r s' hr => by
          obtain ⟨c, rfl, hq⟩ := hr
          repeat (first | exact hq | exact wpAny_pure hq | exact wpAny_truthy_bool hq | (refine wpAny_bind (m := truthy (.bool _)) (wpAny_truthy_bool ?_)) | wp_step)) fun _ _ e => e)))
    | wp_step)
theorem rc_neB (X : K.In s.heap) (I : PySem.W.InstAt s.heap x ox C od) (hb : PySem.W.Looks (model prog w) s.heap (typeOf b) (.ref C)) (hm : PySem.W.mroIn K C (.type "object") = some true)
    (hn : PySem.W.findIn K (.ref C) "__ne__" = some (some (.builtin "object.__ne__")))
    (hs : PySem.W.findIn K (.ref C) "__eq__" = some (some (.ref f))) (hf : PySem.W.isFn K (.ref f) = true) (hu : A.units + 1 < cLine) {Q : Value → Shared → Prop}
    (hcall : wpAny (model prog w) A.in1 (call (.ref f) [.ref x, b]) (fun v s' => ∃ c, v = .bool c ∧ Q (.bool (!c)) s') E s) :
    wpAny (model prog w) A (richCompare .NotEq (.ref x) b) Q E s := by
  have one : wpAny (model prog w) A (tryCompare (.ref x) "__ne__" b) (fun r s' => ∃ c, r = some (.bool c) ∧ Q (.bool c) s') E s := by
    unfold tryCompare
    refine wpAny_bind (ifBound_objNe X I hn (wpAny_call (codeAny_call_builtin F.cmp_object.ne.plain F.cmpEntry_ne (PySem.W.check_slot F.cmpKind_ne F.cmpSplit_ne (I.type.andThen (PySem.W.looks_mroIn X hm)) (F.cmpArgs_ne _ _)
      (objNe_entryB (A := A.in1) X I hs hf hu (wpAny_mono hcall (fun v s' hv => ?_) fun _ _ e => e))))))
    obtain ⟨c, rfl, hq⟩ := hv
    first | exact ⟨c, rfl, wpAny_pure ⟨_, rfl, hq⟩⟩ | exact ⟨c, rfl, wpAny_pure (wpAny_pure ⟨_, rfl, hq⟩)⟩ | exact ⟨c, rfl, _, rfl, hq⟩
  unfold richCompare
  simp only [oneThing_ref]
  refine wpAny_holding (wpAny_bind (wpAny_cRoomFor (Nat.lt_of_succ_lt hu) ?_))
  refine wpAny_bind (I.type.here (wpAny_bind (hb.here ?_)))
  rw [cmpInfo_NotEq]
  dsimp only
  rw [show (Value.ref C != Value.ref C) = false from by simp]
  simp only [Bool.false_eq_true, if_false]
  refine wpAny_bind (wpAny_pure ?_)
  simp only [Bool.false_eq_true, if_false]
  refine wpAny_bind (wpAny_mono one (fun r s' z => ?_) fun _ _ e => e)
  obtain ⟨c, rfl, hq⟩ := z
  first | exact wpAny_pure hq | exact wpAny_pure (wpAny_pure hq)
end
end NE
namespace L2
open PySem PySem.Spec PyProof.Rows
noncomputable def spEqB (R : Addr → Addr → Hp → Bool → Prop) : Sp := fun vs H Q _ => ∃ a b c, vs = [.ref a, .ref b] ∧ R a b H c ∧ ∀ H', Ext H H' → Q (.bl c) H'
section
variable {X : Cx} {n : Nat} {CX : CXT} {C f : Addr} {fd : FuncData} {ps : List Str} {R : Addr → Addr → Hp → Bool → Prop} {E : XK}
theorem call_eqB (F : FnOk X.prog X.w X.K X.mg X.base CX n f fd ps (spEqB R)) (hb : Binds X.K fd ps []) (hx : Passes CX X E)
    {A : Around} {pins : List (Addr × Obj)} {s : Shared} {σ : St} {H : Hp} {a b : Addr} {c : Bool} (sb : Sub X n A) (I : Inv X pins σ H s) (hr : R a b H c) :
    wpAny (model X.prog X.w) A (call (.ref f) [.ref a, .ref b]) (fun v s' => v = .bool c ∧ ∃ H', Inv X pins σ H' s' ∧ Ext H H') X.xe s := by
  have hsp : spEqB R [.ref a, .ref b] H (fun v H' => v = .bl c ∧ Ext H H') E := ⟨a, b, c, rfl, hr, fun H' e => ⟨rfl, e⟩⟩
  have e0 : Env0 X.prog X.w X.K X.mg X.base A X.stack s H := by
    have e := I.env0
    exact ⟨by rw [sb.fr]; exact e.frames, e.mod, e.bs, e.bsz, e.funs, e.frf, e.hok, e.bare⟩
  have hl := F.len _ _ _ _ hsp
  have r2 : Vals [V.ref a, V.ref b] [Value.ref a, Value.ref b] := .cons rfl (.cons rfl .nil)
  refine wpAny_call (codeAny_mono (F.run A X.stack s H ⟨[.ref a, .ref b], []⟩ [.ref a, .ref b] [.ref a, .ref b] _ E sb.room e0 (by
    have := hb s [.ref a, .ref b] I.kIn (by simpa using hl)
    simpa using this) r2 hsp) fun r s' hq => ?_)
  cases r with
  | error e => exact hx pins σ H s e s' I hq
  | ok fl =>
    cases fl with
    | ret w =>
      obtain ⟨z, H', I', rz, ez, ex⟩ := I.after hq
      subst ez
      cases rz
      exact ⟨rfl, H', I', ex⟩
    | next => exact False.elim hq
    | brk => exact False.elim hq
    | cont => exact False.elim hq
theorem rc_neInsB (F : FnOk X.prog X.w X.K X.mg X.base CX n f fd ps (spEqB R))
    (hm : PySem.W.mroIn X.K C (.type "object") = some true) (hn : PySem.W.findIn X.K (.ref C) "__ne__" = some (some (.builtin "object.__ne__")))
    (hs : PySem.W.findIn X.K (.ref C) "__eq__" = some (some (.ref f))) (hf : PySem.W.isFn X.K (.ref f) = true) (hb : Binds X.K fd ps []) (hx : Passes CX X E)
    {A : Around} {pins : List (Addr × Obj)} {s : Shared} {σ : St} {H : Hp} {a b dx dy : Addr} {fs gs : List (Str × V)} {c : Bool} (sb : Sub X (n + 1) A) (I : Inv X pins σ H s) (ha : H a = some (.ins C dx fs)) (hb' : H b = some (.ins C dy gs)) (hr : R a b H c) :
    wpAny (model X.prog X.w) A (richCompare .NotEq (.ref a) (.ref b)) (fun r s' => r = .bool (!c) ∧ ∃ H', Inv X pins σ H' s' ∧ Ext H H') X.xe s := by
  obtain ⟨mA, J, _⟩ := ins_get I.hok ha
  obtain ⟨mB, J', _⟩ := ins_get I.hok hb'
  obtain ⟨od, J, _⟩ := J.look
  obtain ⟨od', J', _⟩ := J'.look
  have hu : A.units + 1 < cLine := by have := sb.room.units; omega
  refine NE.rc_neB I.kIn J J'.type hm hn hs hf hu (wpAny_mono (call_eqB F hb hx sb.in1 I hr) (fun v s' z => ?_) fun _ _ e => e)
  obtain ⟨rfl, H', I', ex⟩ := z
  exact ⟨c, rfl, rfl, H', I', ex⟩
theorem rc_eqInsB (F : FnOk X.prog X.w X.K X.mg X.base CX n f fd ps (spEqB R))
    (hs : PySem.W.findIn X.K (.ref C) "__eq__" = some (some (.ref f))) (hf : PySem.W.isFn X.K (.ref f) = true) (hb : Binds X.K fd ps []) (hx : Passes CX X E)
    {A : Around} {pins : List (Addr × Obj)} {s : Shared} {σ : St} {H : Hp} {a b dx dy : Addr} {fs gs : List (Str × V)} {c : Bool} (sb : Sub X n A) (I : Inv X pins σ H s) (ha : H a = some (.ins C dx fs)) (hb' : H b = some (.ins C dy gs)) (hr : R a b H c) :
    wpAny (model X.prog X.w) A (richCompare .Eq (.ref a) (.ref b)) (fun r s' => r = .bool c ∧ ∃ H', Inv X pins σ H' s' ∧ Ext H H') X.xe s := by
  obtain ⟨mA, J, _⟩ := ins_get I.hok ha
  obtain ⟨mB, J', _⟩ := ins_get I.hok hb'
  obtain ⟨od, J, _⟩ := J.look
  obtain ⟨od', J', _⟩ := J'.look
  obtain ⟨m, hF⟩ := I.fr
  refine PySem.W.cmp_K (op := .Eq) (tb := .ref C) sb.room.units0 hF I.ok.mod.kin J J'.type (by simp [PySem.W.notFirst]) hs hf (wpAny_mono (call_eqB F hb hx sb I hr) (fun v s' z => ?_) fun _ _ e => e)
  obtain ⟨rfl, H', I', ex⟩ := z
  exact ⟨rfl, H', I', ex⟩
end
end L2
namespace TG
open PySem PySem.Spec PyProof.Rows L2
section
variable {X : Cx} {cl : Str → Option Addr} {Wx : WX} {e o : Expr} {p2 p3 : Pos} {eo ea : Cmp TG.W}
end
end TG

set_option Elab.async false
set_option linter.all false
set_option maxRecDepth 100000
set_option maxHeartbeats 4000000
namespace TG
open PySem PySem.Spec PyProof.Rows L2
noncomputable def rowI (e : DictEntry) : Option (Str × Int) := match e.key, e.val with
  | .str x _, .int i _ => some (x, i)
  | _, _ => none
theorem rowI_eq {e : DictEntry} {x : Str} {i : Int} (h : rowI e = some (x, i)) : ∃ t u, e.key = .str x t ∧ e.val = .int i u := by
  unfold rowI at h
  split at h
  · rename_i y t j u e1 e2
    cases h
    exact ⟨t, u, e1, e2⟩
  · cases h
structure KdAt (K : PySem.W.Frag) (w : World) (mg : Str → Option Value) (nm : Str) (l : List (Str × Int)) : Prop where
  ex : ∃ (d : Addr) (es : Array DictEntry) (n : Nat), mg nm = some (.ref d) ∧ KDict K w d es n ∧ es.toList.map rowI = l.map some
theorem kd_rows : ∀ {es : List DictEntry} {l : List (Str × Int)}, es.map rowI = l.map some → ∀ z : Str,
    (match es.find? (·.key.isStr z) with | some e => some (some e.val) | none => if es.any (·.refKey) then none else some none) = some (none : Option Value) ∧ l.lookup z = none ∨
    ∃ i t, (match es.find? (·.key.isStr z) with | some e => some (some e.val) | none => if es.any (·.refKey) then none else some none) = some (some (.int i t)) ∧ l.lookup z = some i
  | [], [], _, z => .inl ⟨rfl, rfl⟩
  | [], _ :: _, h, _ => by cases h
  | _ :: _, [], h, _ => by cases h
  | e :: es, (x, i) :: l, h, z => by
    rw [List.map_cons, List.map_cons] at h
    injection h with h1 h2
    obtain ⟨t, u, e1, e2⟩ := rowI_eq h1
    have ih := kd_rows h2 z
    have hk : e.key.isStr z = (x == z) := by rw [e1]; rfl
    have hr : e.refKey = false := by unfold DictEntry.refKey; rw [e1]
    cases q : (x == z) with
    | true =>
      have : z = x := (eq_of_beq q).symm
      subst this
      right
      refine ⟨i, u, ?_, ?_⟩
      · rw [List.find?_cons, hk, q]
        show some (some e.val) = some (some (Value.int i u))
        rw [e2]
      · simp [List.lookup]
    | false =>
      have q2 : (z == x) = false := by
        rw [beq_eq_false_iff_ne] at q ⊢
        exact fun h => q h.symm
      rw [List.find?_cons, hk, q, List.any_cons, hr, Bool.false_or]
      simp only [List.lookup, q2]
      exact ih
theorem kd_ns {K : PySem.W.Frag} {w : World} {d : Addr} {es : Array DictEntry} {n : Nat} {l : List (Str × Int)} (D : KDict K w d es n) (h : es.toList.map rowI = l.map some) (z : Str) :
    PySem.W.nsIn K d z = some none ∧ l.lookup z = none ∨ ∃ i t, PySem.W.nsIn K d z = some (some (.int i t)) ∧ l.lookup z = some i := by
  unfold PySem.W.nsIn
  rw [D.at_]
  exact kd_rows h z
noncomputable def fInKD (neg : Bool) (l : List (Str × Int)) : TG.W → S → Res TG.W := fun x s => match asStr x with | some z => .ok (.d (.bl (if neg then !(l.lookup z).isSome else (l.lookup z).isSome))) s | none => .no
noncomputable def fIxKD (l : List (Str × Int)) : TG.W → S → Res TG.W := fun x s => match asStr x with | some z => (match l.lookup z with | some i => .ok (.d (.int i)) s | none => .no) | none => .no
noncomputable def rKD (neg : Bool) (d : Addr) (l : List (Str × Int)) : R2 := fun x y H Q => ∃ z : Str, x = .str z ∧ y = .ref d ∧ Q (.bl (if neg then !(l.lookup z).isSome else (l.lookup z).isSome)) H
section
variable {X : Cx} {d : Addr} {es : Array DictEntry} {n : Nat} {l : List (Str × Int)}
theorem op_niKD (D : KDict X.K X.w d es n) (h : es.toList.map rowI = l.map some) : OpR X (compareOp .NotIn) (rKD true d l) := fun pins s σ H x y v u Q I rx ry ⟨z, e1, e2, q⟩ => by
  rcases kd_ns D h z with ⟨a, b⟩ | ⟨i, t, a, b⟩
  · exact op_notIn_kd D pins s σ H x y v u Q I rx ry ⟨z, none, e1, e2, a, by rw [b] at q; exact q⟩
  · exact op_notIn_kd D pins s σ H x y v u Q I rx ry ⟨z, some (.int i t), e1, e2, a, by rw [b] at q; exact q⟩
noncomputable def rIxKD (d : Addr) (l : List (Str × Int)) : R2 := fun x y H Q => ∃ (z : Str) (i : Int), x = .ref d ∧ y = .str z ∧ l.lookup z = some i ∧ Q (.int i) H
theorem ix_KD (D : KDict X.K X.w d es n) (h : es.toList.map rowI = l.map some) : IxR X (rIxKD d l) := fun va sl pins s σ H x y v u Q I rx ry ⟨z, i, e1, e2, e3, q⟩ hs => by
  subst e1
  obtain rfl : v = Value.ref d := rx
  rcases kd_ns D h z with ⟨a, b⟩ | ⟨j, t, a, b⟩
  · rw [b] at e3; cases e3
  · rw [b] at e3
    cases e3
    exact tail_any (kd_type D I) PySem.F.slot_dict_getitem.lookup (op_item_kd D pins s σ H (.ref d) y (.ref d) u Q I rfl ry ⟨z, .int i t, .int i, rfl, e2, a, ⟨t, rfl⟩, q⟩) hs
variable {cl : Str → Option Addr} {Wx : WX} {e : Expr} {pos p : Pos} {ea : Cmp TG.W} {nm : Str}
theorem kd_fin {neg : Bool} {σ : L2.St} {H : Hp} {Q : VK} (h : Tof X.K cl (rrW X.K cl) Wx (eUn (fInKD neg l) ea) σ H Q) : Tof X.K cl (rrW X.K cl) Wx ea σ H fun x H1 => rKD neg d l x (.ref d) H1 Q := by
  obtain ⟨H0, m, ow, s, ρ, cx, h⟩ := h
  refine ⟨H0, m, ow, s, ρ, cx, RunE.bind h fun x s1 v H1 H1' m1 g st rr h2 => ?_⟩
  have h2 : RunE X.K cl (rrW X.K cl) Wx H1 H1' m1 σ Q (match asStr x with | some z => .ok (.d (.bl (if neg then !(l.lookup z).isSome else (l.lookup z).isSome))) s1 | none => .no) := h2
  split at h2
  · rename_i z e1
    exact ⟨z, asStr_ok rr e1, rfl, RunE.done (RR := rrW X.K cl) h2 st .bl⟩
  · exact h2.elim
theorem jt_niKD (hg : Gl X nm) (F : KdAt X.K X.w X.mg nm l) (ha : JE cl Wx X e ea) (hd : (nm == ("__debug__" : Str)) = false := by decide) (hm : behindInMarks .NotIn (.Name nm p) = false := by first | exact nobehind _ (by decide) (by decide) | rfl) :
    JT cl Wx X (.Compare e [.NotIn] [.Name nm p] pos) (eTest (eUn (fInKD true l) ea)) := by
  obtain ⟨d, es, n, h1, h2, h3⟩ := F.ex
  exact PT.weaken (pt_cmpR (op_niKD h2 h3) ha (pe_glob hg h1 (v := .ref d) rfl hd) hm) fun σ H Q h => tTest_of (fun σ H Q h => kd_fin h) h
end
end TG

set_option Elab.async false
set_option linter.all false
set_option maxRecDepth 100000
set_option maxHeartbeats 4000000
namespace SS
open PySem PySem.Spec PyProof.Rows
open Sem (wp)
noncomputable def preF (c0 : Int) (val : Nat → Int) : Nat → Int
  | 0 => c0
  | j + 1 => preF c0 val j + val j
section
variable {prog : Program} {w : World} {A : Around} {R : Result → Shared → Prop} {I : Addr} {fp wr : List Addr} {n : Nat} {P : Nat → Value → Prop} {St : Nat → Heap → Prop}
theorem ss_loop (W : Walks prog w A.in1 I fp wr n P St) (val : Nat → Int) (hval : ∀ i v, P i v → ∃ t, v = .int (val i) t) (c0 : Int) (S : Addr) (hSf : S ∉ fp) :
    ∀ (k i : Nat) (s : Shared) (tA : Tok) (c : Nat) (stage : Int), (stage = 0 ∨ stage = 2) → n - i = k → i ≤ n → St i s.heap → s.heap.get? S = some { cls := .type "list", dict := none, data := .seq #[.int (preF c0 val i) tA] c, slots := #[] } →
    (∀ h' tk t', (∀ b o, b ∉ wr → b ≠ S → s.heap.get? b = some o → h'.get? b = some o) → R (.ok (.ret (.int (preF c0 val n) t'))) { s with heap := h', toks := tk }) →
    codeAny (model prog w) A (.builtin "sum.loop" ⟨[.ref I, .ref S, rawInt stage, rawInt 0], []⟩) R s := by
  have hSw : S ∉ wr := fun h => hSf (W.sub _ h)
  intro k
  induction k with
  | zero =>
    intro i s tA c stage hstage hk hi hst hS hR
    have hin : i = n := by omega
    subst hin
    refine codeAny_builtin F.entry_sum_loop ?_
    rw [Around.under_plainId F.plain_sum_loop _]
    show wpAny _ A.in1 (seqItems? (.ref S) >>= _) _ _ s
    refine wpAny_bind (wpAny_seqItems hS rfl ?_)
    show wpAny _ A.in1 (tryCatch (pyNext (.ref I)) _ >>= _) _ _ s
    refine wpAny_bind (wpAny_tryCatch (W.done s _ _ hst fun h' tk hk' => ?_))
    exact wpAny_pure (hR h' tk tA fun b o hbw _ e => hk' b o hbw e)
  | succ k ih =>
    intro i s tA c stage hstage hk hi hst hS hR
    have hlt : i < n := by omega
    refine codeAny_builtin F.entry_sum_loop ?_
    rw [Around.under_plainId F.plain_sum_loop _]
    show wpAny _ A.in1 (seqItems? (.ref S) >>= _) _ _ s
    refine wpAny_bind (wpAny_seqItems hS rfl ?_)
    show wpAny _ A.in1 (tryCatch (pyNext (.ref I)) _ >>= _) _ _ s
    refine wpAny_bind (wpAny_tryCatch (W.item i s _ _ hlt hst fun v h' tk hP hst' hk' => ?_))
    obtain ⟨t, rfl⟩ := hval i v hP
    have hS' := hk' S _ hSw hS
    rcases hstage with rfl | rfl
    · show wpAny _ A.in1 (if (_ : Bool) = true then (mkInt (preF c0 val i + val i) >>= _) else _) _ _ _
      split
      · refine wpAny_bind (wpAny_mkInt ?_)
        show wpAny _ A.in1 (updateSeq S (fun _ => #[.int (preF c0 val i + val i) tk]) >>= _) _ _ _
        refine wpAny_bind ?_
        refine wpAny_updateSeq hS' rfl (wpAny_pure ⟨plainId_quiet F.plain_sum_loop _, ih (i + 1) _ tk _ 0 (Or.inl rfl) (by omega) hlt (W.frame _ _ _ hst' fun b hb o e => ?_) (Heap.get?_update_self _ hS' rfl) fun h'' tk'' t'' hk'' => ?_⟩)
        · exact (Heap.get?_update_other _ _ (fun h : S = b => hSf (by rw [h]; exact hb))).trans e
        · exact hR h'' tk'' t'' fun b o hbw hbS e => hk'' b o hbw hbS ((Heap.get?_update_other _ _ (Ne.symm hbS)).trans (hk' b o hbw e))
      · refine wpAny_bind (wpAny_rule ?_)
        refine wpAny_bind (wpAny_attempt (wpAny_holding (PySem.P.add_int ?_)))
        show wpAny _ A.in1 (updateSeq S (fun _ => #[.int (preF c0 val i + val i) tk]) >>= _) _ _ _
        refine wpAny_bind ?_
        refine wpAny_updateSeq hS' rfl ?_
        have hS2 := Heap.get?_update_self (Obj.mapSeq fun _ => #[Value.int (preF c0 val i + val i) tk]) hS' rfl
        refine wpAny_bind (wpAny_letGo ?_)
        refine wpAny_bind ?_
        refine wpAny_updateSeq hS2 rfl (wpAny_pure ⟨plainId_quiet F.plain_sum_loop _, ih (i + 1) _ tk _ 2 (Or.inr rfl) (by omega) hlt (W.frame _ _ _ hst' fun b hb o e => ?_) (Heap.get?_update_self _ hS2 rfl) fun h'' tk'' t'' hk'' => ?_⟩)
        · exact (Heap.get?_update_other _ _ (fun h : S = b => hSf (by rw [h]; exact hb))).trans ((Heap.get?_update_other _ _ (fun h : S = b => hSf (by rw [h]; exact hb))).trans e)
        · exact hR h'' tk'' t'' fun b o hbw hbS e => hk'' b o hbw hbS ((Heap.get?_update_other _ _ (Ne.symm hbS)).trans ((Heap.get?_update_other _ _ (Ne.symm hbS)).trans (hk' b o hbw e)))
    · show wpAny _ A.in1 ((holding [Value.int (val i) t] (binaryOp .Add (.int (preF c0 val i) tA) (.int (val i) t))).attempt >>= _) _ _ _
      refine wpAny_bind (wpAny_attempt (wpAny_holding (PySem.P.add_int ?_)))
      show wpAny _ A.in1 (updateSeq S (fun _ => #[.int (preF c0 val i + val i) tk]) >>= _) _ _ _
      refine wpAny_bind ?_
      refine wpAny_updateSeq hS' rfl ?_
      have hS2 := Heap.get?_update_self (Obj.mapSeq fun _ => #[Value.int (preF c0 val i + val i) tk]) hS' rfl
      refine wpAny_bind (wpAny_letGo ?_)
      refine wpAny_bind ?_
      refine wpAny_updateSeq hS2 rfl (wpAny_pure ⟨plainId_quiet F.plain_sum_loop _, ih (i + 1) _ tk _ 2 (Or.inr rfl) (by omega) hlt (W.frame _ _ _ hst' fun b hb o e => ?_) (Heap.get?_update_self _ hS2 rfl) fun h'' tk'' t'' hk'' => ?_⟩)
      · exact (Heap.get?_update_other _ _ (fun h : S = b => hSf (by rw [h]; exact hb))).trans ((Heap.get?_update_other _ _ (fun h : S = b => hSf (by rw [h]; exact hb))).trans e)
      · exact hR h'' tk'' t'' fun b o hbw hbS e => hk'' b o hbw hbS ((Heap.get?_update_other _ _ (Ne.symm hbS)).trans ((Heap.get?_update_other _ _ (Ne.symm hbS)).trans (hk' b o hbw e)))
end
theorem preF_sum (c0 : Int) (val : Nat → Int) : ∀ n : Nat, preF c0 val n = c0 + preSum val n
  | 0 => by simp [preF, preSum]
  | n + 1 => by rw [preF, preSum, preF_sum c0 val n]; omega
theorem boot_sum : bootBuiltins "sum" = some (.builtin "sum") := by decide +kernel
theorem args_start (a v : Value) : argsOk "sum" ⟨[a], [(Str.ofString "start", v)]⟩ := by unfold argsOk; kernel_rfl
section
variable {prog : Program} {w : World} {A : Around} {E : Value → Shared → Prop} {s : Shared}
theorem call_start {x : Value} {u : Tok} {Q : Value → Shared → Prop}
    (h : wpAny (model prog w) A.in1 (pyIter x) (fun it s₂ => ∃ I fp wr n P St val, it = .ref I ∧ Walks prog w A.in1 I fp wr n P St ∧ St 0 s₂.heap ∧ (∀ b ∈ fp, b < s₂.heap.objs.size) ∧
      (∀ i v, P i v → ∃ t, v = .int (val i) t) ∧
      ∀ h' tk t', (∀ b o, b ∉ wr → s₂.heap.get? b = some o → h'.get? b = some o) → Q (.int (1 + preSum val n) t') { s₂ with heap := h', toks := tk }) E s) :
    wpAny (model prog w) A (call (.builtin "sum") [x] [(Str.ofString "start", .int 1 u)]) Q E s := by
  refine PyProof.Rows.kmk_tree F.kind_sum F.plain_sum F.entry_sum (args_start _ _) ?_
  unfold Builtin.«sum»
  simp only [List.length_cons, List.length_nil]
  rw [if_neg (by decide)]
  refine wpAny_bind (wpAny_of_eq (show Builtin.Builtins.bindParams "sum" ["start"] 0 ⟨[], [(Str.ofString "start", .int 1 u)]⟩ = pure [some (.int 1 u)] from rfl) ?_)
  refine wpAny_bind (wpAny_mono h (fun it s₂ h₂ => ?_) fun _ _ e => e)
  obtain ⟨I, fp, wr, n, P, St, val, rfl, W, hst, hfp, hval, hQ⟩ := h₂
  dsimp only
  rw [if_pos (by decide)]
  refine wpAny_bind (wpAny_rule ?_)
  refine wpAny_bind (wpAny_mkInt ?_)
  refine wpAny_bind (wpAny_pure ?_)
  simp only [List.forIn_cons, List.forIn_nil]
  refine wpAny_bind (wpAny_bind (wpAny_bind (wpAny_isInstance (T := "int") (b := false) (typeIs_int _ _ _) PySem.sub_int_str ?_)))
  simp only [Bool.false_eq_true, if_false]
  refine wpAny_pure (wpAny_bind (wpAny_bind (wpAny_isInstance (T := "int") (b := false) (typeIs_int _ _ _) PySem.sub_int_bytes ?_)))
  simp only [Bool.false_eq_true, if_false]
  refine wpAny_pure (wpAny_bind (wpAny_bind (wpAny_isInstance (T := "int") (b := false) (typeIs_int _ _ _) PySem.sub_int_bytearray ?_)))
  simp only [Bool.false_eq_true, if_false]
  refine wpAny_pure (wpAny_pure ?_)
  refine wpAny_bind (wpAny_newObj_type ?_)
  have hSf : s₂.heap.objs.size ∉ fp := fun hm => Nat.lt_irrefl _ (hfp _ hm)
  refine wpAny_pure ⟨plainId_quiet F.plain_sum_loop _, ss_loop W val hval 1 s₂.heap.objs.size hSf n 0 _ s₂.toks 0 0 (Or.inl rfl) rfl (Nat.zero_le _)
    (W.frame _ _ _ hst fun b _ o e => Heap.get?_push_of_some _ e) (Heap.get?_push_size _ rfl) fun h' tk t' hk => ?_⟩
  rw [preF_sum]
  exact hQ h' tk t' fun b o hbw e => hk b o hbw (Nat.ne_of_lt (Heap.lt_size e)) (Heap.get?_push_of_some _ e)
theorem sum_start {l : Addr} {xs : Array (Int × Tok)} {u : Tok} {Q : Value → Shared → Prop} (hh : A.handled = none) (hl : s.heap.IsList l (intItems xs))
    (h : ∀ h' tk t', (∀ b o, s.heap.get? b = some o → h'.get? b = some o) → Q (.int (1 + preSum (numAt xs) xs.size) t') { s with heap := h', toks := tk }) :
    wpAny (model prog w) A (call (.builtin "sum") [.ref l] [(Str.ofString "start", .int 1 u)]) Q E s := by
  refine call_start (iter_intList hl fun s₂ e st hfp hlI => ?_)
  subst e
  refine ⟨_, _, _, _, _, _, numAt xs, rfl, Walks.list (A := A.in1) hh _ l hlI (intItems xs), st, hfp, (fun _ _ => intItems_at), fun h' tk t' hk => ?_⟩
  have := h h' tk t' (old_kept hk)
  simpa [intItems] using this
theorem sum_raw1 {l : Addr} {its : List Value} {ns : List Int} {u : Tok} {Q : Value → Shared → Prop} (hh : A.handled = none) (hl : s.heap.IsList l its.toArray) (hi : IntsAre its ns)
    (h : ∀ h' tk t', (∀ b o, s.heap.get? b = some o → h'.get? b = some o) → Q (.int (1 + ns.sum) t') { s with heap := h', toks := tk }) : wpAny (model prog w) A (call (.builtin "sum") [.ref l] [(Str.ofString "start", .int 1 u)]) Q E s := by
  obtain ⟨xs, e⟩ := hi.allInts.items
  have hn : numsOf (intItems xs).toList = ns := by rw [← e]; exact hi.numsOf
  rw [nums_intItems] at hn
  rw [e] at hl
  refine sum_start hh hl fun h' tk t' hk => ?_
  have := h h' tk t' hk
  rw [preSum_eq, List.take_of_length_le (by simp), hn]; exact this
end
end SS
namespace L2
open PySem PySem.Spec PyProof.Rows
noncomputable def tSum1 (K : PySem.W.Frag) (ta : TA) : TE := fun σ H Q => ta σ H fun vs H1 => ∃ (a : Addr) (ns : List Int), vs = [V.ref a] ∧ SqL K H1 a (ns.map V.int) ∧ Q (.int (1 + ns.sum)) H1
theorem pe_sum1 {X : Cx} {e : Expr} {ta : TA} {p pos kp cp : Pos} {j : Nat} (hc : X.calm = true) (hg : Gl X "sum") (hm : X.mg "sum" = none) (ha : PA X [e] ta)
    (hs : backTo pos (starEach [e] X.env) = (false, eval e X.env) :: backTo pos (starEach [] X.env) := by rfl) (hpl : (backTo pos (starEach [e] X.env)).any (·.1) = false := by rfl) :
    PE X (.Call (.Name "sum" p) [e] [⟨some "start", .Constant (.int 1) j cp, kp⟩] pos) (tSum1 X.K ta) := by
  refine ⟨fun pins s σ H Q I h => ?_⟩
  refine wpAny_Call_Name_kw (ld_blt (u := .builtin "sum") I hg hm SS.boot_sum (PyProof.Rows.callWith_kw (thn (ha.run pos pins s σ H _ I h) fun us s1 ⟨vs, H1, I1, r1, q1⟩ => ?_) hs hpl))
  have hk : PK X [⟨some "start", .Constant (.int 1) j cp, kp⟩] (tCons (tC (.int 1)) tNil) := pk_cons pe_int pk_nil
  refine thn (hk.run pos pins s1 σ H1 (fun zs H2 => zs = [V.int 1] ∧ H2 = H1) I1 ⟨rfl, rfl⟩) fun ws s2 ⟨zs, H2, I2, r2, q2⟩ => ?_
  obtain ⟨rfl, rfl⟩ := q2
  obtain ⟨a, ns, ex, hq, q⟩ := q1
  subst ex
  cases r2 with
  | cons rb rn =>
    cases rn
    obtain ⟨u, rfl⟩ := rb
    rw [Vals.ref1 r1]
    obtain ⟨its, rv, hl, _⟩ := I2.list hq
    exact SS.sum_raw1 (I2.ok.hd hc) hl.isList rv.ints fun h' tk t' hk => ⟨.int _, H2, I2.kept hk, ⟨_, rfl⟩, q⟩
end L2
namespace TG
open PySem L2 PyProof.Rows
noncomputable def kSum1 : List W → S → Res W := fun ws s => match ws with
  | [x] => (match asIntsL x s with | some l => .ok (.d (.int (1 + l.sum))) s | none => .no)
  | _ => .no
noncomputable def eSum1 (el : Cmp (List W)) : Cmp W := fun ρ s => (el ρ s).bind kSum1
section
variable {X : Cx} {cl : Str → Option Addr} {Wx : WX} {e : Expr} {el : Cmp (List W)} {p pos kp cp : Pos} {j : Nat}
theorem je_sum1 (hc : X.calm = true) (hg : Gl X "sum") (hm : X.mg "sum" = none) (ha : JA cl Wx X [e] el)
    (hs : backTo pos (starEach [e] X.env) = (false, eval e X.env) :: backTo pos (starEach [] X.env) := by rfl) (hpl : (backTo pos (starEach [e] X.env)).any (·.1) = false := by rfl) :
    JE cl Wx X (.Call (.Name "sum" p) [e] [⟨some "start", .Constant (.int 1) j cp, kp⟩] pos) (eSum1 el) :=
  PE.weaken (pe_sum1 hc hg hm ha hs hpl) fun σ H Q ⟨H0, m, ow, s, ρ, cx, q⟩ => ⟨H0, m, ow, s, ρ, cx, RunE.bind q fun ws s1 vs H1 H1' m1 g st rr q1 => by
    have q1 : RunE X.K cl (rrW X.K cl) Wx H1 H1' m1 σ Q (kSum1 ws s1) := q1
    cases rr with
    | nil => exact q1.elim
    | @cons v w vs ws r1 r2 =>
      cases r2 with
      | cons _ _ => exact q1.elim
      | nil =>
        unfold kSum1 at q1
        simp only at q1
        cases e1 : asIntsL w s1 with
        | none => rw [e1] at q1; exact q1.elim
        | some l =>
          rw [e1] at q1
          obtain ⟨a, ea, eb⟩ := asIntsL_ok st r1 e1
          exact ⟨a, l, by rw [ea], sqL_of eb, RunE.done (RR := rrW X.K cl) q1 st Rep.int⟩⟩
end
end TG

set_option Elab.async false
set_option linter.all false
set_option maxRecDepth 100000
set_option maxHeartbeats 4000000
namespace TG
open PySem PySem.Spec PyProof.Rows L2
noncomputable def kvI (l : List (Str × Int)) : List (Key × V) := l.map fun p => (Sum.inr p.1, V.int p.2)
noncomputable def dicI (l : List (Str × Int)) : TG.D := .dic (l.map fun p => (Sum.inr p.1, TG.D.int p.2))
noncomputable def trI (l : List (Str × Int)) : List (TE × TE) := l.map fun p => (tC (.str p.1), tC (.int p.2))
noncomputable def psI (l : List (Str × Int)) : List (V × V) := l.map fun p => (V.str p.1, V.int p.2)
theorem tp_I {σ : L2.St} {H : Hp} : ∀ {l : List (Str × Int)} {Q : List (V × V) → Hp → Prop}, Q (psI l) H → tPairs (trI l) σ H Q
  | [], _, h => h
  | p :: l, Q, h => tp_I (l := l) (Q := fun ps H3 => Q ((V.str p.1, V.int p.2) :: ps) H3) h
theorem rep_I {K : PySem.W.Frag} {cl : Str → Option Addr} {H0 : Hp} : ∀ l : List (Str × Int), RepK K cl H0 (kvI l) (l.map fun p => (Sum.inr p.1, TG.D.int p.2))
  | [] => .nil
  | p :: l => .cons .int (rep_I l)
theorem upd_two {H : Hp} {p : Addr} {a b : HO} : upd (upd H p a) p b = upd H p b := by
  funext q
  unfold upd
  split <;> rfl
inductive PPI (X : Cx) (pos : Pos) : List (Option Expr) → List Expr → List (Str × Int) → Prop
  | nil : PPI X pos [] [] []
  | cons {x : Str} {i : Int} {j j' : Nat} {p p' : Pos} {ks : List (Option Expr)} {vs : List Expr} {l : List (Str × Int)} (h : PPI X pos ks vs l) : PPI X pos (some (.Constant (.str x) j p) :: ks) (.Constant (.int i) j' p' :: vs) ((x, i) :: l)
section
variable {X : Cx} {cl : Str → Option Addr} {Wx : WX} {pos : Pos} {ks : List (Option Expr)} {vs : List Expr} {l : List (Str × Int)}
theorem ppi_pps {X : Cx} {pos : Pos} {ks : List (Option Expr)} {vs : List Expr} {l : List (Str × Int)} (h : PPI X pos ks vs l) : PPs X pos ks vs (trI l) := by
  induction h with
  | nil => exact pps_nil
  | cons _ ih => exact pps_cons pe_str pe_int ih
theorem je_dicI (h : PPI X pos ks vs l) (hall : ks.all (·.isSome) = true := by rfl) (hl : ks.length = vs.length := by rfl) (h0 : ks ≠ [] := by exact fun h => nomatch h) (h15 : ks.length ≤ 15 := by decide) (h16 : l.length ≤ 15 := by decide)
    (hm : mergeK [] (kvI l) = kvI l := by rfl) : JE cl Wx X (.Dict ks vs pos) (eC (dicI l)) :=
  PE.weaken (pe_disp (ppi_pps h) hall hl h0 h15) fun σ H Q ⟨H0, m, ow, s, ρ, cx, h⟩ p hp => by
    have h : RunE X.K cl (rrW X.K cl) Wx H0 H m σ Q (.ok (.d (dicI l)) s) := h
    refine tp_I ⟨upd_same, kvI l, by unfold psI kvI; rw [List.map_map]; rfl, by unfold kvI; rw [List.length_map]; exact h16, ?_⟩
    rw [hm, upd_two]
    exact h _ _ _ _ (Go.alloc cx.st hp) (cx.st.alloc hp) (Rep.dic upd_same (rep_I l))
variable {e : Expr} {p : Pos} {ea : Cmp TG.W} {nm : Str}
theorem je_ixKD (hg : Gl X nm) (F : KdAt X.K X.w X.mg nm l) (ha : JE cl Wx X e ea) (hd : (nm == ("__debug__" : Str)) = false := by decide) (hs : PlainIx e := by exact fun _ _ => rfl) : JE cl Wx X (.Subscript (.Name nm p) e pos) (eUn (fIxKD l) ea) := by
  obtain ⟨d, es, n, h1, h2, h3⟩ := F.ex
  refine PE.weaken (pe_ix (ix_KD h2 h3) (pe_glob hg h1 (v := .ref d) rfl hd) ha hs) fun σ H Q ⟨H0, m, ow, s, ρ, cx, h⟩ => ⟨H0, m, ow, s, ρ, cx, RunE.bind h fun x s1 v H1 H1' m1 g st rr h4 => ?_⟩
  have h4 : RunE X.K cl (rrW X.K cl) Wx H1 H1' m1 σ Q (match asStr x with | some z => (match l.lookup z with | some i => .ok (.d (.int i)) s1 | none => .no) | none => .no) := h4
  split at h4
  · rename_i z e1
    split at h4
    · rename_i i e2
      exact ⟨z, i, rfl, asStr_ok rr e1, e2, RunE.done (RR := rrW X.K cl) h4 st .int⟩
    · exact h4.elim
  · exact h4.elim
end
end TG

set_option Elab.async false
set_option linter.all false
set_option maxRecDepth 100000
set_option maxHeartbeats 4000000
namespace TG
open PySem PySem.Spec PyProof.Rows L2
section
variable {X : Cx} {cl : Str → Option Addr} {Wx : WX} {c a e : Expr} {es : List Expr} {pos pos' p p2 : Pos} {et : Cmp Bool} {ea : Cmp TG.W} {el : Cmp (List TG.W)} {k : Nat} {x : Str} {ps : List Str} {f : Sem1}
end
end TG

set_option linter.all false
set_option maxRecDepth 100000
namespace TG
open PySem L2
noncomputable def b_v_law_tree (fr : Sem1) : Stm :=
  (sSeq (sSet 2 (eCall f_v_law_pull (eCons (eVar 0) (eCons (eC (.int 5)) eNil))))
  (sSeq (sIf (eOrT (eTest (eBin fLt (eVar 1) (eC (.int 2)))) (eTest (eBin fLt (eVar 2) (eC (.int 1))))) (sRet (eTup (eCons (eC (.str "foot")) (eCons (eCall f_v_law_pull (eCons (eVar 0) (eCons (eC (.int 8)) eNil))) eNil)))) sNext)
  (sSeq (sIf (eTest (eBin fLt (eVar 2) (eC (.int 2)))) (sRet (eTup (eCons (eC (.str "less")) (eCons (eCall fr (eCons (eVar 0) (eCons (eBin fSub (eVar 1) (eC (.int 1))) eNil))) eNil)))) sNext)
  (sRet (eTup (eCons (eBin fIx (eFrz (eLst (eCons (eC (.str "sum")) (eCons (eC (.str "high")) (eCons (eC (.str "sum")) eNil))))) (eBin fSub (eVar 2) (eC (.int 2)))) (eCons (eCall fr (eCons (eVar 0) (eCons (eBin fSub (eVar 1) (eC (.int 1))) eNil))) (eCons (eCall fr (eCons (eVar 0) (eCons (eBin fSub (eVar 1) (eC (.int 1))) eNil))) eNil))))))))
noncomputable def f_v_law_tree : Nat → Sem1
  | 0 => fun _ _ => .no
  | n + 1 => runF 2 3 (b_v_law_tree (f_v_law_tree n))
noncomputable def b_v_law_num : Stm :=
  (sRet (eAndV (eUn (fIsi "int") (eVar 0)) (eNotV (eUn (fIsi "bool") (eVar 0)))))
noncomputable def f_v_law_num : Sem1 := runF 1 1 b_v_law_num
noncomputable def b_v_law_tree_ok (fr : Sem1) : Stm :=
  (sSeq (sSet 1 (eC (dicI [("foot", 1), ("sum", 2), ("high", 2), ("less", 1)])))
  (sSeq (sIf (eOrT (eTest (eBin (fEq false) (eArgs (c1 fLen) (eCons (eVar 0) eNil)) (eC (.int 0)))) (eOrT (eTest (eBin (fIn true) (eBin fIx (eVar 0) (eC (.int 0))) (eVar 1))) (eTest (eBin (fEq true) (eArgs (c1 fLen) (eCons (eVar 0) eNil)) (eBin fAdd (eC (.int 1)) (eBin fIx (eVar 1) (eBin fIx (eVar 0) (eC (.int 0))))))))) (sRet (eC (.bl false))) sNext)
  (sSeq (sIf (eTest (eBin (fEq false) (eBin fIx (eVar 0) (eC (.int 0))) (eC (.str "foot")))) (sRet (eAndV (eCall f_v_law_num (eCons (eBin fIx (eVar 0) (eC (.int 1))) eNil)) (eChain fLe fLe (eC (.int 0)) (eBin fIx (eVar 0) (eC (.int 1))) (eC (.int 7))))) sNext)
  (sRet (eArgs (c1 fAll) (eCons (eFrz (eLc [2] (eSeq (eSl fSl (eVar 0) (ePart (eC (.int 1))) eNoPart)) (tgName 2) eYes (eAndV (eUn (fIsi "tuple") (eVar 2)) (eCall fr (eCons (eVar 2) eNil))))) eNil))))))
noncomputable def f_v_law_tree_ok : Nat → Sem1
  | 0 => fun _ _ => .no
  | n + 1 => runF 1 3 (b_v_law_tree_ok (f_v_law_tree_ok n))
noncomputable def b_v_law_deep (fr : Sem1) : Stm :=
  (sSeq (sIf (eTest (eBin (fEq false) (eBin fIx (eVar 0) (eC (.int 0))) (eC (.str "foot")))) (sRet (eC (.int 1))) sNext)
  (sRet (eBin fAdd (eC (.int 1)) (eArgs (c1 fMaxL) (eCons (eFrz (eLc [1] (eSeq (eSl fSl (eVar 0) (ePart (eC (.int 1))) eNoPart)) (tgName 1) eYes (eCall fr (eCons (eVar 1) eNil)))) eNil)))))
noncomputable def f_v_law_deep : Nat → Sem1
  | 0 => fun _ _ => .no
  | n + 1 => runF 1 2 (b_v_law_deep (f_v_law_deep n))
noncomputable def b_v_law_parts (fr : Sem1) : Stm :=
  (sSeq (sIf (eTest (eBin (fEq false) (eBin fIx (eVar 0) (eC (.int 0))) (eC (.str "foot")))) (sRet (eC (.int 1))) sNext)
  (sRet (eBin fAdd (eC (.int 1)) (eArgs (c1 fSum) (eCons (eFrz (eLc [1] (eSeq (eSl fSl (eVar 0) (ePart (eC (.int 1))) eNoPart)) (tgName 1) eYes (eCall fr (eCons (eVar 1) eNil)))) eNil)))))
noncomputable def f_v_law_parts : Nat → Sem1
  | 0 => fun _ _ => .no
  | n + 1 => runF 1 2 (b_v_law_parts (f_v_law_parts n))
noncomputable def b_v_law_good_tree : Stm :=
  (sRet (eAndV (eCall (f_v_law_tree_ok 12) (eCons (eVar 0) eNil)) (eAndV (eBin fLe (eCall (f_v_law_deep 12) (eCons (eVar 0) eNil)) (eC (.int 5))) (eBin fLe (eCall (f_v_law_parts 12) (eCons (eVar 0) eNil)) (eC (.int 15))))))
noncomputable def f_v_law_good_tree : Sem1 := runF 1 1 b_v_law_good_tree
noncomputable def b_is_number : Stm :=
  (sRet (eAndV (eUn (fIsi "int") (eVar 0)) (eNotV (eUn (fIsi "bool") (eVar 0)))))
noncomputable def f_is_number : Sem1 := runF 1 1 b_is_number
noncomputable def b_shaped (fr : Sem1) : Stm :=
  (sSeq (sIf (eOrT (eTest (eBin (fEq false) (eVar 1) (eC (.int 0)))) (eOrT (eTest (eBin (fEq false) (eArgs (c1 fLen) (eCons (eVar 0) eNil)) (eC (.int 0)))) (eOrT (eNotT (eTest (eUn (fIsi "str") (eBin fIx (eVar 0) (eC (.int 0)))))) (eTest (eUn (fInKD true [("foot", 0), ("sum", 2), ("high", 2), ("less", 1)]) (eBin fIx (eVar 0) (eC (.int 0)))))))) (sRet (eC (.bl false))) sNext)
  (sSeq (sIf (eTest (eBin (fEq false) (eBin fIx (eVar 0) (eC (.int 0))) (eC (.str "foot")))) (sRet (eAndV (eBin (fEq false) (eArgs (c1 fLen) (eCons (eVar 0) eNil)) (eC (.int 2))) (eAndV (eCall f_is_number (eCons (eBin fIx (eVar 0) (eC (.int 1))) eNil)) (eChain fLe fLe (eC (.int 0)) (eBin fIx (eVar 0) (eC (.int 1))) (eC (.int 7)))))) sNext)
  (sSeq (sIf (eTest (eBin (fEq true) (eArgs (c1 fLen) (eCons (eVar 0) eNil)) (eBin fAdd (eC (.int 1)) (eUn (fIxKD [("foot", 0), ("sum", 2), ("high", 2), ("less", 1)]) (eBin fIx (eVar 0) (eC (.int 0))))))) (sRet (eC (.bl false))) sNext)
  (sRet (eArgs (c1 fAll) (eCons (eFrz (eLc [2] (eSeq (eSl fSl (eVar 0) (ePart (eC (.int 1))) eNoPart)) (tgName 2) eYes (eAndV (eUn (fIsi "tuple") (eVar 2)) (eCall fr (eCons (eVar 2) (eCons (eBin fSub (eVar 1) (eC (.int 1))) eNil)))))) eNil))))))
noncomputable def f_shaped : Nat → Sem1
  | 0 => fun _ _ => .no
  | n + 1 => runF 2 3 (b_shaped (f_shaped n))
noncomputable def b_count_parts (fr : Sem1) : Stm :=
  (sSeq (sIf (eTest (eBin (fEq false) (eBin fIx (eVar 0) (eC (.int 0))) (eC (.str "foot")))) (sRet (eC (.int 1))) sNext)
  (sRet (eSum1 (eCons (eFrz (eLc [1] (eSeq (eSl fSl (eVar 0) (ePart (eC (.int 1))) eNoPart)) (tgName 1) eYes (eCall fr (eCons (eVar 1) eNil)))) eNil))))
noncomputable def f_count_parts : Nat → Sem1
  | 0 => fun _ _ => .no
  | n + 1 => runF 1 2 (b_count_parts (f_count_parts n))
noncomputable def b_is_tree : Stm :=
  (sRet (eAndV (eCall (f_shaped 12) (eCons (eVar 0) (eCons (eC (.int 5)) eNil))) (eBin fLe (eCall (f_count_parts 12) (eCons (eVar 0) eNil)) (eC (.int 15)))))
noncomputable def f_is_tree : Sem1 := runF 1 1 b_is_tree
end TG

set_option linter.all false
set_option maxRecDepth 100000
namespace TG
open PySem L2
@[simp] theorem eSum1_eq (a : Cmp (List W)) (ρ : Rho) (s : S) : eSum1 a ρ s = (a ρ s).bind kSum1 := (rfl)
@[simp] theorem kSum1_ints (l : List Int) (s : S) : kSum1 [.d (.lst (l.map .int))] s = .ok (.d (.int (1 + l.sum))) s := by
  show (match asIntsL (.d (.lst (l.map .int))) s with | some l => Res.ok (W.d (.int (1 + l.sum))) s | none => .no) = _
  rw [asIntsL_ints]
noncomputable abbrev kinds : List (Str × Int) := [("foot", 1), ("sum", 2), ("high", 2), ("less", 1)]
noncomputable abbrev parts : List (Str × Int) := [("foot", 0), ("sum", 2), ("high", 2), ("less", 1)]
noncomputable def ar (x : Str) : Option Nat := if x = "foot" then some 1 else if x = "sum" then some 2 else if x = "high" then some 2 else if x = "less" then some 1 else none
theorem ar_cases (x : Str) : (x = "foot" ∧ ar x = some 1) ∨ (x = "sum" ∧ ar x = some 2) ∨ (x = "high" ∧ ar x = some 2) ∨ (x = "less" ∧ ar x = some 1) ∨ (x ≠ "foot" ∧ x ≠ "sum" ∧ x ≠ "high" ∧ x ≠ "less" ∧ ar x = none) := by
  unfold ar
  by_cases h1 : x = "foot"
  · exact .inl ⟨h1, by rw [if_pos h1]⟩
  · by_cases h2 : x = "sum"
    · exact .inr (.inl ⟨h2, by rw [if_neg h1, if_pos h2]⟩)
    · by_cases h3 : x = "high"
      · exact .inr (.inr (.inl ⟨h3, by rw [if_neg h1, if_neg h2, if_pos h3]⟩))
      · by_cases h4 : x = "less"
        · exact .inr (.inr (.inr (.inl ⟨h4, by rw [if_neg h1, if_neg h2, if_neg h3, if_pos h4]⟩)))
        · exact .inr (.inr (.inr (.inr ⟨h1, h2, h3, h4, by rw [if_neg h1, if_neg h2, if_neg h3, if_neg h4]⟩)))
theorem kin (neg : Bool) (x : Str) (s : S) : fIn neg (.d (.str x)) (.d (dicI kinds)) s = .ok (.d (.bl (if neg then !(ar x).isSome else (ar x).isSome))) s := by
  rcases ar_cases x with ⟨rfl, e⟩ | ⟨rfl, e⟩ | ⟨rfl, e⟩ | ⟨rfl, e⟩ | ⟨h1, h2, h3, h4, e⟩
  · rw [e]; rfl
  · rw [e]; rfl
  · rw [e]; rfl
  · rw [e]; rfl
  · rw [e]
    have g : getK (wK (kinds.map fun p : Str × Int => ((Sum.inr p.1 : Key), D.int p.2))) (Sum.inr x : Key) = none := by
      simp [wK, getK, h1.symm, h2.symm, h3.symm, h4.symm]
    have q : fIn neg (.d (.str x)) (.d (dicI kinds)) s = .ok (.d (.bl (if neg then !(getK (wK (kinds.map fun p : Str × Int => ((Sum.inr p.1 : Key), D.int p.2))) (Sum.inr x : Key)).isSome else (getK (wK (kinds.map fun p : Str × Int => ((Sum.inr p.1 : Key), D.int p.2))) (Sum.inr x : Key)).isSome))) s := rfl
    rw [q, g]
    rfl
noncomputable def kk : List (Key × W) := wK (kinds.map fun p : Str × Int => ((Sum.inr p.1 : Key), D.int p.2))
theorem asDic_kinds (s : S) : asDic (.d (dicI kinds)) s = some kk := rfl
@[simp] theorem keyD_str (x : Str) : keyD (.str x) = some (.inr x) := rfl
theorem get_kk (x : Str) (a : Nat) (h : ar x = some a) : getK kk (.inr x) = some (.d (.int a)) := by
  rcases ar_cases x with ⟨rfl, e⟩ | ⟨rfl, e⟩ | ⟨rfl, e⟩ | ⟨rfl, e⟩ | ⟨h1, h2, h3, h4, e⟩ <;> rw [e] at h <;> cases h <;> rfl
theorem pin (neg : Bool) (x : Str) (s : S) : fInKD neg parts (.d (.str x)) s = .ok (.d (.bl (if neg then !(ar x).isSome else (ar x).isSome))) s := by
  rcases ar_cases x with ⟨rfl, e⟩ | ⟨rfl, e⟩ | ⟨rfl, e⟩ | ⟨rfl, e⟩ | ⟨h1, h2, h3, h4, e⟩
  · rw [e]; rfl
  · rw [e]; rfl
  · rw [e]; rfl
  · rw [e]; rfl
  · rw [e]
    have g : parts.lookup x = none := by
      have f1 : (x == ("foot" : Str)) = false := by simpa using h1
      have f2 : (x == ("sum" : Str)) = false := by simpa using h2
      have f3 : (x == ("high" : Str)) = false := by simpa using h3
      have f4 : (x == ("less" : Str)) = false := by simpa using h4
      simp only [List.lookup, f1, f2, f3, f4]
    show Res.ok (W.d (.bl (if neg then !(parts.lookup x).isSome else (parts.lookup x).isSome))) s = _
    rw [g]
    rfl
theorem pix (x : Str) (s : S) (a : Nat) (h : ar x = some a) (hf : x ≠ "foot") : fIxKD parts (.d (.str x)) s = .ok (.d (.int a)) s := by
  rcases ar_cases x with ⟨rfl, e⟩ | ⟨rfl, e⟩ | ⟨rfl, e⟩ | ⟨rfl, e⟩ | ⟨h1, h2, h3, h4, e⟩ <;> rw [e] at h <;> cases h <;> first | rfl | exact absurd rfl hf
noncomputable def TD : Nat → D → Prop
  | 0, _ => False
  | n + 1, .tup (.str x :: l) => l.length ≤ 10 ∧ ∀ d ∈ l, (∃ i, d = .int i) ∨ TD n d
  | _ + 1, _ => False
theorem TD.get {n : Nat} {t : D} (h : TD (n + 1) t) : ∃ x l, t = .tup (.str x :: l) ∧ l.length ≤ 10 ∧ ∀ d ∈ l, (∃ i, d = .int i) ∨ TD n d := by
  cases t with
  | tup l0 =>
    cases l0 with
    | nil => exact h.elim
    | cons d l =>
      cases d with
      | str x => exact ⟨x, l, rfl, h.1, h.2⟩
      | _ => exact h.elim
  | _ => exact h.elim
end TG

set_option linter.all false
set_option maxRecDepth 100000
namespace TG
open PySem L2
noncomputable def inR : D → Bool
  | .int i => decide (0 ≤ i) && decide (i ≤ 7)
  | _ => false
noncomputable def isTupD : D → Bool
  | .tup _ => true
  | _ => false
noncomputable def okT : Nat → D → Bool
  | 0, _ => false
  | n + 1, .tup (.str x :: l) => (match ar x with
    | none => false
    | some a => if l.length = a then (if x = "foot" then l.all inR else l.all fun d => isTupD d && okT n d) else false)
  | _ + 1, _ => false
theorem num_eq (d : D) (s : S) (h : (∃ i, d = .int i) ∨ isTupD d = true) : f_v_law_num [.d d] s = .ok (.w (.d (.bl (!isTupD d)))) s := by
  rcases h with ⟨i, rfl⟩ | h
  · simp [f_v_law_num, runF, b_v_law_num, isTupD]
  · match d, h with
    | .tup l, _ => simp [f_v_law_num, runF, b_v_law_num, isTupD]
theorem isnum_eq (d : D) (s : S) (h : (∃ i, d = .int i) ∨ isTupD d = true) : f_is_number [.d d] s = .ok (.w (.d (.bl (!isTupD d)))) s := by
  rcases h with ⟨i, rfl⟩ | h
  · simp [f_is_number, runF, b_is_number, isTupD]
  · match d, h with
    | .tup l, _ => simp [f_is_number, runF, b_is_number, isTupD]
theorem TD.tup {n : Nat} {t : D} (h : TD n t) : isTupD t = true := by
  cases n with
  | zero => exact h.elim
  | succ n =>
    obtain ⟨x, l, rfl, _⟩ := h.get
    rfl
theorem TD.num {n : Nat} {d : D} (h : (∃ i, d = .int i) ∨ TD n d) : (∃ i, d = .int i) ∨ isTupD d = true := h.imp id TD.tup
theorem cut1 (d : D) (l : List D) : cut (d :: l) (some 1) none = l := by
  have := cut_drop (d :: l) 1 (by simp)
  simpa using this
theorem fEq_strs (neg : Bool) (x y : Str) (b : Bool) (s : S) (e : eqD (.str x) (.str y) = some b) : fEq neg (.d (.str x)) (.d (.str y)) s = .ok (.d (.bl (if neg then !b else b))) s := by
  show (match eqD (.str x) (.str y) with | some k => Res.ok (W.d (.bl (if neg then !k else k))) s | none => .no) = _
  rw [e]
theorem foot_eqB (neg : Bool) (x : Str) (a : Nat) (h : ar x = some a) (s : S) : fEq neg (.d (.str x)) (.d (.str "foot")) s = .ok (.d (.bl (if neg then !decide (x = "foot") else decide (x = "foot")))) s := by
  rcases ar_cases x with ⟨rfl, e⟩ | ⟨rfl, e⟩ | ⟨rfl, e⟩ | ⟨rfl, e⟩ | ⟨h1, h2, h3, h4, e⟩
  · exact fEq_strs neg _ _ true s (by decide +kernel)
  · exact fEq_strs neg _ _ false s (by decide +kernel)
  · exact fEq_strs neg _ _ false s (by decide +kernel)
  · exact fEq_strs neg _ _ false s (by decide +kernel)
  · rw [e] at h; cases h
theorem foot_eq (x : Str) (a : Nat) (h : ar x = some a) (s : S) : fEq false (.d (.str x)) (.d (.str "foot")) s = .ok (.d (.bl (decide (x = "foot")))) s := foot_eqB false x a h s
theorem ok_eq : ∀ (n : Nat) (t : D), TD n t → ∀ (m : Nat) (s : S), n ≤ m → f_v_law_tree_ok m [.d t] s = .ok (.w (.d (.bl (okT n t)))) s
  | 0, t, h, m, s, hm => h.elim
  | n + 1, t, h, 0, s, hm => by omega
  | n + 1, t, h, m + 1, s, hm => by
    obtain ⟨x, l, rfl, hl, ht⟩ := h.get
    have hL : l.length ≤ 16777216 := by omega
    have k1 := kin true x
    have c1 := cut1 (.str x) l
    rw [show f_v_law_tree_ok (m + 1) = runF 1 3 (b_v_law_tree_ok (f_v_law_tree_ok m)) from rfl, runF_eq]
    cases ha : ar x with
    | none =>
      rw [ha] at k1
      simp [b_v_law_tree_ok, k1, okT, ha]
      done
    | some a =>
      rw [ha] at k1
      have k2 := get_kk x a ha
      have k3 := foot_eq x a ha
      have z0 : ¬ ((l.length : Int) + 1 = 0) := by omega
      have z1 : ¬ ((a : Int) + 1 = 0) := by omega
      have z2 : ((a : Int) + 1 == 1 + (a : Int)) = true := by simp; omega
      by_cases hla : l.length = a
      · by_cases hf : x = "foot"
        · subst hf
          have ea : a = 1 := by cases ha; rfl
          subst ea
          match l, hla with
          | [d], _ =>
            have hn := num_eq d
            rcases ht d (by simp) with ⟨i, rfl⟩ | hd
            · by_cases i0 : 0 ≤ i <;> simp [b_v_law_tree_ok, k1, asDic_kinds, k2, k3, okT, ha, hn, inR, isTupD, i0]
            · have ht1 := hd.tup
              match d, ht1 with
              | .tup l1, _ => simp [b_v_law_tree_ok, k1, asDic_kinds, k2, k3, okT, ha, hn, inR, isTupD]
        · simp [b_v_law_tree_ok, k1, asDic_kinds, k2, k3, okT, ha, hla, hf, c1, z1, z2, hL]
          have e1 : wD l = l.map fun d => W.d d := rfl
          rw [e1, lcM_fn' (v := fun d => D.bl (isTupD d && okT n d))]
          rotate_left
          · intro d hd
            refine ⟨_, rfl, ?_⟩
            rcases ht d hd with ⟨i, rfl⟩ | hd
            · simp [isTupD, wipeR]
            · have ih := fun s => ok_eq n d hd m s (by omega)
              have ht1 := hd.tup
              match d, ht1, ih with
              | .tup l1, _, ih => simp [isTupD, ih, wipeR]
          have hA := fAll_bls (l.map fun d => isTupD d && okT n d) s
          rw [List.map_map] at hA
          have hLB : (l.map fun d => D.bl (isTupD d && okT n d)).length ≤ 16777216 := by rw [List.length_map]; exact hL
          have e3 : (l.map (D.bl ∘ fun d => isTupD d && okT n d)) = l.map fun d => D.bl (isTupD d && okT n d) := rfl
          rw [e3] at hA
          generalize (l.map fun d => D.bl (isTupD d && okT n d)) = LB at *
          have haL : a ≤ 16777216 := by omega
          simp [haL, hA, List.all_map, wipeR, -rng1_eq]
      · have z3 : ((l.length : Int) + 1 == 1 + (a : Int)) = false := by simp; omega
        simp [b_v_law_tree_ok, k1, asDic_kinds, k2, okT, ha, hla, z0, z3]
        done
end TG

set_option linter.all false
set_option maxRecDepth 100000
namespace TG
open PySem L2
noncomputable def deepT : Nat → D → Int
  | 0, _ => 0
  | n + 1, .tup (.str x :: l) => if x = "foot" then 1 else 1 + maxI (l.map (deepT n))
  | _ + 1, _ => 0
noncomputable def partsT : Nat → D → Int
  | 0, _ => 0
  | n + 1, .tup (.str x :: l) => if x = "foot" then 1 else 1 + (l.map (partsT n)).sum
  | _ + 1, _ => 0
theorem ok_get {n : Nat} {t : D} (h : okT n t = true) : ∃ k x l a, n = k + 1 ∧ t = .tup (.str x :: l) ∧ ar x = some a ∧ l.length = a ∧ ((x = "foot" ∧ ∃ i, l = [.int i] ∧ 0 ≤ i ∧ i ≤ 7) ∨ (x ≠ "foot" ∧ ∀ d ∈ l, okT k d = true)) := by
  cases n with
  | zero => cases h
  | succ k =>
    unfold okT at h
    split at h
    · cases h
    · rename_i k' x l e1
      cases e1
      split at h
      · cases h
      · rename_i a ha
        split at h
        · rename_i hla
          refine ⟨_, x, l, a, rfl, rfl, ha, hla, ?_⟩
          split at h
          · rename_i hf
            subst hf
            have ea : a = 1 := by cases ha; rfl
            subst ea
            match l, hla with
            | [d], _ =>
              simp only [List.all_cons, List.all_nil, Bool.and_true] at h
              cases d with
              | int i =>
                simp only [inR, Bool.and_eq_true, decide_eq_true_eq] at h
                exact .inl ⟨rfl, i, rfl, h.1, h.2⟩
              | _ => cases h
          · rename_i hf
            rw [List.all_eq_true] at h
            exact .inr ⟨hf, fun d hd => by have := h d hd; rw [Bool.and_eq_true] at this; exact this.2⟩
        · cases h
    · cases h
theorem ar_pos {x : Str} {a : Nat} (h : ar x = some a) : 1 ≤ a ∧ a ≤ 2 := by
  rcases ar_cases x with ⟨rfl, e⟩ | ⟨rfl, e⟩ | ⟨rfl, e⟩ | ⟨rfl, e⟩ | ⟨h1, h2, h3, h4, e⟩ <;> rw [e] at h <;> cases h <;> omega
theorem deep_eq : ∀ (n : Nat) (t : D), okT n t = true → ∀ (m : Nat) (s : S), n ≤ m → f_v_law_deep m [.d t] s = .ok (.w (.d (.int (deepT n t)))) s
  | n, t, h, 0, s, hm => by
    obtain ⟨k, x, l, a, rfl, _⟩ := ok_get h
    omega
  | 0, t, h, m + 1, s, hm => by cases h
  | n + 1, t, h, m + 1, s, hm => by
    obtain ⟨k, x, l, a, e, rfl, ha, hla, hc⟩ := ok_get h
    cases e
    have ap := ar_pos ha
    have hL : l.length ≤ 16777216 := by omega
    have k3 := foot_eq x a ha
    have c1 := cut1 (.str x) l
    rw [show f_v_law_deep (m + 1) = runF 1 2 (b_v_law_deep (f_v_law_deep m)) from rfl, runF_eq]
    rcases hc with ⟨rfl, i, rfl, i0, i1⟩ | ⟨hf, hall⟩
    · simp [b_v_law_deep, k3, deepT]
    · simp [b_v_law_deep, k3, hf, c1, hL]
      have e1 : wD l = l.map fun d => W.d d := rfl
      rw [e1, lcM_fn' (v := fun d => D.int (deepT n d))]
      rotate_left
      · intro d hd
        have ih := fun s => deep_eq n d (hall d hd) m s (by omega)
        exact ⟨_, rfl, by simp [ih, wipeR]⟩
      have hne : l.map (deepT n) ≠ [] := by
        cases l with
        | nil => simp at hla; omega
        | cons _ _ => simp
      have hA := fMaxL_ints (l.map (deepT n)) s
      rw [maxI_some hne, List.map_map] at hA
      have e3 : (l.map (D.int ∘ deepT n)) = l.map fun d => D.int (deepT n d) := rfl
      rw [e3] at hA
      have hLB : (l.map fun d => D.int (deepT n d)).length ≤ 16777216 := by rw [List.length_map]; exact hL
      generalize (l.map fun d => D.int (deepT n d)) = LB at *
      simp [hL, hA, deepT, hf, wipeR, -rng1_eq]
theorem fSum_ints (l : List Int) (s : S) : fSum (.d (.lst (l.map .int))) s = .ok (.d (.int l.sum)) s := by
  show (match asIntsL (.d (.lst (l.map .int))) s with | some l => Res.ok (W.d (.int l.sum)) s | none => .no) = _
  rw [asIntsL_ints]
theorem parts_eq : ∀ (n : Nat) (t : D), okT n t = true → ∀ (m : Nat) (s : S), n ≤ m → f_v_law_parts m [.d t] s = .ok (.w (.d (.int (partsT n t)))) s
  | n, t, h, 0, s, hm => by
    obtain ⟨k, x, l, a, rfl, _⟩ := ok_get h
    omega
  | 0, t, h, m + 1, s, hm => by cases h
  | n + 1, t, h, m + 1, s, hm => by
    obtain ⟨k, x, l, a, e, rfl, ha, hla, hc⟩ := ok_get h
    cases e
    have ap := ar_pos ha
    have hL : l.length ≤ 16777216 := by omega
    have k3 := foot_eq x a ha
    have c1 := cut1 (.str x) l
    rw [show f_v_law_parts (m + 1) = runF 1 2 (b_v_law_parts (f_v_law_parts m)) from rfl, runF_eq]
    rcases hc with ⟨rfl, i, rfl, i0, i1⟩ | ⟨hf, hall⟩
    · simp [b_v_law_parts, k3, partsT]
    · simp [b_v_law_parts, k3, hf, c1, hL]
      have e1 : wD l = l.map fun d => W.d d := rfl
      rw [e1, lcM_fn' (v := fun d => D.int (partsT n d))]
      rotate_left
      · intro d hd
        have ih := fun s => parts_eq n d (hall d hd) m s (by omega)
        exact ⟨_, rfl, by simp [ih, wipeR]⟩
      have hA := fSum_ints (l.map (partsT n)) s
      rw [List.map_map] at hA
      have e3 : (l.map (D.int ∘ partsT n)) = l.map fun d => D.int (partsT n d) := rfl
      rw [e3] at hA
      generalize (l.map fun d => D.int (partsT n d)) = LB at *
      simp [hL, hA, partsT, hf, wipeR, -rng1_eq]
theorem count_eq : ∀ (n : Nat) (t : D), okT n t = true → ∀ (m : Nat) (s : S), n ≤ m → f_count_parts m [.d t] s = .ok (.w (.d (.int (partsT n t)))) s
  | n, t, h, 0, s, hm => by
    obtain ⟨k, x, l, a, rfl, _⟩ := ok_get h
    omega
  | 0, t, h, m + 1, s, hm => by cases h
  | n + 1, t, h, m + 1, s, hm => by
    obtain ⟨k, x, l, a, e, rfl, ha, hla, hc⟩ := ok_get h
    cases e
    have ap := ar_pos ha
    have hL : l.length ≤ 16777216 := by omega
    have k3 := foot_eq x a ha
    have c1 := cut1 (.str x) l
    rw [show f_count_parts (m + 1) = runF 1 2 (b_count_parts (f_count_parts m)) from rfl, runF_eq]
    rcases hc with ⟨rfl, i, rfl, i0, i1⟩ | ⟨hf, hall⟩
    · simp [b_count_parts, k3, partsT]
    · simp [b_count_parts, k3, hf, c1, hL]
      have e1 : wD l = l.map fun d => W.d d := rfl
      rw [e1, lcM_fn' (v := fun d => D.int (partsT n d))]
      rotate_left
      · intro d hd
        have ih := fun s => count_eq n d (hall d hd) m s (by omega)
        exact ⟨_, rfl, by simp [ih, wipeR]⟩
      have hA := kSum1_ints (l.map (partsT n)) s
      rw [List.map_map] at hA
      have e3 : (l.map (D.int ∘ partsT n)) = l.map fun d => D.int (partsT n d) := rfl
      rw [e3] at hA
      generalize (l.map fun d => D.int (partsT n d)) = LB at *
      simp [hL, hA, partsT, hf, wipeR, -rng1_eq]
end TG

set_option linter.all false
set_option maxRecDepth 100000
namespace TG
open PySem L2
@[simp] theorem kit_ss : kitB "str" "str" = some true := by decide +kernel
theorem maxI_leT {l : List Int} (h : l ≠ []) (k : Int) : maxI l ≤ k ↔ ∀ x ∈ l, x ≤ k := by
  have e := List.max?_eq_some_iff.mp (maxI_some h)
  constructor
  · intro q x hx
    have := e.2 x hx
    omega
  · intro q
    exact q _ e.1
theorem deep_pos : ∀ (n : Nat) (t : D), okT n t = true → 1 ≤ deepT n t
  | 0, t, h => by cases h
  | n + 1, t, h => by
    obtain ⟨k, x, l, a, e, rfl, ha, hla, hc⟩ := ok_get h
    cases e
    rw [deepT]
    rcases hc with ⟨rfl, i, rfl, i0, i1⟩ | ⟨hf, hall⟩
    · rw [if_pos rfl]; omega
    · rw [if_neg hf]
      have ap := ar_pos ha
      cases l with
      | nil => simp at hla; omega
      | cons d l =>
        have h1 := deep_pos n d (hall d (by simp))
        have h2 := (maxI_leT (l := (d :: l).map (deepT n)) (by simp) (maxI ((d :: l).map (deepT n)))).mp (Int.le_refl _) (deepT n d) (by simp)
        omega
noncomputable def shT (n : Nat) (k : Nat) (t : D) : Bool := okT n t && decide (deepT n t ≤ k)
theorem shaped_eq : ∀ (n : Nat) (t : D), TD n t → ∀ (m : Nat) (k : Nat) (s : S), n ≤ m → f_shaped m [.d t, .d (.int k)] s = .ok (.w (.d (.bl (shT n k t)))) s
  | 0, t, h, m, k, s, hm => h.elim
  | n + 1, t, h, 0, k, s, hm => by omega
  | n + 1, t, h, m + 1, k, s, hm => by
    obtain ⟨x, l, rfl, hl, ht⟩ := h.get
    have hL : l.length ≤ 16777216 := by omega
    have k1 := pin true x
    have c1 := cut1 (.str x) l
    rw [show f_shaped (m + 1) = runF 2 3 (b_shaped (f_shaped m)) from rfl, runF_eq]
    by_cases hk0 : k = 0
    · subst hk0
      have : shT (n + 1) 0 (.tup (.str x :: l)) = false := by
        unfold shT
        cases q : okT (n + 1) (.tup (.str x :: l)) with
        | false => rfl
        | true =>
          have := deep_pos _ _ q
          simp
          omega
      rw [this]
      simp [b_shaped]
    have z0 : ¬ ((l.length : Int) + 1 = 0) := by omega
    cases ha : ar x with
    | none =>
      rw [ha] at k1
      simp [b_shaped, k1, shT, okT, ha, hk0, z0]
    | some a =>
      rw [ha] at k1
      have k2 := fun s hf => pix x s a ha hf
      have k3 := foot_eq x a ha
      have ap := ar_pos ha
      by_cases hf : x = "foot"
      · subst hf
        have ea : a = 1 := by cases ha; rfl
        subst ea
        by_cases hla : l.length = 1
        · match l, hla with
          | [d], _ =>
            have hn := isnum_eq d
            have k4 : (1 : Int) ≤ k := by omega
            rcases ht d (by simp) with ⟨i, rfl⟩ | hd
            · by_cases i0 : 0 ≤ i <;> simp [b_shaped, k1, k3, shT, okT, ha, hn, inR, isTupD, i0, hk0, deepT, k4]
            · have ht1 := hd.tup
              match d, ht1 with
              | .tup l1, _ => simp [b_shaped, k1, k3, shT, okT, ha, hn, inR, isTupD, hk0]
        · have z3 : ((l.length : Int) + 1 == 2) = false := by simp; omega
          simp [b_shaped, k1, k3, shT, okT, ha, hla, hk0, z0, z3]
      · have k2 := fun s => k2 s hf
        have z1 : ¬ ((a : Int) + 1 = 0) := by omega
        have z2 : ((a : Int) + 1 == 1 + (a : Int)) = true := by simp; omega
        by_cases hla : l.length = a
        · simp [b_shaped, k1, k2, k3, hla, hf, c1, z1, z2, hL, hk0]
          have e1 : wD l = l.map fun d => W.d d := rfl
          rw [e1, lcM_fn' (v := fun d => D.bl (isTupD d && shT n (k - 1) d))]
          rotate_left
          · intro d hd
            refine ⟨_, rfl, ?_⟩
            rcases ht d hd with ⟨i, rfl⟩ | hd
            · simp [isTupD, wipeR]
            · have ih := fun s => shaped_eq n d hd m (k - 1) s (by omega)
              rw [show (((k - 1 : Nat)) : Int) = (k : Int) - 1 by omega] at ih
              have ht1 := hd.tup
              match d, ht1, ih with
              | .tup l1, _, ih => simp [isTupD, ih, wipeR]
          have hA := fAll_bls (l.map fun d => isTupD d && shT n (k - 1) d) s
          rw [List.map_map] at hA
          have hLB : (l.map fun d => D.bl (isTupD d && shT n (k - 1) d)).length ≤ 16777216 := by rw [List.length_map]; exact hL
          have e3 : (l.map (D.bl ∘ fun d => isTupD d && shT n (k - 1) d)) = l.map fun d => D.bl (isTupD d && shT n (k - 1) d) := rfl
          rw [e3] at hA
          have hV : ((l.map fun d => isTupD d && shT n (k - 1) d).all id) = shT (n + 1) k (.tup (.str x :: l)) := by
            rw [Bool.eq_iff_iff, List.all_map]
            have hne : l.map (deepT n) ≠ [] := by
              cases l with
              | nil => simp at hla; omega
              | cons _ _ => simp
            simp only [shT, okT, ha, hla, hf, if_true, if_false, deepT, List.all_eq_true, Bool.and_eq_true, decide_eq_true_eq, Function.comp_apply, id]
            constructor
            · intro q
              refine ⟨fun d hd => ⟨(q d hd).1, (q d hd).2.1⟩, ?_⟩
              have := (maxI_leT hne ((k : Int) - 1)).mpr (fun y hy => by
                obtain ⟨d, hd, rfl⟩ := List.mem_map.mp hy
                have := (q d hd).2.2
                omega)
              omega
            · rintro ⟨q1, q2⟩ d hd
              refine ⟨(q1 d hd).1, (q1 d hd).2, ?_⟩
              have := (maxI_leT hne ((k : Int) - 1)).mp (by omega) (deepT n d) (List.mem_map.mpr ⟨d, hd, rfl⟩)
              omega
          rw [hV] at hA
          generalize (l.map fun d => D.bl (isTupD d && shT n (k - 1) d)) = LB at *
          have haL : a ≤ 16777216 := by omega
          simp [haL, hA, wipeR, -rng1_eq]
        · have z3 : ((l.length : Int) + 1 == 1 + (a : Int)) = false := by simp; omega
          simp [b_shaped, k1, k2, k3, shT, okT, ha, hla, hk0, hf, z0, z3]
noncomputable def goodT (t : D) : Bool := okT 12 t && (decide (deepT 12 t ≤ 5) && decide (partsT 12 t ≤ 15))
theorem good_eq (t : D) (s : S) (h : TD 12 t) : f_v_law_good_tree [.d t] s = .ok (.w (.d (.bl (goodT t)))) s := by
  have h1 := fun s => ok_eq 12 t h 12 s (Nat.le_refl _)
  rw [f_v_law_good_tree, runF_eq]
  unfold goodT
  cases e : okT 12 t with
  | false =>
    rw [e] at h1
    simp [b_v_law_good_tree, h1]
  | true =>
    rw [e] at h1
    have h2 := fun s => deep_eq 12 t e 12 s (Nat.le_refl _)
    have h3 := fun s => parts_eq 12 t e 12 s (Nat.le_refl _)
    by_cases c : deepT 12 t ≤ 5
    · simp [b_v_law_good_tree, h1, h2, h3, c]
    · simp [b_v_law_good_tree, h1, h2, c]
theorem isTree_eq (t : D) (s : S) (h : TD 12 t) : f_is_tree [.d t] s = .ok (.w (.d (.bl (goodT t)))) s := by
  have h1 := fun s => shaped_eq 12 t h 12 5 s (Nat.le_refl _)
  rw [f_is_tree, runF_eq]
  unfold goodT
  unfold shT at h1
  cases e : okT 12 t with
  | false =>
    rw [e] at h1
    simp at h1
    simp [b_is_tree, h1]
  | true =>
    rw [e] at h1
    have h3 := fun s => count_eq 12 t e 12 s (Nat.le_refl _)
    by_cases c : deepT 12 t ≤ 5
    · simp [c] at h1
      simp [b_is_tree, h1, h3, c]
    · simp [c] at h1
      simp [b_is_tree, h1, c]
end TG

set_option linter.all false
set_option maxRecDepth 100000
namespace TG
open PySem L2
end TG

set_option linter.all false
set_option maxRecDepth 100000
namespace TG
open PySem L2
theorem good_get {t : D} (g : goodT t = true) : okT 12 t = true ∧ partsT 12 t ≤ 15 := by
  unfold goodT at g
  simp only [Bool.and_eq_true, decide_eq_true_eq] at g
  exact ⟨g.1, g.2.2⟩
end TG

set_option linter.all false
set_option maxRecDepth 100000
namespace TG
open PySem L2
noncomputable def RowNear (rim l : List Int) (m a : Int) (row : List (Option (Int × Int))) : Prop := ∀ (p : Nat) (q : Int × Int), row[p]? = some (some q) → q.1 ≤ liftV rim l m (a + p) ∧ liftV rim l m (a + p) ≤ q.2 ∧ liftV rim l m (a + p) - 2 ≤ q.1
theorem RowNear.ok {rim l : List Int} {m a : Int} {row : List (Option (Int × Int))} (h : RowNear rim l m a row) : ∀ q, some q ∈ row → q.1 ≤ q.2 := fun q hq => by
  obtain ⟨p, hp⟩ := List.mem_iff_getElem?.mp hq
  have := h p q hp
  omega
end TG

set_option linter.all false
set_option maxRecDepth 100000
namespace TG
open PySem L2
noncomputable def EasyR (row : List (Option (Int × Int))) (row' : List (Option (Int × Int))) : Prop := row'.length = row.length ∧ ∀ (p : Nat) (q' : Int × Int), row'[p]? = some (some q') → ∃ q, row[p]? = some (some q) ∧ q'.1 ≤ q.1 ∧ q.2 ≤ q'.2
theorem EasyR.nil : EasyR [] [] := ⟨rfl, fun p q h => by simp at h⟩
end TG

set_option linter.all false
set_option maxRecDepth 100000
namespace TG
open PySem L2
end TG

set_option linter.all false
set_option maxRecDepth 100000
namespace TG
open PySem L2
end TG

set_option linter.all false
set_option maxRecDepth 100000
namespace TG
open PySem L2
end TG

set_option linter.all false
set_option maxRecDepth 100000
namespace TG
open PySem L2
end TG

set_option linter.all false
set_option maxRecDepth 100000
namespace TG
open PySem L2
end TG

set_option linter.all false
set_option maxRecDepth 100000
namespace TG
open PySem L2
variable {n : Nat} {f : Int → Int} {t : Int}
end TG

set_option linter.all false
set_option maxRecDepth 100000
namespace TG
open PySem L2
variable {n : Nat} {f : Int → Int} {t : Int}
end TG

set_option linter.all false
set_option maxRecDepth 100000
namespace TG
open PySem L2
variable {n : Nat} {f : Int → Int} {t : Int}
end TG

set_option linter.all false
set_option maxRecDepth 100000
namespace TG
open PySem L2
end TG

set_option linter.all false
set_option maxRecDepth 100000
namespace TG
open PySem L2
end TG

set_option linter.all false
set_option maxRecDepth 100000
namespace TG
open PySem L2
end TG

set_option linter.all false
set_option maxRecDepth 100000
namespace TG
open PySem L2
theorem height_wp' (b : Bag) (t : S) : wE nE (fun v s => ∃ (x : Int) (b' : Bag), v = .w (.d (.int x)) ∧ s = b'.cell :: t) (f_v_law_height [.r 0] (b.cell :: t)) := by
  obtain ⟨x, b', e⟩ := height_spec b t
  exact wE_of e ⟨x, b', rfl, rfl⟩
end TG

set_option linter.all false
set_option maxRecDepth 100000
namespace TG
open PySem L2
theorem TD.up : ∀ {n : Nat} {t : D}, TD n t → TD (n + 1) t
  | 0, t, h => h.elim
  | n + 1, t, h => by
    obtain ⟨x, l, rfl, hl, ht⟩ := h.get
    exact ⟨hl, fun d hd => (ht d hd).imp id TD.up⟩
theorem TD.mk {n : Nat} {x : Str} {l : List D} (hl : l.length ≤ 10) (h : ∀ d ∈ l, (∃ i, d = .int i) ∨ TD n d) : TD (n + 1) (.tup (.str x :: l)) := ⟨hl, h⟩
theorem okTD : ∀ {n : Nat} {t : D}, okT n t = true → TD n t
  | 0, t, h => by cases h
  | n + 1, t, h => by
    obtain ⟨k, x, l, a, e, rfl, ha, hla, hc⟩ := ok_get h
    cases e
    have ap := ar_pos ha
    refine TD.mk (by omega) fun d hd => ?_
    rcases hc with ⟨rfl, i, rfl, i0, i1⟩ | ⟨hf, hall⟩
    · exact .inl ⟨i, List.mem_singleton.mp hd⟩
    · exact .inr (okTD (hall d hd))
theorem ok_foot (n : Nat) (i : Int) (h0 : 0 ≤ i) (h1 : i < 8) : okT (n + 1) (.tup [.str "foot", .int i]) = true := by
  have ha : ar "foot" = some 1 := rfl
  have h2 : i ≤ 7 := by omega
  simp [okT, ha, inR, h0, h2]
theorem ok_mk (n : Nat) (x : Str) (l : List D) (a : Nat) (ha : ar x = some a) (hf : x ≠ "foot") (hl : l.length = a) (h : ∀ d ∈ l, okT n d = true) : okT (n + 1) (.tup (.str x :: l)) = true := by
  unfold okT
  rw [ha]
  show (if l.length = a then (if x = "foot" then l.all inR else l.all fun d => isTupD d && okT n d) else false) = true
  rw [if_pos hl, if_neg hf, List.all_eq_true]
  intro d hd
  rw [h d hd, (okTD (h d hd)).tup]
  rfl
noncomputable def PTr (n : Nat) (t : S) (v : RV) (s : S) : Prop := ∃ (d : D) (b' : Bag), v = .w (.d d) ∧ s = b'.cell :: t ∧ okT n d = true
theorem tree_wp : ∀ (n : Nat) (k : Int) (b : Bag) (t : S), k ≤ n → 1 ≤ n → ∀ m : Nat, n ≤ m → wE nE (PTr n t) (f_v_law_tree m [.r 0, .d (.int k)] (b.cell :: t))
  | 0, k, b, t, h1, h2, m, hm => by omega
  | n + 1, k, b, t, h1, h2, 0, hm => by omega
  | n + 1, k, b, t, h1, h2, m + 1, hm => by
    rw [show f_v_law_tree (m + 1) = runF 2 3 (b_v_law_tree (f_v_law_tree m)) from rfl]
    refine wE_fn (by rfl) ?_
    simp [b_v_law_tree, wipeR, -rng1_eq]
    refine wS_use (pull_wp _ _ _ (by decide) (by decide)) ?_
    rintro _ _ ⟨w, b, rfl, rfl, w0, w1⟩
    simp [wipeR, -rng1_eq]
    by_cases c1 : k < 2
    · simp [c1, wipeR, -rng1_eq]
      refine wS_use (pull_wp _ _ _ (by decide) (by decide)) ?_
      rintro _ _ ⟨i, b, rfl, rfl, i0, i1⟩
      simp [wipeR, -rng1_eq]
      exact ⟨_, b, rfl, rfl, ok_foot n i i0 i1⟩
    by_cases c2 : w < 1
    · simp [c1, c2, wipeR, -rng1_eq]
      refine wS_use (pull_wp _ _ _ (by decide) (by decide)) ?_
      rintro _ _ ⟨i, b, rfl, rfl, i0, i1⟩
      simp [wipeR, -rng1_eq]
      exact ⟨_, b, rfl, rfl, ok_foot n i i0 i1⟩
    have ih := fun b => tree_wp n (k - 1) b t (by omega) (by omega) m (by omega)
    by_cases c3 : w < 2
    · simp [c1, c2, c3, wipeR, -rng1_eq]
      refine wS_use (ih _) ?_
      rintro _ _ ⟨d, b, rfl, rfl, hd⟩
      simp [wipeR, -rng1_eq]
      exact ⟨_, b, rfl, rfl, ok_mk n "less" [d] 1 rfl (by decide +kernel) rfl (by simpa using hd)⟩
    · simp [c1, c2, c3, wipeR, -rng1_eq]
      obtain ⟨x, hx, hxf, ex⟩ : ∃ x : Str, ar x = some 2 ∧ x ≠ "foot" ∧ atI (wD [.str "sum", .str "high", .str "sum"]) (w - 2) = some (.d (.str x)) := by
        have : w = 2 ∨ w = 3 ∨ w = 4 := by omega
        rcases this with rfl | rfl | rfl
        · exact ⟨"sum", rfl, by decide +kernel, rfl⟩
        · exact ⟨"high", rfl, by decide +kernel, rfl⟩
        · exact ⟨"sum", rfl, by decide +kernel, rfl⟩
      simp at ex
      simp [ex, wipeR, -rng1_eq]
      refine wS_use (ih _) ?_
      rintro _ _ ⟨d, b, rfl, rfl, hd⟩
      simp [wipeR, -rng1_eq]
      refine wS_use (ih _) ?_
      rintro _ _ ⟨e, b, rfl, rfl, he⟩
      simp [wipeR, -rng1_eq]
      exact ⟨_, b, rfl, rfl, ok_mk n x [d, e] 2 hx hxf rfl (by
        intro y hy
        rcases List.mem_cons.mp hy with rfl | hy
        · exact hd
        · rw [List.mem_singleton.mp hy]; exact he)⟩
end TG

set_option Elab.async false
set_option linter.all false
set_option maxRecDepth 100000
set_option maxHeartbeats 4000000
namespace TG
open PySem PySem.Spec PyProof.Rows L2
noncomputable def sFrzD (i : Nat) (b : Stm) : Stm := fun ρ s => match ρ[i]? with
  | some (.ownD l) => (match allDataK l with | some ds => b (ρ.set i (.w (.d (.dic ds)))) s | none => .no)
  | _ => .no
section
variable {X : Cx} {cl : Str → Option Addr} {Wx : WX} {e o : Expr} {pos p1 p2 p3 p : Pos} {eo ei : Cmp TG.W} {sts : List Stmt} {b : Stm}
theorem jb_frzD (k : Nat) (h : JB cl Wx X sts b) : JB cl Wx X sts (sFrzD k b) := PSs.weaken h fun E σ H ⟨H0, m, ow, s, ρ, cx, h⟩ => by
  unfold sFrzD at h
  split at h
  · rename_i l e0
    split at h
    · rename_i ds e1
      obtain ⟨p, vs, h1, h2, h3, h4⟩ := cx.en.slot k _ e0
      obtain ⟨o1, o2, o3⟩ := cx.en.owns p h2
      have rd := h4.data e1
      have s0 : Same H0 (upd H0 p (.dK vs)) := same_upd o2
      refine ⟨upd H0 p (.dK vs), m, ow.filter (· ≠ p), s, _, ⟨cx.st.freeze o2 h3 o3, ?_⟩, RunS.shift h ?_⟩
      · refine ⟨by simp [cx.en.len], fun j y hj => ?_, fun j k' y z q a1 a2 a3 a4 a5 a6 => ?_, fun q hq => ?_⟩
        · by_cases hjk : k = j
          · subst hjk
            have hl : k < ρ.length := (List.getElem?_eq_some_iff.mp e0).1
            rw [List.getElem?_set_self hl] at hj
            cases hj
            exact ⟨_, h1, Rep.dic upd_same (rd.mono s0)⟩
          · rw [List.getElem?_set_ne hjk] at hj
            have q := cx.en.slot j y hj
            have nn : ∀ r : Addr, σ[j]? = some (some (.ref r)) → y.isOwn = true → r ≠ p := fun r hr hy z => hjk (cx.en.apart k j _ y p e0 hj rfl hy h1 (by rw [hr, z]))
            cases y with
            | no => trivial
            | w x =>
              obtain ⟨u, b1, b2⟩ := q
              exact ⟨u, b1, b2.mono s0 List.prefix_rfl⟩
            | own l' => obtain ⟨r, us, b1, b2, b3, b4⟩ := q; exact ⟨r, us, b1, by simp [b2, nn r b1 rfl], b3, b4.mono s0 List.prefix_rfl⟩
            | ownD l' => obtain ⟨r, us, b1, b2, b3, b4⟩ := q; exact ⟨r, us, b1, by simp [b2, nn r b1 rfl], b3, b4.mono s0 List.prefix_rfl⟩
            | ownI n l' => obtain ⟨r, C, dx, fs, b1, b2, b3, b4, b5⟩ := q; exact ⟨r, C, dx, fs, b1, by simp [b2, nn r b1 rfl], b3, b4, b5.mono s0 List.prefix_rfl⟩
        · have g : ∀ {j : Nat} {y : EV}, (ρ.set k (.w (.d (.dic ds))))[j]? = some y → y.isOwn = true → ρ[j]? = some y := fun {j y} h hy => by
            by_cases hjk : k = j
            · subst hjk
              have hl : k < ρ.length := (List.getElem?_eq_some_iff.mp e0).1
              rw [List.getElem?_set_self hl] at h
              cases h; cases hy
            · rw [List.getElem?_set_ne hjk] at h; exact h
          exact cx.en.apart j k' y z q (g a1 a3) (g a2 a4) a3 a4 a5 a6
        · simp only [List.mem_filter, decide_eq_true_eq] at hq
          obtain ⟨b1, b2, b3⟩ := cx.en.owns q hq.1
          exact ⟨b1, by rw [upd_ne hq.2]; exact b2, b3⟩
      · refine ⟨s0, List.prefix_rfl, fun a o e _ _ => e, fun a e => e, fun a e e1 e2 e3 => ?_, fun a e => .inl e, fun a e => .inl (List.mem_filter.mp e).1⟩
        have : a ≠ p := fun z => e2 (z ▸ h2)
        rw [upd_ne this]; exact e3
    · exact h.elim
  · exact h.elim
end
end TG

set_option Elab.async false
set_option linter.all false
set_option maxRecDepth 100000
set_option maxHeartbeats 4000000
namespace TG
open PySem PySem.Spec PyProof.Rows L2
theorem call_dict_of {X : Cx} : CallR X (.type "dict") (fun xs H Q => ∃ p kvs, xs = [.ref p] ∧ H p = some (.dK kvs) ∧ ∀ l, H l = none → Q (.ref l) (upd H l (.dK kvs))) := by
  intro pins s σ H xs us Q I r h
  obtain ⟨p, ys, rfl, hq, q⟩ := h
  obtain ⟨u, rfl, rx⟩ := vals1 r
  cases rx
  exact d_copyOf I (.inl hq) fun l s' hl I' => ⟨.ref l, _, I', rfl, q l hl⟩
section
variable {X : Cx} {cl : Str → Option Addr} {Wx : WX} {e : Expr} {pos p : Pos} {el : Cmp (List TG.W)}
end
noncomputable def frzDk : List (Key × TG.W) → S → Res TG.W := fun l s => match allDataK l with | some ds => .ok (.d (.dic ds)) s | none => .no
noncomputable def eFrzD (a : Cmp (List (Key × TG.W))) : Cmp TG.W := fun ρ s => (a ρ s).bind frzDk
section
variable {X : Cx} {cl : Str → Option Addr} {Wx : WX} {e : Expr} {el : Cmp (List (Key × TG.W))}
theorem je_frzD (h : JD cl Wx X e el) : JE cl Wx X e (eFrzD el) :=
  PE.weaken h fun σ H Q ⟨H0, m, ow, s, ρ, cx, h⟩ => ⟨H0, m, ow, s, ρ, cx, by
    have h : RunE X.K cl (rrW X.K cl) Wx H0 H m σ Q ((el ρ s).bind frzDk) := h
    cases e1 : el ρ s with
    | no => rw [e1] at h; exact h.elim
    | exc c x s' => rw [e1] at h; exact h
    | ok l s' =>
      rw [e1] at h
      have h : RunE X.K cl (rrW X.K cl) Wx H0 H m σ Q (match allDataK l with | some ds => .ok (.d (.dic ds)) s' | none => .no) := h
      cases e2 : allDataK l with
      | none => rw [e2] at h; exact h.elim
      | some ds =>
        rw [e2] at h
        intro v H0' H' m' g st ⟨p, vs, h1, h2, h3, h4, h5, h6⟩
        exact h v (upd H0' p (.dK vs)) H' m' (g.freeze cx.st h2) (st.freeze h4 h3 h5) (by
          subst h1
          exact Rep.dic upd_same ((h6.data e2).mono (same_upd h4)))⟩
end
end TG

set_option linter.all false
set_option maxRecDepth 100000
namespace TG
open PySem L2
noncomputable def b_v_law_full_tree (fr : Sem1) : Stm :=
  (sSeq (sIf (eTest (eBin fLt (eVar 1) (eC (.int 2)))) (sRet (eTup (eCons (eC (.str "foot")) (eCons (eCall f_v_law_pull (eCons (eVar 0) (eCons (eC (.int 8)) eNil))) eNil)))) sNext)
  (sRet (eTup (eCons (eBin fIx (eFrz (eLst (eCons (eC (.str "sum")) (eCons (eC (.str "high")) eNil)))) (eCall f_v_law_pull (eCons (eVar 0) (eCons (eC (.int 2)) eNil)))) (eCons (eCall fr (eCons (eVar 0) (eCons (eBin fSub (eVar 1) (eC (.int 1))) eNil))) (eCons (eCall fr (eCons (eVar 0) (eCons (eBin fSub (eVar 1) (eC (.int 1))) eNil))) eNil))))))
noncomputable def f_v_law_full_tree : Nat → Sem1
  | 0 => fun _ _ => .no
  | n + 1 => runF 2 2 (b_v_law_full_tree (f_v_law_full_tree n))
noncomputable def b_v_law_small_tree : Stm :=
  (sSeq (sIf (eTest (eBin (fEq false) (eCall f_v_law_pull (eCons (eVar 0) (eCons (eC (.int 8)) eNil))) (eC (.int 0)))) (sRet (eCall (f_v_law_full_tree 12) (eCons (eVar 0) (eCons (eC (.int 4)) eNil)))) sNext)
  (sSeq (sSet 1 (eCall (f_v_law_tree 12) (eCons (eVar 0) (eCons (eBin fAdd (eC (.int 1)) (eCall f_v_law_pull (eCons (eVar 0) (eCons (eC (.int 5)) eNil)))) eNil))))
  (sRet (eIf (eTest (eCall f_v_law_good_tree (eCons (eVar 1) eNil))) (eVar 1) (eTup (eCons (eC (.str "less")) (eCons (eTup (eCons (eC (.str "foot")) (eCons (eCall f_v_law_pull (eCons (eVar 0) (eCons (eC (.int 8)) eNil))) eNil))) eNil)))))))
noncomputable def f_v_law_small_tree : Sem1 := runF 1 2 b_v_law_small_tree
end TG

set_option linter.all false
set_option maxRecDepth 100000
namespace TG
open PySem L2
noncomputable def dI (z : List (Key × Int)) : D := .dic (z.map fun p => (p.1, D.int p.2))
noncomputable def ofO : Option Int → D | some i => .int i | none => .non
theorem q1 (s : S) : fEq false (.d (.str "sum")) (.d (.str "sum")) s = .ok (.d (.bl true)) s := fEq_strs false _ _ true s (by decide +kernel)
theorem q2 (s : S) : fEq false (.d (.str "high")) (.d (.str "sum")) s = .ok (.d (.bl false)) s := fEq_strs false _ _ false s (by decide +kernel)
theorem q3 (s : S) : fEq false (.d (.str "less")) (.d (.str "sum")) s = .ok (.d (.bl false)) s := fEq_strs false _ _ false s (by decide +kernel)
theorem q4 (s : S) : fEq false (.d (.str "high")) (.d (.str "high")) s = .ok (.d (.bl true)) s := fEq_strs false _ _ true s (by decide +kernel)
theorem q5 (s : S) : fEq false (.d (.str "less")) (.d (.str "high")) s = .ok (.d (.bl false)) s := fEq_strs false _ _ false s (by decide +kernel)
theorem n1 (a : Option Int) (s : S) : fIn false (.d .non) (.d (.lst [ofO a])) s = .ok (.d (.bl a.isNone)) s := by cases a <;> rfl
theorem n2 (a b : Option Int) (s : S) : fIn false (.d .non) (.d (.lst [ofO a, ofO b])) s = .ok (.d (.bl (a.isNone || b.isNone))) s := by cases a <;> cases b <;> rfl
theorem two_of {α : Type} {l : List α} (h : l.length = 2) : ∃ a b, l = [a, b] := by
  match l, h with
  | [a, b], _ => exact ⟨a, b, rfl⟩
end TG

set_option linter.all false
set_option maxRecDepth 100000
namespace TG
open PySem L2
end TG

set_option linter.all false
set_option maxRecDepth 100000
namespace TG
open PySem L2
end TG

set_option linter.all false
set_option maxRecDepth 100000
namespace TG
open PySem L2
noncomputable def kSetD (i : Nat) : List (Key × W) → Stm := fun x ρ s => .nx (ρ.set i (.ownD x)) s
section
variable (ρ : Rho) (s : S)
@[simp] theorem sSetD_eq (i : Nat) (e : Cmp (List (Key × W))) : sSetD i e ρ s = ebS (e ρ s) ρ (kSetD i) := (rfl)
@[simp] theorem kSetD_eq (i : Nat) (x : List (Key × W)) : kSetD i x ρ s = .nx (ρ.set i (.ownD x)) s := (rfl)
@[simp] theorem eDNew_eq : eDNew ρ s = .ok [] s := (rfl)
@[simp] theorem eGetO_eq (i : Nat) (e f : Cmp W) : eGetO i e f ρ s = match (ρ[i]? : Option EV) with | some (.ownD l) => (e ρ s).bind (kGetO l f ρ) | _ => .no := (rfl)
@[simp] theorem kGetO_eq (l : List (Key × W)) (f : Cmp W) (y : W) : kGetO l f ρ y s = match asInt y with | some k => (f ρ s).bind (kGetO2 l k) | none => .no := (rfl)
@[simp] theorem sSetKO_eq (i : Nat) (k v : Cmp W) : sSetKO i k v ρ s = ebS (v ρ s) ρ (kSetKO i k) := (rfl)
@[simp] theorem kSetKO_eq (i : Nat) (k : Cmp W) (x : W) : kSetKO i k x ρ s = match (ρ[i]? : Option EV) with | some (.ownD l) => ebS (k ρ s) ρ (kSetKO2 i l x) | _ => .no := (rfl)
@[simp] theorem kSetKO2_eq (i : Nat) (l : List (Key × W)) (x z : W) : kSetKO2 i l x z ρ s = match asInt z with | some k => if l.length < 16777216 then .nx (ρ.set i (.ownD (putDW l (keyI k) x))) s else .no | none => .no := (rfl)
@[simp] theorem eMeth_eq (c m : Str) (f : Sem1) (o : Cmp W) (a : Cmp (List W)) : eMeth c m f o a ρ s = (o ρ s).bind (kMeth c m f frzV a ρ) := (rfl)
@[simp] theorem kMeth_eq {α : Type} (c m : Str) (f : Sem1) (out : RV → S → Res α) (a : Cmp (List W)) (x : W) : kMeth c m f out a ρ x s = if insOf c m x s = true then (a ρ s).bind (kMeth2 f out x) else .no := (rfl)
@[simp] theorem kMeth2_eq {α : Type} (f : Sem1) (out : RV → S → Res α) (x : W) (ws : List W) : kMeth2 f out x ws s = (f (x :: ws) s).bind out := (rfl)
end
end TG

set_option linter.all false
set_option maxRecDepth 100000
namespace TG
open PySem L2
noncomputable def putI (z : List (Key × Int)) (k : Key) (v : Int) : List (Key × Int) := if (z.any fun kv => decide (kv.1 = k)) = true then z.map (fun kv => if kv.1 = k then (kv.1, v) else kv) else z ++ [(k, v)]
noncomputable def PK (z : List (Key × Int)) : Prop := ∀ p ∈ z, getK z p.1 = some p.2
theorem getK_rep (z : List (Key × Int)) (k : Key) (v : Int) (q : Key) : getK (z.map fun kv => if kv.1 = k then (kv.1, v) else kv) q = if q = k then (getK z q).map fun _ => v else getK z q := by
  induction z with
  | nil => simp [getK]
  | cons p z ih =>
    obtain ⟨a, i⟩ := p
    by_cases c : a = k
    · subst c
      by_cases c2 : a = q
      · subst c2
        simp [getK]
      · have c3 : ¬ q = a := fun h => c2 h.symm
        simp only [c3, if_false] at ih
        simp [getK, c2, c3, ih]
    · by_cases c2 : a = q
      · subst c2
        simp [getK, c]
      · simp only [List.map_cons, c, if_false, getK, c2]
        rw [ih]
theorem getK_app (z : List (Key × Int)) (k : Key) (v : Int) (q : Key) : getK (z ++ [(k, v)]) q = match getK z q with | some x => some x | none => if k = q then some v else none := by
  induction z with
  | nil => simp [getK]
  | cons p z ih =>
    obtain ⟨a, i⟩ := p
    by_cases c : a = q
    · simp [getK, c]
    · simp [getK, c, ih]
theorem getK_no (z : List (Key × Int)) (k : Key) (h : ¬ (z.any fun kv => decide (kv.1 = k)) = true) : getK z k = none := by
  induction z with
  | nil => rfl
  | cons p z ih =>
    obtain ⟨a, i⟩ := p
    simp only [List.any_cons, Bool.or_eq_true, decide_eq_true_eq, not_or] at h
    simp only [getK, h.1, if_false]
    exact ih h.2
theorem PK.put {z : List (Key × Int)} (h : PK z) (k : Key) (v : Int) : PK (putI z k v) := by
  unfold putI
  split
  · intro p hp
    obtain ⟨q, hq, e⟩ := List.mem_map.mp hp
    have hz := h q hq
    rw [getK_rep]
    by_cases c : q.1 = k
    · rw [if_pos c] at e
      subst e
      simp only [c, if_true]
      rw [← c, hz]
      rfl
    · rw [if_neg c] at e
      subst e
      rw [if_neg c, hz]
  · rename_i hn
    intro p hp
    rw [getK_app]
    rcases List.mem_append.mp hp with hp | hp
    · rw [h p hp]
    · have := List.mem_singleton.mp hp
      subst this
      rw [getK_no z k hn]
      simp
noncomputable def kFrzD (i : Nat) (b : Stm) (l : List (Key × W)) : Stm := fun ρ s => match allDataK l with | some ds => b (ρ.set i (.w (.d (.dic ds)))) s | none => .no
@[simp] theorem sFrzD_eq (i : Nat) (b : Stm) (ρ : Rho) (s : S) : sFrzD i b ρ s = match (ρ[i]? : Option EV) with | some (.ownD l) => kFrzD i b l ρ s | _ => .no := (rfl)
@[simp] theorem eFrzD_eq (a : Cmp (List (Key × W))) (ρ : Rho) (s : S) : eFrzD a ρ s = (a ρ s).bind frzDk := (rfl)
@[simp] theorem frzDk_nil (s : S) : frzDk [] s = .ok (.d (dI [])) s := (rfl)
theorem okT_mono {n m : Nat} {t : D} (h : TD n t) (hm : n ≤ m) : TD m t := by
  induction hm with
  | refl => exact h
  | step _ ih => exact ih.up
theorem okT_up : ∀ {n : Nat} {t : D}, okT n t = true → okT (n + 1) t = true
  | 0, t, h => by cases h
  | n + 1, t, h => by
    obtain ⟨k, x, l, a, e, rfl, ha, hla, hc⟩ := ok_get h
    cases e
    rcases hc with ⟨rfl, i, rfl, i0, i1⟩ | ⟨hf, hall⟩
    · exact ok_foot _ i i0 (by omega)
    · exact ok_mk _ x l a ha hf hla fun d hd => okT_up (hall d hd)
theorem okT_le {n m : Nat} {t : D} (h : okT n t = true) (hm : n ≤ m) : okT m t = true := by
  induction hm with
  | refl => exact h
  | step _ ih => exact okT_up ih
end TG

set_option Elab.async false
set_option linter.all false
set_option maxRecDepth 100000
set_option maxHeartbeats 4000000
namespace TG
open PySem PySem.Spec PyProof.Rows L2
section
variable {X : Cx} {cl : Str → Option Addr} {Wx : WX} {e o : Expr} {p2 p3 : Pos} {eo ea : Cmp TG.W}
end
end TG

set_option Elab.async false
set_option linter.all false
set_option maxRecDepth 100000
set_option maxHeartbeats 4000000
namespace L2
open PySem PySem.Spec PyProof.Rows
noncomputable def revS (z : Str) : Str := Txt.sliceBy z none none (-1, 0)
section
variable {X : Cx}
noncomputable def tRevS (te : TE) : TE := fun σ H Q => te σ H fun x H1 => ∃ z, x = .str z ∧ z.length ≤ sizeLine ∧ Q (.str (revS z)) H1
theorem pe_revS {e : Expr} {te : TE} {k : Nat} {p1 p2 p3 pos : Pos} (he : PE X e te) : PE X (.Subscript e (.Slice none none (some (.UnaryOp .USub (.Constant (.int 1) k p1) p2)) p3) pos) (tRevS te) := by
  refine ⟨fun pins s σ H Q I h => ?_⟩
  refine Subscript_ (thn (he.run pins s σ H _ I h) fun v s1 ⟨x, H1, I1, r1, q1⟩ => ?_)
  obtain ⟨z, ex, hz, q⟩ := q1
  subst ex
  obtain ⟨t, rfl⟩ := r1
  have hst : PO X (some (.UnaryOp .USub (.Constant (.int 1) k p1) p2)) (tPart (tUn (rU fun i => .int (-i)) (tC (.int 1)))) := po_some (pe_un un_neg pe_int)
  refine wpAny_Slice (thn (po_none.run pins s1 σ H1 (fun o H2 => o = none ∧ H2 = H1) I1 ⟨rfl, rfl⟩) fun vl s2 ⟨l, H2, I2, pl, el, e2⟩ => ?_)
  subst el e2
  refine thn (po_none.run pins s2 σ H2 (fun o H3 => o = none ∧ H3 = H2) I2 ⟨rfl, rfl⟩) fun vu s3 ⟨u, H3, I3, pu, eu, e3⟩ => ?_
  subst eu e3
  refine thn (hst.run pins s3 σ H3 (fun o H4 => o = some (-1) ∧ H4 = H3) I3 ⟨1, rfl, -1, rfl, rfl, rfl⟩) fun vs s4 ⟨o, H4, I4, ps, eo, e4⟩ => ?_
  subst eo e4
  have I5 : Inv X pins σ H4 { s4 with heap := s4.heap.push { cls := .type "slice", data := .fields #[vl, vu, vs] } } := I4.kept (t' := s4.toks) fun b ob q => Heap.get?_push_of_some _ q
  show wpAny (model X.prog X.w) X.A (subscriptTail e (.Slice none none (some (.UnaryOp .USub (.Constant (.int 1) k p1) p2)) p3) (.str z t) (.ref s4.heap.objs.size)) (EP X pins σ Q) X.xe { s4 with heap := s4.heap.push { cls := .type "slice", data := .fields #[vl, vu, vs] } }
  refine tail_any (ops := [.str z t, .ref s4.heap.objs.size]) (typeIs_str _ z t) (PySem.F.slot_str_getitem.lookup) ?_ (by with_unfolding_all rfl)
  obtain ⟨os, hos, hcs, hds⟩ := Heap.IsSliceOf.new s4.heap vl vu vs
  obtain ⟨l', rfl, el⟩ := IsPart.raw pl
  obtain ⟨u', rfl, eu⟩ := IsPart.raw pu
  obtain ⟨w', rfl, ew⟩ := IsPart.raw ps
  cases l' with
  | some _ => cases el
  | none =>
    cases u' with
    | some _ => cases eu
    | none =>
      cases w' with
      | none => cases ew
      | some w' =>
        obtain ⟨w1, wt⟩ := w'
        have ew2 : w1 = -1 := by simpa using ew
        subst ew2
        refine wpAny_getItem_str_slice (l := none) (u := none) (st := some (-1, wt)) ⟨os, hos, hcs, hds⟩ rfl ?_
        exact post_val_or_str ⟨Nat.le_trans (Txt.sliceBy_le z _ _ (-1, wt) (show (-1 : Int) ≠ 0 by decide)) hz, fun t' c => ⟨.str (revS z), H4, I5.tok _, ⟨t', rfl⟩, q⟩⟩
end
end L2
namespace TG
open PySem PySem.Spec PyProof.Rows L2
section
variable {X : Cx} {cl : Str → Option Addr} {Wx : WX} {e : Expr} {pos p1 p2 p3 : Pos} {ea : Cmp TG.W}
end
end TG

set_option Elab.async false
set_option linter.all false
set_option maxRecDepth 100000
set_option maxHeartbeats 4000000
namespace TG
open PySem PySem.Spec PyProof.Rows L2
section
variable {K : PySem.W.Frag} {cl : Str → Option Addr}
end
end TG

set_option Elab.async false
set_option linter.all false
set_option maxRecDepth 100000
set_option maxHeartbeats 4000000
namespace TG
open PySem PySem.Spec PyProof.Rows L2
section
variable {K : PySem.W.Frag} {cl : Str → Option Addr} {H0 H : Hp}
end
section
variable {X : Cx} {cl : Str → Option Addr} {Wx : WX} {e : Expr} {pos p : Pos} {el : Cmp (List TG.W)}
end
end TG

set_option linter.all false
set_option maxRecDepth 100000
namespace TG
open PySem L2
end TG

set_option linter.all false
set_option maxRecDepth 100000
namespace TG
open PySem L2
noncomputable def tl (x : Str) : List Nat := x.cps.toList
theorem tl_ext {x y : Str} (h : tl x = tl y) : x = y := TL.ext_tl h
theorem tl_len (x : Str) : x.length = (tl x).length := TL.len_tl x
theorem ok_cases {n : Nat} {t : D} (h : okT (n + 1) t = true) : (∃ i : Int, 0 ≤ i ∧ i ≤ 7 ∧ t = .tup [.str "foot", .int i]) ∨ (∃ d, okT n d = true ∧ t = .tup [.str "less", d]) ∨ (∃ (x : Str) (d e : D), (x = "sum" ∨ x = "high") ∧ okT n d = true ∧ okT n e = true ∧ t = .tup [.str x, d, e]) := by
  obtain ⟨k, x, l, a, e, rfl, ha, hla, hc⟩ := ok_get h
  cases e
  rcases hc with ⟨rfl, i, rfl, i0, i1⟩ | ⟨hf, hall⟩
  · exact .inl ⟨i, i0, i1, rfl⟩
  · rcases ar_cases x with ⟨rfl, e⟩ | ⟨rfl, e⟩ | ⟨rfl, e⟩ | ⟨rfl, e⟩ | ⟨h1, h2, h3, h4, e⟩
    · exact absurd rfl hf
    · rw [e] at ha; cases ha
      obtain ⟨d, f, rfl⟩ := two_of hla
      exact .inr (.inr ⟨_, d, f, .inl rfl, hall d (by simp), hall f (by simp), rfl⟩)
    · rw [e] at ha; cases ha
      obtain ⟨d, f, rfl⟩ := two_of hla
      exact .inr (.inr ⟨_, d, f, .inr rfl, hall d (by simp), hall f (by simp), rfl⟩)
    · rw [e] at ha; cases ha
      obtain ⟨d, rfl⟩ := List.length_eq_one_iff.mp hla
      exact .inr (.inl ⟨d, hall d (by simp), rfl⟩)
    · rw [e] at ha; cases ha
theorem less_nf : ("less" : Str) ≠ "foot" := by decide +kernel
theorem sum_nf : ("sum" : Str) ≠ "foot" := by decide +kernel
theorem high_nf : ("high" : Str) ≠ "foot" := by decide +kernel
theorem ok_less {n : Nat} {d : D} (h : okT n d = true) : okT (n + 1) (.tup [.str "less", d]) = true := ok_mk n "less" [d] 1 rfl less_nf rfl (by simpa using h)
theorem ok_two {n : Nat} {x : Str} {d e : D} (hx : x = "sum" ∨ x = "high") (h : okT n d = true) (h2 : okT n e = true) : okT (n + 1) (.tup [.str x, d, e]) = true := by
  have hm : ∀ y ∈ [d, e], okT n y = true := by
    intro y hy
    rcases List.mem_cons.mp hy with rfl | hy
    · exact h
    · rw [List.mem_singleton.mp hy]; exact h2
  rcases hx with rfl | rfl
  · exact ok_mk n "sum" [d, e] 2 rfl sum_nf rfl hm
  · exact ok_mk n "high" [d, e] 2 rfl high_nf rfl hm
end TG

set_option linter.all false
set_option maxRecDepth 100000
namespace TG
open PySem L2
noncomputable def mk (l : List Nat) : Str := ⟨l.toArray⟩
theorem tl_mk (l : List Nat) : tl (mk l) = l := rfl
theorem mk_tl (x : Str) : mk (tl x) = x := TL.ext_tl rfl
noncomputable def SOk (l : List Nat) : Prop := ∀ c ∈ l, c < 1114112
theorem strOk_of {x : Str} (h : SOk (tl x)) : PyData.strOk x = true := by
  unfold PyData.strOk
  rw [Array.all_eq_true']
  intro i hi
  exact decide_eq_true (h i (Array.mem_toList_iff.mpr hi))
theorem SOk.of_strOk {x : Str} (h : PyData.strOk x = true) : SOk (tl x) := by
  unfold PyData.strOk at h
  rw [Array.all_eq_true'] at h
  intro c hc
  exact of_decide_eq_true (h c (Array.mem_toList_iff.mp hc))
theorem SOk.sub {l m : List Nat} (h : SOk m) (k : ∀ c ∈ l, c ∈ m) : SOk l := fun c hc => h c (k c hc)
theorem eq_tl {x y : Str} : x = y ↔ tl x = tl y := ⟨fun h => by rw [h], tl_ext⟩
theorem eqD_str {x y : Str} (h : SOk (tl x)) (h2 : SOk (tl y)) : eqD (.str x) (.str y) = some (decide (tl x = tl y)) := by
  unfold eqD
  have a1 : SeqAt.shaped (TG.D.str x).py = true := by
    show (PyData.strOk x && _) = true
    rw [strOk_of h]; rfl
  have a2 : SeqAt.shaped (TG.D.str y).py = true := by
    show (PyData.strOk y && _) = true
    rw [strOk_of h2]; rfl
  rw [if_pos ⟨a1, a2⟩]
  show some (x == y) = _
  congr 1
  rw [Bool.eq_iff_iff, beq_iff_eq, decide_eq_true_eq]
  exact eq_tl
theorem fEq_str (neg : Bool) {x y : Str} (s : S) (h : SOk (tl x)) (h2 : SOk (tl y)) : fEq neg (.d (.str x)) (.d (.str y)) s = .ok (.d (.bl (if neg then !decide (tl x = tl y) else decide (tl x = tl y)))) s :=
  fEq_strs neg x y _ s (eqD_str h h2)
theorem tl_cut (x : Str) (i j : Option Int) : tl (cutS x i j) = cut (tl x) i j := by
  show ((x.cps.toList.drop (HT.sIx x.length 0 i)).take (HT.sIx x.length x.length j - HT.sIx x.length 0 i)).toArray.toList = _
  rw [tl_len]
  rfl
theorem cut_mem {α : Type} (l : List α) (i j : Option Int) : ∀ c ∈ cut l i j, c ∈ l := fun c hc => List.mem_of_mem_drop (List.mem_of_mem_take hc)
theorem fIx_str (x : Str) (i : Int) (c : Nat) (s : S) (h : x.length ≤ 16777216) (hc : atI (tl x) i = some c) : fIx (.d (.str x)) (.d (.int i)) s = .ok (.d (.str (mk [c]))) s := by
  show (if x.length ≤ 16777216 then (match atI x.cps.toList i with | some c => Res.ok (W.d (.str ⟨#[c]⟩)) s | none => .no) else .no) = _
  rw [if_pos h]
  show (match atI (tl x) i with | some c => Res.ok (W.d (.str ⟨#[c]⟩)) s | none => .no) = _
  rw [hc]
  rfl
end TG

set_option Elab.async false
set_option linter.all false
set_option maxRecDepth 100000
set_option maxHeartbeats 4000000
namespace TG
open PySem PySem.Spec PyProof.Rows L2
section
variable {X : Cx} {cl : Str → Option Addr} {Wx : WX} {e : Expr} {ed : Cmp (List (Key × TG.W))}
end
noncomputable def kDictO : List TG.W → S → Res (List (Key × TG.W)) := fun ws s => match ws with | [x] => (match asDic x s with | some l => .ok l s | none => .no) | _ => .no
noncomputable def eDictO (a : Cmp (List TG.W)) : Cmp (List (Key × TG.W)) := fun ρ s => (a ρ s).bind kDictO
section
variable {X : Cx} {cl : Str → Option Addr} {Wx : WX} {e : Expr} {pos p : Pos} {el : Cmp (List TG.W)}
theorem jd_dictO (hg : Gl X "dict") (hm : X.mg "dict" = none) (ha : JA cl Wx X [e] el) (h3 : starEach (e :: []) X.env = (false, eval e X.env) :: starEach [] X.env := by rfl) (h4 : ((backTo pos (starEach [] X.env)).any fun x => x.fst) = false := by rfl) :
    JD cl Wx X (.Call (.Name "dict" p) [e] [] pos) (eDictO el) :=
  PE.weaken (pe_callTy call_dict_of hg hm (by decide +kernel) ha (by decide) (by decide) h3 h4) fun σ H Q ⟨H0, m, ow, s, ρ, cx, h⟩ => ⟨H0, m, ow, s, ρ, cx, RunE.bind h fun ws s1 v H1 H1' m1 g st rr h2 => by
    have h2 : RunE X.K cl (rrD X.K cl) Wx H1 H1' m1 σ Q (kDictO ws s1) := h2
    unfold kDictO at h2
    split at h2
    · rename_i x
      split at h2
      · rename_i l e1
        cases rr with
        | cons r1 r2 =>
          cases r2
          obtain ⟨q, vs, rfl, k1, k2⟩ := asDic_ok st r1 e1
          refine ⟨q, vs, rfl, k1, fun t ht => ?_⟩
          exact h2 _ _ _ _ (Go.fresh ht) (st.fresh ht) ⟨t, vs, rfl, ht, upd_same, st.h0 ht, st.notM ht, k2⟩
      · exact h2.elim
    · exact h2.elim⟩
end
noncomputable def eDispL : List (Str × Cmp TG.W) → Cmp (List (Key × TG.W))
  | [] => fun _ s => .ok [] s
  | (k, e) :: r => fun ρ s => (e ρ s).bind fun x s1 => (eDispL r ρ s1).bind fun l s2 => .ok ((.inr k, x) :: l) s2
inductive DispR (cl : Str → Option Addr) (Wx : WX) (X : Cx) (pos : Pos) : List (Option Expr) → List Expr → List (TE × TE) → List (Str × Cmp TG.W) → Prop
  | nil : DispR cl Wx X pos [] [] [] []
  | cons {k : Str} {j : Nat} {p : Pos} {v : Expr} {ks : List (Option Expr)} {vs : List Expr} {trs : List (TE × TE)} {r : List (Str × Cmp TG.W)} {ev : Cmp TG.W} (hv : JE cl Wx X v ev) (hr : DispR cl Wx X pos ks vs trs r) :
      DispR cl Wx X pos (some (.Constant (.str k) j p) :: ks) (v :: vs) ((tC (.str k), Tof X.K cl (rrW X.K cl) Wx ev) :: trs) ((k, ev) :: r)
section
variable {X : Cx} {cl : Str → Option Addr} {Wx : WX} {pos : Pos}
theorem DispR.run {ks : List (Option Expr)} {vs : List Expr} {trs : List (TE × TE)} {r : List (Str × Cmp TG.W)} (h : DispR cl Wx X pos ks vs trs r) : ∀ {H0 H : Hp} {m ow : List Addr} {s : S} {σ : L2.St} {ρ : Rho} {Q : List (V × V) → Hp → Prop} {α β : Type} {RR : RRT β α} [Early RR] {Q' : β → Hp → Prop} {k : List (Key × TG.W) → S → Res α},
    Ctx X.K cl H0 H m ow s σ ρ → RunE X.K cl RR Wx H0 H m σ Q' ((eDispL r ρ s).bind k) →
    (∀ l s1 kvs H1 H1' m1, GoE H0 H m H1 H1' m1 → Ctx X.K cl H1 H1' m1 ow s1 σ ρ → RepWK X.K cl H1 m1 kvs l → eDispL r ρ s = .ok l s1 → Q (kvs.map fun kv : Key × V => (kV kv.1, kv.2)) H1') → tPairs trs σ H Q := by
  induction h with
  | nil =>
    intro H0 H m ow s σ ρ Q α β RR _ Q' k cx hq hk
    exact hk [] s [] H0 H m Go.refl cx .nil rfl
  | @cons kk j p v ks vs trs r ev hv hr ih =>
    intro H0 H m ow s σ ρ Q α β RR _ Q' k cx hq hk
    have hq : RunE X.K cl RR Wx H0 H m σ Q' (((ev ρ s).bind fun x s1 => (eDispL r ρ s1).bind fun l s2 => .ok ((.inr kk, x) :: l) s2).bind k) := hq
    have e0 : ((ev ρ s).bind fun x s1 => (eDispL r ρ s1).bind fun l s2 => Res.ok ((Sum.inr kk, x) :: l) s2).bind k = (ev ρ s).bind fun x s1 => (eDispL r ρ s1).bind fun l s2 => k ((Sum.inr kk, x) :: l) s2 := by
      cases ev ρ s with
      | ok x s1 => 
        show ((eDispL r ρ s1).bind fun l s2 => Res.ok ((Sum.inr kk, x) :: l) s2).bind k = (eDispL r ρ s1).bind fun l s2 => k ((Sum.inr kk, x) :: l) s2
        cases eDispL r ρ s1 <;> rfl
      | exc c x s' => rfl
      | no => rfl
    rw [e0] at hq
    show tC (.str kk) σ H fun x H1 => Tof X.K cl (rrW X.K cl) Wx ev σ H1 fun y H2 => tPairs trs σ H2 fun ps H3 => Q ((x, y) :: ps) H3
    refine ⟨H0, m, ow, s, ρ, cx, ?_⟩
    cases e1 : ev ρ s with
    | no => rw [e1] at hq; exact hq.elim
    | exc c z s' => rw [e1] at hq; exact hq
    | ok x s1 =>
      rw [e1] at hq
      intro v' H1 H1' m1 g st rr
      have hq1 : RunE X.K cl RR Wx H0 H m σ Q' ((eDispL r ρ s1).bind fun l s2 => k ((Sum.inr kk, x) :: l) s2) := hq
      refine ih (cx.go g st) (hq1.shift g) fun l s2 kvs H2 H2' m2 g2 c2 rk e2 => ?_
      refine hk ((.inr kk, x) :: l) s2 ((.inr kk, v') :: kvs) H2 H2' m2 (g.trans g2) c2 (.cons (RepW.mono g2.s0 g2.pre rr) rk) ?_
      show ((ev ρ s).bind fun x s1 => (eDispL r ρ s1).bind fun l s2 => Res.ok ((Sum.inr kk, x) :: l) s2) = _
      rw [e1]
      show ((eDispL r ρ s1).bind fun l s2 => Res.ok ((Sum.inr kk, x) :: l) s2) = _
      rw [e2]
      rfl
end
theorem RepWK.keys {K : PySem.W.Frag} {cl : Str → Option Addr} {H0 : Hp} {m : List Addr} {kvs : List (Key × V)} {l : List (Key × TG.W)} (h : RepWK K cl H0 m kvs l) : (kvs.map fun p => p.1) = l.map fun p => p.1 := by
  induction h with
  | nil => rfl
  | cons h1 h2 ih => rw [List.map_cons, List.map_cons, ih]
section
variable {X : Cx} {cl : Str → Option Addr} {Wx : WX} {pos : Pos} {ks : List (Option Expr)} {vs : List Expr} {trs : List (TE × TE)} {r : List (Str × Cmp TG.W)}
end
end TG

set_option Elab.async false
set_option linter.all false
set_option maxRecDepth 100000
set_option maxHeartbeats 4000000
namespace TG
open PySem PySem.Spec PyProof.Rows L2
theorem dict_ints {ys : List (Key × Value)} {ks : List Int} {l : List Value} (h0 : ys.map (fun p => p.1) = ks.map Sum.inl) (h1 : l.length = ks.length)
    (h2 : ∀ (j : Nat) (v : Value), l[j]? = some v → ∃ k x, ys[j]? = some (k, x) ∧ keyIs k v = true) : IntsAre l ks :=
  ints_each h1 fun j v e => by
    obtain ⟨k, x, a, b⟩ := h2 j v e
    have c : (ys.map fun p => p.1)[j]? = some k := by simp [a]
    rw [h0] at c
    simp only [List.getElem?_map, Option.map_eq_some_iff] at c
    obtain ⟨y, c1, c2⟩ := c
    subst c2
    rcases keyIs_shape b with ⟨i, t, q1, q2⟩ | ⟨z, t, q1, q2⟩
    · cases q1
      exact ⟨y, t, c1, q2⟩
    · cases q1
theorem call_sortedDW {X : Cx} (hcalm : X.calm = true) : CallR X (.builtin "sorted") (fun xs H Q => ∃ (a : Addr) (kvs : List (Key × V)) (ks : List Int), xs = [.ref a] ∧ Rd H a (.dK kvs) ∧ kvs.map (fun p => p.1) = ks.map Sum.inl ∧
    ∀ (zs : List Int) (p : Addr), zs.Perm ks → zs.Pairwise (· ≤ ·) → H p = none → Q (.ref p) (upd H p (.lst (zs.map V.int)))) := by
  intro pins s σ H xs us Q I r ⟨a, kvs, ks, hx, hd, hk, hq⟩
  subst hx
  obtain ⟨u, hu, ru⟩ := vals1 r
  subst hu
  cases ru
  obtain ⟨sz, hl, ys, rel, dd⟩ := dk_rd I.hok hd
  obtain ⟨ep, at_⟩ := dd.dictAt
  have k0 : ys.map (fun p => p.1) = ks.map Sum.inl := (KV.keys rel).symm.trans hk
  have k1 : ys.length = ks.length := by simpa using congrArg List.length k0
  have k2 : ys.length ≤ sizeLine := by rw [← rel.length]; exact sz
  refine Calls.call_function_entry kind_sorted plain_sorted entry_sorted (args_sorted1 _) ?_
  unfold Builtin.«sorted»
  refine wpAny_bind (m := checkCount "sorted" 1 1 _) ?_
  refine wpAny_pure (wpAny_bind (PySem.W.kdu_collect (A := X.A.in1) (PySem.W.kdl_dict (knd := mixKind X.prog X.w) (kvs := ys) (ep := ep) hl) (I.ok.hd hcalm) at_ k2 ?_))
  intro g tk acc kp ac
  have k3 : acc.toList.length = ks.length := by rw [Array.length_toList, ac.1, k1]
  have is := dict_ints (l := acc.toList) k0 k3 fun j v e => by
    obtain ⟨k, x, e1, e2⟩ := ac.2 j v (by rw [← Array.getElem?_toList]; exact e)
    exact ⟨k, x, e1, e2⟩
  have J := I.kept (t' := tk) kp
  have k4 : acc.toList.length ≤ sizeLine := by rw [k3, ← k1]; exact k2
  have at2 : (g.push (seqObj "list" acc.toList.toArray 0)).get? g.objs.size = some (seqObj "list" acc.toList.toArray 0) := Heap.get?_push_size _ rfl
  refine wpAny_bind (wpAny_newList ?_ k4)
  show wpAny _ _ _ _ _ { s with heap := g.push (seqObj "list" acc.toList.toArray 0), toks := tk }
  refine wpAny_bind (wpAny_holding (wpAny_call_entry slot_list_sort ⟨_, at2, rfl⟩ entry_list_sort
    (SrtO.list_sort_ord SrtO.swo_int at2 k4 (fun h2 => SrtO.ints_sortable is h2) fun out o1 o2 => ⟨_, rfl, ?_⟩) (args_list_sort _)))
  obtain ⟨i1, i2, i3⟩ := SrtO.ints_out is o1 o2
  obtain ⟨ep2, at3⟩ := PyProof.Rows.sortedHeap_at (vs := acc.toList) (out := out.toArray) at2
  have k5 : ((out.map SrtO.iv).map V.int).length ≤ sizeLine := by
    rw [List.length_map, i2.length_eq, ← k3]
    exact k4
  refine wpAny_pure ⟨_, rfl, .ref g.objs.size, _, J.laid (t' := tk) (fun b o e => ?_) (Nat.le_refl _) (o := .lst ((out.map SrtO.iv).map V.int)) ⟨k5, out, ep2, vals_of_ints i1, at3⟩, rfl, hq _ _ i2 i3 (J.hok.fresh (Nat.le_refl _))⟩
  have lt : b < g.objs.size := Heap.lt_size e
  rw [PyProof.Rows.sortedHeap_old (Nat.ne_of_lt lt) (by rw [size_push']; exact Nat.lt_succ_of_lt lt)]
  exact Heap.get?_push_of_some _ e
noncomputable def keysI {α : Type} : List (Key × α) → Option (List Int)
  | [] => some []
  | (.inl i, _) :: r => (keysI r).map (i :: ·)
  | (.inr _, _) :: _ => none
theorem keysI_ok {α : Type} : ∀ {l : List (Key × α)} {ks : List Int}, keysI l = some ks → l.map (fun p => p.1) = ks.map Sum.inl
  | [], ks, h => by cases h; rfl
  | (.inl i, x) :: r, ks, h => by
    cases e : keysI r with
    | none => unfold keysI at h; rw [e] at h; cases h
    | some z =>
      unfold keysI at h
      rw [e] at h
      cases h
      rw [List.map_cons, List.map_cons, keysI_ok e]
  | (.inr _, _) :: _, ks, h => by cases h
noncomputable def kSortDI : List TG.W → S → Res (List TG.W) := fun ws s => match ws with
  | [x] => (match asDic x s with | some l => (match keysI l with | some ks => .ok (wD (ks.mergeSort.map TG.D.int)) s | none => .no) | none => .no)
  | _ => .no
noncomputable def eSortDI (a : Cmp (List TG.W)) : Cmp (List TG.W) := fun ρ s => (a ρ s).bind kSortDI
theorem call_lenDic {X : Cx} : CallR X (.builtin "len") (fun xs H Q => ∃ a kvs, xs = [V.ref a] ∧ Rd H a (.dK kvs) ∧ Q (V.int (kvs.length : Nat)) H) := by
  intro pins s σ H xs us Q I r ⟨a, kvs, e, h, q⟩
  subst e
  obtain ⟨u, e, ru⟩ := vals1 r
  subst e
  cases ru
  exact d_len I h fun t s' I' => ⟨.int kvs.length, H, I', ⟨t, rfl⟩, q⟩
noncomputable def kLenDic : List TG.W → S → Res TG.W := fun ws s => match ws with | [x] => (match asDic x s with | some l => .ok (.d (.int l.length)) s | none => .no) | _ => .no
noncomputable def eLenDic (a : Cmp (List TG.W)) : Cmp TG.W := fun ρ s => (a ρ s).bind kLenDic
section
variable {X : Cx} {cl : Str → Option Addr} {Wx : WX} {e : Expr} {pos p : Pos} {el : Cmp (List TG.W)}
theorem jl_sortDI (hc : X.calm = true) (hg : Gl X "sorted") (hm : X.mg "sorted" = none) (ha : JA cl Wx X [e] el) (h3 : starEach (e :: []) X.env = (false, eval e X.env) :: starEach [] X.env := by rfl) (h4 : ((backTo pos (starEach [] X.env)).any fun x => x.fst) = false := by rfl) :
    JL cl Wx X (.Call (.Name "sorted" p) [e] [] pos) (eSortDI el) :=
  PE.weaken (pe_callB (call_sortedDW hc) hg hm (by decide +kernel) ha (by decide) (by decide) h3 h4) fun σ H Q ⟨H0, m, ow, s, ρ, cx, h⟩ => ⟨H0, m, ow, s, ρ, cx, RunE.bind h fun ws s1 v H1 H1' m1 g st rr h2 => by
    have h2 : RunE X.K cl (rrL X.K cl) Wx H1 H1' m1 σ Q (kSortDI ws s1) := h2
    unfold kSortDI at h2
    split at h2
    · rename_i x
      split at h2
      · rename_i l e1
        split at h2
        · rename_i ks e2
          cases rr with
          | cons r1 r2 =>
            cases r2
            obtain ⟨q, vs, rfl, k1, k2⟩ := asDic_ok st r1 e1
            refine ⟨q, vs, ks, rfl, .inl k1, by rw [k2.keys]; exact keysI_ok e2, fun zs t p1 p2 ht => ?_⟩
            have := sort_one p1 p2
            subst this
            exact h2 _ _ _ _ (Go.fresh ht) (st.fresh ht) ⟨t, _, rfl, ht, upd_same, st.h0 ht, st.notM ht, (Reps.ints _).ws⟩
        · exact h2.elim
      · exact h2.elim
    · exact h2.elim⟩
theorem je_lenDic (hg : Gl X "len") (hm : X.mg "len" = none) (ha : JA cl Wx X [e] el) (h3 : starEach (e :: []) X.env = (false, eval e X.env) :: starEach [] X.env := by rfl) (h4 : ((backTo pos (starEach [] X.env)).any fun x => x.fst) = false := by rfl) :
    JE cl Wx X (.Call (.Name "len" p) [e] [] pos) (eLenDic el) :=
  PE.weaken (pe_callB call_lenDic hg hm PySem.boot_len ha (by decide) (by decide) h3 h4) fun σ H Q ⟨H0, m, ow, s, ρ, cx, h⟩ => ⟨H0, m, ow, s, ρ, cx, RunE.bind h fun ws s1 v H1 H1' m1 g st rr h2 => by
    have h2 : RunE X.K cl (rrW X.K cl) Wx H1 H1' m1 σ Q (kLenDic ws s1) := h2
    unfold kLenDic at h2
    split at h2
    · rename_i x
      split at h2
      · rename_i l e1
        cases rr with
        | cons r1 r2 =>
          cases r2
          obtain ⟨q, vs, rfl, k1, k2⟩ := asDic_ok st r1 e1
          refine ⟨q, vs, rfl, .inl k1, RunE.done (RR := rrW X.K cl) h2 st ?_⟩
          rw [rdk_len k2]
          exact .int
      · exact h2.elim
    · exact h2.elim⟩
end
noncomputable def keyW : TG.W → Option Key | .d x => keyD x | .r _ => none
theorem keyW_ok {K : PySem.W.Frag} {cl : Str → Option Addr} {H0 : Hp} {m : List Addr} {v : V} {w : TG.W} {k : Key} (h : RepW K cl H0 m v w) (e : keyW w = some k) : v = kV k := by
  cases w with
  | d x => exact key_ok h e
  | r n => cases e
section
variable {X : Cx} {cl : Str → Option Addr} {Wx : WX} {e i o : Expr} {pos p1 : Pos} {ea ei eo : Cmp TG.W}
end
noncomputable def dropDW (l : List (Key × TG.W)) (k : Key) : List (Key × TG.W) := l.filter fun kv => decide (kv.1 ≠ k)
theorem rdk_drop {K : PySem.W.Frag} {cl : Str → Option Addr} {H0 : Hp} {m : List Addr} {kvs : List (Key × V)} {l : List (Key × TG.W)} (h : RepWK K cl H0 m kvs l) (k : Key) : RepWK K cl H0 m (dropK kvs k) (dropDW l k) := by
  unfold dropK dropDW
  induction h with
  | nil => exact .nil
  | @cons q v d vs ds h1 h2 ih =>
    by_cases e : q = k
    · simp only [List.filter_cons, e, ne_eq, not_true, decide_false]
      exact ih
    · simp only [List.filter_cons, e, ne_eq, not_false_iff, decide_true, if_true]
      exact .cons h1 ih
section
variable {X : Cx} {cl : Str → Option Addr} {Wx : WX} {e i o : Expr} {pos apos : Pos} {ei eo : Cmp TG.W}
theorem RepWs.dropLast {K : PySem.W.Frag} {cl : Str → Option Addr} {H0 : Hp} {m : List Addr} {vs : List V} {l : List TG.W} (h : RepWs K cl H0 m vs l) : RepWs K cl H0 m vs.dropLast l.dropLast := by
  rw [List.dropLast_eq_take, List.dropLast_eq_take, h.length]
  exact h.take _
end
section
variable {X : Cx} {cl : Str → Option Addr} {E : XK} {pos p : Pos} {k : Nat} {c : Str} {ps : List Str} {f : Sem1}
theorem je_makeC0 (ok : XOk X (wxE E)) (hr : Room (k + 1) X.A) (F : ClsAt X.prog X.w X.K X.mg X.base cl k c ps f) (hg : Gl X c := by rfl) (h1 : (c == Str.ofString "__debug__") = false := by decide) :
    JE cl (wxE E) X (.Call (.Name c p) [] [] pos) (eMakeC c f eNil) := by
  obtain ⟨C, a, fd, q0, q1, q2, q3, q4⟩ := F.ex
  refine PE.weaken (pe_make0 q2 q4 hr hg q1 q3 .nil (passE ok) h1) fun σ H Q ⟨H0, m, ow, s, ρ, cx, h⟩ x dx hx hdx hn => ?_
  have h4 : RunE X.K cl (rrW X.K cl) (wxE E) H0 H m σ Q (madeC s (f [.r s.length] (s ++ [.ins c []]))) := h
  obtain ⟨st1, g1⟩ := made_start (c := c) cx.st q0 hx hdx hn
  refine ⟨H0, m ++ [x], _, [.r s.length], st1, .cons ⟨x, by rw [← cx.st.len]; simp, rfl⟩ .nil, ?_⟩
  cases e1 : f [.r s.length] (s ++ [.ins c []]) with
  | no => rw [e1] at h4; exact h4
  | exc d z s2 =>
    rw [e1] at h4
    exact fun cv dd H0' H' m' g' st' r' => h4 cv dd H0' H' m' (g1.trans g') st' r'
  | ok rv s2 =>
    rw [e1] at h4
    unfold madeC at h4
    intro v H0' H' m' g' st' r'
    split at h4
    · rename_i s3 e2
      cases e2
      have hv : v = .non := by cases r'; rfl
      subst hv
      refine ⟨rfl, h4 _ H0' H' m' (g1.trans g') st' ⟨x, ?_, rfl⟩⟩
      obtain ⟨t, rfl⟩ := g'.pre
      rw [List.append_assoc, ← cx.st.len, List.getElem?_append_right (Nat.le_refl _)]
      simp
    · exact h4.elim
    · rename_i e2; cases e2
    · rename_i e2; cases e2
end
end TG

set_option Elab.async false
set_option linter.all false
set_option maxRecDepth 100000
set_option maxHeartbeats 4000000
namespace TG
open PySem PySem.Spec PyProof.Rows L2
noncomputable def rLenC (K : PySem.W.Frag) (cl : Str → Option Addr) (c : Str) (f : Sem1) : List V → Hp → VK → Prop := fun xs H Q =>
  ∃ (v : V) (x : TG.W) (n : Int) (H0 : Hp) (m : List Addr) (s s' : S), xs = [v] ∧ Stt K cl H0 H m s ∧ RepW K cl H0 m v x ∧ insOf c "__len__" x s = true ∧ f [x] s = .ok (.w (.d (.int n))) s' ∧ 0 ≤ n ∧ n < 1000 ∧
    ∀ H0' H' m', GoE H0 H m H0' H' m' → Stt K cl H0' H' m' s' → Q (.int n) H'
section
variable {X : Cx} {cl : Str → Option Addr} {k : Nat} {ps : List Str} {f : Sem1} {c : Str}
theorem call_lenC (F : LenAt X.prog X.w X.K X.mg X.base cl k c ps f) (hr : Room (k + 2) X.A) : CallR X (.builtin "len") (rLenC X.K cl c f) := by
  intro pins s σ H xs us Q I r h
  obtain ⟨v, x, n, H0, m, s0, s1, rfl, st, rp, hin, hf, n0, n1, q⟩ := h
  obtain ⟨C, a, fd, h1, h2, h3, h4, h5⟩ := F.ex
  obtain ⟨u, rfl, ru⟩ := vals1 r
  obtain ⟨p, dx, fs, rfl, hp, _⟩ := insOf_ok h1 st rp hin
  obtain rfl : u = Value.ref p := ru
  obtain ⟨mA, J, _⟩ := ins_get I.hok hp
  obtain ⟨od, J, _⟩ := J.look
  have hsp : spOf X.K cl f [.ref p] H (fun v H' => v = .int n ∧ Q (.int n) H') E0 := by
    refine ⟨H0, m, s0, [x], st, .cons rp .nil, ?_⟩
    rw [hf]
    intro v H0' H' m' g st' rr
    have rr : RepW X.K cl H0' m' v (.d (.int n)) := rr
    cases rr
    exact ⟨rfl, q _ _ _ g st'⟩
  have hl := h5.len _ _ _ _ hsp
  have r2 : Vals [V.ref p] [Value.ref p] := .cons rfl .nil
  refine Calls.call_function_entry kind_len plain_len entry_len (args_len1 (Value.ref p)) ?_
  unfold Builtin.«len»
  refine wpAny_bind (m := oneArg "len" _) (wpAny_pure (wpAny_bind (m := callSpecial? (.ref p) (PySem.Str.ofString "__len__")) (PySem.W.special_fn I.kIn J h2 (beq_iff_eq.mp h3) ?_)))
  have e0 : Env0 X.prog X.w X.K X.mg X.base X.A.in1 X.stack s H := by
    have e := I.env0
    exact ⟨e.frames, e.mod, e.bs, e.bsz, e.funs, e.frf, e.hok, e.bare⟩
  refine wpAny_call (codeAny_mono (h5.run X.A.in1 X.stack s H ⟨[.ref p], []⟩ [.ref p] [.ref p] _ E0 ((hr.mono (by omega) : Room (k + 1) X.A).in1) e0 (by
    have := h4 s [.ref p] I.kIn (by simpa using hl)
    simpa using this) r2 hsp) fun r s' hq => ?_)
  cases r with
  | error e => exact noPass pins σ H s e s' I hq
  | ok fl =>
    cases fl with
    | ret w =>
      obtain ⟨z, H', I', rz, ez, ex⟩ := I.after hq
      subst ez
      obtain ⟨t, rfl⟩ := (show ∃ t, w = Value.int n t from rz)
      refine wpAny_bind (wpAny_holding (wpAny_pure (wpAny_bind (wpAny_letGo ?_))))
      show wpAny _ _ (if (n : Int) < 0 then _ else _) _ _ _
      rw [if_neg (show ¬ n < 0 by omega)]
      show wpAny _ _ (if (n : Int) ≥ 2 ^ 63 then _ else _) _ _ _
      rw [if_neg (show ¬ n ≥ 2 ^ 63 by omega)]
      exact wpAny_bind (wpAny_mkInt (wpAny_pure ⟨_, rfl, .int n, H', I'.tok _, ⟨_, rfl⟩, ex⟩))
    | next => exact False.elim hq
    | brk => exact False.elim hq
    | cont => exact False.elim hq
noncomputable def lenC : Res RV → Res TG.W
  | .ok (.w (.d (.int n))) s => if 0 ≤ n ∧ n < 1000 then .ok (.d (.int n)) s else .no
  | _ => .no
noncomputable def kLenC (c : Str) (f : Sem1) : TG.W → S → Res TG.W := fun x s => if insOf c "__len__" x s = true then lenC (f [x] s) else .no
noncomputable def eLenC (c : Str) (f : Sem1) (a : Cmp TG.W) : Cmp TG.W := fun ρ s => (a ρ s).bind (kLenC c f)
variable {Wx : WX} {e : Expr} {pos p : Pos} {ea : Cmp TG.W} {x : Str}
theorem je_lenC (F : LenAt X.prog X.w X.K X.mg X.base cl k c ps f) (hr : Room (k + 2) X.A) (hg : Gl X x) (hm : X.mg x = none) (hv : bootBuiltins x = some (.builtin "len")) (ha : JE cl Wx X e ea)
    (n1 : x ≠ "__name__" := by decide) (n2 : (x == ("__debug__" : Str)) = false := by decide)
    (hs : starEach [e] X.env = (false, eval e X.env) :: starEach [] X.env := by rfl) (h4 : ((backTo pos (starEach [] X.env)).any fun x => x.fst) = false := by rfl) :
    JE cl Wx X (.Call (.Name x p) [e] [] pos) (eLenC c f ea) := by
  refine PE.weaken (pe_callB (call_lenC F hr) hg hm hv (pa_cons ha pa_nil hs) n1 n2 hs h4) fun σ H Q ⟨H0, m, ow, s, ρ, cx, h⟩ => ⟨H0, m, ow, s, ρ, cx, RunE.bind h fun a s1 v H1 H1' m1 g st rr h2 => ?_⟩
  have h2 : RunE X.K cl (rrW X.K cl) Wx H1 H1' m1 σ Q (if insOf c "__len__" a s1 = true then lenC (f [a] s1) else .no) := h2
  split at h2
  · rename_i hi
    cases ef : f [a] s1 with
    | no => rw [ef] at h2; exact h2.elim
    | exc d z s2 => rw [ef] at h2; exact h2.elim
    | ok rv s2 =>
      rw [ef] at h2
      unfold lenC at h2
      split at h2
      · rename_i n s3 e3
        cases e3
        split at h2
        · rename_i hn
          exact ⟨v, a, n, H1, m1, s1, s2, rfl, st, rr, hi, ef, hn.1, hn.2, fun H0' H' m' g' st' => h2 (.int n) H0' H' m' g' st' .int⟩
        · exact h2.elim
      · exact h2.elim
  · exact h2.elim
end
noncomputable def kPopKO (i : Nat) (l : List (Key × TG.W)) : TG.W → Stm := fun z ρ s => match keyW z with
  | some k => if (valDW l k).isSome = true then .nx (ρ.set i (.ownD (dropDW l k))) s else .no
  | none => .no
noncomputable def sPopKO (i : Nat) (e : Cmp TG.W) : Stm := fun ρ s => match (ρ[i]? : Option EV) with | some (.ownD l) => ebS (e ρ s) ρ (kPopKO i l) | _ => .no
section
variable {X : Cx} {cl : Str → Option Addr} {Wx : WX} {e : Expr} {pos p1 p2 p3 : Pos} {ea : Cmp TG.W} {x : Str}
theorem js_popKO (n : Nat) (h : JE cl Wx X e ea) (hN : X.N[n]? = some x := by rfl) (hv : Vis X.env.scope x := by first | exact Or.inl rfl | exact Or.inr (Or.inl rfl) | exact Or.inr (Or.inr rfl)) (hd : (x == ("__debug__" : Str)) = false := by decide)
    (hcd : (x == ("__classdict__" : Str)) = false := by decide) (hm : M1 X (.Name x p1) "pop" p2 e p3 := by exact ⟨rfl, rfl, rfl, rfl⟩)
    (hs : swapsWith (.Call (.Attribute (.Name x p1) "pop" p2) [e] [] p3) none pos.line X.env = pure false := by rfl) :
    JS cl Wx X (.Expr (.Call (.Attribute (.Name x p1) "pop" p2) [e] [] p3) pos) (sPopKO n ea) :=
  PS.weaken (ps_expr (pe_dpop1 (pe_var hN hv hd hcd) h hm) hs) fun E σ H ⟨H0, m, ow, s, ρ, cx, h⟩ => by
    unfold sPopKO at h
    split at h
    · rename_i l e0
      obtain ⟨p, vs, h1, h2, h3, h4⟩ := cx.en.slot n _ e0
      refine ⟨.ref p, h1, p, rfl, .inl ⟨vs, .inl h3⟩, H0, m, ow, s, ρ, cx, RunS.ofE cx h fun y s1 v H1 H1' m1 g c rr q => ?_⟩
      have q : RunS X.K cl Wx H1 H1' m1 ow E (kPopKO n l y ρ s1) := q
      obtain ⟨p', us, k1, k2, k3, k4⟩ := c.en.slot n _ e0
      rw [h1] at k1
      cases k1
      unfold kPopKO at q
      split at q
      · rename_i k e1
        split at q
        · rename_i hk
          have ek := keyW_ok rr e1
          subst ek
          rcases rdk_get k4 k with ⟨_, q2⟩ | ⟨v2, w2, q1, q2, q3⟩
          · rw [q2] at hk; cases hk
          · refine ⟨us, k, v2, k3, rfl, q1, ?_⟩
            exact q _ _ _ _ _ (Go.updOwn k2) (c.updOwn e0 rfl h1 k2 rfl ⟨p, _, rfl, k2, upd_same, rdk_drop k4 k⟩)
        · exact q.elim
      · exact q.elim
    · exact h.elim
end
end TG

set_option Elab.async false
set_option linter.all false
set_option maxRecDepth 100000
set_option maxHeartbeats 4000000
namespace TG
open PySem PySem.Spec PyProof.Rows L2
section
variable {X : Cx} {CX : CXT} {k : Nat} {f : Addr} {fd : FuncData} {ps : List Str} {sp : Sp} {E : L2.St → XK} {x : Str} {p pos : Pos}
end
section
variable {X : Cx} {cl : Str → Option Addr} {Wx : WX} {pos p : Pos} {k : Nat} {x : Str} {ps : List Str} {f : Sem1}
end
end TG

set_option linter.all false
set_option maxRecDepth 100000
namespace TG
open PySem L2
noncomputable def b_Hold_init : Stm :=
  (sSeq (sFld "Hold" "there" (eVar 0) (eVar 1))
  (sFld "Hold" "many_told" (eVar 0) (eVar 2)))
noncomputable def f_Hold_init : Sem1 := runF 3 3 b_Hold_init
noncomputable def b_Workshop_init : Stm :=
  (sSeq (sFld "Workshop" "times_kept" (eVar 0) (eCell (eLst (eCons (eMake "Hold" f_Hold_init (eCons (eFrzD eDNew) (eCons (eC (.int 0)) eNil))) eNil))))
  (sFld "Workshop" "gone" (eVar 0) (eCell (eLst eNil))))
noncomputable def f_Workshop_init : Sem1 := runF 1 1 b_Workshop_init
noncomputable def b_v_law_fact : Stm :=
  (sSeq (sSet 2 (eCall f_v_law_pull (eCons (eVar 0) (eCons (eC (.int 12)) eNil))))
  (sSeq (sSet 3 (eCall f_v_law_pull (eCons (eVar 0) (eCons (eBin fIx (eTup (eCons (eC (.int 3)) (eCons (eC (.int 6)) eNil))) (eArgs (c1 fInt) (eCons (eBin (fEq false) (eCall f_v_law_pull (eCons (eVar 0) (eCons (eC (.int 4)) eNil))) (eC (.int 0))) eNil))) eNil))))
  (sSeq (sIf (eTest (eBin fLt (eVar 2) (eC (.int 2)))) (sRet (eTup (eCons (eC (.str "blank")) (eCons (eVar 3) (eCons (eCall f_v_law_rim (eCons (eVar 0) (eCons (eBin fIx (eFrz (eLst (eCons (eC (.int 6)) (eCons (eC (.int 12)) (eCons (eC (.int 48)) eNil))))) (eCall f_v_law_pull (eCons (eVar 0) (eCons (eC (.int 3)) eNil)))) eNil))) eNil))))) sNext)
  (sSeq (sIf (eTest (eBin fLt (eVar 2) (eC (.int 6)))) (sSeq (sSet 4 (eIf (eTest (eBin fGt (eCall f_v_law_pull (eCons (eVar 0) (eCons (eC (.int 4)) eNil))) (eC (.int 0)))) (eCall f_v_law_pull (eCons (eVar 0) (eCons (eC (.int 7)) eNil))) (eCall f_v_law_pull (eCons (eVar 0) (eCons (eC (.int 48)) eNil)))))
  (sRet (eTup (eCons (eC (.str "cut")) (eCons (eVar 3) (eCons (eVar 4) (eCons (eCall f_v_law_height (eCons (eVar 0) eNil)) eNil))))))) sNext)
  (sSeq (sIf (eTest (eBin fLt (eVar 2) (eC (.int 8)))) (sSeq (sSet 5 (eBin fIx (eFrz (eLst (eCons (eBin fSub (eCall f_v_law_pull (eCons (eVar 0) (eCons (eC (.int 199)) eNil))) (eC (.int 99))) (eCons (eBin fSub (eCall f_v_law_pull (eCons (eVar 0) (eCons (eC (.int 5)) eNil))) (eC (.int 2))) (eCons (eC (.int 0)) eNil))))) (eCall f_v_law_pull (eCons (eVar 0) (eCons (eC (.int 3)) eNil)))))
  (sRet (eTup (eCons (eC (.str "mount")) (eCons (eVar 3) (eCons (eVar 5) (eCons (eBin fAdd (eC (.int 1)) (eCall f_v_law_pull (eCons (eVar 0) (eCons (eBin fIx (eFrz (eLst (eCons (eC (.int 9)) (eCons (eC (.int 99)) eNil)))) (eCall f_v_law_pull (eCons (eVar 0) (eCons (eC (.int 2)) eNil)))) eNil)))) (eCons (eCall f_v_law_angle (eCons (eVar 0) eNil)) eNil)))))))) sNext)
  (sSeq (sIf (eTest (eBin fLt (eVar 2) (eC (.int 10)))) (sSeq (sSetT (tgTup 2 (tgCons (tgName 6) (tgCons (tgName 7) tgNil))) (eCall f_v_law_pair (eCons (eVar 0) eNil)))
  (sRet (eTup (eCons (eC (.str "foot")) (eCons (eCall f_v_law_pull (eCons (eVar 0) (eCons (eC (.int 8)) eNil))) (eCons (eBin fIx (eFrz (eLst (eCons (eVar 3) (eCons (eCall f_v_law_pull (eCons (eVar 0) (eCons (eC (.int 6)) eNil))) eNil)))) (eCall f_v_law_pull (eCons (eVar 0) (eCons (eC (.int 2)) eNil)))) (eCons (eVar 6) (eCons (eVar 7) eNil)))))))) sNext)
  (sRet (eTup (eCons (eC (.str "lever")) (eCons (eCall f_v_law_pull (eCons (eVar 0) (eCons (eC (.int 6)) eNil))) (eCons (eCall f_v_law_small_tree (eCons (eVar 0) eNil)) eNil)))))))))))
noncomputable def f_v_law_fact : Sem1 := runF 2 8 b_v_law_fact
noncomputable def b_v_law_fact_ok : Stm :=
  (sSeq (sSet 1 (eC (dicI [("blank", 3), ("cut", 4), ("mount", 5), ("foot", 5), ("lever", 3)])))
  (sSeq (sIf (eOrT (eTest (eBin (fEq false) (eArgs (c1 fLen) (eCons (eVar 0) eNil)) (eC (.int 0)))) (eOrT (eTest (eBin (fIn true) (eBin fIx (eVar 0) (eC (.int 0))) (eVar 1))) (eTest (eBin (fEq true) (eArgs (c1 fLen) (eCons (eVar 0) eNil)) (eBin fIx (eVar 1) (eBin fIx (eVar 0) (eC (.int 0)))))))) (sRet (eC (.bl false))) sNext)
  (sSeq (sIf (eTest (eBin (fEq false) (eBin fIx (eVar 0) (eC (.int 0))) (eC (.str "foot")))) (sSeq (sSet 2 (eAndV (eChain fLe fLe (eC (.int 1)) (eArgs (c1 fLen) (eCons (eBin fIx (eVar 0) (eC (.int 3))) eNil)) (eC (.int 9))) (eArgs (c1 fAll) (eCons (eFrz (eLc [3] (eSeq (eBin fIx (eVar 0) (eC (.int 3)))) (tgName 3) eYes (eChain fLe fLe (eC (.int 0)) (eVar 3) (eC (.int 99))))) eNil))))
  (sRet (eAndV (eVar 2) (eAndV (eChain fLe fLe (eC (.int 0)) (eBin fIx (eVar 0) (eC (.int 1))) (eC (.int 7))) (eAndV (eChain fLe fLe (eC (.int 0)) (eBin fIx (eVar 0) (eC (.int 2))) (eC (.int 5))) (eChain fLe fLt (eC (.int 0)) (eBin fIx (eVar 0) (eC (.int 4))) (eArgs (c1 fLen) (eCons (eBin fIx (eVar 0) (eC (.int 3))) eNil)))))))) sNext)
  (sSeq (sIf (eNotT (eTest (eChain fLe fLe (eC (.int 0)) (eBin fIx (eVar 0) (eC (.int 1))) (eC (.int 5))))) (sRet (eC (.bl false))) sNext)
  (sSeq (sIf (eTest (eBin (fEq false) (eBin fIx (eVar 0) (eC (.int 0))) (eC (.str "blank")))) (sRet (eChain fLe fLe (eC (.int 3)) (eArgs (c1 fLen) (eCons (eBin fIx (eVar 0) (eC (.int 2))) eNil)) (eC (.int 48)))) sNext)
  (sSeq (sIf (eTest (eBin (fEq false) (eBin fIx (eVar 0) (eC (.int 0))) (eC (.str "cut")))) (sRet (eChain fLe fLe (eC (.int 0)) (eBin fIx (eVar 0) (eC (.int 2))) (eC (.int 47)))) sNext)
  (sSeq (sIf (eTest (eBin (fEq false) (eBin fIx (eVar 0) (eC (.int 0))) (eC (.str "mount")))) (sRet (eAndV (eChain fLe fLe (eUn fNeg (eC (.int 99))) (eBin fIx (eVar 0) (eC (.int 2))) (eC (.int 99))) (eChain fLe fLe (eC (.int 1)) (eBin fIx (eVar 0) (eC (.int 3))) (eC (.int 99))))) sNext)
  (sRet (eCall f_v_law_good_tree (eCons (eBin fIx (eVar 0) (eC (.int 2))) eNil))))))))))
noncomputable def f_v_law_fact_ok : Sem1 := runF 1 4 b_v_law_fact_ok
noncomputable def b_Workshop_len : Stm :=
  (sRet (eLenDic (eCons (eFld "Hold" "there" (eBin fIx (eFld "Workshop" "times_kept" (eVar 0)) (eUn fNeg (eC (.int 1))))) eNil)))
noncomputable def f_Workshop_len : Sem1 := runF 1 1 b_Workshop_len
noncomputable def b_Workshop_facts : Stm :=
  (sSeq (sSet 1 (eFld "Hold" "there" (eBin fIx (eFld "Workshop" "times_kept" (eVar 0)) (eUn fNeg (eC (.int 1))))))
  (sRetL (eLc [2] (eSeq (eFrz (eSortDI (eCons (eVar 1) eNil)))) (tgName 2) eYes (eTup (eCons (eVar 2) (eCons (eBin fIx (eVar 1) (eVar 2)) eNil))))))
noncomputable def f_Workshop_facts : Sem1 := runF 1 3 b_Workshop_facts
noncomputable def b_last_of : Stm :=
  (sSeq (sSet 3 (eC .non))
  (sSeq (sFor (eSeq (eVar 0)) (tgTup 2 (tgCons (tgName 4) (tgCons (tgName 5) tgNil))) (sIf (eAndT (eTest (eBin (fEq false) (eBin fIx (eVar 5) (eC (.int 0))) (eVar 1))) (eTest (eBin (fEq false) (eBin fIx (eVar 5) (eC (.int 1))) (eVar 2)))) (sSet 3 (eVar 5)) sNext))
  (sRet (eVar 3))))
noncomputable def f_last_of : Sem1 := runF 3 6 b_last_of
noncomputable def b_Workshop_rim_of : Stm :=
  (sSeq (sSet 2 (eMeth "Workshop" "facts" f_Workshop_facts (eVar 0) eNil))
  (sSeq (sSet 3 (eCall f_last_of (eCons (eVar 2) (eCons (eC (.str "blank")) (eCons (eVar 1) eNil)))))
  (sSeq (sIf (eTest (eUn (fIsN false) (eVar 3))) (sRet (eC .non)) sNext)
  (sSeq (sSet 4 (eBin fIx (eVar 3) (eC (.int 2))))
  (sSeq (sFor (eSeq (eVar 2)) (tgTup 2 (tgCons (tgName 5) (tgCons (tgName 6) tgNil))) (sIf (eAndT (eTest (eBin (fEq false) (eBin fIx (eVar 6) (eC (.int 0))) (eC (.str "cut")))) (eAndT (eTest (eBin (fEq false) (eBin fIx (eVar 6) (eC (.int 1))) (eVar 1))) (eTest (eBin fLt (eBin fIx (eVar 6) (eC (.int 2))) (eArgs (c1 fLen) (eCons (eVar 4) eNil)))))) (sSet 4 (eCall f_cut_at (eCons (eVar 4) (eCons (eBin fIx (eVar 6) (eC (.int 2))) (eCons (eBin fIx (eVar 6) (eC (.int 3))) eNil))))) sNext))
  (sRet (eVar 4)))))))
noncomputable def f_Workshop_rim_of : Sem1 := runF 2 7 b_Workshop_rim_of
noncomputable def b_Workshop_go_on : Stm :=
  (sSeq (sAppC (eFld "Workshop" "times_kept" (eVar 0)) (eMake "Hold" f_Hold_init (eCons (eVar 1) (eCons (eVar 2) eNil))))
  (sFld "Workshop" "gone" (eVar 0) (eCell (eLst eNil))))
noncomputable def f_Workshop_go_on : Sem1 := runF 3 3 b_Workshop_go_on
noncomputable def b_are_numbers : Stm :=
  (sRet (eAndV (eUn (fIsi "tuple") (eVar 0)) (eArgs (c1 fAll) (eCons (eFrz (eLc [1] (eSeq (eVar 0)) (tgName 1) eYes (eCall f_is_number (eCons (eVar 1) eNil)))) eNil))))
noncomputable def f_are_numbers : Sem1 := runF 1 2 b_are_numbers
noncomputable def b_good_kinds : Stm :=
  (sSeq (sIf (eTest (eBin (fEq false) (eBin fIx (eVar 0) (eC (.int 0))) (eC (.str "lever")))) (sRet (eAndV (eCall f_is_number (eCons (eBin fIx (eVar 0) (eC (.int 1))) eNil)) (eUn (fIsi "tuple") (eBin fIx (eVar 0) (eC (.int 2)))))) sNext)
  (sSeq (sIf (eTest (eBin (fEq false) (eBin fIx (eVar 0) (eC (.int 0))) (eC (.str "foot")))) (sRet (eAndV (eCall f_are_numbers (eCons (eBin fAdd (eSl fSl (eVar 0) (ePart (eC (.int 1))) (ePart (eC (.int 3)))) (eSl fSl (eVar 0) (ePart (eC (.int 4))) eNoPart)) eNil)) (eCall f_are_numbers (eCons (eBin fIx (eVar 0) (eC (.int 3))) eNil)))) sNext)
  (sSeq (sIf (eTest (eBin (fEq false) (eBin fIx (eVar 0) (eC (.int 0))) (eC (.str "blank")))) (sRet (eAndV (eCall f_is_number (eCons (eBin fIx (eVar 0) (eC (.int 1))) eNil)) (eCall f_are_numbers (eCons (eBin fIx (eVar 0) (eC (.int 2))) eNil)))) sNext)
  (sRet (eCall f_are_numbers (eCons (eSl fSl (eVar 0) (ePart (eC (.int 1))) eNoPart) eNil))))))
noncomputable def f_good_kinds : Sem1 := runF 1 1 b_good_kinds
noncomputable def b_good_mount : Stm :=
  (sRet (eAndV (eBin fLe (eArgs (c1 fAbs) (eCons (eBin fIx (eVar 0) (eC (.int 2))) eNil)) (eC (.int 99))) (eChain fLe fLe (eC (.int 1)) (eBin fIx (eVar 0) (eC (.int 3))) (eC (.int 99)))))
noncomputable def f_good_mount : Sem1 := runF 1 1 b_good_mount
noncomputable def b_good_things : Stm :=
  (sSeq (sSet 1 (eBin fIx (eVar 0) (eC (.int 0))))
  (sSeq (sIf (eTest (eBin (fEq false) (eVar 1) (eC (.str "lever")))) (sRet (eAndV (eChain fLe fLe (eC (.int 0)) (eBin fIx (eVar 0) (eC (.int 1))) (eC (.int 5))) (eCall f_is_tree (eCons (eBin fIx (eVar 0) (eC (.int 2))) eNil)))) sNext)
  (sSeq (sIf (eTest (eBin (fEq false) (eVar 1) (eC (.str "foot")))) (sRet (eAndV (eChain fLe fLe (eC (.int 0)) (eBin fIx (eVar 0) (eC (.int 1))) (eC (.int 7))) (eAndV (eChain fLe fLe (eC (.int 0)) (eBin fIx (eVar 0) (eC (.int 2))) (eC (.int 5))) (eCall f_good_foot (eCons (eBin fIx (eVar 0) (eC (.int 3))) (eCons (eBin fIx (eVar 0) (eC (.int 4))) eNil)))))) sNext)
  (sSeq (sIf (eNotT (eTest (eChain fLe fLe (eC (.int 0)) (eBin fIx (eVar 0) (eC (.int 1))) (eC (.int 5))))) (sRet (eC (.bl false))) sNext)
  (sSeq (sIf (eTest (eBin (fEq false) (eVar 1) (eC (.str "blank")))) (sRet (eCall f_is_rim (eCons (eBin fIx (eVar 0) (eC (.int 2))) eNil))) sNext)
  (sSeq (sIf (eTest (eBin (fEq false) (eVar 1) (eC (.str "cut")))) (sRet (eChain fLe fLt (eC (.int 0)) (eBin fIx (eVar 0) (eC (.int 2))) (eC (.int 48)))) sNext)
  (sRet (eCall f_good_mount (eCons (eVar 0) eNil)))))))))
noncomputable def f_good_things : Sem1 := runF 1 2 b_good_things
noncomputable def b_need_fact : Stm :=
  (sSeq (sIf (eOrT (eTest (eBin (fEq false) (eArgs (c1 fLen) (eCons (eVar 0) eNil)) (eC (.int 0)))) (eOrT (eNotT (eTest (eUn (fIsi "str") (eBin fIx (eVar 0) (eC (.int 0)))))) (eTest (eUn (fInKD true [("blank", 3), ("cut", 4), ("mount", 5), ("foot", 5), ("lever", 3)]) (eBin fIx (eVar 0) (eC (.int 0))))))) (sRaise0 "BadFact") sNext)
  (sIf (eOrT (eTest (eBin (fEq true) (eArgs (c1 fLen) (eCons (eVar 0) eNil)) (eUn (fIxKD [("blank", 3), ("cut", 4), ("mount", 5), ("foot", 5), ("lever", 3)]) (eBin fIx (eVar 0) (eC (.int 0)))))) (eOrT (eNotT (eTest (eCall f_good_kinds (eCons (eVar 0) eNil)))) (eNotT (eTest (eCall f_good_things (eCons (eVar 0) eNil)))))) (sRaise0 "BadFact") sNext))
noncomputable def f_need_fact : Sem1 := runF 1 1 b_need_fact
noncomputable def b_Workshop_tell : Stm :=
  (sSeq (sExpr (eCall f_need_fact (eCons (eVar 1) eNil)))
  (sSeq (sSet 2 (eBin fIx (eFld "Workshop" "times_kept" (eVar 0)) (eUn fNeg (eC (.int 1)))))
  (sSeq (sIf (eTest (eBin fGe (eFld "Hold" "many_told" (eVar 2)) (eC (.int 100)))) (sRaise0 "Full") sNext)
  (sSeq (sSetD 3 (eDictO (eCons (eFld "Hold" "there" (eVar 2)) eNil)))
  (sSeq (sSetKO 3 (eBin fAdd (eFld "Hold" "many_told" (eVar 2)) (eC (.int 1))) (eVar 1))
  (sFrzD 3 (sSeq (sExpr (eMeth "Workshop" "go_on" f_Workshop_go_on (eVar 0) (eCons (eVar 3) (eCons (eBin fAdd (eFld "Hold" "many_told" (eVar 2)) (eC (.int 1))) eNil))))
  (sRet (eBin fAdd (eFld "Hold" "many_told" (eVar 2)) (eC (.int 1)))))))))))
noncomputable def f_Workshop_tell : Sem1 := runF 2 4 b_Workshop_tell
end TG

set_option linter.all false
set_option maxRecDepth 100000
namespace TG
open PySem L2
theorem fIx_tup (l : List D) (i : Int) (s : S) : fIx (.d (.tup l)) (.d (.int i)) s = match atI (wD l) i with | some w => .ok w s | none => .no := (rfl)
theorem fIx_lst (l : List D) (i : Int) (s : S) : fIx (.d (.lst l)) (.d (.int i)) s = match atI (wD l) i with | some w => .ok w s | none => .no := by rw [fIx_eq, asSeq_lst]; rfl
@[simp] theorem atI_4 {α : Type} (l : List α) : atI l 4 = l[4]? := atI_nat' l 4
@[simp] theorem atI_m1 {α : Type} (l : List α) : atI l (-1) = l[l.length - 1]? := by
  unfold atI ixN
  rw [if_neg (by decide)]
  cases l with
  | nil => rfl
  | cons a l =>
    have h : -((a :: l).length : Int) ≤ -1 := by simp; omega
    rw [if_pos h]
    show ((a :: l)[((-1 : Int) + ((a :: l).length : Nat)).toNat]?) = (a :: l)[(a :: l).length - 1]?
    congr 1
    simp
    omega
noncomputable abbrev sizes : List (Str × Int) := [("blank", 3), ("cut", 4), ("mount", 5), ("foot", 5), ("lever", 3)]

theorem wq_blank_blank_f (s : S) : fEq false (.d (.str "blank")) (.d (.str "blank")) s = .ok (.d (.bl true)) s := fEq_strs false _ _ true s (by decide +kernel)
theorem wq_blank_blank_t (s : S) : fEq true (.d (.str "blank")) (.d (.str "blank")) s = .ok (.d (.bl false)) s := fEq_strs true _ _ true s (by decide +kernel)
theorem wq_blank_cut_f (s : S) : fEq false (.d (.str "blank")) (.d (.str "cut")) s = .ok (.d (.bl false)) s := fEq_strs false _ _ false s (by decide +kernel)
theorem wq_blank_cut_t (s : S) : fEq true (.d (.str "blank")) (.d (.str "cut")) s = .ok (.d (.bl true)) s := fEq_strs true _ _ false s (by decide +kernel)
theorem wq_blank_mount_f (s : S) : fEq false (.d (.str "blank")) (.d (.str "mount")) s = .ok (.d (.bl false)) s := fEq_strs false _ _ false s (by decide +kernel)
theorem wq_blank_mount_t (s : S) : fEq true (.d (.str "blank")) (.d (.str "mount")) s = .ok (.d (.bl true)) s := fEq_strs true _ _ false s (by decide +kernel)
theorem wq_blank_foot_f (s : S) : fEq false (.d (.str "blank")) (.d (.str "foot")) s = .ok (.d (.bl false)) s := fEq_strs false _ _ false s (by decide +kernel)
theorem wq_blank_foot_t (s : S) : fEq true (.d (.str "blank")) (.d (.str "foot")) s = .ok (.d (.bl true)) s := fEq_strs true _ _ false s (by decide +kernel)
theorem wq_blank_lever_f (s : S) : fEq false (.d (.str "blank")) (.d (.str "lever")) s = .ok (.d (.bl false)) s := fEq_strs false _ _ false s (by decide +kernel)
theorem wq_blank_lever_t (s : S) : fEq true (.d (.str "blank")) (.d (.str "lever")) s = .ok (.d (.bl true)) s := fEq_strs true _ _ false s (by decide +kernel)
theorem wq_cut_blank_f (s : S) : fEq false (.d (.str "cut")) (.d (.str "blank")) s = .ok (.d (.bl false)) s := fEq_strs false _ _ false s (by decide +kernel)
theorem wq_cut_blank_t (s : S) : fEq true (.d (.str "cut")) (.d (.str "blank")) s = .ok (.d (.bl true)) s := fEq_strs true _ _ false s (by decide +kernel)
theorem wq_cut_cut_f (s : S) : fEq false (.d (.str "cut")) (.d (.str "cut")) s = .ok (.d (.bl true)) s := fEq_strs false _ _ true s (by decide +kernel)
theorem wq_cut_cut_t (s : S) : fEq true (.d (.str "cut")) (.d (.str "cut")) s = .ok (.d (.bl false)) s := fEq_strs true _ _ true s (by decide +kernel)
theorem wq_cut_mount_f (s : S) : fEq false (.d (.str "cut")) (.d (.str "mount")) s = .ok (.d (.bl false)) s := fEq_strs false _ _ false s (by decide +kernel)
theorem wq_cut_mount_t (s : S) : fEq true (.d (.str "cut")) (.d (.str "mount")) s = .ok (.d (.bl true)) s := fEq_strs true _ _ false s (by decide +kernel)
theorem wq_cut_foot_f (s : S) : fEq false (.d (.str "cut")) (.d (.str "foot")) s = .ok (.d (.bl false)) s := fEq_strs false _ _ false s (by decide +kernel)
theorem wq_cut_foot_t (s : S) : fEq true (.d (.str "cut")) (.d (.str "foot")) s = .ok (.d (.bl true)) s := fEq_strs true _ _ false s (by decide +kernel)
theorem wq_cut_lever_f (s : S) : fEq false (.d (.str "cut")) (.d (.str "lever")) s = .ok (.d (.bl false)) s := fEq_strs false _ _ false s (by decide +kernel)
theorem wq_cut_lever_t (s : S) : fEq true (.d (.str "cut")) (.d (.str "lever")) s = .ok (.d (.bl true)) s := fEq_strs true _ _ false s (by decide +kernel)
theorem wq_mount_blank_f (s : S) : fEq false (.d (.str "mount")) (.d (.str "blank")) s = .ok (.d (.bl false)) s := fEq_strs false _ _ false s (by decide +kernel)
theorem wq_mount_blank_t (s : S) : fEq true (.d (.str "mount")) (.d (.str "blank")) s = .ok (.d (.bl true)) s := fEq_strs true _ _ false s (by decide +kernel)
theorem wq_mount_cut_f (s : S) : fEq false (.d (.str "mount")) (.d (.str "cut")) s = .ok (.d (.bl false)) s := fEq_strs false _ _ false s (by decide +kernel)
theorem wq_mount_cut_t (s : S) : fEq true (.d (.str "mount")) (.d (.str "cut")) s = .ok (.d (.bl true)) s := fEq_strs true _ _ false s (by decide +kernel)
theorem wq_mount_mount_f (s : S) : fEq false (.d (.str "mount")) (.d (.str "mount")) s = .ok (.d (.bl true)) s := fEq_strs false _ _ true s (by decide +kernel)
theorem wq_mount_mount_t (s : S) : fEq true (.d (.str "mount")) (.d (.str "mount")) s = .ok (.d (.bl false)) s := fEq_strs true _ _ true s (by decide +kernel)
theorem wq_mount_foot_f (s : S) : fEq false (.d (.str "mount")) (.d (.str "foot")) s = .ok (.d (.bl false)) s := fEq_strs false _ _ false s (by decide +kernel)
theorem wq_mount_foot_t (s : S) : fEq true (.d (.str "mount")) (.d (.str "foot")) s = .ok (.d (.bl true)) s := fEq_strs true _ _ false s (by decide +kernel)
theorem wq_mount_lever_f (s : S) : fEq false (.d (.str "mount")) (.d (.str "lever")) s = .ok (.d (.bl false)) s := fEq_strs false _ _ false s (by decide +kernel)
theorem wq_mount_lever_t (s : S) : fEq true (.d (.str "mount")) (.d (.str "lever")) s = .ok (.d (.bl true)) s := fEq_strs true _ _ false s (by decide +kernel)
theorem wq_foot_blank_f (s : S) : fEq false (.d (.str "foot")) (.d (.str "blank")) s = .ok (.d (.bl false)) s := fEq_strs false _ _ false s (by decide +kernel)
theorem wq_foot_blank_t (s : S) : fEq true (.d (.str "foot")) (.d (.str "blank")) s = .ok (.d (.bl true)) s := fEq_strs true _ _ false s (by decide +kernel)
theorem wq_foot_cut_f (s : S) : fEq false (.d (.str "foot")) (.d (.str "cut")) s = .ok (.d (.bl false)) s := fEq_strs false _ _ false s (by decide +kernel)
theorem wq_foot_cut_t (s : S) : fEq true (.d (.str "foot")) (.d (.str "cut")) s = .ok (.d (.bl true)) s := fEq_strs true _ _ false s (by decide +kernel)
theorem wq_foot_mount_f (s : S) : fEq false (.d (.str "foot")) (.d (.str "mount")) s = .ok (.d (.bl false)) s := fEq_strs false _ _ false s (by decide +kernel)
theorem wq_foot_mount_t (s : S) : fEq true (.d (.str "foot")) (.d (.str "mount")) s = .ok (.d (.bl true)) s := fEq_strs true _ _ false s (by decide +kernel)
theorem wq_foot_foot_f (s : S) : fEq false (.d (.str "foot")) (.d (.str "foot")) s = .ok (.d (.bl true)) s := fEq_strs false _ _ true s (by decide +kernel)
theorem wq_foot_foot_t (s : S) : fEq true (.d (.str "foot")) (.d (.str "foot")) s = .ok (.d (.bl false)) s := fEq_strs true _ _ true s (by decide +kernel)
theorem wq_foot_lever_f (s : S) : fEq false (.d (.str "foot")) (.d (.str "lever")) s = .ok (.d (.bl false)) s := fEq_strs false _ _ false s (by decide +kernel)
theorem wq_foot_lever_t (s : S) : fEq true (.d (.str "foot")) (.d (.str "lever")) s = .ok (.d (.bl true)) s := fEq_strs true _ _ false s (by decide +kernel)
theorem wq_lever_blank_f (s : S) : fEq false (.d (.str "lever")) (.d (.str "blank")) s = .ok (.d (.bl false)) s := fEq_strs false _ _ false s (by decide +kernel)
theorem wq_lever_blank_t (s : S) : fEq true (.d (.str "lever")) (.d (.str "blank")) s = .ok (.d (.bl true)) s := fEq_strs true _ _ false s (by decide +kernel)
theorem wq_lever_cut_f (s : S) : fEq false (.d (.str "lever")) (.d (.str "cut")) s = .ok (.d (.bl false)) s := fEq_strs false _ _ false s (by decide +kernel)
theorem wq_lever_cut_t (s : S) : fEq true (.d (.str "lever")) (.d (.str "cut")) s = .ok (.d (.bl true)) s := fEq_strs true _ _ false s (by decide +kernel)
theorem wq_lever_mount_f (s : S) : fEq false (.d (.str "lever")) (.d (.str "mount")) s = .ok (.d (.bl false)) s := fEq_strs false _ _ false s (by decide +kernel)
theorem wq_lever_mount_t (s : S) : fEq true (.d (.str "lever")) (.d (.str "mount")) s = .ok (.d (.bl true)) s := fEq_strs true _ _ false s (by decide +kernel)
theorem wq_lever_foot_f (s : S) : fEq false (.d (.str "lever")) (.d (.str "foot")) s = .ok (.d (.bl false)) s := fEq_strs false _ _ false s (by decide +kernel)
theorem wq_lever_foot_t (s : S) : fEq true (.d (.str "lever")) (.d (.str "foot")) s = .ok (.d (.bl true)) s := fEq_strs true _ _ false s (by decide +kernel)
theorem wq_lever_lever_f (s : S) : fEq false (.d (.str "lever")) (.d (.str "lever")) s = .ok (.d (.bl true)) s := fEq_strs false _ _ true s (by decide +kernel)
theorem wq_lever_lever_t (s : S) : fEq true (.d (.str "lever")) (.d (.str "lever")) s = .ok (.d (.bl false)) s := fEq_strs true _ _ true s (by decide +kernel)
theorem wi_blank (s : S) : fIn true (.d (.str "blank")) (.d (dicI sizes)) s = .ok (.d (.bl false)) s := rfl
theorem wx_blank (s : S) : fIx (.d (dicI sizes)) (.d (.str "blank")) s = .ok (.d (.int 3)) s := rfl
theorem wj_blank (s : S) : fInKD true sizes (.d (.str "blank")) s = .ok (.d (.bl false)) s := rfl
theorem wy_blank (s : S) : fIxKD sizes (.d (.str "blank")) s = .ok (.d (.int 3)) s := rfl
theorem wi_cut (s : S) : fIn true (.d (.str "cut")) (.d (dicI sizes)) s = .ok (.d (.bl false)) s := rfl
theorem wx_cut (s : S) : fIx (.d (dicI sizes)) (.d (.str "cut")) s = .ok (.d (.int 4)) s := rfl
theorem wj_cut (s : S) : fInKD true sizes (.d (.str "cut")) s = .ok (.d (.bl false)) s := rfl
theorem wy_cut (s : S) : fIxKD sizes (.d (.str "cut")) s = .ok (.d (.int 4)) s := rfl
theorem wi_mount (s : S) : fIn true (.d (.str "mount")) (.d (dicI sizes)) s = .ok (.d (.bl false)) s := rfl
theorem wx_mount (s : S) : fIx (.d (dicI sizes)) (.d (.str "mount")) s = .ok (.d (.int 5)) s := rfl
theorem wj_mount (s : S) : fInKD true sizes (.d (.str "mount")) s = .ok (.d (.bl false)) s := rfl
theorem wy_mount (s : S) : fIxKD sizes (.d (.str "mount")) s = .ok (.d (.int 5)) s := rfl
theorem wi_foot (s : S) : fIn true (.d (.str "foot")) (.d (dicI sizes)) s = .ok (.d (.bl false)) s := rfl
theorem wx_foot (s : S) : fIx (.d (dicI sizes)) (.d (.str "foot")) s = .ok (.d (.int 5)) s := rfl
theorem wj_foot (s : S) : fInKD true sizes (.d (.str "foot")) s = .ok (.d (.bl false)) s := rfl
theorem wy_foot (s : S) : fIxKD sizes (.d (.str "foot")) s = .ok (.d (.int 5)) s := rfl
theorem wi_lever (s : S) : fIn true (.d (.str "lever")) (.d (dicI sizes)) s = .ok (.d (.bl false)) s := rfl
theorem wx_lever (s : S) : fIx (.d (dicI sizes)) (.d (.str "lever")) s = .ok (.d (.int 3)) s := rfl
theorem wj_lever (s : S) : fInKD true sizes (.d (.str "lever")) s = .ok (.d (.bl false)) s := rfl
theorem wy_lever (s : S) : fIxKD sizes (.d (.str "lever")) s = .ok (.d (.int 3)) s := rfl
inductive Fa where
  | blank (c : Int) (r : List Int) | cut (c k h : Int) | mount (c t m a : Int) | foot (f c : Int) (l : List Int) (m : Int) | lever (n : Int) (t : D)
noncomputable def Fa.word : Fa → Str
  | .blank _ _ => "blank" | .cut _ _ _ => "cut" | .mount _ _ _ _ => "mount" | .foot _ _ _ _ => "foot" | .lever _ _ => "lever"
noncomputable def Fa.num : Fa → Int
  | .blank c _ => c | .cut c _ _ => c | .mount c _ _ _ => c | .foot f _ _ _ => f | .lever n _ => n
noncomputable def Fa.rest : Fa → List D
  | .blank _ r => [.tup (r.map .int)] | .cut _ k h => [.int k, .int h] | .mount _ t m a => [.int t, .int m, .int a] | .foot _ c l m => [.int c, .tup (l.map .int), .int m] | .lever _ t => [t]
noncomputable def Fa.d (f : Fa) : D := .tup (.str f.word :: .int f.num :: f.rest)
noncomputable def drOk (l : List Int) : Bool := l.all fun x => decide (0 ≤ x) && decide (x ≤ 99)
noncomputable def Fa.ok : Fa → Bool
  | .blank c r => decide (0 ≤ c) && decide (c ≤ 5) && (decide (3 ≤ r.length) && decide (r.length ≤ 48))
  | .cut c k _ => decide (0 ≤ c) && decide (c ≤ 5) && (decide (0 ≤ k) && decide (k ≤ 47))
  | .mount c t m _ => decide (0 ≤ c) && decide (c ≤ 5) && (decide (-99 ≤ t) && decide (t ≤ 99) && (decide (1 ≤ m) && decide (m ≤ 99)))
  | .foot f c l m => (decide (1 ≤ l.length) && decide (l.length ≤ 9) && drOk l) && (decide (0 ≤ f) && decide (f ≤ 7)) && (decide (0 ≤ c) && decide (c ≤ 5)) && (decide (0 ≤ m) && decide (m < l.length))
  | .lever n t => decide (0 ≤ n) && decide (n ≤ 5) && goodT t
noncomputable def Fa.sz : Fa → Prop
  | .blank _ r => r.length ≤ 5000 | .foot _ _ l _ => l.length ≤ 1000 | .lever _ t => TD 12 t | _ => True
end TG

set_option linter.all false
set_option maxRecDepth 100000
namespace TG
open PySem L2
noncomputable def kRg (a c : Int) : W → S → Res W := fun x s => match asInt x with | some i => .ok (.d (.bl (decide (a ≤ i) && decide (i ≤ c)))) s | none => .no
theorem kRg_int (a c i : Int) (s : S) : kRg a c (.d (.int i)) s = .ok (.d (.bl (decide (a ≤ i) && decide (i ≤ c)))) s := (rfl)
theorem chLL_t (a c : Int) (i : Int) (s : S) : ((fLe (.d (.int a)) (.d (.int i)) s).bind fun z s3 => match asBool z with | some true => ((eC (.int c)) ([] : Rho) s3).bind fun w s4 => fLe (.d (.int i)) w s4 | some false => .ok (.d (.bl false)) s3 | none => .no) = kRg a c (.d (.int i)) s := by
  rw [kRg_int]
  by_cases h : a ≤ i
  · simp [h]
  · simp [h]
theorem chLL (a c : Int) (b : Cmp W) (ρ : Rho) (s : S) (i : Int) (h : b ρ s = .ok (.d (.int i)) s) : eChain fLe fLe (eC (.int a)) b (eC (.int c)) ρ s = .ok (.d (.bl (decide (a ≤ i) && decide (i ≤ c)))) s := by
  unfold eChain
  show ((b ρ s).bind fun y s2 => (fLe (.d (.int a)) y s2).bind fun z s3 => match asBool z with | some true => ((eC (.int c)) ρ s3).bind fun w s4 => fLe y w s4 | some false => .ok (.d (.bl false)) s3 | none => .no) = _
  rw [h]
  show ((fLe (.d (.int a)) (.d (.int i)) s).bind fun z s3 => match asBool z with | some true => ((eC (.int c)) ρ s3).bind fun w s4 => fLe (.d (.int i)) w s4 | some false => .ok (.d (.bl false)) s3 | none => .no) = _
  by_cases h : a ≤ i
  · simp [h]
  · simp [h]
theorem chLt (a j : Int) (b c : Cmp W) (ρ : Rho) (s : S) (i : Int) (h : b ρ s = .ok (.d (.int i)) s) (h2 : c ρ s = .ok (.d (.int j)) s) : eChain fLe fLt (eC (.int a)) b c ρ s = .ok (.d (.bl (decide (a ≤ i) && decide (i < j)))) s := by
  unfold eChain
  show ((b ρ s).bind fun y s2 => (fLe (.d (.int a)) y s2).bind fun z s3 => match asBool z with | some true => (c ρ s3).bind fun w s4 => fLt y w s4 | some false => .ok (.d (.bl false)) s3 | none => .no) = _
  rw [h]
  show ((fLe (.d (.int a)) (.d (.int i)) s).bind fun z s3 => match asBool z with | some true => (c ρ s3).bind fun w s4 => fLt (.d (.int i)) w s4 | some false => .ok (.d (.bl false)) s3 | none => .no) = _
  by_cases h : a ≤ i
  · simp [h, h2]
  · simp [h]
theorem dr_all (l : List Int) (s : S) : fAll (.d (.lst (l.map fun x => D.bl (decide (0 ≤ x) && decide (x ≤ 99))))) s = .ok (.d (.bl (drOk l))) s := by
  have := fAll_bls (l.map fun x => decide (0 ≤ x) && decide (x ≤ 99)) s
  rw [List.map_map, List.all_map] at this
  exact this
theorem dec_nat (a b : Nat) (n : Nat) : (decide ((a : Int) ≤ (n : Int)) && decide ((n : Int) ≤ (b : Int))) = (decide (a ≤ n) && decide (n ≤ b)) := by
  congr 1 <;> (rw [decide_eq_decide]; omega)
end TG

set_option linter.all false
set_option maxRecDepth 100000
namespace TG
open PySem L2
theorem numI (i : Int) (s : S) : f_is_number [.d (.int i)] s = .ok (.w (.d (.bl true))) s := isnum_eq (.int i) s (.inl ⟨i, rfl⟩)
theorem are_eq (l : List Int) (h : l.length ≤ 16777216) (s : S) : f_are_numbers [.d (.tup (l.map .int))] s = .ok (.w (.d (.bl true))) s := by
  have e1 : wD (l.map D.int) = l.map fun i => W.d (.int i) := by unfold wD; rw [List.map_map]; rfl
  have fa := fAll_bls (l.map fun _ => true) s
  rw [List.map_map] at fa
  have e2 : (l.map fun _ => true).all id = true := by simp
  rw [e2] at fa
  rw [f_are_numbers, runF_eq]
  simp [b_are_numbers, -rng1_eq, wipeR]
  rw [e1, lcM_fn' (v := fun _ => D.bl true)]
  rotate_left
  · intro i hi
    exact ⟨_, rfl, by simp [numI, wipeR]⟩
  have hL : (l.map fun _ => D.bl true).length ≤ 16777216 := by rw [List.length_map]; exact h
  have fa : fAll (.d (.lst (l.map fun _ => D.bl true))) s = .ok (.d (.bl true)) s := fa
  generalize (l.map fun _ => D.bl true) = LB at *
  simp [h, hL, fa, -rng1_eq, wipeR]
theorem are3 (a b c : Int) (s : S) : f_are_numbers [.d (.tup [.int a, .int b, .int c])] s = .ok (.w (.d (.bl true))) s := are_eq [a, b, c] (by simp) s
theorem are4 (a b c d : Int) (s : S) : f_are_numbers [.d (.tup [.int a, .int b, .int c, .int d])] s = .ok (.w (.d (.bl true))) s := are_eq [a, b, c, d] (by simp) s
theorem kinds_eq (f : Fa) (h : f.sz) (s : S) : f_good_kinds [.d f.d] s = .ok (.w (.d (.bl true))) s := by
  rw [f_good_kinds, runF_eq]
  have u1 : ∀ a b : D, cut [a, b] (some 1) none = [b] := fun a b => rfl
  cases f with
  | blank c r =>
    have h : r.length ≤ 5000 := h
    have ar := fun s => are_eq r (by omega) s
    simp only [Fa.d, Fa.word, Fa.num, Fa.rest]
    simp [b_good_kinds, numI, ar, wq_blank_blank_f, wq_blank_blank_t, wq_blank_cut_f, wq_blank_cut_t, wq_blank_mount_f, wq_blank_mount_t, wq_blank_foot_f, wq_blank_foot_t, wq_blank_lever_f, wq_blank_lever_t, wq_cut_blank_f, wq_cut_blank_t, wq_cut_cut_f, wq_cut_cut_t, wq_cut_mount_f, wq_cut_mount_t, wq_cut_foot_f, wq_cut_foot_t, wq_cut_lever_f, wq_cut_lever_t, wq_mount_blank_f, wq_mount_blank_t, wq_mount_cut_f, wq_mount_cut_t, wq_mount_mount_f, wq_mount_mount_t, wq_mount_foot_f, wq_mount_foot_t, wq_mount_lever_f, wq_mount_lever_t, wq_foot_blank_f, wq_foot_blank_t, wq_foot_cut_f, wq_foot_cut_t, wq_foot_mount_f, wq_foot_mount_t, wq_foot_foot_f, wq_foot_foot_t, wq_foot_lever_f, wq_foot_lever_t, wq_lever_blank_f, wq_lever_blank_t, wq_lever_cut_f, wq_lever_cut_t, wq_lever_mount_f, wq_lever_mount_t, wq_lever_foot_f, wq_lever_foot_t, wq_lever_lever_f, wq_lever_lever_t, wi_blank, wx_blank, wj_blank, wy_blank, wi_cut, wx_cut, wj_cut, wy_cut, wi_mount, wx_mount, wj_mount, wy_mount, wi_foot, wx_foot, wj_foot, wy_foot, wi_lever, wx_lever, wj_lever, wy_lever, wipeR, -rng1_eq, -fIx_eq, fIx_tup, fIx_lst, -eChain_eq]
  | cut c k x =>
    have q : cut [D.str "cut", .int c, .int k, .int x] (some 1) none = [.int c, .int k, .int x] := rfl
    simp only [Fa.d, Fa.word, Fa.num, Fa.rest]
    simp [b_good_kinds, q, are3, wq_blank_blank_f, wq_blank_blank_t, wq_blank_cut_f, wq_blank_cut_t, wq_blank_mount_f, wq_blank_mount_t, wq_blank_foot_f, wq_blank_foot_t, wq_blank_lever_f, wq_blank_lever_t, wq_cut_blank_f, wq_cut_blank_t, wq_cut_cut_f, wq_cut_cut_t, wq_cut_mount_f, wq_cut_mount_t, wq_cut_foot_f, wq_cut_foot_t, wq_cut_lever_f, wq_cut_lever_t, wq_mount_blank_f, wq_mount_blank_t, wq_mount_cut_f, wq_mount_cut_t, wq_mount_mount_f, wq_mount_mount_t, wq_mount_foot_f, wq_mount_foot_t, wq_mount_lever_f, wq_mount_lever_t, wq_foot_blank_f, wq_foot_blank_t, wq_foot_cut_f, wq_foot_cut_t, wq_foot_mount_f, wq_foot_mount_t, wq_foot_foot_f, wq_foot_foot_t, wq_foot_lever_f, wq_foot_lever_t, wq_lever_blank_f, wq_lever_blank_t, wq_lever_cut_f, wq_lever_cut_t, wq_lever_mount_f, wq_lever_mount_t, wq_lever_foot_f, wq_lever_foot_t, wq_lever_lever_f, wq_lever_lever_t, wi_blank, wx_blank, wj_blank, wy_blank, wi_cut, wx_cut, wj_cut, wy_cut, wi_mount, wx_mount, wj_mount, wy_mount, wi_foot, wx_foot, wj_foot, wy_foot, wi_lever, wx_lever, wj_lever, wy_lever, wipeR, -rng1_eq, -fIx_eq, fIx_tup, fIx_lst, -eChain_eq]
  | mount c t m a =>
    have q : cut [D.str "mount", .int c, .int t, .int m, .int a] (some 1) none = [.int c, .int t, .int m, .int a] := rfl
    simp only [Fa.d, Fa.word, Fa.num, Fa.rest]
    simp [b_good_kinds, q, are4, wq_blank_blank_f, wq_blank_blank_t, wq_blank_cut_f, wq_blank_cut_t, wq_blank_mount_f, wq_blank_mount_t, wq_blank_foot_f, wq_blank_foot_t, wq_blank_lever_f, wq_blank_lever_t, wq_cut_blank_f, wq_cut_blank_t, wq_cut_cut_f, wq_cut_cut_t, wq_cut_mount_f, wq_cut_mount_t, wq_cut_foot_f, wq_cut_foot_t, wq_cut_lever_f, wq_cut_lever_t, wq_mount_blank_f, wq_mount_blank_t, wq_mount_cut_f, wq_mount_cut_t, wq_mount_mount_f, wq_mount_mount_t, wq_mount_foot_f, wq_mount_foot_t, wq_mount_lever_f, wq_mount_lever_t, wq_foot_blank_f, wq_foot_blank_t, wq_foot_cut_f, wq_foot_cut_t, wq_foot_mount_f, wq_foot_mount_t, wq_foot_foot_f, wq_foot_foot_t, wq_foot_lever_f, wq_foot_lever_t, wq_lever_blank_f, wq_lever_blank_t, wq_lever_cut_f, wq_lever_cut_t, wq_lever_mount_f, wq_lever_mount_t, wq_lever_foot_f, wq_lever_foot_t, wq_lever_lever_f, wq_lever_lever_t, wi_blank, wx_blank, wj_blank, wy_blank, wi_cut, wx_cut, wj_cut, wy_cut, wi_mount, wx_mount, wj_mount, wy_mount, wi_foot, wx_foot, wj_foot, wy_foot, wi_lever, wx_lever, wj_lever, wy_lever, wipeR, -rng1_eq, -fIx_eq, fIx_tup, fIx_lst, -eChain_eq]
  | foot f c l m =>
    have h : l.length ≤ 1000 := h
    have ar := fun s => are_eq l (by omega) s
    have q : cut [D.str "foot", .int f, .int c, .tup (l.map .int), .int m] (some 1) (some 3) = [.int f, .int c] := rfl
    have q2 : cut [D.str "foot", .int f, .int c, .tup (l.map .int), .int m] (some 4) none = [.int m] := rfl
    simp only [Fa.d, Fa.word, Fa.num, Fa.rest]
    simp [b_good_kinds, q, q2, are3, ar, wq_blank_blank_f, wq_blank_blank_t, wq_blank_cut_f, wq_blank_cut_t, wq_blank_mount_f, wq_blank_mount_t, wq_blank_foot_f, wq_blank_foot_t, wq_blank_lever_f, wq_blank_lever_t, wq_cut_blank_f, wq_cut_blank_t, wq_cut_cut_f, wq_cut_cut_t, wq_cut_mount_f, wq_cut_mount_t, wq_cut_foot_f, wq_cut_foot_t, wq_cut_lever_f, wq_cut_lever_t, wq_mount_blank_f, wq_mount_blank_t, wq_mount_cut_f, wq_mount_cut_t, wq_mount_mount_f, wq_mount_mount_t, wq_mount_foot_f, wq_mount_foot_t, wq_mount_lever_f, wq_mount_lever_t, wq_foot_blank_f, wq_foot_blank_t, wq_foot_cut_f, wq_foot_cut_t, wq_foot_mount_f, wq_foot_mount_t, wq_foot_foot_f, wq_foot_foot_t, wq_foot_lever_f, wq_foot_lever_t, wq_lever_blank_f, wq_lever_blank_t, wq_lever_cut_f, wq_lever_cut_t, wq_lever_mount_f, wq_lever_mount_t, wq_lever_foot_f, wq_lever_foot_t, wq_lever_lever_f, wq_lever_lever_t, wi_blank, wx_blank, wj_blank, wy_blank, wi_cut, wx_cut, wj_cut, wy_cut, wi_mount, wx_mount, wj_mount, wy_mount, wi_foot, wx_foot, wj_foot, wy_foot, wi_lever, wx_lever, wj_lever, wy_lever, wipeR, -rng1_eq, -fIx_eq, fIx_tup, fIx_lst, -eChain_eq]
  | lever n t =>
    have h : TD 12 t := h
    have ht := h.tup
    match t, ht with
    | .tup l, _ =>
      simp only [Fa.d, Fa.word, Fa.num, Fa.rest]
      simp [b_good_kinds, numI, wq_blank_blank_f, wq_blank_blank_t, wq_blank_cut_f, wq_blank_cut_t, wq_blank_mount_f, wq_blank_mount_t, wq_blank_foot_f, wq_blank_foot_t, wq_blank_lever_f, wq_blank_lever_t, wq_cut_blank_f, wq_cut_blank_t, wq_cut_cut_f, wq_cut_cut_t, wq_cut_mount_f, wq_cut_mount_t, wq_cut_foot_f, wq_cut_foot_t, wq_cut_lever_f, wq_cut_lever_t, wq_mount_blank_f, wq_mount_blank_t, wq_mount_cut_f, wq_mount_cut_t, wq_mount_mount_f, wq_mount_mount_t, wq_mount_foot_f, wq_mount_foot_t, wq_mount_lever_f, wq_mount_lever_t, wq_foot_blank_f, wq_foot_blank_t, wq_foot_cut_f, wq_foot_cut_t, wq_foot_mount_f, wq_foot_mount_t, wq_foot_foot_f, wq_foot_foot_t, wq_foot_lever_f, wq_foot_lever_t, wq_lever_blank_f, wq_lever_blank_t, wq_lever_cut_f, wq_lever_cut_t, wq_lever_mount_f, wq_lever_mount_t, wq_lever_foot_f, wq_lever_foot_t, wq_lever_lever_f, wq_lever_lever_t, wi_blank, wx_blank, wj_blank, wy_blank, wi_cut, wx_cut, wj_cut, wy_cut, wi_mount, wx_mount, wj_mount, wy_mount, wi_foot, wx_foot, wj_foot, wy_foot, wi_lever, wx_lever, wj_lever, wy_lever, wipeR, -rng1_eq, -fIx_eq, fIx_tup, fIx_lst, -eChain_eq]
theorem gd_eq (l : List Int) (h : l.length ≤ 1000) (s : S) : f_good_drops [.d (.tup (l.map .int))] s = .ok (.w (.d (.bl (decide (1 ≤ l.length) && decide (l.length ≤ 9) && drOk l)))) s := by
  have hl : l.length ≤ 16777216 := by omega
  have p1 := fun ρ s => chLL 1 9 (eArgs (c1 fLen) (eCons (eVar 0) eNil)) (.w (.d (.tup (l.map .int))) :: ρ) s l.length (by simp [hl])
  have e2 := dec_nat 1 9 l.length
  have e1 : wD (l.map D.int) = l.map fun i => W.d (.int i) := by unfold wD; rw [List.map_map]; rfl
  have dr := dr_all l
  have lc3 : ∀ x s, lcM (tgName 1) eYes (eChain fLe fLe (eC (.int 0)) (eVar 1) (eC (.int 99))) [.w (.d (.tup (l.map .int))), x] (wD (l.map D.int)) s = .ok (wD (l.map fun x => D.bl (decide (0 ≤ x) && decide (x ≤ 99)))) s := fun x s => by
    rw [e1, lcM_fn' (v := fun x => D.bl (decide (0 ≤ x) && decide (x ≤ 99)))]
    intro x hx
    exact ⟨_, rfl, chLL 0 99 (eVar 1) _ s x (by simp)⟩
  rw [f_good_drops, runF_eq, ← e2]
  generalize (decide (((1 : Nat) : Int) ≤ (l.length : Int)) && decide ((l.length : Int) ≤ ((9 : Nat) : Int))) = g1 at *
  have hml : (l.map fun x => D.bl (decide (0 ≤ x) && decide (x ≤ 99))).length ≤ 16777216 := by rw [List.length_map]; exact hl
  generalize drOk l = g5 at *
  generalize (l.map fun x => D.bl (decide (0 ≤ x) && decide (x ≤ 99))) = LB at *
  cases g1 <;> simp [b_good_drops, p1, lc3, dr, hl, hml, wipeR, -rng1_eq, -fIx_eq, fIx_tup, fIx_lst, -eChain_eq]
theorem gf_eq (l : List Int) (m : Int) (h : l.length ≤ 1000) (s : S) : f_good_foot [.d (.tup (l.map .int)), .d (.int m)] s = .ok (.w (.d (.bl ((decide (1 ≤ l.length) && decide (l.length ≤ 9) && drOk l) && (decide (0 ≤ m) && decide (m < l.length)))))) s := by
  have hl : l.length ≤ 16777216 := by omega
  have g := fun s => gd_eq l h s
  have p4 := fun ρ s => chLt 0 l.length (eVar 1) (eArgs (c1 fLen) (eCons (eVar 0) eNil)) (.w (.d (.tup (l.map .int))) :: .w (.d (.int m)) :: ρ) s m (by simp) (by simp [hl])
  rw [f_good_foot, runF_eq]
  generalize (decide (1 ≤ l.length) && decide (l.length ≤ 9) && drOk l) = g1 at *
  generalize (decide (0 ≤ m) && decide (m < (l.length : Int))) = g4 at *
  cases g1 <;> simp [b_good_foot, g, p4, wipeR, -rng1_eq, -fIx_eq, fIx_tup, fIx_lst, -eChain_eq]
theorem abs_dec (t : Int) : decide ((if t < 0 then -t else t) ≤ 99) = (decide (-99 ≤ t) && decide (t ≤ 99)) := by
  rw [← Bool.decide_and, decide_eq_decide]
  split <;> omega
theorem things_eq (f : Fa) (h : f.sz) (s : S) : f_good_things [.d f.d] s = .ok (.w (.d (.bl f.ok))) s := by
  rw [f_good_things, runF_eq]
  cases f with
  | blank c r =>
    have h : r.length ≤ 5000 := h
    have p1 := fun ρ s => chLL 0 5 (eBin fIx (eVar 0) (eC (.int 1))) (.w (.d (Fa.blank c r).d) :: ρ) s c (by simp [Fa.d, Fa.word, Fa.num, Fa.rest, -fIx_eq, fIx_tup])
    have p2 := fun s => isRim_eq r s
    have e2 : isRimB r = (decide (3 ≤ r.length) && decide (r.length ≤ 48)) := by unfold isRimB; first | rfl | simp
    rw [e2] at p2
    simp only [Fa.d, Fa.word, Fa.num, Fa.rest] at p1
    simp only [Fa.d, Fa.word, Fa.num, Fa.rest, Fa.ok]
    generalize (decide (0 ≤ c) && decide (c ≤ 5)) = g1 at *
    generalize (decide (3 ≤ r.length) && decide (r.length ≤ 48)) = g2 at *
    cases g1 <;> simp [b_good_things, p1, p2, wq_blank_blank_f, wq_blank_blank_t, wq_blank_cut_f, wq_blank_cut_t, wq_blank_mount_f, wq_blank_mount_t, wq_blank_foot_f, wq_blank_foot_t, wq_blank_lever_f, wq_blank_lever_t, wq_cut_blank_f, wq_cut_blank_t, wq_cut_cut_f, wq_cut_cut_t, wq_cut_mount_f, wq_cut_mount_t, wq_cut_foot_f, wq_cut_foot_t, wq_cut_lever_f, wq_cut_lever_t, wq_mount_blank_f, wq_mount_blank_t, wq_mount_cut_f, wq_mount_cut_t, wq_mount_mount_f, wq_mount_mount_t, wq_mount_foot_f, wq_mount_foot_t, wq_mount_lever_f, wq_mount_lever_t, wq_foot_blank_f, wq_foot_blank_t, wq_foot_cut_f, wq_foot_cut_t, wq_foot_mount_f, wq_foot_mount_t, wq_foot_foot_f, wq_foot_foot_t, wq_foot_lever_f, wq_foot_lever_t, wq_lever_blank_f, wq_lever_blank_t, wq_lever_cut_f, wq_lever_cut_t, wq_lever_mount_f, wq_lever_mount_t, wq_lever_foot_f, wq_lever_foot_t, wq_lever_lever_f, wq_lever_lever_t, wi_blank, wx_blank, wj_blank, wy_blank, wi_cut, wx_cut, wj_cut, wy_cut, wi_mount, wx_mount, wj_mount, wy_mount, wi_foot, wx_foot, wj_foot, wy_foot, wi_lever, wx_lever, wj_lever, wy_lever, wipeR, -rng1_eq, -fIx_eq, fIx_tup, fIx_lst, -eChain_eq]
  | cut c k x =>
    have p1 := fun ρ s => chLL 0 5 (eBin fIx (eVar 0) (eC (.int 1))) (.w (.d (Fa.cut c k x).d) :: ρ) s c (by simp [Fa.d, Fa.word, Fa.num, Fa.rest, -fIx_eq, fIx_tup])
    have p2 := fun ρ s => chLt 0 48 (eBin fIx (eVar 0) (eC (.int 2))) (eC (.int 48)) (.w (.d (Fa.cut c k x).d) :: ρ) s k (by simp [Fa.d, Fa.word, Fa.num, Fa.rest, -fIx_eq, fIx_tup]) (by simp)
    have e2 : (decide (0 ≤ k) && decide (k < 48)) = (decide (0 ≤ k) && decide (k ≤ 47)) := by
      congr 1
      rw [decide_eq_decide]
      omega
    simp only [Fa.d, Fa.word, Fa.num, Fa.rest, e2] at p1 p2
    simp only [Fa.d, Fa.word, Fa.num, Fa.rest, Fa.ok]
    generalize (decide (0 ≤ c) && decide (c ≤ 5)) = g1 at *
    generalize (decide (0 ≤ k) && decide (k ≤ 47)) = g2 at *
    cases g1 <;> simp [b_good_things, p1, p2, wq_blank_blank_f, wq_blank_blank_t, wq_blank_cut_f, wq_blank_cut_t, wq_blank_mount_f, wq_blank_mount_t, wq_blank_foot_f, wq_blank_foot_t, wq_blank_lever_f, wq_blank_lever_t, wq_cut_blank_f, wq_cut_blank_t, wq_cut_cut_f, wq_cut_cut_t, wq_cut_mount_f, wq_cut_mount_t, wq_cut_foot_f, wq_cut_foot_t, wq_cut_lever_f, wq_cut_lever_t, wq_mount_blank_f, wq_mount_blank_t, wq_mount_cut_f, wq_mount_cut_t, wq_mount_mount_f, wq_mount_mount_t, wq_mount_foot_f, wq_mount_foot_t, wq_mount_lever_f, wq_mount_lever_t, wq_foot_blank_f, wq_foot_blank_t, wq_foot_cut_f, wq_foot_cut_t, wq_foot_mount_f, wq_foot_mount_t, wq_foot_foot_f, wq_foot_foot_t, wq_foot_lever_f, wq_foot_lever_t, wq_lever_blank_f, wq_lever_blank_t, wq_lever_cut_f, wq_lever_cut_t, wq_lever_mount_f, wq_lever_mount_t, wq_lever_foot_f, wq_lever_foot_t, wq_lever_lever_f, wq_lever_lever_t, wi_blank, wx_blank, wj_blank, wy_blank, wi_cut, wx_cut, wj_cut, wy_cut, wi_mount, wx_mount, wj_mount, wy_mount, wi_foot, wx_foot, wj_foot, wy_foot, wi_lever, wx_lever, wj_lever, wy_lever, wipeR, -rng1_eq, -fIx_eq, fIx_tup, fIx_lst, -eChain_eq]
  | mount c t m a =>
    have p1 := fun ρ s => chLL 0 5 (eBin fIx (eVar 0) (eC (.int 1))) (.w (.d (Fa.mount c t m a).d) :: ρ) s c (by simp [Fa.d, Fa.word, Fa.num, Fa.rest, -fIx_eq, fIx_tup])
    have p3 := fun ρ s => chLL 1 99 (eBin fIx (eVar 0) (eC (.int 3))) (.w (.d (Fa.mount c t m a).d) :: ρ) s m (by simp [Fa.d, Fa.word, Fa.num, Fa.rest, -fIx_eq, fIx_tup])
    simp only [Fa.d, Fa.word, Fa.num, Fa.rest] at p1 p3
    have gm : ∀ s, f_good_mount [.d (Fa.mount c t m a).d] s = .ok (.w (.d (.bl ((decide (-99 ≤ t) && decide (t ≤ 99)) && (decide (1 ≤ m) && decide (m ≤ 99)))))) s := fun s => by
      rw [f_good_mount, runF_eq]
      have ad := abs_dec t
      generalize (decide (-99 ≤ t) && decide (t ≤ 99)) = g2 at *
      generalize (decide (1 ≤ m) && decide (m ≤ 99)) = g3 at *
      simp only [Fa.d, Fa.word, Fa.num, Fa.rest]
      cases g2 <;> simp [b_good_mount, p3, ad, wipeR, -rng1_eq, -fIx_eq, fIx_tup, fIx_lst, -eChain_eq]
    simp only [Fa.d, Fa.word, Fa.num, Fa.rest] at gm
    simp only [Fa.d, Fa.word, Fa.num, Fa.rest, Fa.ok]
    generalize (decide (0 ≤ c) && decide (c ≤ 5)) = g1 at *
    generalize (decide (-99 ≤ t) && decide (t ≤ 99)) = g2 at *
    generalize (decide (1 ≤ m) && decide (m ≤ 99)) = g3 at *
    cases g1 <;> simp [b_good_things, p1, gm, wq_blank_blank_f, wq_blank_blank_t, wq_blank_cut_f, wq_blank_cut_t, wq_blank_mount_f, wq_blank_mount_t, wq_blank_foot_f, wq_blank_foot_t, wq_blank_lever_f, wq_blank_lever_t, wq_cut_blank_f, wq_cut_blank_t, wq_cut_cut_f, wq_cut_cut_t, wq_cut_mount_f, wq_cut_mount_t, wq_cut_foot_f, wq_cut_foot_t, wq_cut_lever_f, wq_cut_lever_t, wq_mount_blank_f, wq_mount_blank_t, wq_mount_cut_f, wq_mount_cut_t, wq_mount_mount_f, wq_mount_mount_t, wq_mount_foot_f, wq_mount_foot_t, wq_mount_lever_f, wq_mount_lever_t, wq_foot_blank_f, wq_foot_blank_t, wq_foot_cut_f, wq_foot_cut_t, wq_foot_mount_f, wq_foot_mount_t, wq_foot_foot_f, wq_foot_foot_t, wq_foot_lever_f, wq_foot_lever_t, wq_lever_blank_f, wq_lever_blank_t, wq_lever_cut_f, wq_lever_cut_t, wq_lever_mount_f, wq_lever_mount_t, wq_lever_foot_f, wq_lever_foot_t, wq_lever_lever_f, wq_lever_lever_t, wi_blank, wx_blank, wj_blank, wy_blank, wi_cut, wx_cut, wj_cut, wy_cut, wi_mount, wx_mount, wj_mount, wy_mount, wi_foot, wx_foot, wj_foot, wy_foot, wi_lever, wx_lever, wj_lever, wy_lever, wipeR, -rng1_eq, -fIx_eq, fIx_tup, fIx_lst, -eChain_eq]
  | foot f c l m =>
    have h : l.length ≤ 1000 := h
    have p2 := fun ρ s => chLL 0 7 (eBin fIx (eVar 0) (eC (.int 1))) (.w (.d (Fa.foot f c l m).d) :: ρ) s f (by simp [Fa.d, Fa.word, Fa.num, Fa.rest, -fIx_eq, fIx_tup])
    have p3 := fun ρ s => chLL 0 5 (eBin fIx (eVar 0) (eC (.int 2))) (.w (.d (Fa.foot f c l m).d) :: ρ) s c (by simp [Fa.d, Fa.word, Fa.num, Fa.rest, -fIx_eq, fIx_tup])
    have p4 := fun s => gf_eq l m h s
    simp only [Fa.d, Fa.word, Fa.num, Fa.rest] at p2 p3
    simp only [Fa.d, Fa.word, Fa.num, Fa.rest, Fa.ok]
    generalize (decide (1 ≤ l.length) && decide (l.length ≤ 9) && drOk l) = g1 at *
    generalize (decide (0 ≤ f) && decide (f ≤ 7)) = g2 at *
    generalize (decide (0 ≤ c) && decide (c ≤ 5)) = g3 at *
    generalize (decide (0 ≤ m) && decide (m < (l.length : Int))) = g4 at *
    cases g1 <;> cases g2 <;> cases g3 <;> simp [b_good_things, p2, p3, p4, wq_blank_blank_f, wq_blank_blank_t, wq_blank_cut_f, wq_blank_cut_t, wq_blank_mount_f, wq_blank_mount_t, wq_blank_foot_f, wq_blank_foot_t, wq_blank_lever_f, wq_blank_lever_t, wq_cut_blank_f, wq_cut_blank_t, wq_cut_cut_f, wq_cut_cut_t, wq_cut_mount_f, wq_cut_mount_t, wq_cut_foot_f, wq_cut_foot_t, wq_cut_lever_f, wq_cut_lever_t, wq_mount_blank_f, wq_mount_blank_t, wq_mount_cut_f, wq_mount_cut_t, wq_mount_mount_f, wq_mount_mount_t, wq_mount_foot_f, wq_mount_foot_t, wq_mount_lever_f, wq_mount_lever_t, wq_foot_blank_f, wq_foot_blank_t, wq_foot_cut_f, wq_foot_cut_t, wq_foot_mount_f, wq_foot_mount_t, wq_foot_foot_f, wq_foot_foot_t, wq_foot_lever_f, wq_foot_lever_t, wq_lever_blank_f, wq_lever_blank_t, wq_lever_cut_f, wq_lever_cut_t, wq_lever_mount_f, wq_lever_mount_t, wq_lever_foot_f, wq_lever_foot_t, wq_lever_lever_f, wq_lever_lever_t, wi_blank, wx_blank, wj_blank, wy_blank, wi_cut, wx_cut, wj_cut, wy_cut, wi_mount, wx_mount, wj_mount, wy_mount, wi_foot, wx_foot, wj_foot, wy_foot, wi_lever, wx_lever, wj_lever, wy_lever, wipeR, -rng1_eq, -fIx_eq, fIx_tup, fIx_lst, -eChain_eq]
  | lever n t =>
    have h : TD 12 t := h
    have p1 := fun ρ s => chLL 0 5 (eBin fIx (eVar 0) (eC (.int 1))) (.w (.d (Fa.lever n t).d) :: ρ) s n (by simp [Fa.d, Fa.word, Fa.num, Fa.rest, -fIx_eq, fIx_tup])
    have gt := fun s => isTree_eq t s h
    simp only [Fa.d, Fa.word, Fa.num, Fa.rest] at p1
    simp only [Fa.d, Fa.word, Fa.num, Fa.rest, Fa.ok]
    generalize (decide (0 ≤ n) && decide (n ≤ 5)) = g1 at *
    generalize goodT t = g2 at *
    cases g1 <;> simp [b_good_things, p1, gt, wq_blank_blank_f, wq_blank_blank_t, wq_blank_cut_f, wq_blank_cut_t, wq_blank_mount_f, wq_blank_mount_t, wq_blank_foot_f, wq_blank_foot_t, wq_blank_lever_f, wq_blank_lever_t, wq_cut_blank_f, wq_cut_blank_t, wq_cut_cut_f, wq_cut_cut_t, wq_cut_mount_f, wq_cut_mount_t, wq_cut_foot_f, wq_cut_foot_t, wq_cut_lever_f, wq_cut_lever_t, wq_mount_blank_f, wq_mount_blank_t, wq_mount_cut_f, wq_mount_cut_t, wq_mount_mount_f, wq_mount_mount_t, wq_mount_foot_f, wq_mount_foot_t, wq_mount_lever_f, wq_mount_lever_t, wq_foot_blank_f, wq_foot_blank_t, wq_foot_cut_f, wq_foot_cut_t, wq_foot_mount_f, wq_foot_mount_t, wq_foot_foot_f, wq_foot_foot_t, wq_foot_lever_f, wq_foot_lever_t, wq_lever_blank_f, wq_lever_blank_t, wq_lever_cut_f, wq_lever_cut_t, wq_lever_mount_f, wq_lever_mount_t, wq_lever_foot_f, wq_lever_foot_t, wq_lever_lever_f, wq_lever_lever_t, wi_blank, wx_blank, wj_blank, wy_blank, wi_cut, wx_cut, wj_cut, wy_cut, wi_mount, wx_mount, wj_mount, wy_mount, wi_foot, wx_foot, wj_foot, wy_foot, wi_lever, wx_lever, wj_lever, wy_lever, wipeR, -rng1_eq, -fIx_eq, fIx_tup, fIx_lst, -eChain_eq]
theorem need_eq (f : Fa) (h : f.sz) (s : S) : f_need_fact [.d f.d] s = (if f.ok = true then .ok (.w (.d .non)) s else .exc "BadFact" none s) := by
  have k := fun s => kinds_eq f h s
  have t := fun s => things_eq f h s
  rw [f_need_fact, runF_eq]
  generalize f.ok = g at *
  cases f <;> simp only [Fa.d, Fa.word, Fa.num, Fa.rest] at k t ⊢ <;> cases g <;> simp [b_need_fact, k, t, wq_blank_blank_f, wq_blank_blank_t, wq_blank_cut_f, wq_blank_cut_t, wq_blank_mount_f, wq_blank_mount_t, wq_blank_foot_f, wq_blank_foot_t, wq_blank_lever_f, wq_blank_lever_t, wq_cut_blank_f, wq_cut_blank_t, wq_cut_cut_f, wq_cut_cut_t, wq_cut_mount_f, wq_cut_mount_t, wq_cut_foot_f, wq_cut_foot_t, wq_cut_lever_f, wq_cut_lever_t, wq_mount_blank_f, wq_mount_blank_t, wq_mount_cut_f, wq_mount_cut_t, wq_mount_mount_f, wq_mount_mount_t, wq_mount_foot_f, wq_mount_foot_t, wq_mount_lever_f, wq_mount_lever_t, wq_foot_blank_f, wq_foot_blank_t, wq_foot_cut_f, wq_foot_cut_t, wq_foot_mount_f, wq_foot_mount_t, wq_foot_foot_f, wq_foot_foot_t, wq_foot_lever_f, wq_foot_lever_t, wq_lever_blank_f, wq_lever_blank_t, wq_lever_cut_f, wq_lever_cut_t, wq_lever_mount_f, wq_lever_mount_t, wq_lever_foot_f, wq_lever_foot_t, wq_lever_lever_f, wq_lever_lever_t, wi_blank, wx_blank, wj_blank, wy_blank, wi_cut, wx_cut, wj_cut, wy_cut, wi_mount, wx_mount, wj_mount, wy_mount, wi_foot, wx_foot, wj_foot, wy_foot, wi_lever, wx_lever, wj_lever, wy_lever, wipeR, -rng1_eq, -fIx_eq, fIx_tup, fIx_lst, -eChain_eq]
end TG

set_option linter.all false
set_option maxRecDepth 100000
namespace TG
open PySem L2
noncomputable def pos (x : Str) (L : List Nat) : Int := (((tl x).length - L.length : Nat) : Int)
theorem suf_drop {α : Type} {l L : List α} (h : L <:+ l) : l.drop (l.length - L.length) = L := by
  obtain ⟨p, rfl⟩ := h
  rw [List.length_append, Nat.add_sub_cancel, List.drop_left]
theorem suf_len {α : Type} {l L : List α} (h : L <:+ l) : L.length ≤ l.length := by
  obtain ⟨p, rfl⟩ := h
  rw [List.length_append]; omega
section
variable {x : Str} {L : List Nat}
theorem ix0 {c : Nat} (hx : x.length ≤ 16777216) (h : c :: L <:+ tl x) (s : S) : fIx (.d (.str x)) (.d (.int (pos x (c :: L)))) s = .ok (.d (.str (mk [c]))) s := by
  refine fIx_str x _ c s hx ?_
  have hl := suf_len h
  rw [List.length_cons] at hl
  unfold pos
  rw [atI_nat _ _ (Int.natCast_nonneg _) (by rw [List.length_cons]; omega), Int.toNat_natCast]
  have e := suf_drop h
  have e2 : ((tl x).drop ((tl x).length - (c :: L).length))[0]? = some c := by rw [e]; rfl
  rw [List.getElem?_drop] at e2
  exact e2
end
theorem take1_ok {l : List Nat} {x : Str} (h : SOk (tl x)) (hs : l <:+ tl x) : SOk (tl (mk (l.take 1))) := h.sub fun c hc => hs.subset (List.mem_of_mem_take hc)
theorem lit_ok {l : Str} (h : PyData.strOk l = true) : SOk (tl l) := SOk.of_strOk h
theorem nx (neg : Bool) (c : Nat) (lit : Str) (hl : tl lit = [c]) (hc : c < 1114112) {x : Str} {L : List Nat} (h : SOk (tl x)) (hs : L <:+ tl x) (s : S) :
    fEq neg (.d (.str (mk (L.take 1)))) (.d (.str lit)) s = .ok (.d (.bl (if neg then !decide (L.head? = some c) else decide (L.head? = some c)))) s := by
  rw [fEq_str neg s (take1_ok h hs) (by rw [hl]; intro d hd; rw [List.mem_singleton.mp hd]; exact hc)]
  have e : (tl (mk (L.take 1)) = tl lit) = (L.head? = some c) := by
    rw [tl_mk, hl]
    cases L with
    | nil => simp
    | cons a r => simp
  simp only [e]
end TG

set_option linter.all false
set_option maxRecDepth 100000
namespace TG
open PySem L2
theorem okP : ∀ {n : Nat} {t : D}, okT n t = true → t.plain = true ∧ t.slim = true ∧ t.dep ≤ n
  | 0, t, h => by cases h
  | n + 1, t, h => by
    rcases ok_cases h with ⟨i, i0, i1, rfl⟩ | ⟨d, hd, rfl⟩ | ⟨x, d, e, hx, hd, he, rfl⟩
    · have p0 : (D.str "foot").plain = true := by decide +kernel
      refine ⟨?_, rfl, ?_⟩
      · rw [plain_tup, plains_iff]
        intro y hy
        rcases List.mem_cons.mp hy with rfl | hy
        · exact p0
        · rw [List.mem_singleton.mp hy]; rfl
      · simp [D.dep, D.deps]
    · obtain ⟨h1, h2, h3⟩ := okP hd
      have p0 : (D.str "less").plain = true := by decide +kernel
      refine ⟨?_, ?_, ?_⟩
      · rw [plain_tup, plains_iff]
        intro y hy
        rcases List.mem_cons.mp hy with rfl | hy
        · exact p0
        · rw [List.mem_singleton.mp hy]; exact h1
      · simp [D.slim, D.slims, h2]
      · rw [dep_tup]
        simp [D.deps, D.dep]
        omega
    · obtain ⟨h1, h2, h3⟩ := okP hd
      obtain ⟨k1, k2, k3⟩ := okP he
      have p0 : (D.str x).plain = true := by rcases hx with rfl | rfl <;> decide +kernel
      refine ⟨?_, ?_, ?_⟩
      · rw [plain_tup, plains_iff]
        intro y hy
        rcases List.mem_cons.mp hy with rfl | hy
        · exact p0
        · rcases List.mem_cons.mp hy with rfl | hy
          · exact h1
          · rw [List.mem_singleton.mp hy]; exact k1
      · simp [D.slim, D.slims, h2, k2]
      · rw [dep_tup]
        simp [D.deps, D.dep]
        omega
theorem last_of {r : List Nat} (h : r.getLast? = some 41) : r = r.dropLast ++ [41] := by
  have hn : r ≠ [] := by rintro rfl; cases h
  rw [List.getLast?_eq_some_getLast hn] at h
  conv => lhs; rw [← List.dropLast_concat_getLast hn, Option.some.inj h]
end TG

set_option linter.all false
set_option maxRecDepth 100000
namespace TG
open PySem L2
section
variable {fr : Sem1} {n : Nat} {x : Str} {w : Str} {p : List Nat} {lw : Nat} {s : S}
end
end TG

set_option linter.all false
set_option maxRecDepth 100000
namespace TG
open PySem L2
theorem okT_deep : ∀ (n : Nat) (t : D) (m : Nat) (k : Nat), okT n t = true → n ≤ m → deepT m t ≤ k → okT k t = true
  | 0, t, m, k, h, _, _ => by cases h
  | n + 1, t, 0, k, h, hm, _ => by omega
  | n + 1, t, m + 1, 0, h, hm, hd => by
    have := deep_pos (m + 1) t (okT_le h hm)
    omega
  | n + 1, t, m + 1, k + 1, h, hm, hd => by
    rcases ok_cases h with ⟨i, i0, i1, rfl⟩ | ⟨d, hd', rfl⟩ | ⟨x, d, e, hx, hd', he, rfl⟩
    · exact ok_foot k i i0 (by omega)
    · rw [deepT, if_neg less_nf] at hd
      have := (maxI_leT (l := [deepT m d]) (by simp) k).mp (by simp only [List.map_cons, List.map_nil] at hd; omega) (deepT m d) (by simp)
      exact ok_less (okT_deep n d m k hd' (by omega) this)
    · have hf : x ≠ "foot" := by rcases hx with rfl | rfl; exact sum_nf; exact high_nf
      rw [deepT, if_neg hf] at hd
      have hm' := (maxI_leT (l := [deepT m d, deepT m e]) (by simp) k).mp (by simp only [List.map_cons, List.map_nil] at hd; omega)
      exact ok_two hx (okT_deep n d m k hd' (by omega) (hm' _ (by simp))) (okT_deep n e m k he (by omega) (hm' _ (by simp)))
theorem good_ok5 {t : D} (g : goodT t = true) : okT 5 t = true := by
  unfold goodT at g
  simp only [Bool.and_eq_true, decide_eq_true_eq] at g
  exact okT_deep 12 t 12 5 g.1 (Nat.le_refl _) g.2.1
noncomputable def TX (n : Nat) (x : Str) : Prop := (∀ c ∈ tl x, c < 128) ∧ (tl x).length ≤ n
theorem TX.len {n : Nat} {x : Str} (h : TX n x) (hn : n ≤ 100000) : x.length ≤ 16777216 := by rw [tl_len]; have := h.2; omega
theorem TX.cut {n : Nat} {x : Str} (h : TX n x) (i j : Option Int) : TX n (cutS x i j) := by
  refine ⟨fun c hc => h.1 c ?_, ?_⟩
  · rw [tl_cut] at hc; exact cut_mem _ i j c hc
  · have := cutS_length x i j
    rw [tl_len, tl_len] at this
    exact Nat.le_trans this h.2
theorem TX.up {n : Nat} {x : Str} (h : TX n x) : TX n (Txt.upper x) := by
  have e : Txt.upper x = mk ((tl x).map PyProof.Rows.up1) := by
    have := SX.upper_S (a := tl x) (by rw [List.all_eq_true]; intro c hc; exact decide_eq_true (h.1 c hc))
    rw [show SX.S (tl x) = x from mk_tl x] at this
    exact this
  rw [e]
  refine ⟨fun c hc => ?_, by rw [tl_mk, List.length_map]; exact h.2⟩
  rw [tl_mk] at hc
  obtain ⟨d, hd, rfl⟩ := List.mem_map.mp hc
  have := h.1 d hd
  unfold PyProof.Rows.up1
  split <;> omega
end TG

set_option linter.all false
set_option maxRecDepth 100000
namespace TG
open PySem L2
end TG

set_option linter.all false
set_option maxRecDepth 100000
namespace TG
open PySem L2
end TG

set_option linter.all false
set_option maxRecDepth 100000
namespace TG
open PySem L2
end TG

set_option linter.all false
set_option maxRecDepth 100000
namespace TG
open PySem L2
end TG

set_option linter.all false
set_option maxRecDepth 100000
namespace TG
open PySem L2
theorem deep_le : ∀ (n : Nat) (t : D) (m : Nat), okT n t = true → n ≤ m → deepT m t ≤ n
  | 0, t, m, h, _ => by cases h
  | n + 1, t, 0, h, hm => by omega
  | n + 1, t, m + 1, h, hm => by
    rcases ok_cases h with ⟨i, i0, i1, rfl⟩ | ⟨d, hd, rfl⟩ | ⟨x, d, e, hx, hd, he, rfl⟩
    · rw [deepT, if_pos rfl]; omega
    · rw [deepT, if_neg less_nf]
      have h1 := deep_le n d m hd (by omega)
      have : maxI ([d].map (deepT m)) ≤ n := (maxI_leT (by simp) _).mpr (by intro x hx; simp at hx; subst hx; exact h1)
      omega
    · have hf : x ≠ "foot" := by rcases hx with rfl | rfl; exact sum_nf; exact high_nf
      rw [deepT, if_neg hf]
      have h1 := deep_le n d m hd (by omega)
      have h2 := deep_le n e m he (by omega)
      have : maxI ([d, e].map (deepT m)) ≤ n := (maxI_leT (by simp) _).mpr (by
        intro x hx
        simp at hx
        rcases hx with rfl | rfl
        · exact h1
        · exact h2)
      omega
theorem good_of {t : D} (h : okT 5 t = true) (hp : partsT 12 t ≤ 15) : goodT t = true := by
  have hd : deepT 12 t ≤ 5 := deep_le 5 t 12 h (by decide)
  unfold goodT
  rw [okT_le h (by decide : 5 ≤ 12), decide_eq_true hd, decide_eq_true hp]
  rfl
theorem parts_one (m : Nat) (d : D) : partsT (m + 1) (.tup [.str "less", d]) = 1 + partsT m d := by
  rw [partsT, if_neg less_nf]; simp
theorem parts_two (m : Nat) {x : Str} (hx : x = "sum" ∨ x = "high") (d e : D) : partsT (m + 1) (.tup [.str x, d, e]) = 1 + (partsT m d + partsT m e) := by
  have hf : x ≠ "foot" := by rcases hx with rfl | rfl; exact sum_nf; exact high_nf
  rw [partsT, if_neg hf]; simp
theorem parts_foot (m : Nat) (i : Int) : partsT (m + 1) (.tup [.str "foot", .int i]) = 1 := by rw [partsT, if_pos rfl]
noncomputable def PTf (n : Nat) (t : S) (v : RV) (s : S) : Prop := ∃ (d : D) (b' : Bag), v = .w (.d d) ∧ s = b'.cell :: t ∧ okT n d = true ∧ ∀ m, n ≤ m → partsT m d ≤ 2 ^ n - 1
theorem pow2 (n : Nat) : (1 : Int) ≤ 2 ^ n := by
  induction n with
  | zero => decide
  | succ n ih => rw [Int.pow_succ]; omega
theorem fullp_wp : ∀ (n : Nat) (k : Int) (b : Bag) (t : S), k ≤ n → 1 ≤ n → ∀ m : Nat, n ≤ m → wE nE (PTf n t) (f_v_law_full_tree m [.r 0, .d (.int k)] (b.cell :: t))
  | 0, k, b, t, h1, h2, m, hm => by omega
  | n + 1, k, b, t, h1, h2, 0, hm => by omega
  | n + 1, k, b, t, h1, h2, m + 1, hm => by
    have pn := pow2 n
    have p1 : (2 : Int) ^ (n + 1) = 2 * 2 ^ n := by rw [Int.pow_succ]; omega
    rw [show f_v_law_full_tree (m + 1) = runF 2 2 (b_v_law_full_tree (f_v_law_full_tree m)) from rfl]
    refine wE_fn (by rfl) ?_
    simp [b_v_law_full_tree, wipeR, -rng1_eq]
    by_cases c1 : k < 2
    · simp [c1, wipeR, -rng1_eq]
      refine wS_use (pull_wp _ _ _ (by decide) (by decide)) ?_
      rintro _ _ ⟨i, b, rfl, rfl, i0, i1⟩
      simp [wipeR, -rng1_eq]
      refine ⟨_, b, rfl, rfl, ok_foot n i i0 i1, fun m hm => ?_⟩
      obtain ⟨m, rfl⟩ : ∃ k, m = k + 1 := ⟨m - 1, by omega⟩
      rw [parts_foot]
      omega
    have ih := fun b => fullp_wp n (k - 1) b t (by omega) (by omega) m (by omega)
    simp [c1, wipeR, -rng1_eq]
    refine wS_use (pull_wp _ _ _ (by decide) (by decide)) ?_
    rintro _ _ ⟨w, b, rfl, rfl, w0, w1⟩
    simp [wipeR, -rng1_eq]
    obtain ⟨x, hx, ex⟩ : ∃ x : Str, (x = "sum" ∨ x = "high") ∧ atI (wD [.str "sum", .str "high"]) w = some (.d (.str x)) := by
      have : w = 0 ∨ w = 1 := by omega
      rcases this with rfl | rfl
      · exact ⟨"sum", .inl rfl, rfl⟩
      · exact ⟨"high", .inr rfl, rfl⟩
    simp at ex
    simp [ex, wipeR, -rng1_eq]
    refine wS_use (ih _) ?_
    rintro _ _ ⟨d, b, rfl, rfl, hd, pd⟩
    simp [wipeR, -rng1_eq]
    refine wS_use (ih _) ?_
    rintro _ _ ⟨e, b, rfl, rfl, he, pe⟩
    simp [wipeR, -rng1_eq]
    refine ⟨_, b, rfl, rfl, ok_two hx hd he, fun m hm => ?_⟩
    obtain ⟨m, rfl⟩ : ∃ k, m = k + 1 := ⟨m - 1, by omega⟩
    have q1 := pd m (by omega)
    have q2 := pe m (by omega)
    rw [parts_two m hx]
    omega
noncomputable def PGd (t : S) (v : RV) (s : S) : Prop := ∃ (d : D) (b' : Bag), v = .w (.d d) ∧ s = b'.cell :: t ∧ goodT d = true
theorem smallg_wp (b : Bag) (t : S) : wE nE (PGd t) (f_v_law_small_tree [.r 0] (b.cell :: t)) := by
  rw [f_v_law_small_tree]
  refine wE_fn (by rfl) ?_
  simp [b_v_law_small_tree, wipeR, -rng1_eq]
  refine wS_use (pull_wp _ _ _ (by decide) (by decide)) ?_
  rintro _ _ ⟨y, b, rfl, rfl, y0, y1⟩
  simp [wipeR, -rng1_eq]
  by_cases c : y = 0
  · simp [c, wipeR, -rng1_eq]
    refine wS_use (fullp_wp 4 4 _ _ (by decide) (by decide) 12 (by decide)) ?_
    rintro _ _ ⟨d, b, rfl, rfl, ok, pp⟩
    simp [wipeR, -rng1_eq]
    exact ⟨_, b, rfl, rfl, good_of (okT_le ok (by decide)) (by have := pp 12 (by decide); have e : (2 : Int) ^ 4 - 1 = 15 := by decide
                                                               omega)⟩
  · simp [c, wipeR, -rng1_eq]
    refine wS_use (pull_wp _ _ _ (by decide) (by decide)) ?_
    rintro _ _ ⟨w, b, rfl, rfl, w0, w1⟩
    simp [wipeR, -rng1_eq]
    refine wS_use (tree_wp 6 (1 + w) _ _ (by omega) (by decide) 12 (by decide)) ?_
    rintro _ _ ⟨d, b, rfl, rfl, ok⟩
    simp [wipeR, -rng1_eq]
    have e1 := fun s => good_eq d s (okT_mono (okTD ok) (by decide))
    cases g : goodT d with
    | true =>
      rw [g] at e1
      simp [e1, wipeR, -rng1_eq]
      exact ⟨_, b, rfl, rfl, g⟩
    | false =>
      rw [g] at e1
      simp [e1, wipeR, -rng1_eq]
      refine wS_use (pull_wp _ _ _ (by decide) (by decide)) ?_
      rintro _ _ ⟨i, b, rfl, rfl, i0, i1⟩
      simp [wipeR, -rng1_eq]
      refine ⟨_, b, rfl, rfl, good_of (okT_le (ok_less (ok_foot 0 i i0 i1)) (by decide)) ?_⟩
      rw [parts_one, parts_foot]
      decide
end TG

set_option linter.all false
set_option maxRecDepth 100000
namespace TG
open PySem L2
theorem two_at (x : Int) (h0 : 0 ≤ x) (h1 : x < 2) (p q : Int) : ∃ y, (y = p ∨ y = q) ∧ atI (wD [.int p, .int q]) x = some (.d (.int y)) := by
  have : x = 0 ∨ x = 1 := by omega
  rcases this with rfl | rfl
  · exact ⟨p, .inl rfl, rfl⟩
  · exact ⟨q, .inr rfl, rfl⟩
noncomputable def PFa (t : S) (v : RV) (s : S) : Prop := ∃ (f : Fa) (b' : Bag), v = .w (.d f.d) ∧ s = b'.cell :: t ∧ f.ok = true ∧ f.sz
theorem drOk_of {l : List Int} (h : ∀ x ∈ l, 0 ≤ x ∧ x ≤ 99) : drOk l = true := by
  unfold drOk
  rw [List.all_eq_true]
  intro x hx
  have := h x hx
  simp
  omega
theorem fact_wp (b : Bag) (t : S) (w : W) : wE nE (PFa t) (f_v_law_fact [.r 0, w] (b.cell :: t)) := by
  rw [f_v_law_fact]
  refine wE_fn (by rfl) ?_
  simp [b_v_law_fact, wipeR, -rng1_eq, -fIx_eq, fIx_tup, fIx_lst]
  refine wS_use (pull_wp _ _ _ (by decide) (by decide)) ?_
  rintro _ _ ⟨way, b, rfl, rfl, w0, w1⟩
  simp [wipeR, -rng1_eq, -fIx_eq, fIx_tup, fIx_lst]
  refine wS_use (pull_wp _ _ _ (by decide) (by decide)) ?_
  rintro _ _ ⟨y, b, rfl, rfl, y0, y1⟩
  simp [wipeR, -rng1_eq, -fIx_eq, fIx_tup, fIx_lst]
  obtain ⟨am, ham, eam⟩ : ∃ am : Int, (am = 3 ∨ am = 6) ∧ atI (wD [.int 3, .int 6]) (if y = 0 then 1 else 0) = some (.d (.int am)) := by
    by_cases h : y = 0
    · rw [if_pos h]; exact ⟨6, .inr rfl, rfl⟩
    · rw [if_neg h]; exact ⟨3, .inl rfl, rfl⟩
  simp at eam
  simp [eam, wipeR, -rng1_eq, -fIx_eq, fIx_tup, fIx_lst]
  refine wS_use (pull_wp _ am _ (by omega) (by omega)) ?_
  rintro _ _ ⟨cam, b, rfl, rfl, c0, c1⟩
  simp [wipeR, -rng1_eq, -fIx_eq, fIx_tup, fIx_lst]
  have c5 : cam ≤ 5 := by omega
  by_cases v1 : way < 2
  · simp [v1, wipeR, -rng1_eq, -fIx_eq, fIx_tup, fIx_lst]
    refine wS_use (pull_wp _ _ _ (by decide) (by decide)) ?_
    rintro _ _ ⟨q, b, rfl, rfl, q0, q1⟩
    simp [wipeR, -rng1_eq, -fIx_eq, fIx_tup, fIx_lst]
    obtain ⟨mo, hmo, emo⟩ := three q q0 q1 6 12 48
    simp at emo
    simp [emo, wipeR, -rng1_eq, -fIx_eq, fIx_tup, fIx_lst]
    refine wS_use (rim_wp _ _ mo (by omega) (by omega)) ?_
    rintro _ _ ⟨l, b, rfl, rfl, l3, l48, _⟩
    simp [wipeR, -rng1_eq, -fIx_eq, fIx_tup, fIx_lst]
    exact ⟨.blank cam l, b, rfl, rfl, by simp [Fa.ok, c0, c5, l3, l48], by show l.length ≤ 5000; omega⟩
  by_cases v2 : way < 6
  · simp [v1, v2, wipeR, -rng1_eq, -fIx_eq, fIx_tup, fIx_lst]
    refine wS_use (pull_wp _ _ _ (by decide) (by decide)) ?_
    rintro _ _ ⟨q, b, rfl, rfl, q0, q1⟩
    simp [wipeR, -rng1_eq, -fIx_eq, fIx_tup, fIx_lst]
    by_cases h : 0 < q
    · simp [h, wipeR, -rng1_eq, -fIx_eq, fIx_tup, fIx_lst]
      refine wS_use (pull_wp _ _ _ (by decide) (by decide)) ?_
      rintro _ _ ⟨k, b, rfl, rfl, k0, k1⟩
      simp [wipeR, -rng1_eq, -fIx_eq, fIx_tup, fIx_lst]
      refine wS_use (height_wp' _ _) ?_
      rintro _ _ ⟨x, b, rfl, rfl⟩
      simp [wipeR, -rng1_eq, -fIx_eq, fIx_tup, fIx_lst]
      exact ⟨.cut cam k x, b, rfl, rfl, by simp [Fa.ok, c0, c5, k0]; omega, trivial⟩
    · simp [h, wipeR, -rng1_eq, -fIx_eq, fIx_tup, fIx_lst]
      refine wS_use (pull_wp _ _ _ (by decide) (by decide)) ?_
      rintro _ _ ⟨k, b, rfl, rfl, k0, k1⟩
      simp [wipeR, -rng1_eq, -fIx_eq, fIx_tup, fIx_lst]
      refine wS_use (height_wp' _ _) ?_
      rintro _ _ ⟨x, b, rfl, rfl⟩
      simp [wipeR, -rng1_eq, -fIx_eq, fIx_tup, fIx_lst]
      exact ⟨.cut cam k x, b, rfl, rfl, by simp [Fa.ok, c0, c5, k0]; omega, trivial⟩
  by_cases v3 : way < 8
  · simp [v1, v2, v3, wipeR, -rng1_eq, -fIx_eq, fIx_tup, fIx_lst]
    refine wS_use (pull_wp _ _ _ (by decide) (by decide)) ?_
    rintro _ _ ⟨p, b, rfl, rfl, p0, p1⟩
    simp [wipeR, -rng1_eq, -fIx_eq, fIx_tup, fIx_lst]
    refine wS_use (pull_wp _ _ _ (by decide) (by decide)) ?_
    rintro _ _ ⟨q, b, rfl, rfl, q0, q1⟩
    simp [wipeR, -rng1_eq, -fIx_eq, fIx_tup, fIx_lst]
    refine wS_use (pull_wp _ _ _ (by decide) (by decide)) ?_
    rintro _ _ ⟨r, b, rfl, rfl, r0, r1⟩
    simp [wipeR, -rng1_eq, -fIx_eq, fIx_tup, fIx_lst]
    obtain ⟨sp, hsp, esp⟩ := three r r0 r1 (p - 99) (q - 2) 0
    simp at esp
    simp [esp, wipeR, -rng1_eq, -fIx_eq, fIx_tup, fIx_lst]
    refine wS_use (pull_wp _ _ _ (by decide) (by decide)) ?_
    rintro _ _ ⟨u, b, rfl, rfl, u0, u1⟩
    simp [wipeR, -rng1_eq, -fIx_eq, fIx_tup, fIx_lst]
    obtain ⟨mo, hmo, emo⟩ := two_at u u0 u1 9 99
    simp at emo
    simp [emo, wipeR, -rng1_eq, -fIx_eq, fIx_tup, fIx_lst]
    refine wS_use (pull_wp _ mo _ (by omega) (by omega)) ?_
    rintro _ _ ⟨z, b, rfl, rfl, z0, z1⟩
    simp [wipeR, -rng1_eq, -fIx_eq, fIx_tup, fIx_lst]
    refine wS_use (angle_wp _ _) ?_
    rintro _ _ ⟨a, b, rfl, rfl⟩
    simp [wipeR, -rng1_eq, -fIx_eq, fIx_tup, fIx_lst]
    have h1 : -99 ≤ sp := by omega
    have h2 : sp ≤ 99 := by omega
    have h3 : 1 ≤ 1 + z := by omega
    have h4 : 1 + z ≤ 99 := by omega
    exact ⟨.mount cam sp (1 + z) a, b, rfl, rfl, by simp [Fa.ok, c0, c5, h1, h2, h3, h4], trivial⟩
  by_cases v4 : way < 10
  · simp [v1, v2, v3, v4, wipeR, -rng1_eq, -fIx_eq, fIx_tup, fIx_lst]
    refine wS_use (pair_wp _ _) ?_
    rintro _ _ ⟨l, m, b, rfl, rfl, gf⟩
    simp [wipeR, -rng1_eq, -fIx_eq, fIx_tup, fIx_lst]
    refine wS_use (pull_wp _ _ _ (by decide) (by decide)) ?_
    rintro _ _ ⟨p, b, rfl, rfl, p0, p1⟩
    simp [wipeR, -rng1_eq, -fIx_eq, fIx_tup, fIx_lst]
    refine wS_use (pull_wp _ _ _ (by decide) (by decide)) ?_
    rintro _ _ ⟨q, b, rfl, rfl, q0, q1⟩
    simp [wipeR, -rng1_eq, -fIx_eq, fIx_tup, fIx_lst]
    refine wS_use (pull_wp _ _ _ (by decide) (by decide)) ?_
    rintro _ _ ⟨r, b, rfl, rfl, r0, r1⟩
    simp [wipeR, -rng1_eq, -fIx_eq, fIx_tup, fIx_lst]
    obtain ⟨ca, hca, eca⟩ := two_at r r0 r1 cam q
    simp at eca
    simp [eca, wipeR, -rng1_eq, -fIx_eq, fIx_tup, fIx_lst]
    obtain ⟨g1, g2, g3, g4, g5⟩ := gf
    have h1 : p ≤ 7 := by omega
    have h2 : 0 ≤ ca := by omega
    have h3 : ca ≤ 5 := by omega
    have h5 := drOk_of g3
    exact ⟨.foot p ca l m, b, rfl, rfl, by simp [Fa.ok, p0, h1, h2, h3, g1, g2, h5, g4, g5], by show l.length ≤ 1000; omega⟩
  · simp [v1, v2, v3, v4, wipeR, -rng1_eq, -fIx_eq, fIx_tup, fIx_lst]
    refine wS_use (pull_wp _ _ _ (by decide) (by decide)) ?_
    rintro _ _ ⟨p, b, rfl, rfl, p0, p1⟩
    simp [wipeR, -rng1_eq, -fIx_eq, fIx_tup, fIx_lst]
    refine wS_use (smallg_wp _ _) ?_
    rintro _ _ ⟨d, b, rfl, rfl, g⟩
    simp [wipeR, -rng1_eq, -fIx_eq, fIx_tup, fIx_lst]
    have h1 : p ≤ 5 := by omega
    exact ⟨.lever p d, b, rfl, rfl, by simp [Fa.ok, p0, h1, g], okTD (good_get g).1⟩
end TG

set_option linter.all false
set_option maxRecDepth 100000
namespace TG
open PySem L2
end TG

set_option linter.all false
set_option maxRecDepth 100000
namespace TG
open PySem L2
@[simp] theorem eSortDI_eq (a : Cmp (List W)) (ρ : Rho) (s : S) : eSortDI a ρ s = (a ρ s).bind kSortDI := (rfl)
@[simp] theorem eLenDic_eq (a : Cmp (List W)) (ρ : Rho) (s : S) : eLenDic a ρ s = (a ρ s).bind kLenDic := (rfl)
@[simp] theorem eDictO_eq (a : Cmp (List W)) (ρ : Rho) (s : S) : eDictO a ρ s = (a ρ s).bind kDictO := (rfl)
@[simp] theorem sPopKO_eq (i : Nat) (e : Cmp W) (ρ : Rho) (s : S) : sPopKO i e ρ s = match (ρ[i]? : Option EV) with | some (.ownD l) => ebS (e ρ s) ρ (kPopKO i l) | _ => .no := (rfl)
@[simp] theorem eLenC_eq (c : Str) (f : Sem1) (a : Cmp W) (ρ : Rho) (s : S) : eLenC c f a ρ s = (a ρ s).bind (kLenC c f) := (rfl)
@[simp] theorem kLenC_eq (c : Str) (f : Sem1) (x : W) (s : S) : kLenC c f x s = if insOf c "__len__" x s = true then lenC (f [x] s) else .no := (rfl)
noncomputable abbrev FaL := List (Int × Fa)
noncomputable def fz (F : FaL) : List (Key × D) := F.map fun p => ((.inl p.1 : Key), p.2.d)
noncomputable def Srt (F : FaL) : Prop := (F.map fun p => p.1).Pairwise (· < ·)
noncomputable def holdD (F : FaL) (m : Int) : D := .ins "Hold" [("there", .dic (fz F)), ("many_told", .int m)]
noncomputable def pF (p : Int × Fa) : D := .tup [.int p.1, p.2.d]
noncomputable def lookF (F : FaL) (k : Int) : Option Fa := (F.find? fun p => decide (p.1 = k)).map fun p => p.2
theorem get_fz (F : FaL) (k : Int) : getK (wK (fz F)) (.inl k) = (lookF F k).map fun f => W.d f.d := by
  induction F with
  | nil => rfl
  | cons p F ih =>
    unfold lookF fz wK at *
    simp only [List.map_cons, getK, List.find?_cons]
    by_cases h : p.1 = k
    · subst h; simp
    · have h2 : ¬ ((.inl p.1 : Key) = .inl k) := fun z => h (by cases z; rfl)
      rw [if_neg h2, decide_eq_false h]
      exact ih
theorem look_mem {F : FaL} (hs : Srt F) : ∀ p ∈ F, lookF F p.1 = some p.2 := by
  induction F with
  | nil => intro p hp; cases hp
  | cons q F ih =>
    intro p hp
    unfold Srt at hs
    rw [List.map_cons, List.pairwise_cons] at hs
    unfold lookF
    rw [List.find?_cons]
    rcases List.mem_cons.mp hp with rfl | hp
    · simp
    · have := hs.1 p.1 (List.mem_map_of_mem hp)
      have h2 : ¬ q.1 = p.1 := by omega
      rw [decide_eq_false h2]
      exact ih hs.2 p hp
theorem look_some {F : FaL} {k : Int} {f : Fa} (h : lookF F k = some f) : (k, f) ∈ F := by
  unfold lookF at h
  rw [Option.map_eq_some_iff] at h
  obtain ⟨p, h1, rfl⟩ := h
  have := List.find?_some h1
  have hp := List.mem_of_find?_eq_some h1
  have e : p.1 = k := of_decide_eq_true this
  subst e
  exact hp
theorem keys_fz (F : FaL) : keysI (wK (fz F)) = some (F.map fun p => p.1) := by
  induction F with
  | nil => rfl
  | cons p F ih =>
    show (keysI (wK (fz F))).map (p.1 :: ·) = _
    rw [ih]
    rfl
theorem keys_sorted {F : FaL} (hs : Srt F) : (F.map fun p => p.1).mergeSort = F.map fun p => p.1 := by
  refine List.mergeSort_of_pairwise ?_
  exact hs.imp fun h => by simp; omega
theorem asDic_fz (F : FaL) (s : S) : asDic (.d (.dic (fz F))) s = some (wK (fz F)) := rfl
theorem sort_fz {F : FaL} (hs : Srt F) (s : S) : kSortDI [.d (.dic (fz F))] s = .ok (wD (F.map fun p => D.int p.1)) s := by
  show (match asDic (.d (.dic (fz F))) s with | some l => (match keysI l with | some ks => Res.ok (wD (ks.mergeSort.map D.int)) s | none => .no) | none => .no) = _
  rw [asDic_fz]
  show (match keysI (wK (fz F)) with | some ks => Res.ok (wD (ks.mergeSort.map D.int)) s | none => .no) = _
  rw [keys_fz]
  show Res.ok (wD (((F.map fun p => p.1).mergeSort).map D.int)) s = _
  rw [keys_sorted hs, List.map_map]
  rfl
structure Shop (s : S) (n i j : Nat) (hs gs : List D) : Prop where
  a : s[n]? = some (.ins "Workshop" [("times_kept", .r i), ("gone", .r j)])
  b : s[i]? = some (.lst (wD hs))
  c : s[j]? = some (.lst (wD gs))
section
variable {s : S} {n i j : Nat} {hs gs : List D} {F : FaL} {m : Int}
theorem Shop.f1 (h : Shop s n i j hs gs) : fldOf "Workshop" "times_kept" (.r n) s = some (.r i) := by
  show (match s[n]? with | some (.ins c' l) => if c' = "Workshop" then l.lookup ("times_kept" : Str) else none | _ => none) = _
  rw [h.a]
  show (if ("Workshop" : Str) = "Workshop" then _ else _) = _
  rw [if_pos rfl]
  rfl
theorem last_get {α : Type} (l : List α) (x : α) : (l ++ [x])[(l ++ [x]).length - 1]? = some x := by simp
theorem Shop.f2 (h : Shop s n i j (hs ++ [holdD F m]) gs) : fIx (.r i) (.d (.int (-1))) s = .ok (.d (holdD F m)) s := by
  have e : asSeq (.r i) s = some (wD (hs ++ [holdD F m])) := by
    show (match asTup (.r i) with | some l => some (wD l) | none => match asLst (.r i) s with | some l => some l | none => tupC (.r i) s) = _
    show (match (match s[i]? with | some (.lst l) => some l | _ => none) with | some l => some l | none => tupC (.r i) s) = _
    rw [h.b]
  rw [fIx_eq, e]
  show (match atI (wD (hs ++ [holdD F m])) (-1) with | some w => Res.ok w s | none => .no) = _
  rw [atI_m1]
  have : wD (hs ++ [holdD F m]) = wD hs ++ [.d (holdD F m)] := by unfold wD; simp
  rw [this, last_get]
theorem hold_f3 (F : FaL) (m : Int) (s : S) : fldOf "Hold" "there" (.d (holdD F m)) s = some (.d (.dic (fz F))) := rfl
theorem hold_f4 (F : FaL) (m : Int) (s : S) : fldOf "Hold" "many_told" (.d (holdD F m)) s = some (.d (.int m)) := by
  have k : (("many_told" : Str) == "there") = false := by decide +kernel
  show (if ("Hold" : Str) = "Hold" then ((([(("there" : Str), D.dic (fz F)), ("many_told", .int m)] : List (Str × D)).lookup ("many_told" : Str)).map W.d) else none) = _
  rw [if_pos rfl]
  simp [List.lookup, k]
theorem Shop.ins (h : Shop s n i j hs gs) (x : Str) (hx : x ≠ "times_kept" ∧ x ≠ "gone" := by decide +kernel) : insOf "Workshop" x (.r n) s = true := by
  show (match s[n]? with | some (.ins c' l) => decide (c' = "Workshop") && (l.lookup x).isNone | _ => false) = true
  rw [h.a]
  have k1 : (x == ("times_kept" : Str)) = false := by simpa using hx.1
  have k2 : (x == ("gone" : Str)) = false := by simpa using hx.2
  show (decide (("Workshop" : Str) = "Workshop") && (([("times_kept", W.r i), ("gone", .r j)] : List (Str × W)).lookup x).isNone) = true
  rw [decide_eq_true rfl]
  simp [List.lookup, k1, k2]
theorem facts_eq (h : Shop s n i j (hs ++ [holdD F m]) gs) (hF : Srt F) (hl : F.length ≤ 16777216) : f_Workshop_facts [.r n] s = .ok (.own (wD (F.map pF))) s := by
  have f1 := h.f1
  have f2 := h.f2
  have so := sort_fz hF
  have f3 := hold_f3 F m
  rw [f_Workshop_facts, runF_eq]
  generalize holdD F m = hd at *
  simp [b_Workshop_facts, f1, f2, f3, so, -fIx_eq, hl, wipeR, -rng1_eq]
  have e1 : wD (F.map fun p => D.int p.1) = F.map fun p => W.d (.int p.1) := by unfold wD; rw [List.map_map]; rfl
  rw [e1, lcM_fn' (v := pF)]
  rotate_left
  · intro p hp
    have g : ∀ s, fIx (.d (.dic (fz F))) (.d (.int p.1)) s = .ok (.d p.2.d) s := fun s => by
      show (match getK (wK (fz F)) (.inl p.1) with | some w => Res.ok w s | none => .no) = _
      rw [get_fz, look_mem hF p hp]
      rfl
    exact ⟨_, rfl, by simp [g, pF, -fIx_eq, wipeR]⟩
  generalize F.map pF = L at *
  simp
end
end TG

set_option linter.all false
set_option maxRecDepth 100000
namespace TG
open PySem L2
section
variable {s : S} {n i j : Nat} {hs gs : List D} {F : FaL} {m : Int}
theorem lenS_eq (h : Shop s n i j (hs ++ [holdD F m]) gs) : f_Workshop_len [.r n] s = .ok (.w (.d (.int F.length))) s := by
  have f1 := h.f1
  have f2 := h.f2
  have f3 := hold_f3 F m
  have k : kLenDic [.d (.dic (fz F))] s = .ok (.d (.int F.length)) s := by
    show Res.ok (W.d (.int (wK (fz F)).length)) s = _
    unfold wK fz
    rw [List.length_map, List.length_map]
  rw [f_Workshop_len, runF_eq]
  generalize holdD F m = hd at *
  simp [b_Workshop_len, f1, f2, f3, k, -fIx_eq]
theorem in_fz (F : FaL) (k : Int) (s : S) : fIn true (.d (.int k)) (.d (.dic (fz F))) s = .ok (.d (.bl (lookF F k).isNone)) s := by
  have q : fIn true (.d (.int k)) (.d (.dic (fz F))) s = .ok (.d (.bl (!(getK (wK (fz F)) (.inl k)).isSome))) s := rfl
  rw [q, get_fz]
  cases lookF F k <;> rfl
theorem ix_fz (F : FaL) (k : Int) (f : Fa) (s : S) (h : lookF F k = some f) : fIx (.d (.dic (fz F))) (.d (.int k)) s = .ok (.d f.d) s := by
  show (match getK (wK (fz F)) (.inl k) with | some w => Res.ok w s | none => .no) = _
  rw [get_fz, h]
  rfl
noncomputable def holdG (G : List (Key × D)) (m : Int) : D := .ins "Hold" [("there", .dic G), ("many_told", .int m)]
theorem holdInit_eq (G : List (Key × D)) (m : Int) (s : S) : f_Hold_init [.r s.length, .d (.dic G), .d (.int m)] (s ++ [.ins "Hold" []]) = .ok (.w (.d .non)) (s ++ [.ins "Hold" [("there", .d (.dic G)), ("many_told", .d (.int m))]]) := by
  have e1 : setF "Hold" "there" (.r s.length) (.d (.dic G)) (s ++ [.ins "Hold" []]) = some (s ++ [.ins "Hold" [("there", .d (.dic G))]]) := by
    simp [setF, putW]
  have e2 : setF "Hold" "many_told" (.r s.length) (.d (.int m)) (s ++ [.ins "Hold" [("there", .d (.dic G))]]) = some (s ++ [.ins "Hold" [("there", .d (.dic G)), ("many_told", .d (.int m))]]) := by
    simp [setF, putW]
    decide
  rw [f_Hold_init, runF_eq]
  simp [b_Hold_init, e1, e2]
theorem hold_made (G : List (Key × D)) (m : Int) (s : S) : madeD "Hold" s (f_Hold_init [.r s.length, .d (.dic G), .d (.int m)] (s ++ [.ins "Hold" []])) = .ok (.d (holdG G m)) s := by
  rw [holdInit_eq]
  simp [madeD, allDataF, holdG]
noncomputable def upS (s : S) (n i : Nat) (hs : List D) : S := ((s.set i (Cell.lst (wD hs))) ++ [Cell.lst []]).set n (Cell.ins "Workshop" [("times_kept", .r i), ("gone", .r s.length)])
theorem Shop.lt (h : Shop s n i j hs gs) : n < s.length ∧ i < s.length ∧ j < s.length := ⟨(List.getElem?_eq_some_iff.mp h.a).1, (List.getElem?_eq_some_iff.mp h.b).1, (List.getElem?_eq_some_iff.mp h.c).1⟩
theorem Shop.ne (h : Shop s n i j hs gs) : i ≠ n ∧ j ≠ n := by
  refine ⟨fun z => ?_, fun z => ?_⟩
  · have := h.b; rw [z, h.a] at this; cases this
  · have := h.c; rw [z, h.a] at this; cases this
theorem up_other (s : S) (n i k : Nat) (hs : List D) (h1 : k ≠ n) (h2 : k ≠ i) (h3 : k < s.length) : (upS s n i hs)[k]? = s[k]? := by
  unfold upS
  rw [List.getElem?_set_ne h1.symm, List.getElem?_append_left (by simpa using h3), List.getElem?_set_ne h2.symm]
theorem Shop.up (h : Shop s n i j hs gs) (hs' : List D) : Shop (upS s n i hs') n i s.length hs' [] := by
  obtain ⟨l1, l2, l3⟩ := h.lt
  obtain ⟨n1, n2⟩ := h.ne
  refine ⟨?_, ?_, ?_⟩
  · unfold upS
    rw [List.getElem?_set_self (by simp; omega)]
  · unfold upS
    rw [List.getElem?_set_ne n1.symm, List.getElem?_append_left (by simpa using l2), List.getElem?_set_self l2]
  · unfold upS
    rw [List.getElem?_set_ne (by omega), List.getElem?_append_right (by simp)]
    simp [wD]
theorem app_shop (h : Shop s n i j hs gs) (v : D) (hl : hs.length < 16777216) : appC (.r i) (.d v) s = some (s.set i (Cell.lst (wD (hs ++ [v])))) := by
  show (match s[i]? with | some (.lst l) => if l.length < 16777216 then some (s.set i (Cell.lst (l ++ [W.d v]))) else none | _ => none) = _
  rw [h.b]
  show (if (wD hs).length < 16777216 then some (s.set i (Cell.lst (wD hs ++ [W.d v]))) else none) = _
  have e : (wD hs).length = hs.length := by unfold wD; simp
  have e2 : wD (hs ++ [v]) = wD hs ++ [W.d v] := by unfold wD; simp
  rw [if_pos (by rw [e]; exact hl), e2]
theorem isCL_shop (h : Shop s n i j hs gs) : isCL (.r i) s = true := by
  show (match s[i]? with | some (.lst _) => true | _ => false) = true
  rw [h.b]
theorem goOn_eq (h : Shop s n i j hs gs) (G : List (Key × D)) (m : Int) (hl : hs.length < 16777216) : f_Workshop_go_on [.r n, .d (.dic G), .d (.int m)] s = .ok (.w (.d .non)) (upS s n i (hs ++ [holdG G m])) := by
  obtain ⟨l1, l2, l3⟩ := h.lt
  obtain ⟨n1, n2⟩ := h.ne
  have f1 := h.f1
  have mk := hold_made G m s
  have ap := app_shop h (holdG G m) hl
  have ic := isCL_shop h
  have sf : setF "Workshop" "gone" (.r n) (.r (s.set i (Cell.lst (wD (hs ++ [holdG G m])))).length) (s.set i (Cell.lst (wD (hs ++ [holdG G m]))) ++ [Cell.lst []]) = some (upS s n i (hs ++ [holdG G m])) := by
    have e : (s.set i (Cell.lst (wD (hs ++ [holdG G m]))) ++ [Cell.lst []])[n]? = some (.ins "Workshop" [("times_kept", .r i), ("gone", .r j)]) := by
      rw [List.getElem?_append_left (by simpa using l1), List.getElem?_set_ne n1]
      exact h.a
    show (match (s.set i (Cell.lst (wD (hs ++ [holdG G m]))) ++ [Cell.lst []])[n]? with
      | some (.ins c' l) => if c' = "Workshop" ∧ l.length < 1000 then some ((s.set i (Cell.lst (wD (hs ++ [holdG G m]))) ++ [Cell.lst []]).set n (Cell.ins "Workshop" (putW "gone" (.r (s.set i (Cell.lst (wD (hs ++ [holdG G m])))).length) l))) else none
      | _ => none) = _
    rw [e]
    show (if ("Workshop" : Str) = "Workshop" ∧ 2 < 1000 then _ else none) = _
    rw [if_pos ⟨rfl, by decide⟩]
    unfold upS
    rw [List.length_set]
    rfl
  rw [f_Workshop_go_on, runF_eq]
  generalize holdG G m = v at *
  generalize upS s n i (hs ++ [v]) = s2 at *
  generalize s.set i (Cell.lst (wD (hs ++ [v]))) = s1 at *
  simp [b_Workshop_go_on, f1, mk, ap, ic, sf]
end
end TG

set_option linter.all false
set_option maxRecDepth 100000
namespace TG
open PySem L2
theorem data_wK : ∀ X : List (Key × D), allDataK (wK X) = some X
  | [] => rfl
  | p :: X => by
    have := data_wK X
    unfold wK at this ⊢
    rw [List.map_cons, allDataK, this]
    rfl
theorem kFrzD_wK (i : Nat) (b : Stm) (X : List (Key × D)) (ρ : Rho) (s : S) : kFrzD i b (wK X) ρ s = b (ρ.set i (.w (.d (.dic X)))) s := by
  unfold kFrzD
  rw [data_wK]
theorem kDictO_fz (F : FaL) (s : S) : kDictO [.d (.dic (fz F))] s = .ok (wK (fz F)) s := rfl
noncomputable def replF (F : FaL) (k : Int) (f : Fa) : FaL := F.map fun p => if p.1 = k then (p.1, f) else p
noncomputable def dropF (F : FaL) (k : Int) : FaL := F.filter fun p => decide (p.1 ≠ k)
theorem any_fz (F : FaL) (k : Int) : ((wK (fz F)).any fun kv => decide (kv.1 = (.inl k : Key))) = (lookF F k).isSome := by
  induction F with
  | nil => rfl
  | cons p F ih =>
    unfold lookF at ih ⊢
    have e : wK (fz (p :: F)) = (.inl p.1, W.d p.2.d) :: wK (fz F) := rfl
    rw [e, List.any_cons, List.find?_cons, ih]
    by_cases h : p.1 = k
    · subst h; simp
    · have h2 : ¬ ((.inl p.1 : Key) = .inl k) := fun z => h (by cases z; rfl)
      rw [decide_eq_false h, decide_eq_false h2]
      rfl
theorem put_new (F : FaL) (k : Int) (f : Fa) (h : lookF F k = none) : putDW (wK (fz F)) (.inl k) (.d f.d) = wK (fz (F ++ [(k, f)])) := by
  unfold putDW
  rw [any_fz, h, if_neg (by simp)]
  unfold wK fz
  rw [List.map_append, List.map_append]
  rfl
theorem drop_fz (F : FaL) (k : Int) : dropDW (wK (fz F)) (.inl k) = wK (fz (dropF F k)) := by
  unfold dropDW wK fz dropF
  rw [List.filter_map, List.filter_map]
  congr 2
  refine List.filter_congr fun p _ => ?_
  show decide ((.inl p.1 : Key) ≠ .inl k) = decide (p.1 ≠ k)
  rw [decide_eq_decide]
  exact ⟨fun h z => h (by rw [z]), fun h z => h (by cases z; rfl)⟩
theorem val_fz (F : FaL) (k : Int) : valDW (wK (fz F)) (.inl k) = (lookF F k).map fun f => W.d f.d := by
  induction F with
  | nil => rfl
  | cons p F ih =>
    unfold valDW lookF at *
    have e : wK (fz (p :: F)) = (.inl p.1, W.d p.2.d) :: wK (fz F) := rfl
    rw [e, List.find?_cons, List.find?_cons]
    by_cases h : p.1 = k
    · subst h; simp
    · have h2 : ¬ ((.inl p.1 : Key) = .inl k) := fun z => h (by cases z; rfl)
      rw [decide_eq_false h, decide_eq_false h2]
      exact ih
theorem len_wK (F : FaL) : (wK (fz F)).length = F.length := by unfold wK fz; rw [List.length_map, List.length_map]
theorem holdG_D (F : FaL) (m : Int) : holdG (fz F) m = holdD F m := rfl
section
variable {s : S} {n i j : Nat} {hs gs : List D} {F : FaL} {m : Int}
theorem tell_eq (h : Shop s n i j (hs ++ [holdD F m]) gs) (f : Fa) (hn : ∀ s, f_need_fact [.d f.d] s = .ok (.w (.d .non)) s) (hm : m < 100) (hk : lookF F (m + 1) = none) (hl : hs.length < 16777215) (hF : F.length < 16777216) :
    f_Workshop_tell [.r n, .d f.d] s = .ok (.w (.d (.int (m + 1)))) (upS s n i (hs ++ [holdD F m] ++ [holdD (F ++ [(m + 1, f)]) (m + 1)])) := by
  have f1 := h.f1
  have f2 := h.f2
  have f3 := hold_f3 F m
  have f4 := hold_f4 F m
  have go := goOn_eq h (fz (F ++ [(m + 1, f)])) (m + 1) (by simp; omega)
  have pn := put_new F (m + 1) f hk
  have ins := h.ins "go_on"
  have fr := fun b ρ s => kFrzD_wK 3 b (fz (F ++ [(m + 1, f)])) ρ s
  have hm' : ¬ 100 ≤ m := by omega
  have hF2 : (wK (fz F)).length < 16777216 := by rw [len_wK]; exact hF
  have pn : putDW (wK (fz F)) (keyI (m + 1)) (.d f.d) = wK (fz (F ++ [(m + 1, f)])) := pn
  have d0 := kDictO_fz F
  rw [holdG_D] at go
  rw [f_Workshop_tell, runF_eq]
  generalize holdD F m = hd at *
  generalize holdD (F ++ [(m + 1, f)]) (m + 1) = hd2 at *
  generalize fz (F ++ [(m + 1, f)]) = z2 at *
  simp [b_Workshop_tell, hn, f1, f2, f3, f4, hm', d0, hF2, pn, fr, ins, go, -fIx_eq]
  done
theorem fix0 (f : Fa) (s : S) : fIx (.d f.d) (.d (.int 0)) s = .ok (.d (.str f.word)) s := by unfold Fa.d; simp
theorem fix1 (f : Fa) (s : S) : fIx (.d f.d) (.d (.int 1)) s = .ok (.d (.int f.num)) s := by unfold Fa.d; simp
theorem fword_ok (f : Fa) : SOk (tl f.word) := by
  have h : ∀ x : Str, PyData.strOk x = true → SOk (tl x) := fun x h => lit_ok h
  cases f
  · exact h "blank" (by decide +kernel)
  · exact h "cut" (by decide +kernel)
  · exact h "mount" (by decide +kernel)
  · exact h "foot" (by decide +kernel)
  · exact h "lever" (by decide +kernel)
theorem word_eq (neg : Bool) (f g : Fa) (s : S) : fEq neg (.d (.str f.word)) (.d (.str g.word)) s = .ok (.d (.bl (if neg then !decide (f.word = g.word) else decide (f.word = g.word)))) s := by
  rw [fEq_str neg s (fword_ok f) (fword_ok g)]
  have : (tl f.word = tl g.word) = (f.word = g.word) := propext eq_tl.symm
  simp only [this]
end
end TG

set_option linter.all false
set_option maxRecDepth 100000
namespace TG
open PySem L2
noncomputable def oFa : Option Fa → D | some f => f.d | none => .non
noncomputable def isF2 (w : Str) (k : Int) (f : Fa) : Bool := decide (f.word = w) && decide (f.num = k)
noncomputable def lastF (F : FaL) (w : Str) (k : Int) : Option Fa := F.foldl (fun acc p => if isF2 w k p.2 = true then some p.2 else acc) none
theorem lastF_snoc (F : FaL) (p : Int × Fa) (w : Str) (k : Int) : lastF (F ++ [p]) w k = if isF2 w k p.2 = true then some p.2 else lastF F w k := by
  unfold lastF
  rw [List.foldl_append]
  rfl
theorem lastG_mem (w : Str) (k : Int) : ∀ (F : FaL) (acc : Option Fa) (f : Fa), F.foldl (fun acc p => if isF2 w k p.2 = true then some p.2 else acc) acc = some f → acc = some f ∨ (f.word = w ∧ f.num = k ∧ ∃ n, (n, f) ∈ F)
  | [], acc, f, h => .inl h
  | p :: F, acc, f, h => by
    rw [List.foldl_cons] at h
    rcases lastG_mem w k F _ f h with h1 | ⟨h1, h2, n, h3⟩
    · split at h1
      · rename_i c
        cases h1
        unfold isF2 at c
        simp at c
        exact .inr ⟨c.1, c.2, p.1, by simp⟩
      · exact .inl h1
    · exact .inr ⟨h1, h2, n, by simp [h3]⟩
theorem lastF_mem (w : Str) (k : Int) (F : FaL) (f : Fa) (h : lastF F w k = some f) : f.word = w ∧ f.num = k ∧ ∃ n, (n, f) ∈ F := by
  rcases lastG_mem w k F none f h with h | h
  · cases h
  · exact h
theorem word_eqL (neg : Bool) (f : Fa) (w : Str) (hw : SOk (tl w)) (s : S) : fEq neg (.d (.str f.word)) (.d (.str w)) s = .ok (.d (.bl (if neg then !decide (f.word = w) else decide (f.word = w)))) s := by
  rw [fEq_str neg s (fword_ok f) hw]
  have : (tl f.word = tl w) = (f.word = w) := propext eq_tl.symm
  simp only [this]
theorem seq_pF (F : FaL) : wD (F.map pF) = F.map fun p => W.d (pF p) := by unfold wD; rw [List.map_map]; rfl
noncomputable def I_lo (F : FaL) (w : Str) (k : Int) (s0 : S) (pre : FaL) (ρ : Rho) (s : S) : Prop := ∃ x4 x5 : EV, ρ = [.w (.d (.lst (F.map pF))), .w (.d (.str w)), .w (.d (.int k)), .w (.d (oFa (lastF pre w k))), x4, x5] ∧ s = s0
theorem lastOf_eq (F : FaL) (w : Str) (hw : SOk (tl w)) (k : Int) (s : S) : f_last_of [.d (.lst (F.map pF)), .d (.str w), .d (.int k)] s = .ok (.w (.d (oFa (lastF F w k)))) s := by
  refine eq_wE ?_
  rw [f_last_of]
  refine wE_fn (by rfl) ?_
  simp [b_last_of, wipeR, -rng1_eq]
  rw [seq_pF]
  refine wS_mid (I_lo F w k s F) ?_ ?_
  · refine forE_at (g := fun p => W.d (pF p)) (I_lo F w k s) ⟨_, _, rfl, rfl⟩ ?_ fun ρ s h => h
    rintro pre p rr hz ρ s' ⟨x4, x5, rfl, rfl⟩
    refine ⟨_, rfl, ?_⟩
    have we := word_eqL false p.2 w hw
    have x0 := fix0 p.2
    have x1 := fix1 p.2
    have sn := lastF_snoc pre p w k
    unfold isF2 at sn
    by_cases c1 : p.2.word = w
    · simp [c1] at we sn
      by_cases c2 : p.2.num = k
      · simp [c2] at sn
        simp only [c1] at x0
        simp only [c2] at x1
        simp [x0, x1, we, c1, c2, -fIx_eq, wipeR, -rng1_eq]
        exact ⟨_, _, by rw [sn]; rfl, rfl⟩
      · simp [c2] at sn
        simp only [c1] at x0
        simp [x0, x1, we, c1, c2, -fIx_eq, wipeR, -rng1_eq]
        exact ⟨_, _, by rw [sn], rfl⟩
    · simp [c1] at we sn
      simp [x0, x1, we, c1, -fIx_eq, wipeR, -rng1_eq]
      exact ⟨_, _, by rw [sn], rfl⟩
  · rintro ρ s' ⟨x4, x5, rfl, rfl⟩
    simp [wipeR, -rng1_eq]
noncomputable def cut1F (cam : Int) (r : List Int) (f : Fa) : List Int := match f with | .cut c k x => if c = cam ∧ k < r.length then cutV r k x else r | _ => r
noncomputable def cutsV (F : FaL) (cam : Int) (r : List Int) : List Int := F.foldl (fun r p => cut1F cam r p.2) r
noncomputable def rimV (F : FaL) (cam : Int) : Option (List Int) := match lastF F "blank" cam with | some (.blank _ r) => some (cutsV F cam r) | _ => none
noncomputable def oRim : Option (List Int) → D | some r => .tup (r.map .int) | none => .non
noncomputable def GoodFa (F : FaL) : Prop := ∀ p ∈ F, p.2.ok = true ∧ p.2.sz
theorem cut1F_len (cam : Int) (r : List Int) (f : Fa) : (cut1F cam r f).length = r.length := by
  unfold cut1F
  split
  · split
    · exact cutV_len _ _ _
    · rfl
  · rfl
theorem cutsV_len (cam : Int) : ∀ (F : FaL) (r : List Int), (cutsV F cam r).length = r.length := by
  intro F
  induction F with
  | nil => intro r; rfl
  | cons p F ih =>
    intro r
    show (cutsV F cam (cut1F cam r p.2)).length = _
    rw [ih, cut1F_len]
theorem blank_of {f : Fa} (h : f.word = "blank") : ∃ c r, f = .blank c r := by
  cases f with
  | blank c r => exact ⟨c, r, rfl⟩
  | cut => exact absurd h (by show ("cut" : Str) ≠ "blank"; decide +kernel)
  | mount => exact absurd h (by show ("mount" : Str) ≠ "blank"; decide +kernel)
  | foot => exact absurd h (by show ("foot" : Str) ≠ "blank"; decide +kernel)
  | lever => exact absurd h (by show ("lever" : Str) ≠ "blank"; decide +kernel)
theorem cut_or (f : Fa) : (∃ c k x, f = .cut c k x) ∨ f.word ≠ "cut" := by
  cases f with
  | cut c k x => exact .inl ⟨c, k, x, rfl⟩
  | blank => exact .inr (by show ("blank" : Str) ≠ "cut"; decide +kernel)
  | mount => exact .inr (by show ("mount" : Str) ≠ "cut"; decide +kernel)
  | foot => exact .inr (by show ("foot" : Str) ≠ "cut"; decide +kernel)
  | lever => exact .inr (by show ("lever" : Str) ≠ "cut"; decide +kernel)
theorem cut1F_no {cam : Int} {r : List Int} {f : Fa} (h : f.word ≠ "cut") : cut1F cam r f = r := by
  cases f with
  | cut c k x => exact absurd rfl h
  | _ => rfl
section
variable {s : S} {n i j : Nat} {hs gs : List D} {F : FaL} {m : Int}
noncomputable def I_ro (F : FaL) (n : Nat) (cam : Int) (b : D) (r : List Int) (s0 : S) (pre : FaL) (ρ : Rho) (s : S) : Prop := ∃ x5 x6 : EV, ρ = [.w (.r n), .w (.d (.int cam)), .w (.d (.lst (F.map pF))), .w (.d b), .w (.d (.tup ((cutsV pre cam r).map .int))), x5, x6] ∧ s = s0
theorem rimOf_eq (h : Shop s n i j (hs ++ [holdD F m]) gs) (hF : Srt F) (hl : F.length ≤ 16777216) (hg : GoodFa F) (cam : Int) : f_Workshop_rim_of [.r n, .d (.int cam)] s = .ok (.w (.d (oRim (rimV F cam)))) s := by
  have fa := facts_eq h hF hl
  have ins := h.ins "facts"
  have lo := lastOf_eq F "blank" (lit_ok (by decide +kernel)) cam s
  have hL : (F.map pF).length ≤ 16777216 := by rw [List.length_map]; exact hl
  refine eq_wE ?_
  rw [f_Workshop_rim_of]
  refine wE_fn (by rfl) ?_
  cases e : lastF F "blank" cam with
  | none =>
    have hv : rimV F cam = none := by unfold rimV; rw [e]
    rw [e] at lo
    rw [hv]
    simp [b_Workshop_rim_of, ins, fa, lo, oFa, oRim, -List.map_map, wipeR, -rng1_eq]
  | some f =>
    obtain ⟨hw, hk, nn, hm⟩ := lastF_mem _ _ F f e
    obtain ⟨c, r, rfl⟩ := blank_of hw
    have go := hg _ hm
    have hr : r.length ≤ 48 := by have := go.1; simp [Fa.ok] at this; omega
    rw [e] at lo
    have nb : ∀ s, fIsN false (.d (Fa.blank c r).d) s = .ok (.d (.bl false)) s := fun s => rfl
    have x2 : ∀ s, fIx (.d (Fa.blank c r).d) (.d (.int 2)) s = .ok (.d (.tup (r.map .int))) s := fun s => by simp [Fa.d, Fa.word, Fa.num, Fa.rest]
    have hv : rimV F cam = some (cutsV F cam r) := by unfold rimV; rw [e]
    rw [hv]
    have lo : f_last_of [.d (.lst (F.map pF)), .d (.str "blank"), .d (.int cam)] s = .ok (.w (.d (Fa.blank c r).d)) s := lo
    generalize (Fa.blank c r).d = bd at *
    simp [b_Workshop_rim_of, ins, fa, lo, nb, x2, hL, hl, -fIsN_eq, -fIx_eq, wipeR, -rng1_eq]
    rw [seq_pF]
    refine wS_mid (I_ro F n cam bd r s F) ?_ ?_
    · refine forE_at (g := fun p => W.d (pF p)) (I_ro F n cam bd r s) ⟨_, _, rfl, rfl⟩ ?_ fun ρ s h => h
      rintro pre p rr hz ρ s' ⟨x5, x6, rfl, rfl⟩
      have hp : p ∈ F := by rw [hz]; simp
      have sn : cutsV (pre ++ [p]) cam r = cut1F cam (cutsV pre cam r) p.2 := by
        unfold cutsV
        rw [List.foldl_append]
        rfl
      have hlen := cutsV_len cam pre r
      have we := word_eqL false p.2 "cut" (lit_ok (by decide +kernel))
      have x0 := fix0 p.2
      have x1 := fix1 p.2
      refine ⟨_, rfl, ?_⟩
      rcases cut_or p.2 with ⟨c', k, x, hc⟩ | hw'
      · have y2 : ∀ s, fIx (.d p.2.d) (.d (.int 2)) s = .ok (.d (.int k)) s := fun s => by rw [hc]; simp [Fa.d, Fa.word, Fa.num, Fa.rest]
        have y3 : ∀ s, fIx (.d p.2.d) (.d (.int 3)) s = .ok (.d (.int x)) s := fun s => by rw [hc]; simp [Fa.d, Fa.word, Fa.num, Fa.rest]
        have hw2 : p.2.word = "cut" := by rw [hc]; rfl
        have hn2 : p.2.num = c' := by rw [hc]; rfl
        have gk := (hg p hp).1
        rw [hc] at gk
        simp [Fa.ok] at gk
        have sn2 : cutsV (pre ++ [p]) cam r = if c' = cam ∧ k < (cutsV pre cam r).length then cutV (cutsV pre cam r) k x else cutsV pre cam r := by rw [sn, hc]; rfl
        simp [hw2] at we
        simp only [hw2] at x0
        simp only [hn2] at x1
        have hLl : (cutsV pre cam r).length ≤ 16777216 := by omega
        by_cases c1 : c' = cam
        · by_cases c2 : k < ((cutsV pre cam r).length : Int)
          · have ce := fun s => cut_eq (cutsV pre cam r) k x s (by omega) c2 (by omega)
            rw [if_pos ⟨c1, c2⟩] at sn2
            generalize cutsV pre cam r = q at *
            simp [x0, x1, y2, y3, we, c1, c2, ce, hLl, -fIx_eq, wipeR, -rng1_eq]
            exact ⟨_, _, by rw [sn2], rfl⟩
          · rw [if_neg (fun z => c2 z.2)] at sn2
            generalize cutsV pre cam r = q at *
            simp [x0, x1, y2, y3, we, c1, c2, hLl, -fIx_eq, wipeR, -rng1_eq]
            exact ⟨_, _, by rw [sn2], rfl⟩
        · rw [if_neg (fun z => c1 z.1)] at sn2
          simp [x0, x1, y2, y3, we, c1, -fIx_eq, wipeR, -rng1_eq]
          exact ⟨_, _, by rw [sn2], rfl⟩
      · simp [hw'] at we
        rw [cut1F_no hw'] at sn
        simp [x0, x1, we, -fIx_eq, wipeR, -rng1_eq]
        exact ⟨_, _, by rw [sn], rfl⟩
    · rintro ρ s' ⟨x5, x6, rfl, rfl⟩
      simp [oRim, wipeR, -rng1_eq]
end
end TG

set_option linter.all false
set_option maxRecDepth 100000
namespace TG
open PySem L2
structure Mod (s : S) (p q : Nat) (F : FaL) (m : Int) : Prop where
  a : s[p]? = some (.dic (wK (fz F)))
  b : s[q]? = some (.dic [(.inr "facts", .r p), (.inr "told", .d (.int m))])
theorem asDic_r {s : S} {n : Nat} {l : List (Key × W)} (h : s[n]? = some (.dic l)) : asDic (.r n) s = some l := by
  show (match s[n]? with | some (.dic l) => some l | _ => none) = _
  rw [h]
theorem asSeq_rd {s : S} {n : Nat} {l : List (Key × W)} (h : s[n]? = some (.dic l)) : asSeq (.r n) s = none := by
  show (match asTup (.r n) with | some l => some (wD l) | none => match asLst (.r n) s with | some l => some l | none => tupC (.r n) s) = _
  show (match (match s[n]? with | some (.lst l) => some l | _ => none) with | some l => some l | none => (match s[n]? with | some (.tup l) => some l | _ => none)) = _
  rw [h]
theorem fIx_rd {s : S} {n : Nat} {l : List (Key × W)} (h : s[n]? = some (.dic l)) (d : D) (k : Key) (hk : keyD d = some k) (w : W) (hw : getK l k = some w) : fIx (.r n) (.d d) s = .ok w s := by
  rw [fIx_eq, asSeq_rd h, asDic_r h]
  show (match keyD d with | some k => (match getK l k with | some w => Res.ok w s | none => .no) | none => .no) = _
  rw [hk]
  show (match getK l k with | some w => Res.ok w s | none => .no) = _
  rw [hw]
section
variable {s : S} {p q : Nat} {F : FaL} {m : Int}
theorem Mod.get (h : Mod s p q F m) (k : Int) (f : Fa) (hk : lookF F k = some f) : fIx (.r p) (.d (.int k)) s = .ok (.d f.d) s := fIx_rd h.a _ _ rfl _ (by rw [get_fz, hk]; rfl)
theorem lastG_filter (w : Str) (k : Int) : ∀ (F : FaL) (acc : Option Fa), F.foldl (fun acc p => if isF2 w k p.2 = true then some p.2 else acc) acc = (match (F.filter fun p => isF2 w k p.2).getLast? with | some p => some p.2 | none => acc)
  | [], acc => rfl
  | p :: F, acc => by
    rw [List.foldl_cons, lastG_filter w k F, List.filter_cons]
    cases c : isF2 w k p.2 with
    | true =>
      simp only [if_true]
      rw [List.getLast?_cons]
      cases (F.filter fun p => isF2 w k p.2).getLast? <;> rfl
    | false => rfl
theorem lastF_filter (F : FaL) (w : Str) (k : Int) : lastF F w k = ((F.filter fun p => isF2 w k p.2).getLast?).map fun p => p.2 := by
  unfold lastF
  rw [lastG_filter]
  cases (F.filter fun p => isF2 w k p.2).getLast? <;> rfl
end
end TG

set_option linter.all false
set_option maxRecDepth 100000
namespace TG
open PySem L2
noncomputable def cutL (F : FaL) (cam : Int) : List (Int × Int) := F.filterMap fun p => match p.2 with | .cut c k x => if c = cam then some (k, x) else none | _ => none
noncomputable def cutQ (r : List Int) (q : Int × Int) : List Int := if q.1 < r.length then cutV r q.1 q.2 else r
theorem cutsV_L (cam : Int) : ∀ (F : FaL) (r : List Int), cutsV F cam r = (cutL F cam).foldl cutQ r
  | [], r => rfl
  | p :: F, r => by
    have ih := cutsV_L cam F
    show cutsV F cam (cut1F cam r p.2) = _
    rw [ih]
    unfold cutL
    rw [List.filterMap_cons]
    rcases cut_or p.2 with ⟨c, k, x, hc⟩ | hw
    · rw [hc]
      by_cases h : c = cam
      · subst h
        have : cut1F c r (.cut c k x) = cutQ r (k, x) := by
          unfold cut1F cutQ
          simp
        rw [this]
        simp
      · have : cut1F cam r (.cut c k x) = r := by
          unfold cut1F
          simp [h]
        rw [this]
        simp [h]
    · have e2 : (match p.2 with | .cut c k x => if c = cam then some (k, x) else none | _ => (none : Option (Int × Int))) = none := by
        cases h : p.2 with
        | cut c k x => rw [h] at hw; exact absurd rfl hw
        | _ => rfl
      rw [e2, cut1F_no hw]
noncomputable def minK (l : List (Int × Int)) (k : Nat) (a : Int) : Int := ((l.filter fun q => decide (q.1 = (k : Int))).map fun q => q.2).foldl min a
theorem gt_cut1 (r : List Int) (q : Int × Int) (h0 : 0 ≤ q.1) (k : Nat) (hk : k < r.length) : gt (cutQ r q) k = if q.1 = (k : Int) then min (gt r k) q.2 else gt r k := by
  unfold cutQ
  by_cases c : q.1 < r.length
  · rw [if_pos c]
    unfold cutV gt
    by_cases e : q.1 = (k : Int)
    · have : q.1.toNat = k := by omega
      rw [if_pos e, this]
      simp [hk]
    · have : q.1.toNat ≠ k := by omega
      rw [if_neg e]
      simp [List.getD_eq_getElem?_getD, this]
  · rw [if_neg c, if_neg (by omega)]
theorem cut1_len (r : List Int) (q : Int × Int) : (cutQ r q).length = r.length := by
  unfold cutQ
  split
  · exact cutV_len _ _ _
  · rfl
theorem gt_cuts : ∀ (l : List (Int × Int)) (r : List Int) (k : Nat), (∀ q ∈ l, 0 ≤ q.1) → k < r.length → gt (l.foldl cutQ r) k = minK l k (gt r k)
  | [], r, k, _, _ => rfl
  | q :: l, r, k, h, hk => by
    rw [List.foldl_cons, gt_cuts l _ k (fun q hq => h q (.tail _ hq)) (by rw [cut1_len]; exact hk), gt_cut1 r q (h q (.head _)) k hk]
    unfold minK
    rw [List.filter_cons]
    by_cases e : q.1 = (k : Int)
    · rw [if_pos e, decide_eq_true e]
      simp
    · rw [if_neg e, decide_eq_false e]
      simp
theorem cuts_len : ∀ (l : List (Int × Int)) (r : List Int), (l.foldl cutQ r).length = r.length
  | [], r => rfl
  | q :: l, r => by rw [List.foldl_cons, cuts_len l, cut1_len]
theorem rows_eq (l : List (Int × Int)) (r : List Int) (h : ∀ q ∈ l, 0 ≤ q.1) : ((List.range r.length).map fun k => minK l k (gt r k)) = l.foldl cutQ r := by
  refine List.ext_getElem (by rw [List.length_map, List.length_range, cuts_len]) fun k h1 h2 => ?_
  have hk : k < r.length := by rw [List.length_map, List.length_range] at h1; exact h1
  rw [List.getElem_map, List.getElem_range, ← gt_cuts l r k h hk]
  unfold gt
  rw [List.getD_eq_getElem?_getD, List.getElem?_eq_getElem h2]
  rfl
section
variable {s : S} {p q : Nat} {F : FaL} {m : Int}
end
end TG

set_option linter.all false
set_option maxRecDepth 100000
namespace TG
open PySem L2
theorem fa_plain {f : Fa} (h : f.ok = true) : f.d.plain = true ∧ f.d.slim = true ∧ f.d.dep ≤ 6 := by
  cases f with
  | blank c r =>
    simp [Fa.ok] at h
    have p0 : (D.str "blank").plain = true := by decide +kernel
    refine ⟨?_, ?_, ?_⟩
    · simp [Fa.d, Fa.word, Fa.num, Fa.rest, D.plains, p0]
    · simp [Fa.d, Fa.word, Fa.num, Fa.rest, D.slim, D.slims]
      exact ⟨by omega, slims_iff.mpr (by simp [D.slim])⟩
    · simp [Fa.d, Fa.word, Fa.num, Fa.rest, D.dep, D.deps, deps_ints]
  | cut c k x =>
    have p0 : (D.str "cut").plain = true := by decide +kernel
    exact ⟨by simp [Fa.d, Fa.word, Fa.num, Fa.rest, D.plains, p0], by simp [Fa.d, Fa.word, Fa.num, Fa.rest, D.slim, D.slims], by simp [Fa.d, Fa.word, Fa.num, Fa.rest, D.dep, D.deps]⟩
  | mount c t m a =>
    have p0 : (D.str "mount").plain = true := by decide +kernel
    exact ⟨by simp [Fa.d, Fa.word, Fa.num, Fa.rest, D.plains, p0], by simp [Fa.d, Fa.word, Fa.num, Fa.rest, D.slim, D.slims], by simp [Fa.d, Fa.word, Fa.num, Fa.rest, D.dep, D.deps]⟩
  | foot f c l m =>
    simp [Fa.ok] at h
    have p0 : (D.str "foot").plain = true := by decide +kernel
    refine ⟨?_, ?_, ?_⟩
    · simp [Fa.d, Fa.word, Fa.num, Fa.rest, D.plains, p0]
    · simp [Fa.d, Fa.word, Fa.num, Fa.rest, D.slim, D.slims]
      exact ⟨by omega, slims_iff.mpr (by simp [D.slim])⟩
    · simp [Fa.d, Fa.word, Fa.num, Fa.rest, D.dep, D.deps, deps_ints]
  | lever n t =>
    simp [Fa.ok] at h
    have p0 : (D.str "lever").plain = true := by decide +kernel
    obtain ⟨h1, h2, h3⟩ := okP (good_ok5 h.2)
    exact ⟨by simp [Fa.d, Fa.word, Fa.num, Fa.rest, D.plains, p0, h1], by simp [Fa.d, Fa.word, Fa.num, Fa.rest, D.slim, D.slims, h2], by simp [Fa.d, Fa.word, Fa.num, Fa.rest, D.dep, D.deps]; omega⟩
theorem rimV_len {F : FaL} (hg : GoodFa F) {cam : Int} {r : List Int} (h : rimV F cam = some r) : 3 ≤ r.length ∧ r.length ≤ 48 := by
  unfold rimV at h
  split at h
  · rename_i c r0 e
    cases h
    obtain ⟨_, _, n, hm⟩ := lastF_mem _ _ F _ e
    have := (hg _ hm).1
    simp [Fa.ok] at this
    rw [cutsV_len]
    omega
  · cases h
section
variable {s : S} {n i j p q : Nat} {hs gs : List D} {F : FaL} {m : Int}
end
end TG

set_option linter.all false
set_option maxRecDepth 100000
namespace TG
open PySem L2
inductive De where
  | tell (d : D) | strike (k : Int) | right (k : Int) (d : D)
noncomputable def De.d : De → D
  | .tell d => .tup [.str "tell", d] | .strike k => .tup [.str "strike", .int k] | .right k d => .tup [.str "right", .int k, d]
inductive Due (F : FaL) (m : Int) : De → List D → FaL → Int → Prop
  | tellBad {d : D} (h : (∀ s, f_v_law_fact_ok [.d d] s = .ok (.w (.d (.bl false))) s) ∧ ∀ s, f_need_fact [.d d] s = .exc "BadFact" none s) : Due F m (.tell d) [.str "BadFact", .non] F m
  | tell {f : Fa} (h : f.ok = true ∧ f.sz) (hm : m < 100) : Due F m (.tell f.d) [.str "", .int (m + 1)] (F ++ [(m + 1, f)]) (m + 1)
  | strikeNo {k : Int} (h : lookF F k = none) : Due F m (.strike k) [.str "NoFact", .int k] F m
  | strike {k : Int} {f : Fa} (h : lookF F k = some f) : Due F m (.strike k) [.str "", f.d] (dropF F k) m
  | rightNo {k : Int} {d : D} (h : lookF F k = none) : Due F m (.right k d) [.str "NoFact", .int k] F m
  | rightBad {k : Int} {d : D} {f : Fa} (h0 : lookF F k = some f) (h : (∀ s, f_v_law_fact_ok [.d d] s = .ok (.w (.d (.bl false))) s) ∧ ∀ s, f_need_fact [.d d] s = .exc "BadFact" none s) : Due F m (.right k d) [.str "BadFact", .non] F m
  | rightOther {k : Int} {f f0 : Fa} (h0 : lookF F k = some f0) (h : f.ok = true ∧ f.sz) (hw : f.word ≠ f0.word) : Due F m (.right k f.d) [.str "Other", .non] F m
  | right {k : Int} {f f0 : Fa} (h0 : lookF F k = some f0) (h : f.ok = true ∧ f.sz) (hw : f.word = f0.word) : Due F m (.right k f.d) [.str "", f0.d] (replF F k f) m
structure Fit (F : FaL) (m : Int) : Prop where
  srt : Srt F
  good : GoodFa F
  rng : ∀ p ∈ F, 1 ≤ p.1 ∧ p.1 ≤ m
  len : (F.length : Int) ≤ m
  m0 : 0 ≤ m
theorem Fit.new {F : FaL} {m : Int} (h : Fit F m) : lookF F (m + 1) = none := by
  cases e : lookF F (m + 1) with
  | none => rfl
  | some f => have := (h.rng _ (look_some e)).2; have e2 : ((m + 1, f) : Int × Fa).1 = m + 1 := rfl; omega
theorem drop_srt {F : FaL} (h : Srt F) (k : Int) : Srt (dropF F k) := by
  unfold Srt dropF at *
  exact h.sublist (List.filter_sublist.map _)
theorem replF_keys (F : FaL) (k : Int) (f : Fa) : (replF F k f).map (fun p => p.1) = F.map fun p => p.1 := by
  unfold replF
  rw [List.map_map]
  refine List.map_congr_left fun p _ => ?_
  show (if p.1 = k then (p.1, f) else p).1 = p.1
  split <;> rfl
theorem Due.fit {F F' : FaL} {m m' : Int} {e : De} {du : List D} (h : Due F m e du F' m') (fit : Fit F m) : Fit F' m' ∧ m' ≤ m + 1 := by
  cases h with
  | tell h hm =>
    refine ⟨⟨?_, ?_, ?_, ?_, by have := fit.m0; omega⟩, by omega⟩
    · unfold Srt
      rw [List.map_append, List.pairwise_append]
      refine ⟨fit.srt, by simp, fun a ha b hb => ?_⟩
      obtain ⟨p, hp, rfl⟩ := List.mem_map.mp ha
      have := (fit.rng p hp).2
      simp at hb
      omega
    · intro p hp
      rcases List.mem_append.mp hp with hp | hp
      · exact fit.good p hp
      · rw [List.mem_singleton.mp hp]; exact h
    · intro p hp
      rcases List.mem_append.mp hp with hp | hp
      · have := fit.rng p hp; omega
      · rw [List.mem_singleton.mp hp]; have := fit.m0; show 1 ≤ m + 1 ∧ m + 1 ≤ m + 1; omega
    · have := fit.len; simp; omega
  | strike h =>
    refine ⟨⟨drop_srt fit.srt _, fun p hp => fit.good p (List.mem_filter.mp hp).1, fun p hp => fit.rng p (List.mem_filter.mp hp).1, ?_, fit.m0⟩, by omega⟩
    have h2 := fit.len
    unfold dropF
    exact Int.le_trans (Int.ofNat_le.mpr (List.length_filter_le _ _)) h2
  | right h0 h hw =>
    refine ⟨⟨?_, ?_, ?_, ?_, fit.m0⟩, by omega⟩
    · unfold Srt; rw [replF_keys]; exact fit.srt
    · intro p hp
      obtain ⟨x, hx, rfl⟩ := List.mem_map.mp hp
      split
      · exact h
      · exact fit.good x hx
    · intro p hp
      obtain ⟨x, hx, rfl⟩ := List.mem_map.mp hp
      split
      · exact fit.rng x hx
      · exact fit.rng x hx
    · have := fit.len; unfold replF; rw [List.length_map]; exact this
  | tellBad h => exact ⟨fit, by omega⟩
  | strikeNo h => exact ⟨fit, by omega⟩
  | rightNo h => exact ⟨fit, by omega⟩
  | rightBad h0 h => exact ⟨fit, by omega⟩
  | rightOther h0 h hw => exact ⟨fit, by omega⟩
section
variable {s : S} {p q : Nat} {F : FaL} {m : Int}
theorem Mod.ne (h : Mod s p q F m) (h2 : p ≠ q) : True := trivial
theorem Mod.lt (h : Mod s p q F m) : p < s.length ∧ q < s.length := ⟨(List.getElem?_eq_some_iff.mp h.a).1, (List.getElem?_eq_some_iff.mp h.b).1⟩
noncomputable def mdS (s : S) (p q : Nat) (F : FaL) (m : Int) : S := (s.set q (Cell.dic [(.inr "facts", .r p), (.inr "told", .d (.int m))])).set p (Cell.dic (wK (fz F)))
theorem mdS_other (s : S) (p q k : Nat) (F : FaL) (m : Int) (h1 : k ≠ p) (h2 : k ≠ q) : (mdS s p q F m)[k]? = s[k]? := by
  unfold mdS
  rw [List.getElem?_set_ne h1.symm, List.getElem?_set_ne h2.symm]
theorem Mod.md (h : Mod s p q F m) (hpq : p ≠ q) (F' : FaL) (m' : Int) : Mod (mdS s p q F' m') p q F' m' := by
  obtain ⟨l1, l2⟩ := h.lt
  refine ⟨?_, ?_⟩
  · unfold mdS; rw [List.getElem?_set_self (by simpa using l1)]
  · unfold mdS; rw [List.getElem?_set_ne hpq, List.getElem?_set_self l2]
theorem Mod.same (h : Mod s p q F m) (F' : FaL) : mdS s p q F' m = s.set p (Cell.dic (wK (fz F'))) := by
  unfold mdS
  have : s.set q (Cell.dic [(.inr "facts", .r p), (.inr "told", .d (.int m))]) = s := by
    refine List.ext_getElem? fun i => ?_
    by_cases c : q = i
    · subst c
      rw [List.getElem?_set_self h.lt.2, h.b]
    · rw [List.getElem?_set_ne c]
  rw [this]
theorem Mod.self (h : Mod s p q F m) : mdS s p q F m = s := by
  rw [h.same]
  refine List.ext_getElem? fun i => ?_
  by_cases c : p = i
  · subst c
    rw [List.getElem?_set_self h.lt.1, h.a]
  · rw [List.getElem?_set_ne c]
end
end TG

set_option linter.all false
set_option maxRecDepth 100000
namespace TG
open PySem L2
section
variable {s : S} {p q : Nat} {F F' : FaL} {m m' : Int}
end
end TG

set_option linter.all false
set_option maxRecDepth 100000
namespace TG
open PySem L2
section
variable {s : S} {n i j : Nat} {hs gs : List D} {F F' : FaL} {m m' : Int}
end
end TG

set_option linter.all false
set_option maxRecDepth 100000
namespace TG
open PySem L2
theorem cutT2 {α : Type} (a b : α) (l : List α) : cut (a :: b :: l) (some 2) none = l := by
  have e : ∀ n : Nat, cut (a :: b :: l) (some 2) none = ((a :: b :: l).drop (HT.sIx (a :: b :: l).length 0 (some 2))).take ((a :: b :: l).length - HT.sIx (a :: b :: l).length 0 (some 2)) := fun _ => rfl
  rw [e 0]
  have : HT.sIx (a :: b :: l).length 0 (some 2) = 2 := by
    have := HT.sIx_nat (a :: b :: l).length 0 2
    rw [show (some 2 : Option Int) = some ((2 : Nat) : Int) from rfl, this]
    simp
    done
  rw [this]
  show l.take (l.length + 1 + 1 - 2) = l
  exact List.take_of_length_le (by omega)
end TG

set_option linter.all false
set_option maxRecDepth 100000
namespace TG
open PySem L2
theorem tail_of {s : S} {c : Cell} (h : s[0]? = some c) : s = c :: s.tail := by
  cases s with
  | nil => cases h
  | cons a s => simp at h; subst h; rfl
section
variable {s : S} {n i j p q : Nat} {hs gs : List D} {F F' : FaL} {m m' : Int}
theorem Shop.bag {b : Bag} {t : S} (h : Shop (b.cell :: t) (n + 1) (i + 1) (j + 1) hs gs) (b' : Bag) : Shop (b'.cell :: t) (n + 1) (i + 1) (j + 1) hs gs := ⟨h.a, h.b, h.c⟩
theorem Mod.bag {b : Bag} {t : S} (h : Mod (b.cell :: t) (p + 1) (q + 1) F m) (b' : Bag) : Mod (b'.cell :: t) (p + 1) (q + 1) F m := ⟨h.a, h.b⟩
theorem Shop.md (h : Shop s n i j hs gs) (F : FaL) (m : Int) (h1 : n ≠ p ∧ n ≠ q) (h2 : i ≠ p ∧ i ≠ q) (h3 : j ≠ p ∧ j ≠ q) : Shop (mdS s p q F m) n i j hs gs := by
  refine ⟨?_, ?_, ?_⟩
  · rw [mdS_other _ _ _ _ _ _ h1.1 h1.2]; exact h.a
  · rw [mdS_other _ _ _ _ _ _ h2.1 h2.2]; exact h.b
  · rw [mdS_other _ _ _ _ _ _ h3.1 h3.2]; exact h.c
end
noncomputable def I24 (L : Nat) (t : S) : Prop := ∃ (j : Nat) (hs gs : List D) (F : FaL) (m : Int), (∀ b : Bag, Shop (b.cell :: t) 1 2 (j + 1) (hs ++ [holdD F m]) gs) ∧ (∀ b : Bag, Mod (b.cell :: t) 4 5 F m) ∧ Fit F m ∧ m ≤ L ∧ hs.length ≤ L ∧ j ≠ 3 ∧ j ≠ 4
end TG

set_option linter.all false
set_option maxRecDepth 100000
namespace TG
open PySem L2
theorem I24.mono {L L' : Nat} {t : S} (h : I24 L t) (hl : L ≤ L') : I24 L' t := by
  obtain ⟨j, hs, gs, F, m, hS, hM, fit, hm, hl1, j3, j4⟩ := h
  exact ⟨j, hs, gs, F, m, hS, hM, fit, by omega, by omega, j3, j4⟩
@[simp] theorem madeC_ok (s1 s2 : S) : madeC s1 (.ok (.w (.d .non)) s2) = .ok (.r s1.length) s2 := (rfl)
end TG

set_option Elab.async false
set_option linter.all false
set_option maxRecDepth 100000
set_option maxHeartbeats 4000000
namespace TG
open PySem PySem.Spec PyProof.Rows L2
structure TruAt (P : Program) (w : World) (K : PySem.W.Frag) (mg : Str → Option Value) (base : Heap) (cl : Str → Option Addr) (k : Nat) (c : Str) (ps : List Str) (f : Sem1) : Prop where
  ex : ∃ (C a : Addr) (fd : FuncData), cl c = some C ∧ PySem.W.findIn K (.ref C) "__len__" = some (some (.ref a)) ∧ PySem.W.isFn K (.ref a) = true ∧ Binds K fd ps [] ∧ FnOk P w K mg base (L2.CX P w) k a fd ps (spOf K cl f) ∧
    PySem.W.findIn K (.ref C) "__bool__" = some none
theorem TruAt.mono {P : Program} {w : World} {K : PySem.W.Frag} {mg : Str → Option Value} {base : Heap} {cl : Str → Option Addr} {j k : Nat} {c : Str} {ps : List Str} {f : Sem1} (F : TruAt P w K mg base cl j c ps f) (h : j ≤ k) : TruAt P w K mg base cl k c ps f := by
  obtain ⟨C, a, fd, h1, h2, h3, h4, h5, h6⟩ := F.ex
  exact ⟨C, a, fd, h1, h2, h3, h4, h5.mono h, h6⟩
section
variable {X : Cx} {cl : Str → Option Addr} {k : Nat} {ps : List Str} {f : Sem1} {c : Str}
variable {Wx : WX} {e : Expr} {ea : Cmp TG.W}
end
end TG

set_option linter.all false
set_option maxRecDepth 100000
namespace TG
open PySem L2
end TG

set_option linter.all false
set_option maxRecDepth 100000
namespace TG
open PySem L2
structure Both (t : S) (j : Nat) (ks gs : List D) (F : FaL) (m : Int) : Prop where
  sh : ∀ b : Bag, Shop (b.cell :: t) 1 2 (j + 1) ks gs
  md : ∀ b : Bag, Mod (b.cell :: t) 4 5 F m
  j3 : j ≠ 3
  j4 : j ≠ 4
  j1 : j ≠ 1
section
variable {t : S} {j : Nat} {ks gs hs : List D} {F F' : FaL} {m m' : Int}
theorem Both.up (h : Both t j ks gs F m) (ks' : List D) (b : Bag) : ∃ t1 j1, upS (b.cell :: t) 1 2 ks' = b.cell :: t1 ∧ Both t1 j1 ks' [] F m := by
  have hS2 := (h.sh b).up ks'
  have hM := h.md b
  have hM2 : Mod (upS (b.cell :: t) 1 2 ks') 4 5 F m := by
    refine ⟨?_, ?_⟩
    · rw [up_other _ _ _ _ _ (by decide) (by decide) hM.lt.1]; exact hM.a
    · rw [up_other _ _ _ _ _ (by decide) (by decide) hM.lt.2]; exact hM.b
  have z2 : (upS (b.cell :: t) 1 2 ks')[0]? = some b.cell := by
    rw [up_other _ _ _ _ _ (by decide) (by decide) (by simp)]; rfl
  have l2 := hM.lt.2
  have ej : (b.cell :: t).length = t.length + 1 := rfl
  rw [ej] at hS2 l2
  generalize upS (b.cell :: t) 1 2 ks' = s2 at *
  have es2 := tail_of z2
  generalize s2.tail = t2 at *
  subst es2
  exact ⟨t2, t.length, rfl, fun b => hS2.bag b, fun b => hM2.bag b, by omega, by omega, by omega⟩
end
end TG

set_option Elab.async false
set_option linter.all false
set_option maxRecDepth 100000
set_option maxHeartbeats 4000000
namespace TG
open PySem PySem.Spec PyProof.Rows L2
structure MethAtK (P : Program) (w : World) (K : PySem.W.Frag) (mg : Str → Option Value) (base : Heap) (cl : Str → Option Addr) (k : Nat) (c m : Str) (ps : List Str) (f : Sem1) (n : Nat) (ks : List Str) (pk : List Pk) (ds : List Int) : Prop where
  ex : ∃ (C a : Addr) (fd : FuncData) (its : List Value), cl c = some C ∧ Cls K C ∧ Meth K C m a ∧ KBn K fd ps n ks (fun us ws => pkU pk its us ws) (fun vs zs => pkV pk (ds.map V.int) vs zs) ∧ FnOk P w K mg base (L2.CX P w) k a fd ps (spOf K cl f)
theorem MethAtK.mono {P : Program} {w : World} {K : PySem.W.Frag} {mg : Str → Option Value} {base : Heap} {cl : Str → Option Addr} {j k : Nat} {c m : Str} {ps : List Str} {f : Sem1} {n : Nat} {ks : List Str} {pk : List Pk} {ds : List Int} (F : MethAtK P w K mg base cl j c m ps f n ks pk ds) (h : j ≤ k) : MethAtK P w K mg base cl k c m ps f n ks pk ds := by
  obtain ⟨C, a, fd, its, h1, h2, h3, h4, h5⟩ := F.ex
  exact ⟨C, a, fd, its, h1, h2, h3, h4, h5.mono h⟩
section
variable {X : Cx} {CX : CXT} {k n : Nat} {f C : Addr} {fd : FuncData} {ps ks : List Str} {sp : Sp} {E : XK} {m : Str} {apos pos : Pos} {e o : Expr} {es : List Expr} {kws : List Keyword} {ta : TE} {t tk : TA} {g : List Value → List Value → List Value} {gV : List V → List V → List V}
end
section
variable {X : Cx} {cl : Str → Option Addr} {e o : Expr} {es : List Expr} {kws : List Keyword} {pos apos : Pos} {eo : Cmp TG.W} {el ek : Cmp (List TG.W)} {k n : Nat} {c m : Str} {ps ks : List Str} {f : Sem1} {pk : List Pk} {ds : List Int} {pl : Sem Bool}
end
end TG

set_option linter.all false
set_option maxRecDepth 100000
namespace TG
open PySem L2
noncomputable def b_Workshop_mount_of : Stm :=
  (sSeq (sSet 2 (eCall f_last_of (eCons (eMeth "Workshop" "facts" f_Workshop_facts (eVar 0) eNil) (eCons (eC (.str "mount")) (eCons (eVar 1) eNil)))))
  (sSeq (sIf (eTest (eUn (fIsN false) (eVar 2))) (sRet (eTup (eCons (eC (.int 1)) (eCons (eC (.int 1)) (eCons (eC (.int 0)) eNil))))) sNext)
  (sRet (eSl fSl (eVar 2) (ePart (eC (.int 2))) eNoPart))))
noncomputable def f_Workshop_mount_of : Sem1 := runF 2 3 b_Workshop_mount_of
noncomputable def b_angle_at : Stm :=
  (sRet (eBin fAdd (eVar 2) (eBin fDiv (eBin fMul (eVar 3) (eVar 0)) (eVar 1))))
noncomputable def f_angle_at : Sem1 := runF 4 4 b_angle_at
noncomputable def b_Workshop_lift_at : Stm :=
  (sSeq (sSet 3 (eCall f_last_of (eCons (eMeth "Workshop" "facts" f_Workshop_facts (eVar 0) eNil) (eCons (eC (.str "foot")) (eCons (eVar 1) eNil)))))
  (sSeq (sIf (eTest (eUn (fIsN false) (eVar 3))) (sRet (eC .non)) sNext)
  (sSeq (sSet 4 (eMeth "Workshop" "rim_of" f_Workshop_rim_of (eVar 0) (eCons (eBin fIx (eVar 3) (eC (.int 2))) eNil)))
  (sSeq (sIf (eTest (eUn (fIsN false) (eVar 4))) (sRet (eC .non)) sNext)
  (sSeq (sSetT (tgTup 3 (tgCons (tgName 5) (tgCons (tgName 6) (tgCons (tgName 7) tgNil)))) (eMeth "Workshop" "mount_of" f_Workshop_mount_of (eVar 0) (eCons (eBin fIx (eVar 3) (eC (.int 2))) eNil)))
  (sRet (eCall f_lift_on (eCons (eVar 4) (eCons (eMake "Foot" f_Foot_init (eCons (eBin fIx (eVar 3) (eC (.int 3))) (eCons (eBin fIx (eVar 3) (eC (.int 4))) eNil))) (eCons (eCall f_angle_at (eCons (eVar 5) (eCons (eVar 6) (eCons (eVar 7) (eCons (eVar 2) eNil))))) eNil))))))))))
noncomputable def f_Workshop_lift_at : Sem1 := runF 3 8 b_Workshop_lift_at
end TG

set_option linter.all false
set_option maxRecDepth 100000
namespace TG
open PySem L2
noncomputable def angV (w : Int) (c : Nat) (f t : Int) : Int := f + (t * w) / (c : Int)
theorem angle_eq (w : Int) (c : Nat) (f t : Int) (s : S) (hw : w.natAbs ≤ 1000) (hc : 0 < c) (hc' : c ≤ 1000) : f_angle_at [.d (.int w), .d (.int c), .d (.int f), .d (.int t)] s = .ok (.w (.d (.int (angV w c f t)))) s := by
  have hk : kMul t w = true := kMul_r (by omega)
  have hd : kDiv (t * w) c = true := kDiv_ok (by omega) (by omega)
  simp [f_angle_at, runF, b_angle_at, hk, hd, angV, Int.fdiv_eq_ediv_of_nonneg _ (show (0 : Int) ≤ c by omega)]
end TG

set_option linter.all false
set_option maxRecDepth 100000
namespace TG
open PySem L2
noncomputable def mountF (F : FaL) (cam : Int) : Int × Int × Int := match lastF F "mount" cam with | some (.mount _ t m a) => (t, m, a) | _ => (1, 1, 0)
noncomputable def mntD (x : Int × Int × Int) : D := .tup [.int x.1, .int x.2.1, .int x.2.2]
theorem mount_of {f : Fa} (h : f.word = "mount") : ∃ c t m a, f = .mount c t m a := by
  cases f with
  | mount c t m a => exact ⟨c, t, m, a, rfl⟩
  | blank c r => exact absurd (show ("blank" : Str) = "mount" from h) (by decide +kernel)
  | cut c k x => exact absurd (show ("cut" : Str) = "mount" from h) (by decide +kernel)
  | foot a c l m => exact absurd (show ("foot" : Str) = "mount" from h) (by decide +kernel)
  | lever n t => exact absurd (show ("lever" : Str) = "mount" from h) (by decide +kernel)
theorem foot_of {f : Fa} (h : f.word = "foot") : ∃ a c l m, f = .foot a c l m := by
  cases f with
  | foot a c l m => exact ⟨a, c, l, m, rfl⟩
  | blank c r => exact absurd (show ("blank" : Str) = "foot" from h) (by decide +kernel)
  | cut c k x => exact absurd (show ("cut" : Str) = "foot" from h) (by decide +kernel)
  | mount c t m a => exact absurd (show ("mount" : Str) = "foot" from h) (by decide +kernel)
  | lever n t => exact absurd (show ("lever" : Str) = "foot" from h) (by decide +kernel)
theorem mount_rng {F : FaL} (hg : GoodFa F) (cam : Int) : (mountF F cam).1.natAbs ≤ 99 ∧ 1 ≤ (mountF F cam).2.1 ∧ (mountF F cam).2.1 ≤ 99 := by
  unfold mountF
  split
  · rename_i c t m a e
    obtain ⟨_, _, n, hm⟩ := lastF_mem _ _ F _ e
    have := (hg _ hm).1
    simp [Fa.ok] at this
    show t.natAbs ≤ 99 ∧ 1 ≤ m ∧ m ≤ 99
    omega
  · decide
theorem okM : SOk (tl "mount") := lit_ok (by decide +kernel)
theorem okF' : SOk (tl "foot") := lit_ok (by decide +kernel)
section
variable {s : S} {n i j p q : Nat} {hs gs : List D} {F : FaL} {m : Int}
theorem mountOf_eq (h : Shop s n i j (hs ++ [holdD F m]) gs) (hF : Srt F) (hl : F.length ≤ 16777216) (cam : Int) : f_Workshop_mount_of [.r n, .d (.int cam)] s = .ok (.w (.d (mntD (mountF F cam)))) s := by
  have ins := h.ins "facts"
  have fa := facts_eq h hF hl
  have lo := lastOf_eq F "mount" okM cam s
  rw [f_Workshop_mount_of, runF_eq]
  unfold mountF mntD
  cases e : lastF F "mount" cam with
  | none =>
    rw [e] at lo
    simp [b_Workshop_mount_of, ins, fa, lo, oFa, hl, wipeR, -rng1_eq, -fIx_eq, fIx_tup, fIx_lst]
  | some f =>
    obtain ⟨hw, _, _⟩ := lastF_mem _ _ F _ e
    obtain ⟨c, t, k, a, rfl⟩ := mount_of hw
    rw [e] at lo
    have ct := cutT2 (D.str "mount") (.int c) [.int t, .int k, .int a]
    simp [b_Workshop_mount_of, ins, fa, lo, oFa, hl, Fa.d, Fa.word, Fa.num, Fa.rest, ct, wipeR, -rng1_eq, -fIx_eq, fIx_tup, fIx_lst]
noncomputable def liftF (F : FaL) (fo when_ : Int) : Option Int := match lastF F "foot" fo with
  | some (.foot _ c l k) => (match rimV F c with
    | some r => some (liftV r l k (angV (mountF F c).1 (mountF F c).2.1.toNat (mountF F c).2.2 when_))
    | none => none)
  | _ => none
theorem liftAt_eq (h : Shop s n i j (hs ++ [holdD F m]) gs) (hF : Srt F) (hl : F.length ≤ 16777216) (hg : GoodFa F) (fo w : Int) : f_Workshop_lift_at [.r n, .d (.int fo), .d (.int w)] s = .ok (.w (.d (optD (liftF F fo w)))) s := by
  have ins := h.ins "facts"
  have ins2 := h.ins "rim_of"
  have ins3 := h.ins "mount_of"
  have fa := facts_eq h hF hl
  have lo := lastOf_eq F "foot" okF' fo s
  rw [f_Workshop_lift_at, runF_eq]
  unfold liftF
  cases e : lastF F "foot" fo with
  | none =>
    rw [e] at lo
    simp [b_Workshop_lift_at, ins, fa, lo, oFa, hl, optD, wipeR, -rng1_eq, -fIx_eq, fIx_tup, fIx_lst]
  | some f =>
    obtain ⟨hw, _, k, hm⟩ := lastF_mem _ _ F _ e
    obtain ⟨a, c, l, k2, rfl⟩ := foot_of hw
    have ok := (hg _ hm).1
    simp [Fa.ok] at ok
    rw [e] at lo
    have ri := rimOf_eq h hF hl hg c
    have mo := mountOf_eq h hF hl c
    have mr := mount_rng hg c
    cases er : rimV F c with
    | none =>
      rw [er] at ri
      simp [b_Workshop_lift_at, ins, ins2, fa, lo, oFa, hl, optD, Fa.d, Fa.word, Fa.num, Fa.rest, ri, oRim, er, wipeR, -rng1_eq, -fIx_eq, fIx_tup, fIx_lst]
    | some r =>
      rw [er] at ri
      have rl := rimV_len hg er
      rcases hmo : mountF F c with ⟨t, mm, ag⟩
      rw [hmo] at mo mr
      obtain ⟨mn, rfl⟩ : ∃ k : Nat, mm = k := ⟨mm.toNat, by have : 1 ≤ mm := mr.2.1; omega⟩
      have an := fun s => angle_eq t mn ag w s (by have : t.natAbs ≤ 99 := mr.1; omega) (by have : (1 : Int) ≤ mn := mr.2.1; omega) (by have : (mn : Int) ≤ 99 := mr.2.2; omega)
      have drs : ∀ x ∈ l, 0 ≤ x ∧ x ≤ 99 := fun x hx => by
        have := List.all_eq_true.mp ok.1.1.1.2 x hx
        simpa using this
      have fm := foot_made l k2 s (by omega) (by omega) drs (by omega) (by omega)
      have li := liftOn_eq r l k2 (angV t mn ag w) s (by omega) (by omega) (by omega)
      simp [b_Workshop_lift_at, ins, ins2, ins3, fa, lo, oFa, hl, optD, Fa.d, Fa.word, Fa.num, Fa.rest, ri, oRim, er, hmo, mo, mntD, an, fm, li, wipeR, -rng1_eq, -fIx_eq, fIx_tup, fIx_lst]
end
end TG

set_option linter.all false
set_option maxRecDepth 100000
namespace TG
open PySem L2
end TG

set_option linter.all false
set_option maxRecDepth 100000
namespace TG
open PySem L2
end TG

set_option linter.all false
set_option maxRecDepth 100000
namespace TG
open PySem L2
end TG

set_option linter.all false
set_option maxRecDepth 100000
namespace TG
open PySem L2
theorem optD_ofO (x : Option Int) : optD x = ofO x := by cases x <;> rfl
section
variable {s : S} {n i j p q : Nat} {hs gs : List D} {F : FaL} {m : Int}
end
end TG

set_option linter.all false
set_option maxRecDepth 100000
namespace TG
open PySem L2
section
variable {s : S} {n i j p q : Nat} {hs gs : List D} {F : FaL} {m : Int}
end
end TG

set_option linter.all false
set_option maxRecDepth 100000
namespace TG
open PySem L2
section
variable {s : S} {n i j p q : Nat} {hs gs : List D} {F : FaL} {m : Int}
end
end TG

set_option linter.all false
set_option maxRecDepth 100000
namespace TG
open PySem L2
section
variable {s : S} {p q : Nat} {F : FaL} {m : Int}
end
end TG

set_option linter.all false
set_option maxRecDepth 100000
namespace TG
open PySem L2
section
variable {s : S} {n i j p q : Nat} {hs gs : List D} {F : FaL} {m : Int}
end
end TG

set_option linter.all false
set_option maxRecDepth 100000
namespace TG
open PySem L2
section
variable {s : S} {p q : Nat} {F F' : FaL} {m m' : Int}
end
end TG

set_option linter.all false
set_option maxRecDepth 100000
namespace TG
open PySem L2
noncomputable def b_Workshop_rim_2 : Stm :=
  (sSeq (sIf (eNotT (eTest (eChain fLe fLe (eC (.int 0)) (eVar 1) (eC (.int 5))))) sNo sNext)
  (sRet (eMeth "Workshop" "rim_of" f_Workshop_rim_of (eVar 0) (eCons (eVar 1) eNil))))
noncomputable def f_Workshop_rim_2 : Sem1 := runF 2 2 b_Workshop_rim_2
noncomputable def b_Workshop_lift_2 : Stm :=
  (sSeq (sIf (eNotT (eTest (eChain fLe fLe (eC (.int 0)) (eVar 1) (eC (.int 7))))) sNo sNext)
  (sRet (eMeth "Workshop" "lift_at" f_Workshop_lift_at (eVar 0) (eCons (eVar 1) (eCons (eVar 2) eNil)))))
noncomputable def f_Workshop_lift_2 : Sem1 := runF 3 3 b_Workshop_lift_2
end TG

set_option linter.all false
set_option maxRecDepth 100000
namespace TG
open PySem L2
end TG

set_option linter.all false
set_option maxRecDepth 100000
namespace TG
open PySem L2
section
variable {s : S} {n i j : Nat} {hs gs : List D} {F : FaL} {m : Int}
theorem rim2_eq (h : Shop s n i j (hs ++ [holdD F m]) gs) (hF : Srt F) (hl : F.length ≤ 16777216) (hg : GoodFa F) (cam : Int) (h0 : 0 ≤ cam) (h5 : cam ≤ 5) : f_Workshop_rim_2 [.r n, .d (.int cam)] s = .ok (.w (.d (oRim (rimV F cam)))) s := by
  have ins := h.ins "rim_of"
  have e := rimOf_eq h hF hl hg cam
  rw [f_Workshop_rim_2, runF_eq]
  simp [b_Workshop_rim_2, h0, h5, ins, e, wipeR, -rng1_eq, -fIx_eq, fIx_tup]
theorem lift2_eq (h : Shop s n i j (hs ++ [holdD F m]) gs) (hF : Srt F) (hl : F.length ≤ 16777216) (hg : GoodFa F) (fo w : Int) (h0 : 0 ≤ fo) (h7 : fo ≤ 7) : f_Workshop_lift_2 [.r n, .d (.int fo), .d (.int w)] s = .ok (.w (.d (ofO (liftF F fo w)))) s := by
  have ins := h.ins "lift_at"
  have la := liftAt_eq h hF hl hg fo w
  rw [optD_ofO] at la
  rw [f_Workshop_lift_2, runF_eq]
  simp [b_Workshop_lift_2, h0, h7, ins, la, wipeR, -rng1_eq, -fIx_eq, fIx_tup]
end
end TG

set_option linter.all false
set_option maxRecDepth 100000
namespace TG
open PySem L2
end TG

set_option Elab.async false
set_option linter.all false
set_option maxRecDepth 100000
set_option maxHeartbeats 4000000
namespace TG
open PySem PySem.Spec PyProof.Rows L2
section
variable {X : Cx} {cl : Str → Option Addr} {Wx : WX} {a : Expr} {ea : Cmp W} {pos : Pos} {ta : TE}
end
end TG

set_option Elab.async false
set_option linter.all false
set_option maxRecDepth 100000
set_option maxHeartbeats 4000000
namespace TG
open PySem PySem.Spec PyProof.Rows L2
structure EqAtC (P : Program) (w : World) (K : PySem.W.Frag) (mg : Str → Option Value) (base : Heap) (cl : Str → Option Addr) (k : Nat) (c : Str) (ps : List Str) (f : Sem1) : Prop where
  ex : ∃ (C a : Addr) (fd : FuncData), cl c = some C ∧ PySem.W.findIn K (.ref C) "__eq__" = some (some (.ref a)) ∧ PySem.W.isFn K (.ref a) = true ∧ Binds K fd ps [] ∧ FnOk P w K mg base (L2.CX P w) k a fd ps (spOf K cl f)
theorem EqAtC.mono {P : Program} {w : World} {K : PySem.W.Frag} {mg : Str → Option Value} {base : Heap} {cl : Str → Option Addr} {j k : Nat} {c : Str} {ps : List Str} {f : Sem1} (F : EqAtC P w K mg base cl j c ps f) (h : j ≤ k) : EqAtC P w K mg base cl k c ps f := by
  obtain ⟨C, a, fd, h1, h2, h3, h4, h5⟩ := F.ex
  exact ⟨C, a, fd, h1, h2, h3, h4, h5.mono h⟩
noncomputable def rEqC (K : PySem.W.Frag) (cl : Str → Option Addr) (c : Str) (f : Sem1) : R2 := fun v u H Q =>
  ∃ (x y : TG.W) (b : Bool) (H0 : Hp) (m : List Addr) (s s' : S), Stt K cl H0 H m s ∧ RepW K cl H0 m v x ∧ RepW K cl H0 m u y ∧ insOf c "__eq__" x s = true ∧ insOf c "__eq__" y s = true ∧ f [x, y] s = .ok (.w (.d (.bl b))) s' ∧
    ∀ H0' H' m', GoE H0 H m H0' H' m' → Stt K cl H0' H' m' s' → Q (.bl b) H'
section
variable {X : Cx} {cl : Str → Option Addr} {k : Nat} {ps : List Str} {f : Sem1} {c : Str}
theorem op_eqC (F : EqAtC X.prog X.w X.K X.mg X.base cl k c ps f) (hr : Room (k + 2) X.A) : OpR X (compareOp .Eq) (rEqC X.K cl c f) := by
  intro pins s σ H v u vv uu Q I rv ru h
  obtain ⟨x, y, b, H0, m, s0, s1, st, rx, ry, hx, hy, hf, q⟩ := h
  obtain ⟨C, a, fd, h1, h2, h3, h4, h5⟩ := F.ex
  obtain ⟨p, dx, fs, rfl, hp, _⟩ := insOf_ok h1 st rx hx
  obtain ⟨p', dy, gs, rfl, hp', _⟩ := insOf_ok h1 st ry hy
  obtain rfl : vv = Value.ref p := rv
  obtain rfl : uu = Value.ref p' := ru
  obtain ⟨mA, J, _⟩ := ins_get I.hok hp
  obtain ⟨mB, J', _⟩ := ins_get I.hok hp'
  obtain ⟨od, J, _⟩ := J.look
  obtain ⟨od', J', _⟩ := J'.look
  obtain ⟨mm, hF⟩ := I.fr
  have hsp : spOf X.K cl f [.ref p, .ref p'] H (fun v H' => v = .bl b ∧ Q (.bl b) H') E0 := by
    refine ⟨H0, m, s0, [x, y], st, .cons rx (.cons ry .nil), ?_⟩
    rw [hf]
    intro v H0' H' m' g st' rr
    have rr : RepW X.K cl H0' m' v (.d (.bl b)) := rr
    cases rr
    exact ⟨rfl, q _ _ _ g st'⟩
  have hl := h5.len _ _ _ _ hsp
  have r2 : Vals [V.ref p, V.ref p'] [Value.ref p, Value.ref p'] := .cons rfl (.cons rfl .nil)
  show wpAny _ _ (richCompare .Eq (.ref p) (.ref p')) _ _ _
  refine PySem.W.cmp_K (op := .Eq) (tb := .ref C) hr.units0 hF I.ok.mod.kin J J'.type (by simp [PySem.W.notFirst]) h2 h3 (wpAny_call (codeAny_mono (h5.run X.A X.stack s H ⟨[.ref p, .ref p'], []⟩ [.ref p, .ref p'] [.ref p, .ref p'] _ E0 (hr.mono (by omega)) I.env0 (by
    have := h4 s [.ref p, .ref p'] I.kIn (by simpa using hl)
    simpa using this) r2 hsp) fun r s' hq => ?_))
  cases r with
  | error e => exact noPass pins σ H s e s' I hq
  | ok fl =>
    cases fl with
    | ret w =>
      obtain ⟨z, H', I', rz, ez, ex⟩ := I.after hq
      subst ez
      cases rz
      exact ⟨.bl b, H', I', rfl, ex⟩
    | next => exact False.elim hq
    | brk => exact False.elim hq
    | cont => exact False.elim hq
noncomputable def eqC : Res RV → Res TG.W
  | .ok (.w (.d (.bl b))) s => .ok (.d (.bl b)) s
  | _ => .no
noncomputable def fEqC (c : Str) (f : Sem1) : TG.W → TG.W → S → Res TG.W := fun x y s => if insOf c "__eq__" x s = true ∧ insOf c "__eq__" y s = true then eqC (f [x, y] s) else .no
theorem ops_eqC {K : PySem.W.Frag} : OpS K cl (rEqC K cl c f) (fEqC c f) := by
  intro Wx σ H0 H m s v u x y Q st rx ry h
  unfold fEqC at h
  split at h
  · rename_i hi
    cases ef : f [x, y] s with
    | no => rw [ef] at h; exact h.elim
    | exc d z s2 => rw [ef] at h; exact h.elim
    | ok rv s2 =>
      rw [ef] at h
      unfold eqC at h
      split at h
      · rename_i b s3 e3
        cases e3
        exact ⟨x, y, b, H0, m, s, s2, st, rx, ry, hi.1, hi.2, ef, fun H0' H' m' g st' => h (.bl b) H0' H' m' g st' .bl⟩
      · exact h.elim
  · exact h.elim
end
end TG

set_option Elab.async false
set_option linter.all false
set_option maxRecDepth 100000
set_option maxHeartbeats 4000000
namespace TG
open PySem PySem.Spec PyProof.Rows L2
noncomputable def fIsOC (c : Str) : W → S → Res W := fun x s => if insOf c "__eq__" x s = true then .ok (.d (.bl true)) s else .no
section
variable {X : Cx} {cl : Str → Option Addr} {Wx : WX} {e : Expr} {pos p q : Pos} {ea : Cmp W} {x y : Str}
theorem je_isOC (c : Str) (hg : Gl X x) (hm : X.mg x = none) (hv : bootBuiltins x = some (.builtin "isinstance")) (hg2 : Gl X c) (F : IsC X.K X.mg cl c) (ha : JE cl Wx X e ea)
    (n1 : x ≠ "__name__" := by decide) (n2 : (x == ("__debug__" : Str)) = false := by decide) (n4 : (c == ("__debug__" : Str)) = false := by decide)
    (hs : starEach [e, .Name c q] X.env = (false, eval e X.env) :: starEach [.Name c q] X.env := by rfl) (hs2 : starEach [.Name c q] X.env = (false, eval (.Name c q) X.env) :: starEach [] X.env := by rfl) (h4 : ((backTo pos (starEach [.Name c q] X.env)).any fun x => x.fst) = false := by rfl) :
    JE cl Wx X (.Call (.Name x p) [e, .Name c q] [] pos) (eUn (fIsOC c) ea) := by
  obtain ⟨C, hC, hm2, hc⟩ := F.ex
  exact PE.weaken (pe_callB (C8.call_isC hc) hg hm hv (pa_cons ha (pa_cons (pe_glob hg2 hm2 (v := .ref C) rfl n4) pa_nil hs2) hs) n1 n2 hs h4) fun σ H Q ⟨H0, m, ow, s, ρ, cx, h⟩ => ⟨H0, m, ow, s, ρ, cx, RunE.bind h fun a s1 v H1 H1' m1 g st rr h2 => by
    have h2 : RunE X.K cl (rrW X.K cl) Wx H1 H1' m1 σ Q (if insOf c "__eq__" a s1 = true then .ok (.d (.bl true)) s1 else .no) := h2
    split at h2
    · rename_i hi
      obtain ⟨p, dx, fs, rfl, k1, k2⟩ := insOf_ok hC st rr hi
      exact ⟨_, _, _, rfl, k1, RunE.done (RR := rrW X.K cl) h2 st (Rep.bl : Rep X.K cl H1 (.bl true) (.bl true))⟩
    · exact h2.elim⟩
end
end TG

set_option Elab.async false
set_option linter.all false
set_option maxRecDepth 100000
set_option maxHeartbeats 4000000
namespace TG
open PySem PySem.Spec PyProof.Rows L2
section
variable {X : Cx} {cl : Str → Option Addr} {Wx : WX} {a e elt tg iter : Expr} {ifs : List Expr} {es : List Expr} {pos p py spos : Pos} {ea ee : Cmp W} {el ec : Cmp (List W)} {et : Cmp Bool} {t : Tgt} {sl : List Nat} {own : List (Str × Nat)} {scope : Scope}
end
end TG

set_option Elab.async false
set_option linter.all false
set_option maxRecDepth 100000
set_option maxHeartbeats 4000000
namespace TG
open PySem PySem.Spec PyProof.Rows L2
open Classical
noncomputable def cellL (x : W) (s : S) : Option (Nat × List W) := match x with
  | .r n => (match s[n]? with | some (.lst l) => some (n, l) | _ => none)
  | _ => none
noncomputable def kCellL : W → S → Res (Nat × List W) := fun x s => match cellL x s with | some q => .ok q s | none => .no
noncomputable def eCellL (e : Cmp W) : Cmp (Nat × List W) := fun ρ s => (e ρ s).bind kCellL
noncomputable def forC (n : Nat) (l : List W) (t : Tgt) (b : Stm) : List W → Stm
  | [], ρ, s => if s[n]? = some (Cell.lst l) then .nx ρ s else .no
  | x :: r, ρ, s => if s[n]? = some (Cell.lst l) then (match t x ρ with
    | none => .no
    | some ρ1 => forK (forC n l t b r) (b ρ1 s)) else .no
noncomputable def kForC (t : Tgt) (b : Stm) : Nat × List W → Stm := fun q ρ s => forC q.1 q.2 t b q.2 ρ s
noncomputable def sForC (c : Cmp (Nat × List W)) (t : Tgt) (b : Stm) : Stm := fun ρ s => ebS (c ρ s) ρ (kForC t b)
structure WalksC (K : PySem.W.Frag) (cl : Str → Option Addr) (J : It) (n : Nat) (l : List W) (Ha : Hp) (ma : List Addr) : Prop where
  stop : ∀ (i : Nat) H0 H m s, Same Ha H0 → ma <+: m → Stt K cl H0 H m s → s[n]? = some (.lst l) → l.length ≤ i → J.stop i H
  go : ∀ (i : Nat) H0 H m s, Same Ha H0 → ma <+: m → Stt K cl H0 H m s → s[n]? = some (.lst l) → i < l.length → J.go i H
  yld : ∀ (i : Nat) H0 H m s x H', Same Ha H0 → ma <+: m → Stt K cl H0 H m s → s[n]? = some (.lst l) → i < l.length → J.yld i H x H' → ∃ H0', GoE H0 H m H0' H' m ∧ Stt K cl H0' H' m s ∧ ∃ w, l[i]? = some w ∧ RepW K cl H0' m x w
noncomputable def rrIC (K : PySem.W.Frag) (cl : Str → Option Addr) : RRT It (Nat × List W) := fun _ H0 _ m J q => WalksC K cl J q.1 q.2 H0 m
instance {K cl} : Early (rrIC K cl) := ⟨fun _ h => h⟩
noncomputable def JIC (cl : Str → Option Addr) (Wx : WX) (X : Cx) (tg it : Expr) (c : Cmp (Nat × List W)) : Prop := PI X tg it (Tof X.K cl (rrIC X.K cl) Wx c)
theorem walk_cell {K : PySem.W.Frag} {cl : Str → Option Addr} {Ha : Hp} {ma : List Addr} {n : Nat} {p : Addr} {l : List W} (h : ma[n]? = some p) : WalksC K cl (Itl K p) n l Ha ma := by
  have up : ∀ {m : List Addr}, ma <+: m → m[n]? = some p := fun {m} hp => by
    obtain ⟨t, rfl⟩ := hp
    rw [List.getElem?_append_left (List.getElem?_eq_some_iff.mp h).1]
    exact h
  refine ⟨fun i H0 H m s e hp st hs hi => ?_, fun i H0 H m s e hp st hs hi => ?_, fun i H0 H m s x H' e hp st hs hi y => ?_⟩
  · obtain ⟨_, vs, h1, h2⟩ := st.cell n p _ (up hp) hs
    exact ⟨vs, sqL_of h1, by have := h2.length; omega⟩
  · obtain ⟨_, vs, h1, h2⟩ := st.cell n p _ (up hp) hs
    have := h2.length
    exact ⟨vs, vs[i]'(by omega), sqL_of h1, by simp [show i < vs.length by omega]⟩
  · obtain ⟨_, vs, h1, h2⟩ := st.cell n p _ (up hp) hs
    obtain ⟨rfl, y⟩ := y
    have q := y vs (sqL_of h1)
    refine ⟨H0, Go.refl, st, ?_⟩
    obtain ⟨v, e1, e2⟩ := h2.get (i := i) (x := l[i]) (by simp [hi])
    rw [q] at e1
    cases e1
    exact ⟨_, by simp [hi], e2⟩
section
variable {X : Cx} {cl : Str → Option Addr} {Wx : WX} {tg e c elt : Expr} {es : List Expr} {st : Stmt} {sts sts' : List Stmt} {pos : Pos} {ea : Cmp W} {el ec : Cmp (List W)} {ecc : Cmp (Nat × List W)} {et : Cmp Bool} {a b : Stm} {t : Tgt} {sl sl' : List Nat}
theorem ji_cell (h : JE cl Wx X e ea) : JIC cl Wx X tg e (eCellL ea) :=
  PI.weaken (pi_list h) fun σ H R ⟨H0, m, ow, s, ρ, cx, q⟩ => by
    have q : RunE X.K cl (rrIC X.K cl) Wx H0 H m σ R ((ea ρ s).bind kCellL) := q
    cases e0 : ea ρ s with
    | no => rw [e0] at q; exact q.elim
    | exc c x s' => exact ⟨H0, m, ow, s, ρ, cx, by rw [e0] at q ⊢; exact q⟩
    | ok w s' =>
      rw [e0] at q
      have q : RunE X.K cl (rrIC X.K cl) Wx H0 H m σ R (kCellL w s') := q
      unfold kCellL cellL at q
      cases w with
      | d x => exact q.elim
      | r n =>
        dsimp only at q
        cases e1 : s'[n]? with
        | none => rw [e1] at q; exact q.elim
        | some c =>
          rw [e1] at q
          cases c with
          | lst l =>
            refine ⟨H0, m, ow, s, ρ, cx, ?_⟩
            rw [e0]
            intro v H0' H' m' g st rr
            obtain ⟨p, h1, rfl⟩ := rr
            obtain ⟨_, vs, h2, h3⟩ := st.cell n p _ h1 e1
            exact ⟨p, rfl, ⟨_, sqL_of h2⟩, q _ H0' H' m' g st (walk_cell h1)⟩
          | dic l => exact q.elim
          | ins c l => exact q.elim
          | tup l => exact q.elim
theorem js_forC (ok : XOk X Wx) (hc : X.calm = true) (hi : JIC cl Wx X tg e ecc) (hg : JG cl X tg t sl) (hb : JB cl Wx X sts b) (hs : ∀ x, foldedSetIterable e X.env x = pure x := by exact fun _ => rfl) : JS cl Wx X (.For tg e sts [] pos) (sForC ecc t b) :=
  PS.weaken (ps_for ok.po hc hi hg hb hs) fun E σ H ⟨H0, m, ow, s, ρ, cx, h⟩ => ⟨H0, m, ow, s, ρ, cx, RunS.ofE cx h fun nl s1 J H1 H1' m1 g c wk h2 => by
    obtain ⟨n, l⟩ := nl
    have wk : WalksC X.K cl J n l H1 m1 := wk
    have h2 : RunS X.K cl Wx H1 H1' m1 ow E (forC n l t b l ρ s1) := h2
    refine ⟨fun i k σ' H' => k = l.length - i ∧ i ≤ l.length ∧ ∃ H0' m' ow' s' ρ', Same H1 H0' ∧ m1 <+: m' ∧ Ctx X.K cl H0' H' m' ow' s' σ' ρ' ∧ RunS X.K cl Wx H0' H' m' ow' E (forC n l t b (l.drop i) ρ' s'),
      ⟨l.length, by simp, Nat.zero_le _, H1, m1, ow, s1, ρ, Same.refl _, List.prefix_rfl, c, h2⟩, fun i k σ' H' hW => ?_⟩
    obtain ⟨rfl, hi, H0', m', ow', s', ρ', e1, e2, c', h3⟩ := hW
    by_cases hs : s'[n]? = some (.lst l)
    case neg =>
      have : forC n l t b (l.drop i) ρ' s' = .no := by
        cases l.drop i with
        | nil => exact if_neg hs
        | cons x r => exact if_neg hs
      rw [this] at h3
      exact h3.elim
    by_cases hl : i < l.length
    · refine .inr ⟨wk.go i _ _ _ _ e1 e2 c'.st hs hl, fun σ2 H2 => i + 1 ≤ l.length ∧ ∃ H0' m' ow' s' ρ', Same H1 H0' ∧ m1 <+: m' ∧ Ctx X.K cl H0' H2 m' ow' s' σ2 ρ' ∧ RunS X.K cl Wx H0' H2 m' ow' E (forC n l t b (l.drop (i + 1)) ρ' s'), fun σ2 H2 q => ⟨l.length - (i + 1), by omega, rfl, q⟩, fun x H3 hy => ?_⟩
      obtain ⟨H0'', g3, st3, w, e3, r3⟩ := wk.yld i _ _ _ _ x H3 e1 e2 c'.st hs hl hy
      have ed : l.drop i = w :: l.drop (i + 1) := by
        rw [List.drop_eq_getElem_cons hl]
        have : l[i] = w := by rw [List.getElem?_eq_getElem hl] at e3; exact Option.some.inj e3
        rw [this]
      rw [ed] at h3
      have h3 : RunS X.K cl Wx H0' H' m' ow' E (match t w ρ' with
        | none => .no
        | some ρ1 => forK (forC n l t b (l.drop (i + 1))) (b ρ1 s')) := by
        have e : forC n l t b (w :: l.drop (i + 1)) ρ' s' = _ := if_pos hs
        rw [e] at h3
        exact h3
      have h4 := h3.shift (g3.lift (ow := ow'))
      have h4 : RunS X.K cl Wx H0'' H3 m' ow' E (match t w ρ' with
        | none => .no
        | some ρ1 => forK (forC n l t b (l.drop (i + 1))) (b ρ1 s')) := h4
      cases e5 : t w ρ' with
      | none => rw [e5] at h4; exact h4.elim
      | some ρ1 =>
        rw [e5] at h4
        refine ⟨H0'', m', ow', s', ρ', w, ρ1, c'.go g3 st3, r3, e5, fun σ2 c2 _ _ => ⟨H0'', m', ow', s', ρ1, c2, ?_⟩⟩
        have e1' : Same H1 H0'' := e1.trans g3.s0
        have h4 : RunS X.K cl Wx H0'' H3 m' ow' E (forK (forC n l t b (l.drop (i + 1))) (b ρ1 s')) := h4
        cases e6 : b ρ1 s' with
        | nx ρ2 s2 =>
          rw [e6] at h4
          have h4 : RunS X.K cl Wx H0'' H3 m' ow' E (forC n l t b (l.drop (i + 1)) ρ2 s2) := h4
          exact fun σ' H0' H' m' ow' g' c' => ⟨hl, H0', m', ow', s2, ρ2, e1'.trans g'.s0, e2.trans g'.pre, c', h4.shift g'⟩
        | cnt ρ2 s2 =>
          rw [e6] at h4
          have h4 : RunS X.K cl Wx H0'' H3 m' ow' E (forC n l t b (l.drop (i + 1)) ρ2 s2) := h4
          exact fun σ' H0' H' m' ow' g' c' => ⟨hl, H0', m', ow', s2, ρ2, e1'.trans g'.s0, e2.trans g'.pre, c', h4.shift g'⟩
        | brk ρ2 s2 => rw [e6] at h4; exact h4
        | ret v s2 => rw [e6] at h4; exact h4
        | exc c x ρ2 s2 => rw [e6] at h4; exact h4
        | no => rw [e6] at h4; exact h4
    · refine .inl ⟨wk.stop i _ _ _ _ e1 e2 c'.st hs (by omega), ?_⟩
      rw [List.drop_eq_nil_of_le (by omega)] at h3
      have e : forC n l t b [] ρ' s' = _ := if_pos hs
      rw [e] at h3
      exact RunS.nxt h3 c'⟩

end
section
variable {X : Cx} {cl : Str → Option Addr} {Wx : WX} {a tg e c elt iter : Expr} {ifs : List Expr} {es : List Expr} {pos p py spos : Pos} {ea ee : Cmp W} {el ec : Cmp (List W)} {ecc : Cmp (Nat × List W)} {et : Cmp Bool} {t : Tgt} {sl : List Nat} {own : List (Str × Nat)} {scope : Scope}
end
end TG

set_option linter.all false
set_option maxRecDepth 100000
namespace TG
open PySem L2
noncomputable def b_Workshop_fact_of_2 : Stm :=
  (sSeq (sSet 2 (eFld "Hold" "there" (eBin fIx (eFld "Workshop" "times_kept" (eVar 0)) (eUn fNeg (eC (.int 1))))))
  (sSeq (sIf (eTest (eBin (fIn true) (eVar 1) (eVar 2))) sNo sNext)
  (sRet (eBin fIx (eVar 2) (eVar 1)))))
noncomputable def f_Workshop_fact_of_2 : Sem1 := runF 2 3 b_Workshop_fact_of_2
noncomputable def b_Workshop_strike_2 : Stm :=
  (sSeq (sSet 2 (eMeth "Workshop" "fact_of" f_Workshop_fact_of_2 (eVar 0) (eCons (eVar 1) eNil)))
  (sSeq (sSet 3 (eBin fIx (eFld "Workshop" "times_kept" (eVar 0)) (eUn fNeg (eC (.int 1)))))
  (sSeq (sSetD 4 (eDictO (eCons (eFld "Hold" "there" (eVar 3)) eNil)))
  (sSeq (sPopKO 4 (eVar 1))
  (sFrzD 4 (sSeq (sExpr (eMeth "Workshop" "go_on" f_Workshop_go_on (eVar 0) (eCons (eVar 4) (eCons (eFld "Hold" "many_told" (eVar 3)) eNil))))
  (sRet (eVar 2))))))))
noncomputable def f_Workshop_strike_2 : Sem1 := runF 2 5 b_Workshop_strike_2
noncomputable def b_v_law_lifts : Stm :=
  (sRet (eBin fAdd (eFrz (eLc [2] (eRng1 (eCons (eC (.int 8)) eNil)) (tgName 2) eYes (eMeth "Workshop" "lift" f_Workshop_lift_2 (eVar 0) (eCons (eVar 2) (eCons (eVar 1) eNil))))) (eFrz (eLc [3] (eRng1 (eCons (eC (.int 4)) eNil)) (tgName 3) eYes (eMeth "Workshop" "rim" f_Workshop_rim_2 (eVar 0) (eCons (eVar 3) eNil))))))
noncomputable def f_v_law_lifts : Sem1 := runF 2 4 b_v_law_lifts
noncomputable def b_Workshop_eq : Stm :=
  (sRet (eAndV (eUn (fIsOC "Workshop") (eVar 1)) (eBin (fEq false) (eMeth "Workshop" "facts" f_Workshop_facts (eVar 0) eNil) (eMeth "Workshop" "facts" f_Workshop_facts (eVar 1) eNil))))
noncomputable def f_Workshop_eq : Sem1 := runF 2 2 b_Workshop_eq
noncomputable def b_law_k29 : Stm :=
  (sSeq (sSet 1 (eCell (eCallL f_v_law_bag (eCons (eVar 0) eNil))))
  (sSeq (sSet 2 (eFrz (eLc [13] (eRng1 (eCons (eC (.int 10)) eNil)) (tgName 13) eYes (eCall f_v_law_fact (eCons (eVar 1) (eCons (eC (.int 0)) eNil))))))
  (sSeq (sSetO 2 (eLc [6] (eSeq (eVar 2)) (tgName 6) (eTest (eBin (fEq true) (eBin fIx (eVar 6) (eC (.int 0))) (eC (.str "cut")))) (eVar 6)))
  (sSeq (sSet 3 (eFrz (eLc [13] (eRng1 (eCons (eCall f_v_law_pull (eCons (eVar 1) (eCons (eC (.int 13)) eNil))) eNil)) (tgName 13) eYes (eTup (eCons (eC (.str "cut")) (eCons (eCall f_v_law_pull (eCons (eVar 1) (eCons (eC (.int 3)) eNil))) (eCons (eCall f_v_law_pull (eCons (eVar 1) (eCons (eC (.int 7)) eNil))) (eCons (eCall f_v_law_height (eCons (eVar 1) eNil)) eNil))))))))
  (sSeq (sApp 2 (eTup (eCons (eC (.str "blank")) (eCons (eC (.int 1)) (eCons (eCall f_v_law_rim (eCons (eVar 1) (eCons (eC (.int 12)) eNil))) eNil)))))
  (sFrz 2 (sSeq (sSet 4 (eCell (eLst (eCons (eMakeC "Workshop" f_Workshop_init eNil) (eCons (eMakeC "Workshop" f_Workshop_init eNil) (eCons (eMakeC "Workshop" f_Workshop_init eNil) eNil))))))
  (sSeq (sForC (eCellL (eVar 4)) (tgName 5) (sFor (eSeq (eVar 2)) (tgName 6) (sExpr (eMeth "Workshop" "tell" f_Workshop_tell (eVar 5) (eCons (eVar 6) eNil)))))
  (sSeq (sSet 7 (eCall f_v_law_angle (eCons (eVar 1) eNil)))
  (sSeq (sFor (eSeq (eVar 3)) (tgName 8) (sSeq (sSet 9 (eFrz (eLc [10] (eRng1 (eCons (eC (.int 3)) eNil)) (tgName 10) eYes (eMeth "Workshop" "rim" f_Workshop_rim_2 (eBin fIx (eVar 4) (eC (.int 0))) (eCons (eVar 10) eNil)))))
  (sSeq (sExpr (eMeth "Workshop" "tell" f_Workshop_tell (eBin fIx (eVar 4) (eC (.int 0))) (eCons (eVar 8) eNil)))
  (sFor (eRng1 (eCons (eC (.int 3)) eNil)) (tgName 10) (sIf (eAndT (eTest (eUn (fIsN true) (eBin fIx (eVar 9) (eVar 10)))) (eNotT (eTest (eCall f_within (eCons (eMeth "Workshop" "rim" f_Workshop_rim_2 (eBin fIx (eVar 4) (eC (.int 0))) (eCons (eVar 10) eNil)) (eCons (eBin fIx (eVar 9) (eVar 10)) eNil)))))) (sRet (eC (.bl false))) sNext)))))
  (sSeq (sFor (eSeq (eCall f_v_law_mixed (eCons (eVar 1) (eCons (eVar 3) eNil)))) (tgName 8) (sExpr (eMeth "Workshop" "tell" f_Workshop_tell (eBin fIx (eVar 4) (eC (.int 1))) (eCons (eVar 8) eNil))))
  (sSeq (sIf (eTest (eBin (fEq true) (eCall f_v_law_lifts (eCons (eBin fIx (eVar 4) (eC (.int 0))) (eCons (eVar 7) eNil))) (eCall f_v_law_lifts (eCons (eBin fIx (eVar 4) (eC (.int 1))) (eCons (eVar 7) eNil))))) (sRet (eC (.bl false))) sNext)
  (sSeq (sIf (eTest (eBin (fEq false) (eArgs (c1 fLen) (eCons (eVar 3) eNil)) (eC (.int 0)))) (sRet (eBin (fEqC "Workshop" f_Workshop_eq) (eBin fIx (eVar 4) (eC (.int 0))) (eBin fIx (eVar 4) (eC (.int 1))))) sNext)
  (sSeq (sSet 11 (eCall f_v_law_pull (eCons (eVar 1) (eCons (eArgs (c1 fLen) (eCons (eVar 3) eNil)) eNil))))
  (sSeq (sSet 12 (eMeth "Workshop" "tell" f_Workshop_tell (eBin fIx (eVar 4) (eC (.int 0))) (eCons (eBin fIx (eVar 3) (eVar 11)) eNil)))
  (sSeq (sIf (eTest (eBin (fEq true) (eCall f_v_law_lifts (eCons (eBin fIx (eVar 4) (eC (.int 0))) (eCons (eVar 7) eNil))) (eCall f_v_law_lifts (eCons (eBin fIx (eVar 4) (eC (.int 1))) (eCons (eVar 7) eNil))))) (sRet (eC (.bl false))) sNext)
  (sSeq (sExpr (eMeth "Workshop" "strike" f_Workshop_strike_2 (eBin fIx (eVar 4) (eC (.int 0))) (eCons (eVar 12) eNil)))
  (sSeq (sExpr (eMeth "Workshop" "strike" f_Workshop_strike_2 (eBin fIx (eVar 4) (eC (.int 0))) (eCons (eBin fAdd (eBin fAdd (eArgs (c1 fLen) (eCons (eVar 2) eNil)) (eC (.int 1))) (eVar 11)) eNil)))
  (sSeq (sFor (eSeq (eBin fAdd (eSl fSl (eVar 3) eNoPart (ePart (eVar 11))) (eSl fSl (eVar 3) (ePart (eBin fAdd (eVar 11) (eC (.int 1)))) eNoPart))) (tgName 8) (sExpr (eMeth "Workshop" "tell" f_Workshop_tell (eBin fIx (eVar 4) (eC (.int 2))) (eCons (eVar 8) eNil))))
  (sRet (eAndV (eBin (fEq false) (eCall f_v_law_lifts (eCons (eBin fIx (eVar 4) (eC (.int 0))) (eCons (eVar 7) eNil))) (eCall f_v_law_lifts (eCons (eBin fIx (eVar 4) (eC (.int 2))) (eCons (eVar 7) eNil)))) (eBin (fEq false) (eLenC "Workshop" f_Workshop_len (eBin fIx (eVar 4) (eC (.int 0)))) (eLenC "Workshop" f_Workshop_len (eBin fIx (eVar 4) (eC (.int 2))))))))))))))))))))))))))
noncomputable def f_law_k29 : Sem1 := runF 1 14 b_law_k29
end TG

set_option linter.all false
set_option maxRecDepth 100000
namespace TG
open PySem L2
noncomputable def vals (F : FaL) : List Fa := F.map fun p => p.2
theorem liftF_of {F G : FaL} (hf : ∀ k, lastF F "foot" k = lastF G "foot" k) (hm : ∀ k, lastF F "mount" k = lastF G "mount" k) (hr : ∀ c, rimV F c = rimV G c) (fo w : Int) : liftF F fo w = liftF G fo w := by
  have e : ∀ c, mountF F c = mountF G c := fun c => by unfold mountF; rw [hm]
  unfold liftF
  rw [hf]
  split
  · rw [hr, e]
  · rfl
noncomputable def isCutFa (f : Fa) : Prop := f.word = "cut"
theorem lastF_app_cuts (B C : FaL) (hC : ∀ p ∈ C, isCutFa p.2) (w : Str) (hw : w ≠ "cut") (k : Int) : lastF (B ++ C) w k = lastF B w k := by
  unfold lastF
  rw [List.foldl_append]
  revert hC
  generalize B.foldl (fun acc p => if isF2 w k p.2 = true then some p.2 else acc) none = acc
  induction C with
  | nil => exact fun _ => rfl
  | cons p C ih =>
    intro hC
    have : isF2 w k p.2 = false := by
      have hp : p.2.word = "cut" := hC p (by simp)
      unfold isF2
      rw [hp]
      simp [Ne.symm hw]
    rw [List.foldl_cons, this, if_neg (by decide)]
    exact ih (fun q hq => hC q (List.mem_cons_of_mem _ hq))
theorem foldl_min_le (l : List Int) : ∀ a : Int, l.foldl min a ≤ a ∧ (∀ x ∈ l, l.foldl min a ≤ x) ∧ (l.foldl min a = a ∨ l.foldl min a ∈ l) := by
  induction l with
  | nil => intro a; exact ⟨Int.le_refl _, (fun x h => nomatch h), .inl rfl⟩
  | cons b l ih =>
    intro a
    obtain ⟨h1, h2, h3⟩ := ih (min a b)
    rw [List.foldl_cons]
    refine ⟨by omega, fun x hx => ?_, ?_⟩
    · rcases List.mem_cons.mp hx with rfl | hx
      · omega
      · exact h2 x hx
    · rcases h3 with h | h
      · rw [h]
        by_cases c : a ≤ b
        · exact .inl (by omega)
        · exact .inr (by rw [show min a b = b by omega]; exact List.mem_cons_self)
      · exact .inr (List.mem_cons_of_mem _ h)
theorem foldl_min_set {l m : List Int} (h : ∀ x, x ∈ l ↔ x ∈ m) (a : Int) : l.foldl min a = m.foldl min a := by
  obtain ⟨a1, a2, a3⟩ := foldl_min_le l a
  obtain ⟨b1, b2, b3⟩ := foldl_min_le m a
  refine Int.le_antisymm ?_ ?_
  · rcases b3 with h1 | h1
    · omega
    · exact a2 _ ((h _).mpr h1)
  · rcases a3 with h1 | h1
    · omega
    · exact b2 _ ((h _).mp h1)
theorem minK_set {l m : List (Int × Int)} (h : ∀ x, x ∈ l ↔ x ∈ m) (k : Nat) (a : Int) : minK l k a = minK m k a := by
  unfold minK
  refine foldl_min_set (fun x => ?_) a
  simp only [List.mem_map, List.mem_filter, h]
theorem mem_cutL (F : FaL) (cam : Int) (q : Int × Int) : q ∈ cutL F cam ↔ ∃ n, (n, Fa.cut cam q.1 q.2) ∈ F := by
  unfold cutL
  rw [List.mem_filterMap]
  constructor
  · rintro ⟨p, hp, e⟩
    split at e
    · rename_i c k x hc
      split at e
      · rename_i hcc
        cases e
        exact ⟨p.1, by rw [← hcc, ← hc]; exact hp⟩
      · cases e
    · cases e
  · rintro ⟨n, hn⟩
    exact ⟨_, hn, by simp⟩
theorem cuts_same {F G : FaL} (hF : GoodFa F) (hG : GoodFa G) (h : ∀ f, isCutFa f → ((∃ n, (n, f) ∈ F) ↔ ∃ n, (n, f) ∈ G)) (cam : Int) (r : List Int) : cutsV F cam r = cutsV G cam r := by
  rw [cutsV_L, cutsV_L]
  have hs : ∀ q, q ∈ cutL F cam ↔ q ∈ cutL G cam := fun q => by
    rw [mem_cutL, mem_cutL]
    exact h _ rfl
  have p : ∀ F : FaL, GoodFa F → ∀ q ∈ cutL F cam, 0 ≤ q.1 := fun F hF q hq => by
    obtain ⟨n, hn⟩ := (mem_cutL F cam q).mp hq
    have := (hF _ hn).1
    simp [Fa.ok] at this
    omega
  rw [← rows_eq _ _ (p F hF), ← rows_eq _ _ (p G hG)]
  exact List.map_congr_left fun k _ => minK_set hs k _
theorem show_same {F G : FaL} (hF : GoodFa F) (hG : GoodFa G) (hl : ∀ (w : Str) k, w ≠ "cut" → lastF F w k = lastF G w k) (hc : ∀ f, isCutFa f → ((∃ n, (n, f) ∈ F) ↔ ∃ n, (n, f) ∈ G)) :
    (∀ c, rimV F c = rimV G c) ∧ ∀ fo w, liftF F fo w = liftF G fo w := by
  have hr : ∀ c, rimV F c = rimV G c := fun c => by
    unfold rimV
    rw [hl "blank" c (by decide)]
    split
    · rw [cuts_same hF hG hc]
    · rfl
  exact ⟨hr, fun fo w => liftF_of (fun k => hl _ k (by decide)) (fun k => hl _ k (by decide)) hr fo w⟩
end TG

set_option linter.all false
set_option maxRecDepth 100000
namespace TG
open PySem L2
noncomputable def numF (L : List Fa) : FaL := L.mapIdx fun i f => ((i : Int) + 1, f)
theorem numF_snoc (L : List Fa) (f : Fa) : numF (L ++ [f]) = numF L ++ [((L.length : Int) + 1, f)] := by
  unfold numF
  rw [List.mapIdx_concat]
theorem numF_len (L : List Fa) : (numF L).length = L.length := by unfold numF; rw [List.length_mapIdx]
theorem numF_vals (L : List Fa) : vals (numF L) = L := by
  unfold vals numF
  refine List.ext_getElem (by simp) fun i h1 h2 => by simp
theorem mem_numF {L : List Fa} {n : Int} {f : Fa} : (n, f) ∈ numF L ↔ ∃ i : Nat, L[i]? = some f ∧ n = (i : Int) + 1 := by
  unfold numF
  rw [List.mem_mapIdx]
  constructor
  · rintro ⟨i, h, e⟩
    cases e
    exact ⟨i, List.getElem?_eq_getElem h, rfl⟩
  · rintro ⟨i, h, rfl⟩
    obtain ⟨hi, rfl⟩ := List.getElem?_eq_some_iff.mp h
    exact ⟨i, hi, rfl⟩
theorem numF_fit (L : List Fa) (hL : ∀ f ∈ L, f.ok = true ∧ f.sz) : Fit (numF L) L.length := by
  refine ⟨?_, ?_, ?_, ?_, by omega⟩
  · unfold Srt
    rw [List.pairwise_iff_getElem]
    intro i j hi hj hij
    simp only [numF, List.getElem_map, List.getElem_mapIdx]
    omega
  · rintro ⟨n, f⟩ hp
    obtain ⟨i, h, _⟩ := mem_numF.mp hp
    exact hL f (List.mem_of_getElem? h)
  · rintro ⟨n, f⟩ hp
    obtain ⟨i, h, e⟩ := mem_numF.mp hp
    obtain ⟨hi, _⟩ := List.getElem?_eq_some_iff.mp h
    show 1 ≤ n ∧ n ≤ _
    omega
  · rw [numF_len]; exact Int.le_refl _
theorem look_numF {L : List Fa} (hL : ∀ f ∈ L, f.ok = true ∧ f.sz) {i : Nat} {f : Fa} (h : L[i]? = some f) : lookF (numF L) ((i : Int) + 1) = some f :=
  look_mem (numF_fit L hL).srt ((i : Int) + 1, f) (mem_numF.mpr ⟨i, h, rfl⟩)
theorem lastF_drop {F : FaL} {k : Int} (h : ∀ f, (k, f) ∈ F → isCutFa f) (w : Str) (hw : w ≠ "cut") (c : Int) : lastF (dropF F k) w c = lastF F w c := by
  rw [lastF_filter, lastF_filter]
  have : ((dropF F k).filter fun p => isF2 w c p.2) = F.filter fun p => isF2 w c p.2 := by
    unfold dropF
    rw [List.filter_filter]
    refine List.filter_congr fun p hp => ?_
    by_cases e : p.1 = k
    · have hc : p.2.word = "cut" := h p.2 (by rw [← e]; exact hp)
      have : isF2 w c p.2 = false := by
        unfold isF2
        rw [hc]
        simp [Ne.symm hw]
      rw [this]
      simp
    · simp [e]
  rw [this]
theorem mem_drop {F : FaL} {k n : Int} {f : Fa} : (n, f) ∈ dropF F k ↔ (n, f) ∈ F ∧ n ≠ k := by
  unfold dropF
  rw [List.mem_filter]
  simp
theorem show_cuts {B C D : List Fa} (hB : ∀ f ∈ B, f.ok = true ∧ f.sz) (hC : ∀ f ∈ C, (f.ok = true ∧ f.sz) ∧ isCutFa f) (hD : ∀ f ∈ D, (f.ok = true ∧ f.sz) ∧ isCutFa f) (h : ∀ f, f ∈ C ↔ f ∈ D) :
    (∀ c, rimV (numF (B ++ C)) c = rimV (numF (B ++ D)) c) ∧ ∀ fo w, liftF (numF (B ++ C)) fo w = liftF (numF (B ++ D)) fo w := by
  have good : ∀ C : List Fa, (∀ f ∈ C, (f.ok = true ∧ f.sz) ∧ isCutFa f) → ∀ f ∈ B ++ C, f.ok = true ∧ f.sz := fun C hC f hf => by
    rcases List.mem_append.mp hf with hf | hf
    · exact hB f hf
    · exact (hC f hf).1
  have fv : ∀ (C : List Fa) (w : Str) (k : Int), lastF (numF (B ++ C)) w k = (B ++ C).foldl (fun acc f => if isF2 w k f = true then some f else acc) none := fun C w k => by
    have e : ∀ F : FaL, lastF F w k = (vals F).foldl (fun acc f => if isF2 w k f = true then some f else acc) none := fun F => by
      unfold lastF vals
      rw [List.foldl_map]
    rw [e, numF_vals]
  have skip : ∀ (C : List Fa) (w : Str) (k : Int), w ≠ "cut" → (∀ f ∈ C, isCutFa f) → ∀ acc, C.foldl (fun acc f => if isF2 w k f = true then some f else acc) acc = acc := by
    intro C w k hw
    induction C with
    | nil => exact fun _ _ => rfl
    | cons f C ih =>
      intro hC acc
      have : isF2 w k f = false := by
        have hp : f.word = "cut" := hC f (by simp)
        unfold isF2
        rw [hp]
        simp [Ne.symm hw]
      rw [List.foldl_cons, this, if_neg (by decide)]
      exact ih (fun q hq => hC q (List.mem_cons_of_mem _ hq)) acc
  have mem : ∀ (L : List Fa) (f : Fa), (∃ n, (n, f) ∈ numF L) ↔ f ∈ L := fun L f => by
    constructor
    · rintro ⟨n, hn⟩
      obtain ⟨i, hi, _⟩ := mem_numF.mp hn
      exact List.mem_of_getElem? hi
    · intro hf
      obtain ⟨i, hi⟩ := List.mem_iff_getElem?.mp hf
      exact ⟨_, mem_numF.mpr ⟨i, hi, rfl⟩⟩
  refine show_same (numF_fit _ (good C hC)).good (numF_fit _ (good D hD)).good (fun w k hw => ?_) (fun f hf => ?_)
  · rw [fv, fv, List.foldl_append, List.foldl_append, skip C w k hw (fun f hf => (hC f hf).2), skip D w k hw (fun f hf => (hD f hf).2)]
  · rw [mem, mem, List.mem_append, List.mem_append, h]
end TG

set_option linter.all false
set_option maxRecDepth 100000
namespace TG
open PySem L2
theorem init_gen (s : S) : f_Workshop_init [.r s.length] (s ++ [.ins "Workshop" []]) = .ok (.w (.d .non)) (s ++ [.ins "Workshop" [("times_kept", .r (s.length + 1)), ("gone", .r (s.length + 2))], .lst [.d (holdD [] 0)], .lst []]) := by
  have mk := hold_made [] 0 (s ++ [.ins "Workshop" []])
  have l1 : (s ++ [Cell.ins "Workshop" []]).length = s.length + 1 := by simp
  have e1 : setF "Workshop" "times_kept" (.r s.length) (.r (s.length + 1)) (s ++ [.ins "Workshop" []] ++ [.lst [.d (holdD [] 0)]]) = some (s ++ [.ins "Workshop" [("times_kept", .r (s.length + 1))]] ++ [.lst [.d (holdD [] 0)]]) := by
    simp [setF, putW]
  have e2 : setF "Workshop" "gone" (.r s.length) (.r (s.length + 2)) (s ++ [.ins "Workshop" [("times_kept", .r (s.length + 1))]] ++ [.lst [.d (holdD [] 0)]] ++ [.lst []]) = some (s ++ [.ins "Workshop" [("times_kept", .r (s.length + 1)), ("gone", .r (s.length + 2))], .lst [.d (holdD [] 0)], .lst []]) := by
    simp [setF, putW]
    decide +kernel
  have e0 : holdG [] 0 = holdD [] 0 := rfl
  rw [e0, l1] at mk
  have ed : dI [] = D.dic [] := rfl
  rw [f_Workshop_init, runF_eq]
  generalize holdD [] 0 = hd at *
  simp at mk e1 e2
  simp [b_Workshop_init, mk, e1, e2, ed]
  done
noncomputable def jok (j : Nat) : Prop := j = 3 ∨ j = 6 ∨ j = 9 ∨ 11 ≤ j
noncomputable def updN {α : Type} (F : Nat → α) (k : Nat) (x : α) : Nat → α := fun c => if c = k then x else F c
structure T3 (t : S) (F : Nat → FaL) (m : Nat → Int) (L : Nat) : Prop where
  lst : ∀ b : Bag, (b.cell :: t)[10]? = some (.lst [.r 1, .r 4, .r 7])
  sh : ∀ k, k < 3 → ∃ (j : Nat) (hs gs : List D), (∀ b : Bag, Shop (b.cell :: t) (1 + 3 * k) (2 + 3 * k) j (hs ++ [holdD (F k) (m k)]) gs) ∧ jok j ∧ hs.length ≤ L ∧ Fit (F k) (m k) ∧ m k ≤ L
theorem T3.up {t : S} {F : Nat → FaL} {m : Nat → Int} {L : Nat} (h : T3 t F m L) {k : Nat} (hk : k < 3) {F' : FaL} {m' : Int} (fit : Fit F' m') (hm : m' ≤ L + 1) (b : Bag) : ∀ hs : List D, hs.length ≤ L →
    ∃ t1, upS (b.cell :: t) (1 + 3 * k) (2 + 3 * k) (hs ++ [holdD (F k) (m k)] ++ [holdD F' m']) = b.cell :: t1 ∧ T3 t1 (updN F k F') (updN m k m') (L + 1) := by
  intro hs hl
  obtain ⟨jk, hsk, gsk, hsh, hjk, hlk, fitk, hmk⟩ := h.sh k hk
  have hup := (hsh b).up (hs ++ [holdD (F k) (m k)] ++ [holdD F' m'])
  have len12 : 10 < (b.cell :: t).length := (List.getElem?_eq_some_iff.mp (h.lst b)).1
  have oth : ∀ q, q ≠ 1 + 3 * k → q ≠ 2 + 3 * k → q < (b.cell :: t).length → (upS (b.cell :: t) (1 + 3 * k) (2 + 3 * k) (hs ++ [holdD (F k) (m k)] ++ [holdD F' m']))[q]? = (b.cell :: t)[q]? := fun q h1 h2 h3 => up_other _ _ _ _ _ h1 h2 h3
  have z := tail_of (show (upS (b.cell :: t) (1 + 3 * k) (2 + 3 * k) (hs ++ [holdD (F k) (m k)] ++ [holdD F' m']))[0]? = some b.cell by rw [oth 0 (by omega) (by omega) (by omega)]; rfl)
  have elen : (b.cell :: t).length = t.length + 1 := rfl
  generalize upS (b.cell :: t) (1 + 3 * k) (2 + 3 * k) (hs ++ [holdD (F k) (m k)] ++ [holdD F' m']) = s2 at *
  generalize s2.tail = t1 at *
  subst z
  have mv : ∀ (b' : Bag) (q : Nat), 0 < q → (b'.cell :: t1)[q]? = (b.cell :: t1)[q]? := fun b' q hq => by
    obtain ⟨q, rfl⟩ : ∃ r, q = r + 1 := ⟨q - 1, by omega⟩
    rfl
  refine ⟨t1, rfl, fun b' => ?_, fun c hc => ?_⟩
  · rw [mv b' 10 (by omega), oth 10 (by omega) (by omega) (by omega)]; exact h.lst b
  · unfold updN
    by_cases e : c = k
    · subst e
      simp only [if_pos]
      refine ⟨(b.cell :: t).length, hs ++ [holdD (F c) (m c)], [], fun b' => ?_, by unfold jok; omega, by simp; omega, fit, by omega⟩
      exact ⟨by rw [mv b' _ (by omega)]; exact hup.a, by rw [mv b' _ (by omega)]; exact hup.b, by rw [mv b' _ (by omega)]; exact hup.c⟩
    · simp only [if_neg e]
      obtain ⟨j, hs1, gs1, a1, a2, a3, a4, a5⟩ := h.sh c hc
      have lt := (a1 b).lt
      refine ⟨j, hs1, gs1, fun b' => ?_, a2, by omega, a4, by omega⟩
      unfold jok at a2
      exact ⟨by rw [mv b' _ (by omega), oth _ (by omega) (by omega) lt.1]; exact (a1 b).a, by rw [mv b' _ (by omega), oth _ (by omega) (by omega) lt.2.1]; exact (a1 b).b, by rw [mv b' _ (by omega), oth _ (by omega) (by omega) lt.2.2]; exact (a1 b).c⟩
theorem T3.tell {t : S} {F : Nat → FaL} {m : Nat → Int} {L : Nat} (h : T3 t F m L) (hL : L ≤ 90) {k : Nat} (hk : k < 3) (f : Fa) (hf : f.ok = true ∧ f.sz) (b : Bag) :
    ∃ t1, f_Workshop_tell [.r (1 + 3 * k), .d f.d] (b.cell :: t) = .ok (.w (.d (.int (m k + 1)))) (b.cell :: t1) ∧ T3 t1 (updN F k (F k ++ [(m k + 1, f)])) (updN m k (m k + 1)) (L + 1) := by
  obtain ⟨jk, hsk, gsk, hsh, hjk, hlk, fitk, hmk⟩ := h.sh k hk
  have fl := fitk.len
  have hd : Due (F k) (m k) (.tell f.d) [.str "", .int (m k + 1)] (F k ++ [(m k + 1, f)]) (m k + 1) := .tell hf (by omega)
  have g := tell_eq (hsh b) f (fun s => by rw [need_eq f hf.2, if_pos hf.1]) (by omega) fitk.new (by omega) (by omega)
  obtain ⟨t1, e1, h1⟩ := h.up hk (hd.fit fitk).1 (by omega) b hsk hlk
  rw [e1] at g
  exact ⟨t1, g, h1⟩
end TG

set_option linter.all false
set_option maxRecDepth 100000
namespace TG
open PySem L2
theorem T3.ix {t : S} {F : Nat → FaL} {m : Nat → Int} {L : Nat} (h : T3 t F m L) (b : Bag) : fIx (.r 10) (.d (.int 0)) (b.cell :: t) = .ok (.r 1) (b.cell :: t) ∧ fIx (.r 10) (.d (.int 1)) (b.cell :: t) = .ok (.r 4) (b.cell :: t) ∧ fIx (.r 10) (.d (.int 2)) (b.cell :: t) = .ok (.r 7) (b.cell :: t) := by
  have hs := h.lst b
  generalize (b.cell :: t : S) = s at *
  have e : asSeq (.r 10) s = some [.r 1, .r 4, .r 7] := by
    show (match asTup (.r 10) with | some l => some (wD l) | none => match asLst (.r 10) s with | some l => some l | none => tupC (.r 10) s) = _
    show (match (match s[10]? with | some (Cell.lst l) => some l | _ => none) with | some l => some l | none => tupC (.r 10) s) = _
    rw [hs]
  refine ⟨?_, ?_, ?_⟩ <;> (rw [fIx_eq, e]; rfl)
noncomputable def liftsD (F : FaL) (w : Int) : List D := ((List.range 8).map fun i : Nat => ofO (liftF F (i : Int) w)) ++ (List.range 4).map fun i : Nat => oRim (rimV F (i : Int))
theorem addL2 (k l : List D) (s : S) (h : k.length + l.length ≤ 16777216) : fAdd (.d (.lst k)) (.d (.lst l)) s = .ok (.d (.lst (k ++ l))) s := by
  have e : fAdd (.d (.lst k)) (.d (.lst l)) s = catL (wD k) (wD l) s := rfl
  rw [e]
  have e2 : catL (wD k) (wD l) s = if (wD k).length + (wD l).length ≤ 16777216 then (match allData (wD k ++ wD l) with | some ds => Res.ok (W.d (.lst ds)) s | none => .no) else .no := rfl
  rw [e2, if_pos (by unfold wD; simp; omega)]
  have e3 : wD k ++ wD l = wD (k ++ l) := by unfold wD; simp
  rw [e3, allData_wD]
theorem lifts_eq {s : S} {n i j : Nat} {hs gs : List D} {F : FaL} {m : Int} (h : Shop s n i j (hs ++ [holdD F m]) gs) (hF : Srt F) (hl : F.length ≤ 16777216) (hg : GoodFa F) (w : Int) : f_v_law_lifts [.r n, .d (.int w)] s = .ok (.w (.d (.lst (liftsD F w)))) s := by
  have i1 := h.ins "lift"
  have i2 := h.ins "rim"
  have r8 : ∀ s, rng1 [W.d (.int 8)] s = .ok ((List.range 8).map fun i : Nat => W.d (.int i)) s := fun s => rng1_nat 8 s (by decide)
  have r4 : ∀ s, rng1 [W.d (.int 4)] s = .ok ((List.range 4).map fun i : Nat => W.d (.int i)) s := fun s => rng1_nat 4 s (by decide)
  rw [f_v_law_lifts, runF_eq]
  simp [b_v_law_lifts, r8, wipeR, -rng1_eq, -fIx_eq, fIx_tup]
  rw [lcM_fn' (v := fun i : Nat => ofO (liftF F (i : Int) w))]
  rotate_left
  · intro x hx
    have hx8 := List.mem_range.mp hx
    have e := lift2_eq h hF hl hg (x : Int) w (by omega) (by omega)
    exact ⟨_, rfl, by simp [i1, e, wipeR]⟩
  have ad := fun s => addL2 ((List.range 8).map fun i : Nat => ofO (liftF F (i : Int) w)) ((List.range 4).map fun i : Nat => oRim (rimV F (i : Int))) s (by simp)
  unfold liftsD
  have ln8 : ((List.range 8).map fun i : Nat => ofO (liftF F (i : Int) w)).length ≤ 16777216 := by simp
  have ln4 : ((List.range 4).map fun i : Nat => oRim (rimV F (i : Int))).length ≤ 16777216 := by simp
  generalize hA : ((List.range 8).map fun i : Nat => ofO (liftF F (i : Int) w)) = A at *
  simp [ln8, r4, wipeR, -rng1_eq, -fIx_eq, fIx_tup]
  rw [lcM_fn' (v := fun i : Nat => oRim (rimV F (i : Int)))]
  rotate_left
  · intro x hx
    have hx4 := List.mem_range.mp hx
    have e := rim2_eq h hF hl hg (x : Int) (by omega) (by omega)
    exact ⟨_, rfl, by simp [i2, e, wipeR]⟩
  generalize hB : ((List.range 4).map fun i : Nat => oRim (rimV F (i : Int))) = B at *
  simp [ln4, ad, wipeR, -rng1_eq, -fIx_eq, fIx_tup]
theorem liftsD_plain (F : FaL) (w : Int) : (D.lst (liftsD F w)).plain = true ∧ (D.lst (liftsD F w)).dep ≤ 64 := by
  have h : ∀ x ∈ liftsD F w, x.plain = true ∧ x.dep ≤ 3 := by
    intro x hx
    unfold liftsD at hx
    rcases List.mem_append.mp hx with hx | hx
    · obtain ⟨i, _, rfl⟩ := List.mem_map.mp hx
      cases liftF F (i : Int) w <;> simp [ofO, D.dep]
    · obtain ⟨i, _, rfl⟩ := List.mem_map.mp hx
      cases rimV F (i : Int) with
      | none => simp [oRim, D.dep]
      | some r => simp [oRim, D.dep, D.deps, deps_ints]
  refine ⟨?_, ?_⟩
  · rw [plain_lst, plains_iff]
    exact fun x hx => (h x hx).1
  · rw [dep_lst]
    have : D.deps (liftsD F w) ≤ 3 := deps_le.mpr fun x hx => (h x hx).2
    omega
theorem liftsD_same {F G : FaL} (hr : ∀ c, rimV F c = rimV G c) (hl : ∀ fo w, liftF F fo w = liftF G fo w) (w : Int) : liftsD F w = liftsD G w := by
  unfold liftsD
  simp only [hr, hl]
end TG

set_option linter.all false
set_option maxRecDepth 100000
namespace TG
open PySem L2
theorem facts_wp (n : Nat) (tg : Tgt) (ρ : Rho) (b : Bag) (t : S) (hg : ∀ i : Nat, ∃ ρ1, tg (.d (.int i)) ρ = some ρ1 ∧ ρ1[1]? = some (.w (.r 0))) :
    wE nE (fun ws s => ∃ fs : List Fa, ws = wD (fs.map Fa.d) ∧ fs.length = n ∧ (∀ f ∈ fs, f.ok = true ∧ f.sz) ∧ BS t s) (lcM tg eYes (eCall f_v_law_fact (eCons (eVar 1) (eCons (eC (.int 0)) eNil))) ρ ((List.range n).map fun i : Nat => W.d (.int i)) (b.cell :: t)) := by
  refine wE_imp (lcM_gen (g := fun i : Nat => W.d (.int i)) Fa.d (fun _ f => f.ok = true ∧ f.sz) (BS t) (l := List.range n) (fun i _ s hs => ?_) bs) ?_
  · obtain ⟨b, rfl⟩ := hs
    obtain ⟨ρ1, e1, e2⟩ := hg i
    refine ⟨ρ1, e1, rfl, ?_⟩
    have hk : ∀ s : S, eCall f_v_law_fact (eCons (eVar 1) (eCons (eC (.int 0)) eNil)) ρ1 s = (f_v_law_fact [.r 0, .d (.int 0)] s).bind frzV := by intro s; simp [e2]
    rw [hk]
    refine wE_use (fact_wp _ _ _) ?_
    rintro _ _ ⟨f, b, rfl, rfl, f1, f2⟩
    exact .ok ⟨f, rfl, ⟨f1, f2⟩, bs⟩
  · rintro ws s ⟨fs, rfl, hl, hR, hs⟩
    simp at hl
    refine ⟨fs, rfl, hl, fun f hf => ?_, hs⟩
    obtain ⟨i, hi, rfl⟩ := List.mem_iff_getElem.mp hf
    exact hR i (by simp; omega) hi
noncomputable abbrev cutE : Cmp W := (eTup (eCons (eC (.str "cut")) (eCons (eCall f_v_law_pull (eCons (eVar 1) (eCons (eC (.int 3)) eNil))) (eCons (eCall f_v_law_pull (eCons (eVar 1) (eCons (eC (.int 7)) eNil))) (eCons (eCall f_v_law_height (eCons (eVar 1) eNil)) eNil)))))
theorem cuts_wp (n : Nat) (tg : Tgt) (ρ : Rho) (b : Bag) (t : S) (hg : ∀ i : Nat, ∃ ρ1, tg (.d (.int i)) ρ = some ρ1 ∧ ρ1[1]? = some (.w (.r 0))) :
    wE nE (fun ws s => ∃ fs : List Fa, ws = wD (fs.map Fa.d) ∧ fs.length = n ∧ (∀ f ∈ fs, (f.ok = true ∧ f.sz) ∧ isCutFa f) ∧ BS t s) (lcM tg eYes cutE ρ ((List.range n).map fun i : Nat => W.d (.int i)) (b.cell :: t)) := by
  refine wE_imp (lcM_gen (g := fun i : Nat => W.d (.int i)) Fa.d (fun _ f => (f.ok = true ∧ f.sz) ∧ isCutFa f) (BS t) (l := List.range n) (fun i _ s hs => ?_) bs) ?_
  · obtain ⟨b, rfl⟩ := hs
    obtain ⟨ρ1, e1, e2⟩ := hg i
    refine ⟨ρ1, e1, rfl, ?_⟩
    unfold cutE
    simp [e2]
    refine wE_use (pull_wp _ _ _ (by decide) (by decide)) ?_
    rintro _ _ ⟨c, b, rfl, rfl, c0, c1⟩
    simp [e2]
    refine wE_use (pull_wp _ _ _ (by decide) (by decide)) ?_
    rintro _ _ ⟨k, b, rfl, rfl, k0, k1⟩
    simp [e2]
    refine wE_use (height_wp' _ _) ?_
    rintro _ _ ⟨x, b, rfl, rfl⟩
    simp
    refine ⟨.cut c k x, rfl, ⟨⟨?_, trivial⟩, rfl⟩, bs⟩
    simp [Fa.ok]
    omega
  · rintro ws s ⟨fs, rfl, hl, hR, hs⟩
    simp at hl
    refine ⟨fs, rfl, hl, fun f hf => ?_, hs⟩
    obtain ⟨i, hi, rfl⟩ := List.mem_iff_getElem.mp hf
    exact hR i (by simp; omega) hi
end TG

set_option linter.all false
set_option maxRecDepth 100000
namespace TG
open PySem L2
theorem forC_at' {P : WP} {n : Nat} {L : List W} (I : List W → Rho → S → Prop) {tg : Tgt} {x : Stm} (hc : ∀ pre ρ s, I pre ρ s → s[n]? = some (Cell.lst L)) (h : ∀ pre a r, L = pre ++ a :: r → ∀ ρ s, I pre ρ s → ∃ ρ1, tg a ρ = some ρ1 ∧ wS (lpP P (I (pre ++ [a])) P.N) (x ρ1 s)) (hk : ∀ ρ s, I L ρ s → P.N ρ s) :
    ∀ (z pre : List W) (ρ : Rho) (s : S), L = pre ++ z → I pre ρ s → wS P (forC n L tg x z ρ s)
  | [], pre, ρ, s, e, h0 => by
    have : forC n L tg x [] ρ s = .nx ρ s := if_pos (hc _ _ _ h0)
    rw [this]
    exact .nx (hk _ _ (by rw [e, List.append_nil]; exact h0))
  | w :: r, pre, ρ, s, e, h0 => by
    obtain ⟨ρ1, e1, q⟩ := h pre w r e ρ s h0
    have : forC n L tg x (w :: r) ρ s = match tg w ρ with | none => .no | some ρ1 => forK (forC n L tg x r) (x ρ1 s) := if_pos (hc _ _ _ h0)
    rw [this, e1]
    exact wS_forK q (fun ρ s hI => forC_at' I hc h hk r (pre ++ [w]) ρ s (by rw [e]; simp) hI) (fun _ _ h => h)
theorem forC_at {P : WP} {n : Nat} {L : List W} (I : List W → Rho → S → Prop) {tg : Tgt} {x : Stm} {ρ : Rho} {s : S} (h0 : I [] ρ s) (hc : ∀ pre ρ s, I pre ρ s → s[n]? = some (Cell.lst L)) (h : ∀ pre a r, L = pre ++ a :: r → ∀ ρ s, I pre ρ s → ∃ ρ1, tg a ρ = some ρ1 ∧ wS (lpP P (I (pre ++ [a])) P.N) (x ρ1 s)) (hk : ∀ ρ s, I L ρ s → P.N ρ s) :
    wS P (forC n L tg x L ρ s) := forC_at' I hc h hk L [] ρ s rfl h0
@[simp] theorem sForC_eq (c : Cmp (Nat × List W)) (t : Tgt) (b : Stm) (ρ : Rho) (s : S) : sForC c t b ρ s = ebS (c ρ s) ρ (kForC t b) := (rfl)
@[simp] theorem kForC_eq (t : Tgt) (b : Stm) (n : Nat) (l : List W) (ρ : Rho) (s : S) : kForC t b (n, l) ρ s = forC n l t b l ρ s := (rfl)
@[simp] theorem eCellL_eq (e : Cmp W) (ρ : Rho) (s : S) : eCellL e ρ s = (e ρ s).bind kCellL := (rfl)
theorem kCellL_at {n : Nat} {l : List W} {s : S} (h : s[n]? = some (Cell.lst l)) : kCellL (.r n) s = .ok (n, l) s := by
  unfold kCellL cellL
  dsimp only
  rw [h]
noncomputable def T3L (t : S) (G : Nat → List Fa) (L : Nat) : Prop := T3 t (fun k => numF (G k)) (fun k => ((G k).length : Int)) L
theorem T3L.mono {t : S} {G : Nat → List Fa} {L L' : Nat} (h : T3L t G L) (hl : L ≤ L') : T3L t G L' := by
  refine ⟨h.lst, fun k hk => ?_⟩
  obtain ⟨j, hs, gs, a, b, c, d, e⟩ := h.sh k hk
  exact ⟨j, hs, gs, a, b, by omega, d, by omega⟩
theorem T3L.of {t : S} {G G' : Nat → List Fa} {L : Nat} (h : T3L t G L) (hG : ∀ k, k < 3 → G k = G' k) : T3L t G' L := by
  refine ⟨h.lst, fun k hk => ?_⟩
  have := h.sh k hk
  rw [← hG k hk]
  exact this
theorem T3L.tell {t : S} {G : Nat → List Fa} {L : Nat} (h : T3L t G L) (hL : L ≤ 90) {k : Nat} (hk : k < 3) (f : Fa) (hf : f.ok = true ∧ f.sz) (b : Bag) :
    ∃ t1, f_Workshop_tell [.r (1 + 3 * k), .d f.d] (b.cell :: t) = .ok (.w (.d (.int ((G k).length + 1)))) (b.cell :: t1) ∧ T3L t1 (updN G k (G k ++ [f])) (L + 1) := by
  obtain ⟨t1, e1, h1⟩ := T3.tell h hL hk f hf b
  refine ⟨t1, e1, ?_⟩
  have e2 : updN (fun k => numF (G k)) k (numF (G k) ++ [(((G k).length : Int) + 1, f)]) = fun c => numF (updN G k (G k ++ [f]) c) := by
    funext c
    unfold updN
    by_cases e : c = k
    · subst e; simp only [if_pos, numF_snoc]
    · simp only [if_neg e]
  have e3 : updN (fun k => ((G k).length : Int)) k (((G k).length : Int) + 1) = fun c => ((updN G k (G k ++ [f]) c).length : Int) := by
    funext c
    unfold updN
    by_cases e : c = k
    · subst e; simp
    · simp only [if_neg e]
  rw [e2, e3] at h1
  exact h1
theorem T3.shop {t : S} {F : Nat → FaL} {m : Nat → Int} {L : Nat} (h : T3 t F m L) {k : Nat} (hk : k < 3) (b : Bag) : ∃ (j : Nat) (hs gs : List D), Shop (b.cell :: t) (1 + 3 * k) (2 + 3 * k) j (hs ++ [holdD (F k) (m k)]) gs ∧ Fit (F k) (m k) ∧ hs.length ≤ L ∧ m k ≤ L := by
  obtain ⟨j, hs, gs, a, _, c, d, e⟩ := h.sh k hk
  exact ⟨j, hs, gs, a b, d, c, e⟩
theorem T3.of {t : S} {F F' : Nat → FaL} {m m' : Nat → Int} {L : Nat} (h : T3 t F m L) (hF : ∀ k, k < 3 → F k = F' k) (hm : ∀ k, k < 3 → m k = m' k) : T3 t F' m' L := by
  refine ⟨h.lst, fun k hk => ?_⟩
  have := h.sh k hk
  rw [← hF k hk, ← hm k hk]
  exact this
theorem T3.mono {t : S} {F : Nat → FaL} {m : Nat → Int} {L L' : Nat} (h : T3 t F m L) (hl : L ≤ L') : T3 t F m L' := by
  refine ⟨h.lst, fun k hk => ?_⟩
  obtain ⟨j, hs, gs, a, b, c, d, e⟩ := h.sh k hk
  exact ⟨j, hs, gs, a, b, by omega, d, by omega⟩
theorem shopEq_same {s : S} {n i j n' i' j' : Nat} {hs gs hs' gs' : List D} {F : FaL} {m m' : Int} (h : Shop s n i j (hs ++ [holdD F m]) gs) (h' : Shop s n' i' j' (hs' ++ [holdD F m']) gs') (hF : Srt F) (hl : F.length ≤ 16777216) (hg : GoodFa F) :
    f_Workshop_eq [.r n, .r n'] s = .ok (.w (.d (.bl true))) s := by
  have i1 := h.ins "facts"
  have i2 := h'.ins "facts"
  have i3 := h'.ins "__eq__"
  have e1 := facts_eq h hF hl
  have e2 := facts_eq h' hF hl
  have pl : (D.lst (F.map pF)).plain = true ∧ (D.lst (F.map pF)).dep ≤ 64 := by
    refine ⟨?_, ?_⟩
    · rw [plain_lst, plains_iff]
      intro x hx
      obtain ⟨p, hp, rfl⟩ := List.mem_map.mp hx
      simp [pF, D.plains, (fa_plain (hg p hp).1).1]
    · rw [dep_lst]
      have : D.deps (F.map pF) ≤ 8 := deps_le.mpr fun x hx => by
        obtain ⟨p, hp, rfl⟩ := List.mem_map.mp hx
        have := (fa_plain (hg p hp).1).2.2
        simp [pF, D.dep, D.deps]
        omega
      omega
  have fe := fEq_refl false _ s pl.1 pl.2
  rw [f_Workshop_eq, runF_eq]
  simp [b_Workshop_eq, i1, i2, i3, e1, e2, fe, fIsOC, wipeR, -rng1_eq, -fIx_eq, fIx_tup]
theorem rimV_cut {F : FaL} {n : Int} {f : Fa} (hf : isCutFa f) (cam : Int) : rimV (F ++ [(n, f)]) cam = (rimV F cam).map fun r => cut1F cam r f := by
  unfold rimV
  rw [lastF_app_cuts F [(n, f)] (fun p hp => by rw [List.mem_singleton.mp hp]; exact hf) "blank" (by decide) cam]
  cases lastF F "blank" cam with
  | none => rfl
  | some g =>
    cases g with
    | blank c r => simp [cutsV]
    | _ => rfl
theorem wthB_refl (r : List Int) : wthB r r = true := by
  unfold wthB
  induction r with
  | nil => rfl
  | cons a r ih => simpa using ih
theorem wthB_set (r : List Int) (k : Nat) (x : Int) (h : x ≤ r.getD k 0) : wthB (r.set k x) r = true := by
  unfold wthB
  induction r generalizing k with
  | nil => rfl
  | cons a r ih =>
    cases k with
    | zero =>
      have := wthB_refl r
      unfold wthB at this
      simp only [List.getD_cons_zero] at h
      simp only [List.set_cons_zero, List.zip_cons_cons, List.all_cons, this, Bool.and_true, decide_eq_true_eq]
      exact h
    | succ k =>
      simp only [List.getD_cons_succ] at h
      simp only [List.set_cons_succ, List.zip_cons_cons, List.all_cons, ih k h, Bool.and_true, decide_eq_true_eq]
      exact Int.le_refl _
theorem wthB_cut1 (cam : Int) (r : List Int) (f : Fa) : wthB (cut1F cam r f) r = true := by
  unfold cut1F
  split
  · split
    · unfold cutV
      exact wthB_set _ _ _ (Int.min_le_left _ _)
    · exact wthB_refl r
  · exact wthB_refl r
section
variable {s : S} {n i j : Nat} {hs gs : List D} {F : FaL} {m : Int}
theorem factOf2_eq (h : Shop s n i j (hs ++ [holdD F m]) gs) (k : Int) (f0 : Fa) (hk : lookF F k = some f0) : f_Workshop_fact_of_2 [.r n, .d (.int k)] s = .ok (.w (.d f0.d)) s := by
  have f1 := h.f1
  have f2 := h.f2
  have f3 := hold_f3 F m
  have f5 := in_fz F k s
  have f6 := ix_fz F k f0 s hk
  rw [f_Workshop_fact_of_2, runF_eq]
  generalize holdD F m = hd at *
  rw [hk] at f5
  simp [b_Workshop_fact_of_2, f1, f2, f3, f5, f6, -fIx_eq]
theorem strike2_eq (h : Shop s n i j (hs ++ [holdD F m]) gs) (k : Int) (f0 : Fa) (hk : lookF F k = some f0) (hl : hs.length < 16777215) :
    f_Workshop_strike_2 [.r n, .d (.int k)] s = .ok (.w (.d f0.d)) (upS s n i (hs ++ [holdD F m] ++ [holdD (dropF F k) m])) := by
  have fo := factOf2_eq h k f0 hk
  have ins0 := h.ins "fact_of"
  have ins := h.ins "go_on"
  have f1 := h.f1
  have f2 := h.f2
  have f3 := hold_f3 F m
  have f4 := hold_f4 F m
  have go := goOn_eq h (fz (dropF F k)) m (by simp; omega)
  have fr := fun b ρ s => kFrzD_wK 4 b (fz (dropF F k)) ρ s
  have pk : ∀ ρ s, kPopKO 4 (wK (fz F)) (.d (.int k)) ρ s = .nx (ρ.set 4 (.ownD (wK (fz (dropF F k))))) s := fun ρ s => by
    show (if (valDW (wK (fz F)) (.inl k)).isSome = true then RS.nx (ρ.set 4 (.ownD (dropDW (wK (fz F)) (.inl k)))) s else .no) = _
    rw [val_fz, hk, drop_fz]
    rfl
  have d0 := kDictO_fz F
  rw [holdG_D] at go
  rw [f_Workshop_strike_2, runF_eq]
  generalize holdD F m = hd at *
  generalize holdD (dropF F k) m = hd2 at *
  generalize fz (dropF F k) = z2 at *
  simp [b_Workshop_strike_2, fo, ins0, f1, f2, f3, f4, d0, pk, fr, ins, go, -fIx_eq]
end
theorem T3.strike {t : S} {F : Nat → FaL} {m : Nat → Int} {L : Nat} (h : T3 t F m L) (hL : L ≤ 90) {k : Nat} (hk : k < 3) (c : Int) (f : Fa) (hf : lookF (F k) c = some f) (b : Bag) :
    ∃ t1, f_Workshop_strike_2 [.r (1 + 3 * k), .d (.int c)] (b.cell :: t) = .ok (.w (.d f.d)) (b.cell :: t1) ∧ T3 t1 (updN F k (dropF (F k) c)) m (L + 1) := by
  obtain ⟨jk, hsk, gsk, hsh, hjk, hlk, fitk, hmk⟩ := h.sh k hk
  have hd : Due (F k) (m k) (.strike c) [.str "", f.d] (dropF (F k) c) (m k) := .strike hf
  have g := strike2_eq (hsh b) c f hf (by omega)
  obtain ⟨t1, e1, h1⟩ := h.up hk (hd.fit fitk).1 (by omega) b hsk hlk
  rw [e1] at g
  refine ⟨t1, g, ?_⟩
  have e : updN m k (m k) = m := by
    funext c
    unfold updN
    by_cases e : c = k
    · rw [if_pos e, e]
    · rw [if_neg e]
  rw [e] at h1
  exact h1
theorem drop_last (L : List Fa) (f : Fa) : dropF (numF (L ++ [f])) ((L.length : Int) + 1) = numF L := by
  unfold dropF
  rw [numF_snoc, List.filter_append]
  have h1 : (numF L).filter (fun p => decide (p.1 ≠ (L.length : Int) + 1)) = numF L := by
    rw [List.filter_eq_self]
    rintro ⟨n, g⟩ hp
    obtain ⟨i, hi, e⟩ := mem_numF.mp hp
    have := (List.getElem?_eq_some_iff.mp hi).1
    simp
    omega
  rw [h1]
  simp
theorem drop_len (L : List Fa) (i : Nat) (hi : i < L.length) : (dropF (numF L) ((i : Int) + 1)).length + 1 = L.length := by
  have e : L = L.take i ++ L[i] :: L.drop (i + 1) := by rw [List.getElem_cons_drop, List.take_append_drop]
  have lt : (L.take i).length = i := by rw [List.length_take]; omega
  have ld : (L.drop (i + 1)).length = L.length - (i + 1) := by rw [List.length_drop]
  generalize L.take i = A at *
  generalize L.drop (i + 1) = D at *
  generalize L[i] = x at *
  have e2 : dropF (numF L) ((i : Int) + 1) = (numF A) ++ (D.mapIdx fun q f => (((q + 1 + A.length : Nat) : Int) + 1, f)) := by
    rw [e]
    unfold dropF numF
    rw [List.mapIdx_append, List.mapIdx_cons, List.filter_append, List.filter_cons]
    rw [if_neg (by simp [lt])]
    congr 1
    · rw [List.filter_eq_self]
      intro p hp
      rw [List.mem_mapIdx] at hp
      obtain ⟨q, hq, rfl⟩ := hp
      simp
      omega
    · rw [List.filter_eq_self.mpr]
      intro p hp
      rw [List.mem_mapIdx] at hp
      obtain ⟨q, hq, rfl⟩ := hp
      simp
      omega
  rw [e2, List.length_append, numF_len, List.length_mapIdx, e, List.length_append, List.length_cons]
  omega
theorem one_struck {B C : List Fa} {a : Nat} {c : Fa} (hB : ∀ f ∈ B, f.ok = true ∧ f.sz) (hC : ∀ f ∈ C, (f.ok = true ∧ f.sz) ∧ isCutFa f) (ha : C[a]? = some c) :
    (∀ k, rimV (dropF (numF (B ++ C)) (((B.length + a : Nat) : Int) + 1)) k = rimV (numF (B ++ (C.take a ++ C.drop (a + 1)))) k) ∧
      ∀ fo w, liftF (dropF (numF (B ++ C)) (((B.length + a : Nat) : Int) + 1)) fo w = liftF (numF (B ++ (C.take a ++ C.drop (a + 1)))) fo w := by
  have hD : ∀ f ∈ C.take a ++ C.drop (a + 1), (f.ok = true ∧ f.sz) ∧ isCutFa f := fun f hf => by
    rcases List.mem_append.mp hf with hf | hf
    · exact hC f (List.mem_of_mem_take hf)
    · exact hC f (List.mem_of_mem_drop hf)
  have good : ∀ C : List Fa, (∀ f ∈ C, (f.ok = true ∧ f.sz) ∧ isCutFa f) → ∀ f ∈ B ++ C, f.ok = true ∧ f.sz := fun C hC f hf => by
    rcases List.mem_append.mp hf with hf | hf
    · exact hB f hf
    · exact (hC f hf).1
  have al := (List.getElem?_eq_some_iff.mp ha).1
  have at_ : (B ++ C)[B.length + a]? = some c := by rw [List.getElem?_append_right (by omega), show B.length + a - B.length = a by omega, ha]
  have isc : ∀ f, ((((B.length + a : Nat) : Int) + 1, f) ∈ numF (B ++ C)) → isCutFa f := fun f hf => by
    obtain ⟨i, hi, e⟩ := mem_numF.mp hf
    have : i = B.length + a := by omega
    subst this
    rw [at_] at hi
    cases hi
    exact (hC c (List.mem_of_getElem? ha)).2
  have l2 : ∀ (C : List Fa), (∀ f ∈ C, isCutFa f) → ∀ (w : Str) k, w ≠ "cut" → lastF (numF (B ++ C)) w k = lastF (numF B) w k := by
    intro C hC w k hw
    have e : numF (B ++ C) = numF B ++ C.mapIdx fun q f => (((q + B.length : Nat) : Int) + 1, f) := by unfold numF; rw [List.mapIdx_append]
    rw [e]
    refine lastF_app_cuts _ _ (fun p hp => ?_) w hw k
    rw [List.mem_mapIdx] at hp
    obtain ⟨q, hq, rfl⟩ := hp
    exact hC _ (List.getElem_mem hq)
  refine show_same (fun p hp => (numF_fit _ (good C hC)).good p (List.mem_filter.mp hp).1) (numF_fit _ (good _ hD)).good (fun w k hw => ?_) (fun f hf => ?_)
  · rw [lastF_drop isc w hw, l2 C (fun f hf => (hC f hf).2) w k hw, l2 _ (fun f hf => (hD f hf).2) w k hw]
  · constructor
    · rintro ⟨n, hn⟩
      obtain ⟨h1, h2⟩ := mem_drop.mp hn
      obtain ⟨i, hi, e⟩ := mem_numF.mp h1
      have hne : i ≠ B.length + a := by omega
      have : f ∈ B ++ (C.take a ++ C.drop (a + 1)) := by
        by_cases hb : i < B.length
        · rw [List.getElem?_append_left hb] at hi
          exact List.mem_append_left _ (List.mem_of_getElem? hi)
        · rw [List.getElem?_append_right (by omega)] at hi
          refine List.mem_append_right _ ?_
          by_cases hlt : i - B.length < a
          · refine List.mem_append_left _ (List.mem_iff_getElem?.mpr ⟨i - B.length, ?_⟩)
            rw [List.getElem?_take_of_lt hlt]; exact hi
          · refine List.mem_append_right _ (List.mem_iff_getElem?.mpr ⟨i - B.length - (a + 1), ?_⟩)
            rw [List.getElem?_drop, show a + 1 + (i - B.length - (a + 1)) = i - B.length by omega]; exact hi
      obtain ⟨q, hq⟩ := List.mem_iff_getElem?.mp this
      exact ⟨_, mem_numF.mpr ⟨q, hq, rfl⟩⟩
    · rintro ⟨n, hn⟩
      obtain ⟨i, hi, e⟩ := mem_numF.mp hn
      have hm := List.mem_of_getElem? hi
      have : ∃ q, (B ++ C)[q]? = some f ∧ q ≠ B.length + a := by
        rcases List.mem_append.mp hm with h | h
        · obtain ⟨q, hq⟩ := List.mem_iff_getElem?.mp h
          have := (List.getElem?_eq_some_iff.mp hq).1
          exact ⟨q, by rw [List.getElem?_append_left this]; exact hq, by omega⟩
        · rcases List.mem_append.mp h with h | h
          · obtain ⟨q, hq⟩ := List.mem_iff_getElem?.mp h
            have lq := (List.getElem?_eq_some_iff.mp hq).1
            rw [List.length_take] at lq
            rw [List.getElem?_take_of_lt (by omega)] at hq
            exact ⟨B.length + q, by rw [List.getElem?_append_right (by omega), show B.length + q - B.length = q by omega]; exact hq, by omega⟩
          · obtain ⟨q, hq⟩ := List.mem_iff_getElem?.mp h
            rw [List.getElem?_drop] at hq
            exact ⟨B.length + (a + 1 + q), by rw [List.getElem?_append_right (by omega), show B.length + (a + 1 + q) - B.length = a + 1 + q by omega]; exact hq, by omega⟩
      obtain ⟨q, hq, hne⟩ := this
      exact ⟨_, mem_drop.mpr ⟨mem_numF.mpr ⟨q, hq, rfl⟩, by omega⟩⟩
end TG

set_option linter.all false
set_option maxRecDepth 100000
namespace TG
open PySem L2
noncomputable abbrev R29 (ns : List Int) (B C : List Fa) (x5 x6 x7 x8 x9 x10 x11 x12 x13 : EV) : Rho := [.w (.d (.scr (ns.map .int))), .w (.r 0), .w (.d (.lst (B.map Fa.d))), .w (.d (.lst (C.map Fa.d))), .w (.r 10), x5, x6, x7, x8, x9, x10, x11, x12, x13]
noncomputable def G1_ (B : List Fa) (i : Nat) : Nat → List Fa := fun c => if c < i then B else []
noncomputable def G2_ (B P : List Fa) (i : Nat) : Nat → List Fa := fun c => if c < i then B else if c = i then P else []
noncomputable def G3_ (B C D E : List Fa) : Nat → List Fa := fun c => if c = 0 then B ++ C else if c = 1 then B ++ D else B ++ E
theorem fSl_lst9 (l : List D) (i j : Option Int) (s : S) : fSl (.d (.lst l)) i j s = .ok (.d (.lst (cut l i j))) s := by
  show (match allData (cut (wD l) i j) with | some ds => Res.ok (W.d (.lst ds)) s | none => .no) = _
  have : cut (wD l) i j = wD (cut l i j) := by simp [wD, cut]
  rw [this, allData_wD]
theorem lenC_nat (n : Nat) (s : S) (h : n < 1000) : lenC (.ok (.w (.d (.int n))) s) = .ok (.d (.int n)) s := if_pos ⟨by omega, by omega⟩
noncomputable def E29 (ns : List Int) (B C M : List Fa) (F0 : FaL) (m0 : Int) (L : Nat) (x5 x6 x7 x9 x10 x11 x12 : EV) (P : List Fa) (ρ : Rho) (s : S) : Prop := ∃ (b : Bag) (t : S) (x8 : EV), ρ = R29 ns B C x5 x6 x7 x8 x9 x10 x11 x12 .no ∧ s = b.cell :: t ∧ T3 t (fun c => if c = 0 then F0 else numF (if c = 1 then B ++ M else B ++ P)) (fun c => if c = 0 then m0 else ((if c = 1 then B ++ M else B ++ P).length : Int)) (L + P.length)
noncomputable def A29 (ns : List Int) (B C : List Fa) (pre : List W) (ρ : Rho) (s : S) : Prop := ∃ (b : Bag) (t : S) (x5 x6 : EV), ρ = R29 ns B C x5 x6 .no .no .no .no .no .no .no ∧ s = b.cell :: t ∧ T3L t (G1_ B pre.length) (pre.length * B.length)
noncomputable def B29 (ns : List Int) (B C : List Fa) (i : Nat) (x5 : EV) (P : List Fa) (ρ : Rho) (s : S) : Prop := ∃ (b : Bag) (t : S) (x6 : EV), ρ = R29 ns B C x5 x6 .no .no .no .no .no .no .no ∧ s = b.cell :: t ∧ T3L t (G2_ B P i) (i * B.length + P.length)
noncomputable def C29 (ns : List Int) (B C : List Fa) (x5 x6 x7 : EV) (P : List Fa) (ρ : Rho) (s : S) : Prop := ∃ (b : Bag) (t : S) (x8 x9 x10 : EV), ρ = R29 ns B C x5 x6 x7 x8 x9 x10 .no .no .no ∧ s = b.cell :: t ∧ T3L t (G3_ B P [] []) (3 * B.length + P.length)
noncomputable def D29 (ns : List Int) (B C : List Fa) (x5 x6 x7 x9 x10 : EV) (P : List Fa) (ρ : Rho) (s : S) : Prop := ∃ (b : Bag) (t : S) (x8 : EV), ρ = R29 ns B C x5 x6 x7 x8 x9 x10 .no .no .no ∧ s = b.cell :: t ∧ T3L t (G3_ B C P []) (3 * B.length + C.length + P.length)
theorem third3 {pre : List W} {a : W} {r : List W} (h : [W.r 1, W.r 4, W.r 7] = pre ++ a :: r) : pre.length < 3 ∧ a = .r (1 + 3 * pre.length) := by
  have hl := congrArg List.length h
  simp at hl
  have hlt : pre.length < 3 := by omega
  have ha := congrArg (fun l : List W => l[pre.length]?) h
  simp only [List.getElem?_append_right (Nat.le_refl _), Nat.sub_self, List.getElem?_cons_zero] at ha
  refine ⟨hlt, ?_⟩
  have : pre.length = 0 ∨ pre.length = 1 ∨ pre.length = 2 := by omega
  rcases this with e | e | e <;> (rw [e] at ha ⊢; simp at ha; rw [← ha])
theorem t3_0 : T3L [Cell.ins "Workshop" [("times_kept", .r 2), ("gone", .r 3)], .lst [.d (holdD [] 0)], .lst [], .ins "Workshop" [("times_kept", .r 5), ("gone", .r 6)], .lst [.d (holdD [] 0)], .lst [], .ins "Workshop" [("times_kept", .r 8), ("gone", .r 9)], .lst [.d (holdD [] 0)], .lst [], .lst [.r 1, .r 4, .r 7]] (fun _ => []) 0 := by
  have fit : Fit (numF []) 0 := ⟨by simp [Srt, numF], by simp [GoodFa, numF], by simp [numF], by simp [numF], by decide⟩
  refine ⟨fun b => rfl, fun k hk => ?_⟩
  have : k = 0 ∨ k = 1 ∨ k = 2 := by omega
  rcases this with rfl | rfl | rfl
  · exact ⟨3, [], [], fun b => ⟨rfl, rfl, rfl⟩, by unfold jok; omega, by simp, fit, by simp⟩
  · exact ⟨6, [], [], fun b => ⟨rfl, rfl, rfl⟩, by unfold jok; omega, by simp, fit, by simp⟩
  · exact ⟨9, [], [], fun b => ⟨rfl, rfl, rfl⟩, by unfold jok; omega, by simp, fit, by simp⟩
theorem pure_k29 (ns : List Int) (hl : ns.length ≤ 63) : ∃ s', f_law_k29 [.d (.scr (ns.map D.int))] [] = .ok (.w (.d (.bl true))) s' := by
  refine of_wE ?_
  rw [f_law_k29]
  refine wE_fn (by rfl) ?_
  have hr10 : ∀ s, rng1 [W.d (.int 10)] s = .ok ((List.range 10).map fun i : Nat => W.d (.int i)) s := fun s => rng1_nat 10 s (by decide)
  simp [b_law_k29, hr10, wipeR, -rng1_eq, -fIx_eq, fIx_tup]
  refine wS_use (bag_wp ns hl _) ?_
  rintro _ _ ⟨b, z, rfl, hz, rfl⟩
  simp [wipeR, -rng1_eq, -fIx_eq, fIx_tup]
  rw [hz]
  clear hz
  simp [hr10, wipeR, -rng1_eq, -fIx_eq, fIx_tup]
  refine wS_use (facts_wp 10 _ _ _ _ (fun i => ⟨_, rfl, rfl⟩)) ?_
  rintro _ _ ⟨fs, rfl, hfl, hfs, b, rfl⟩
  have wd : wD (fs.map Fa.d) = fs.map fun f => W.d f.d := by simp [wD]
  have hfl1 : fs.length ≤ 16777216 := by omega
  simp [hfl1, wipeR, -rng1_eq, -fIx_eq, fIx_tup]
  rw [wd, lcM_fn (p := fun f => !decide (f.word = ("cut" : Str))) (v := Fa.d)]
  rotate_left
  · intro f hf
    have we := word_eq true f (.cut 0 0 0)
    refine ⟨_, rfl, ?_, fun _ => by simp⟩
    have e : Fa.word (.cut 0 0 0) = "cut" := rfl
    rw [e] at we
    simp [fix0, we, -fIx_eq]
  have bl := List.length_filter_le (fun f : Fa => !decide (f.word = ("cut" : Str))) fs
  have bok : ∀ f ∈ fs.filter (fun f : Fa => !decide (f.word = ("cut" : Str))), f.ok = true ∧ f.sz := fun f hf => hfs f (List.mem_filter.mp hf).1
  generalize fs.filter (fun f : Fa => !decide (f.word = ("cut" : Str))) = B0 at *
  simp [wipeR, -rng1_eq, -fIx_eq, fIx_tup]
  refine wS_use (pull_wp _ _ _ (by decide) (by decide)) ?_
  rintro _ _ ⟨y, b, rfl, rfl, y0, y1⟩
  simp [wipeR, -rng1_eq, -fIx_eq, fIx_tup]
  have hry : ∀ s, rng1 [W.d (.int y)] s = .ok ((List.range y.toNat).map fun i : Nat => W.d (.int i)) s := fun s => by
    have := rng1_nat y.toNat s (by omega)
    rw [Int.toNat_of_nonneg y0] at this
    exact this
  have hyl : y.toNat ≤ 16777216 := by omega
  simp [hry, hyl, wipeR, -rng1_eq, -fIx_eq, fIx_tup]
  refine wS_use (cuts_wp y.toNat _ _ _ _ (fun i => ⟨_, rfl, rfl⟩)) ?_
  rintro _ _ ⟨C, rfl, hcl, hC, b, rfl⟩
  simp [wipeR, -rng1_eq, -fIx_eq, fIx_tup]
  refine wS_use (rim_wp _ _ _ (by omega) (by omega)) ?_
  rintro _ _ ⟨r, b, rfl, rfl, r3, r48, rm⟩
  simp [wipeR, -rng1_eq, -fIx_eq, fIx_tup]
  have hB1 : B0.length < 16777216 := by omega
  have eB : wD (B0.map Fa.d) ++ [W.d (D.tup [.str "blank", .int 1, .tup (r.map .int)])] = wD ((B0 ++ [Fa.blank 1 r]).map Fa.d) := by simp [wD]; rfl
  have i1 := fun c : Cell => init_gen [c]
  have i2 := fun c0 c1 c2 c3 : Cell => init_gen [c0, c1, c2, c3]
  have i3 := fun c0 c1 c2 c3 c4 c5 c6 : Cell => init_gen [c0, c1, c2, c3, c4, c5, c6]
  simp at i1 i2 i3
  simp [hB1, wipeR, -rng1_eq, -fIx_eq, fIx_tup]
  rw [eB]
  have bok : ∀ f ∈ B0 ++ [Fa.blank 1 r], f.ok = true ∧ f.sz := fun f hf => by
    rcases List.mem_append.mp hf with hf | hf
    · exact bok f hf
    · rw [List.mem_singleton.mp hf]
      refine ⟨?_, ?_⟩
      · simp [Fa.ok]; omega
      · simp [Fa.sz]; omega
  have bl1 : (B0 ++ [Fa.blank 1 r]).length ≤ 11 := by simp; omega
  generalize B0 ++ [Fa.blank 1 r] = B at *
  have kc : ∀ (b : Bag) (t : S) (h : (b.cell :: t)[10]? = some (Cell.lst [.r 1, .r 4, .r 7])), kCellL (.r 10) (b.cell :: t) = .ok (10, [.r 1, .r 4, .r 7]) (b.cell :: t) := fun b t h => kCellL_at h
  have kc0 := fun x1 x2 x3 x4 x5 x6 x7 x8 x9 => kc b [x1, x2, x3, x4, x5, x6, x7, x8, x9, Cell.lst [.r 1, .r 4, .r 7]] rfl
  simp [i1, i2, i3, kc0, wipeR, -rng1_eq, -fIx_eq, fIx_tup]
  refine wS_mid (A29 ns B C [.r 1, .r 4, .r 7]) ?_ ?_
  · refine forC_at (A29 ns B C) ⟨b, _, _, _, rfl, rfl, (t3_0.mono (Nat.zero_le _)).of fun k hk => by simp [G1_]⟩ ?_ ?_ fun ρ s h => h
    · rintro pre ρ s ⟨b, t, x5, x6, rfl, rfl, h⟩
      exact h.lst b
    rintro pre a rr hz ρ s ⟨b, t, x5, x6, rfl, rfl, h⟩
    obtain ⟨hp, rfl⟩ := third3 hz
    have hmul : pre.length * B.length ≤ 2 * 11 := Nat.mul_le_mul (by omega) bl1
    refine ⟨_, rfl, ?_⟩
    have wB : wD (B.map Fa.d) = B.map fun f => W.d f.d := by simp [wD]
    simp [wB, wipeR, -rng1_eq, -fIx_eq, fIx_tup]
    refine forE_at (B29 ns B C pre.length (.w (.r (1 + 3 * pre.length)))) ⟨b, t, _, rfl, rfl, (h.mono (Nat.le_refl _)).of fun k hk => by unfold G1_ G2_; simp⟩ ?_ ?_
    · rintro P f r2 hz2 ρ s ⟨b, t, x6, rfl, rfl, h⟩
      have hPl : P.length < B.length := by rw [hz2]; simp
      have hfo := bok f (by rw [hz2]; simp)
      obtain ⟨t1, e1, h1⟩ := h.tell (by omega) hp f hfo b
      obtain ⟨j, hs, gs, sh, _⟩ := T3.shop h hp b
      have ins := sh.ins "tell"
      refine ⟨_, rfl, ?_⟩
      have hG : G2_ B P pre.length pre.length = P := by simp [G2_]
      rw [hG] at h1 e1
      simp [ins, e1, wipeR, -rng1_eq, -fIx_eq, fIx_tup]
      refine ⟨b, t1, _, rfl, rfl, (h1.mono (by simp; omega)).of fun k hk => ?_⟩
      unfold updN G2_
      by_cases e : k = pre.length
      · rw [if_pos e, if_neg (by omega), if_pos e]
      · simp [e]
    · rintro ρ s ⟨b, t, x6, rfl, rfl, h⟩
      refine ⟨b, t, _, _, rfl, rfl, (h.mono ?_).of fun k hk => ?_⟩
      · rw [List.length_append, List.length_singleton, Nat.add_mul]; omega
      · unfold G1_ G2_
        rw [List.length_append, List.length_singleton]
        by_cases e : k < pre.length
        · rw [if_pos e, if_pos (by omega)]
        · by_cases e2 : k = pre.length
          · rw [if_neg e, if_pos e2, if_pos (by omega)]
          · rw [if_neg e, if_neg e2, if_neg (by omega)]
  rintro ρ s ⟨b, t, x5, x6, rfl, rfl, h⟩
  have h : T3L t (G3_ B [] [] []) (3 * B.length) := (h.mono (Nat.le_refl _)).of fun k hk => by
    have : k = 0 ∨ k = 1 ∨ k = 2 := by omega
    rcases this with rfl | rfl | rfl <;> simp [G1_, G3_]
  simp [wipeR, -rng1_eq, -fIx_eq, fIx_tup]
  refine wS_use (angle_wp _ _) ?_
  rintro _ _ ⟨wh, b, rfl, rfl⟩
  simp [wipeR, -rng1_eq, -fIx_eq, fIx_tup]
  have wC : wD (C.map Fa.d) = C.map fun f => W.d f.d := by simp [wD]
  have hcl12 : C.length ≤ 12 := by omega
  have gB : ∀ P : List Fa, (∀ f ∈ P, (f.ok = true ∧ f.sz) ∧ isCutFa f) → ∀ f ∈ B ++ P, f.ok = true ∧ f.sz := fun P hP f hf => by
    rcases List.mem_append.mp hf with hf | hf
    · exact bok f hf
    · exact (hP f hf).1
  have hr3 : ∀ s, rng1 [W.d (.int 3)] s = .ok ((List.range 3).map fun i : Nat => W.d (.int i)) s := fun s => rng1_nat 3 s (by decide)
  rw [wC]
  refine wS_mid (C29 ns B C x5 x6 (.w (.d (.int wh))) C) ?_ ?_
  · refine forE_at (C29 ns B C x5 x6 (.w (.d (.int wh)))) ⟨b, t, _, _, _, rfl, rfl, h.mono (by simp)⟩ ?_ fun ρ s h => h
    rintro P f rr hz ρ s ⟨b, t, x8, x9, x10, rfl, rfl, h⟩
    have hPl : P.length < C.length := by rw [hz]; simp
    have hP : ∀ g ∈ P, (g.ok = true ∧ g.sz) ∧ isCutFa g := fun g hg => hC g (by rw [hz]; simp [hg])
    have hf := hC f (by rw [hz]; simp)
    have ix0 := fun b => (T3.ix h b).1
    obtain ⟨j, hs, gs, sh, fit, hhl, hml⟩ := T3.shop h (k := 0) (by decide) b
    have ins := sh.ins "tell"
    have insr := sh.ins "rim"
    obtain ⟨t1, e1, h1⟩ := h.tell (k := 0) (by omega) (by decide) f hf.1 b
    have hG0 : G3_ B P [] [] 0 = B ++ P := by simp [G3_]
    rw [hG0] at e1 h1
    have h1 : T3L t1 (G3_ B (P ++ [f]) [] []) (3 * B.length + (P ++ [f]).length) := (h1.mono (by simp; omega)).of fun k hk => by
      unfold updN G3_
      by_cases e : k = 0
      · rw [if_pos e, if_pos e, List.append_assoc]
      · rw [if_neg e, if_neg e, if_neg e]
    have ix1 := fun b => (T3.ix h1 b).1
    obtain ⟨j1, hs1, gs1, sh1, fit1, hhl1, hml1⟩ := T3.shop h1 (k := 0) (by decide) b
    have insr1 := sh1.ins "rim"
    have hG1 : G3_ B (P ++ [f]) [] [] 0 = B ++ P ++ [f] := by simp [G3_]
    rw [hG0] at sh fit
    rw [hG1] at sh1 fit1
    have fl : (numF (B ++ P)).length ≤ 16777216 := by rw [numF_len, List.length_append]; omega
    have fl1 : (numF (B ++ P ++ [f])).length ≤ 16777216 := by rw [numF_len, List.length_append, List.length_append, List.length_singleton]; omega
    have rm0 := fun (c : Int) h0 h5 => rim2_eq sh fit.srt fl fit.good c h0 h5
    have rm1 := fun (c : Int) h0 h5 => rim2_eq sh1 fit1.srt fl1 fit1.good c h0 h5
    refine ⟨_, rfl, ?_⟩
    simp [hr3, wipeR, -rng1_eq, -fIx_eq, fIx_tup]
    rw [lcM_fn' (v := fun i : Nat => oRim (rimV (numF (B ++ P)) (i : Int)))]
    rotate_left
    · intro x hx
      have hx3 := List.mem_range.mp hx
      exact ⟨_, rfl, by simp [ix0, insr, rm0 (x : Int) (by omega) (by omega), -fIx_eq]⟩
    have el : ((List.range 3).map fun i : Nat => oRim (rimV (numF (B ++ P)) (i : Int))).length ≤ 16777216 := by simp
    have ei : ∀ (i : Nat) s, i < 3 → fIx (.d (.lst ((List.range 3).map fun i : Nat => oRim (rimV (numF (B ++ P)) (i : Int))))) (.d (.int i)) s = .ok (.d (oRim (rimV (numF (B ++ P)) (i : Int)))) s := fun i s hi => by
      rw [fIx_lst, atI_nat' ]
      simp [wD, hi]
    generalize ((List.range 3).map fun i : Nat => oRim (rimV (numF (B ++ P)) (i : Int))) = EL at *
    simp [el, ix0, ins, e1, hr3, wipeR, -rng1_eq, -fIx_eq, fIx_tup]
    refine forE_inv (fun ρ s => ∃ (b' : Bag) (x10 : EV), ρ = R29 ns B C x5 x6 (.w (.d (.int wh))) (.w (.d f.d)) (.w (.d (.lst EL))) x10 .no .no .no ∧ s = b.cell :: t1) ?_ ⟨b, _, rfl, rfl⟩ ?_
    · rintro w hw ρ s ⟨b', x10, rfl, rfl⟩
      obtain ⟨i, hi, rfl⟩ := List.mem_map.mp hw
      have hi3 := List.mem_range.mp hi
      have e2 := fun s => ei i s hi3
      have e3 := rm1 (i : Int) (by omega) (by omega)
      rw [numF_snoc, rimV_cut hf.2] at e3
      refine ⟨_, rfl, ?_⟩
      cases er : rimV (numF (B ++ P)) (i : Int) with
      | none =>
        rw [er] at e2
        simp [e2, oRim, wipeR, -rng1_eq, -fIx_eq, fIx_tup]
        exact ⟨b', trivial⟩
      | some r =>
        rw [er] at e2 e3
        have rl := rimV_len fit.good er
        have cl := cut1F_len (i : Int) r f
        have we := within_eq (cut1F (i : Int) r f) r (b.cell :: t1) (by omega) (by omega) rl.1 rl.2
        rw [if_pos cl, wthB_cut1] at we
        have fs : ∀ l s, fIsN true (.d (.tup l)) s = .ok (.d (.bl true)) s := fun _ _ => rfl
        simp only [Option.map_some, oRim] at e2 e3
        simp [e2, fs, ix1, insr1, e3, we, -fIsN_eq, wipeR, -rng1_eq, -fIx_eq, fIx_tup]
        exact ⟨b', trivial⟩
    · rintro ρ s ⟨b', x10, rfl, rfl⟩
      exact ⟨b, t1, _, _, _, rfl, rfl, h1⟩
  rintro ρ s ⟨b, t, x8, x9, x10, rfl, rfl, h⟩
  simp [wipeR, -rng1_eq, -fIx_eq, fIx_tup]
  refine wS_use (mixed_wp Fa.d C b t (by omega)) ?_
  rintro _ _ ⟨M, rfl, hM, b, rfl⟩
  have hMl := hM.length_eq
  have hML : M.length ≤ 16777216 := by omega
  have wM : wD (M.map Fa.d) = M.map fun f => W.d f.d := by simp [wD]
  simp [hML, wipeR, -rng1_eq, -fIx_eq, fIx_tup]
  rw [wM]
  have hMC : ∀ f ∈ M, (f.ok = true ∧ f.sz) ∧ isCutFa f := fun f hf => hC f (hM.mem_iff.mp hf)
  refine wS_mid (D29 ns B C x5 x6 (.w (.d (.int wh))) x9 x10 M) ?_ ?_
  · refine forE_at (D29 ns B C x5 x6 (.w (.d (.int wh))) x9 x10) ⟨b, t, _, rfl, rfl, h.mono (by simp)⟩ ?_ fun ρ s h => h
    rintro P f rr hz ρ s ⟨b, t, x8, rfl, rfl, h⟩
    have hPl : P.length < M.length := by rw [hz]; simp
    have hf := hMC f (by rw [hz]; simp)
    have ix1 := fun b => (T3.ix h b).2.1
    obtain ⟨j, hs, gs, sh, fit, hhl, hml⟩ := T3.shop h (k := 1) (by decide) b
    have ins := sh.ins "tell"
    obtain ⟨t1, e1, h1⟩ := h.tell (k := 1) (by omega) (by decide) f hf.1 b
    have hG0 : G3_ B C P [] 1 = B ++ P := by simp [G3_]
    rw [hG0] at e1 h1
    refine ⟨_, rfl, ?_⟩
    simp [ix1, ins, e1, wipeR, -rng1_eq, -fIx_eq, fIx_tup]
    refine ⟨b, t1, _, rfl, rfl, (h1.mono (by simp; omega)).of fun k hk => ?_⟩
    unfold updN G3_
    by_cases e : k = 0
    · rw [if_neg (by omega), if_pos e, if_pos e]
    · by_cases e1 : k = 1
      · rw [if_pos e1, if_neg e, if_pos e1, List.append_assoc]
      · rw [if_neg e1, if_neg e, if_neg e1, if_neg e, if_neg e1]
  rintro ρ s ⟨b, t, x8, rfl, rfl, h⟩
  have h : T3L t (G3_ B C M []) (3 * B.length + C.length + M.length) := h
  have g0 : G3_ B C M [] 0 = B ++ C := by simp [G3_]
  have g1 : G3_ B C M [] 1 = B ++ M := by simp [G3_]
  have g2 : G3_ B C M [] 2 = B ++ [] := by simp [G3_]
  have wl : ∀ L : List Fa, L.length ≤ 1000 → (numF L).length ≤ 16777216 := fun L hL => by rw [numF_len]; omega
  obtain ⟨j0, hs0, gs0, sh0, fit0, hl0, ml0⟩ := T3.shop h (k := 0) (by decide) b
  obtain ⟨j1, hs1, gs1, sh1, fit1, hl1, ml1⟩ := T3.shop h (k := 1) (by decide) b
  rw [g0] at sh0 fit0
  rw [g1] at sh1 fit1
  obtain ⟨ix0, ix1, ix2⟩ := T3.ix h b
  have L0 := lifts_eq sh0 fit0.srt (wl _ (by simp; omega)) fit0.good wh
  have L1 := lifts_eq sh1 fit1.srt (wl _ (by simp; omega)) fit1.good wh
  have sm := show_cuts bok hC hMC (fun f => hM.symm.mem_iff)
  rw [← liftsD_same sm.1 sm.2] at L1
  have pl := liftsD_plain (numF (B ++ C)) wh
  have ne := fun s => fEq_refl true _ s pl.1 pl.2
  have hcl2 : C.length ≤ 16777216 := by omega
  by_cases c0 : C.length = 0
  · obtain rfl : C = [] := List.length_eq_zero_iff.mp c0
    obtain rfl : M = [] := List.length_eq_zero_iff.mp (by omega)
    have se := shopEq_same sh0 sh1 fit0.srt (wl _ (by simp; omega)) fit0.good
    simp only [List.append_nil] at L0 L1 ne se
    have q1 := sh0.ins "__eq__"
    have q2 := sh1.ins "__eq__"
    simp [ix0, ix1, L0, L1, ne, fEqC, q1, q2, se, eqC, wipeR, -rng1_eq, -fIx_eq, fIx_tup]
  have c1 : ¬ (C.length : Int) = 0 := by omega
  simp [ix0, ix1, L0, L1, ne, c0, c1, hcl2, wipeR, -rng1_eq, -fIx_eq, fIx_tup]
  refine wS_use (pull_wp _ _ _ (by omega) (by omega)) ?_
  rintro _ _ ⟨a0, b, rfl, rfl, a1, a2⟩
  simp [wipeR, -rng1_eq, -fIx_eq, fIx_tup]
  obtain ⟨a, rfl⟩ := Int.eq_ofNat_of_zero_le a1
  have ha : a < C.length := by omega
  obtain ⟨c, hc⟩ : ∃ c, C[a]? = some c := ⟨C[a], List.getElem?_eq_getElem ha⟩
  have hcf := hC c (List.mem_of_getElem? hc)
  have ca : ∀ s, fIx (.d (.lst (C.map Fa.d))) (.d (.int (a : Int))) s = .ok (.d c.d) s := fun s => by
    rw [fIx_lst, atI_nat']
    simp [wD, hc]
  obtain ⟨ix0, ix1, ix2⟩ := T3.ix h b
  obtain ⟨j0, hs0, gs0, sh0, fit0, hl0, ml0⟩ := T3.shop h (k := 0) (by decide) b
  have ins0 := sh0.ins "tell"
  obtain ⟨t1, e1, h1⟩ := h.tell (k := 0) (by omega) (by decide) c hcf.1 b
  rw [g0] at e1 h1
  obtain ⟨jx0, jx1, jx2⟩ := T3.ix h1 b
  obtain ⟨j0, hs0, gs0, sh0, fit0, hl0, ml0⟩ := T3.shop h1 (k := 0) (by decide) b
  obtain ⟨j1, hs1, gs1, sh1, fit1, hl1, ml1⟩ := T3.shop h1 (k := 1) (by decide) b
  have u0 : updN (G3_ B C M []) 0 (B ++ C ++ [c]) 0 = B ++ (C ++ [c]) := by unfold updN; rw [if_pos rfl, List.append_assoc]
  have u1 : updN (G3_ B C M []) 0 (B ++ C ++ [c]) 1 = B ++ M := by unfold updN; rw [if_neg (by decide), g1]
  rw [u0] at sh0 fit0
  rw [u1] at sh1 fit1
  have L0 := lifts_eq sh0 fit0.srt (wl _ (by simp; omega)) fit0.good wh
  have L1 := lifts_eq sh1 fit1.srt (wl _ (by simp; omega)) fit1.good wh
  have hCc : ∀ f ∈ C ++ [c], (f.ok = true ∧ f.sz) ∧ isCutFa f := fun f hf => by
    rcases List.mem_append.mp hf with hf | hf
    · exact hC f hf
    · rw [List.mem_singleton.mp hf]; exact hcf
  have sm2 := show_cuts bok hCc hMC (fun f => by
    rw [hM.mem_iff, List.mem_append, List.mem_singleton]
    exact ⟨fun z => z.elim id fun e => by rw [e]; exact List.mem_of_getElem? hc, .inl⟩)
  rw [← liftsD_same sm2.1 sm2.2] at L1
  have pl := liftsD_plain (numF (B ++ (C ++ [c]))) wh
  have ne := fun s => fEq_refl true _ s pl.1 pl.2
  have insk := sh0.ins "strike"
  obtain ⟨t2, e2, h2⟩ := T3.strike h1 (by omega) (k := 0) (by decide) (((B ++ C).length : Int) + 1) c (by
    show lookF (numF (updN (G3_ B C M []) 0 (B ++ C ++ [c]) 0)) _ = _
    rw [u0, ← List.append_assoc]
    exact look_numF (fun f hf => by
      rw [List.append_assoc] at hf
      rcases List.mem_append.mp hf with hf | hf
      · exact bok f hf
      · exact (hCc f hf).1) (by rw [List.getElem?_append_right (Nat.le_refl _)]; simp)) b
  have d1 : dropF (numF (updN (G3_ B C M []) 0 (B ++ C ++ [c]) 0)) (((B ++ C).length : Int) + 1) = numF (B ++ C) := by rw [u0, ← List.append_assoc, drop_last]
  rw [d1] at h2
  obtain ⟨kx0, kx1, kx2⟩ := T3.ix h2 b
  obtain ⟨j0, hs0, gs0, sh0', _⟩ := T3.shop h2 (k := 0) (by decide) b
  have insk2 := sh0'.ins "strike"
  obtain ⟨t3, e3, h3⟩ := T3.strike h2 (by omega) (k := 0) (by decide) (((B.length + a : Nat) : Int) + 1) c (by
    show lookF (updN _ 0 (numF (B ++ C)) 0) _ = _
    rw [show updN (fun k => numF (updN (G3_ B C M []) 0 (B ++ C ++ [c]) k)) 0 (numF (B ++ C)) 0 = numF (B ++ C) by simp [updN]]
    exact look_numF (gB C hC) (by rw [List.getElem?_append_right (by omega), show B.length + a - B.length = a by omega, hc])) b
  have en : ((B.length + a : Nat) : Int) + 1 = (B.length : Int) + 1 + (a : Int) := by omega
  rw [en] at e3
  have en2 : ((B ++ C).length : Int) + 1 = (B.length : Int) + (C.length : Int) + 1 := by simp
  rw [en2] at e1 e2
  have hbl : B.length ≤ 16777216 := by omega
  have ec1 : cut (C.map Fa.d) none (some (a : Int)) = (C.take a).map Fa.d := by rw [cut_take _ _ (by simp; omega), List.map_take]
  have ec2 : cut (C.map Fa.d) (some ((a : Int) + 1)) none = (C.drop (a + 1)).map Fa.d := by
    have := cut_drop (C.map Fa.d) (a + 1) (by simp; omega)
    rw [List.map_drop]
    simpa using this
  have ad := fun s => addL2 ((C.take a).map Fa.d) ((C.drop (a + 1)).map Fa.d) s (by simp; omega)
  have eD : (C.take a).map Fa.d ++ (C.drop (a + 1)).map Fa.d = (C.take a ++ C.drop (a + 1)).map Fa.d := by rw [List.map_append]
  rw [eD] at ad
  simp [ix0, ca, ins0, e1, jx0, jx1, L0, L1, ne, insk, e2, kx0, insk2, e3, hbl, ec1, ec2, ad, fSl_lst9, -List.map_take, -List.map_drop, -List.map_append, wipeR, -rng1_eq, -fIx_eq, fIx_tup]
  have hDm : ∀ f ∈ C.take a ++ C.drop (a + 1), (f.ok = true ∧ f.sz) ∧ isCutFa f := fun f hf => by
    rcases List.mem_append.mp hf with hf | hf
    · exact hC f (List.mem_of_mem_take hf)
    · exact hC f (List.mem_of_mem_drop hf)
  have hDl : (C.take a ++ C.drop (a + 1)).length + 1 = C.length := by rw [List.length_append, List.length_take, List.length_drop]; omega
  have os := one_struck (B := B) bok hC hc
  have dl := drop_len (B ++ C) (B.length + a) (by rw [List.length_append]; omega)
  have F03 : updN (updN (fun k => numF (updN (G3_ B C M []) 0 (B ++ C ++ [c]) k)) 0 (numF (B ++ C))) 0 (dropF (updN (fun k => numF (updN (G3_ B C M []) 0 (B ++ C ++ [c]) k)) 0 (numF (B ++ C)) 0) (((B.length + a : Nat) : Int) + 1)) 0 = dropF (numF (B ++ C)) (((B.length + a : Nat) : Int) + 1) := by simp [updN]
  obtain ⟨DD, hDD⟩ : ∃ DD, DD = C.take a ++ C.drop (a + 1) := ⟨_, rfl⟩
  rw [← hDD] at hDm hDl os ⊢
  obtain ⟨F0, hF0⟩ : ∃ F0, F0 = dropF (numF (B ++ C)) (((B.length + a : Nat) : Int) + 1) := ⟨_, rfl⟩
  rw [← hF0] at os dl F03
  have wDD : wD (DD.map Fa.d) = DD.map fun f => W.d f.d := by simp [wD]
  rw [wDD]
  obtain ⟨m3, hm3⟩ : ∃ m3 : Int, m3 = ((updN (G3_ B C M []) 0 (B ++ C ++ [c]) 0).length : Int) := ⟨_, rfl⟩
  have h4 : T3 t3 (fun c => if c = 0 then F0 else numF (if c = 1 then B ++ M else B ++ [])) (fun c => if c = 0 then m3 else ((if c = 1 then B ++ M else B ++ []).length : Int)) (3 * B.length + C.length + M.length + 1 + 1 + 1) := by
    refine h3.of (fun k hk => ?_) (fun k hk => ?_)
    · by_cases e : k = 0
      · subst e
        rw [F03]; simp
      · have : k = 1 ∨ k = 2 := by omega
        rcases this with rfl | rfl <;> simp [updN, G3_]
    · by_cases e : k = 0
      · subst e
        rw [hm3]; simp
      · have : k = 1 ∨ k = 2 := by omega
        rcases this with rfl | rfl <;> simp [updN, G3_]
  refine wS_mid (E29 ns B C M F0 m3 (3 * B.length + C.length + M.length + 1 + 1 + 1) x5 x6 (.w (.d (.int wh))) x9 x10 (.w (.d (.int a))) (.w (.d (.int ((B.length : Int) + C.length + 1)))) DD) ?_ ?_
  · refine forE_at (E29 ns B C M F0 m3 (3 * B.length + C.length + M.length + 1 + 1 + 1) x5 x6 (.w (.d (.int wh))) x9 x10 (.w (.d (.int a))) (.w (.d (.int ((B.length : Int) + C.length + 1))))) ⟨b, t3, _, rfl, rfl, h4⟩ ?_ fun ρ s h => h
    rintro P f rr hz ρ s ⟨b, t, x8, rfl, rfl, h⟩
    have hPl : P.length < DD.length := by rw [hz]; simp
    have hf := hDm f (by rw [hz]; simp)
    have ix2 := fun b => (T3.ix h b).2.2
    obtain ⟨j, hs, gs, sh, _⟩ := T3.shop h (k := 2) (by decide) b
    have ins := sh.ins "tell"
    obtain ⟨t1, e1, h1⟩ := T3.tell h (k := 2) (by omega) (by decide) f hf.1 b
    refine ⟨_, rfl, ?_⟩
    simp at e1 ins
    simp [ix2, ins, e1, wipeR, -rng1_eq, -fIx_eq, fIx_tup]
    refine ⟨b, t1, _, rfl, rfl, (h1.mono (by simp; omega)).of (fun k hk => ?_) (fun k hk => ?_)⟩
    · have : k = 0 ∨ k = 1 ∨ k = 2 := by omega
      rcases this with rfl | rfl | rfl
      · simp [updN]
      · simp [updN]
      · have := numF_snoc (B ++ P) f
        rw [List.append_assoc] at this
        simp [updN] at this ⊢
        rw [this]
    · have : k = 0 ∨ k = 1 ∨ k = 2 := by omega
      rcases this with rfl | rfl | rfl
      · simp [updN]
      · simp [updN]
      · simp [updN]; omega
  rintro ρ s ⟨b, t, x8, rfl, rfl, h⟩
  obtain ⟨ix0, ix1, ix2⟩ := T3.ix h b
  obtain ⟨j0, hs0, gs0, sh0, fit0, hl0, ml0⟩ := T3.shop h (k := 0) (by decide) b
  obtain ⟨j2, hs2, gs2, sh2, fit2, hl2, ml2⟩ := T3.shop h (k := 2) (by decide) b
  simp only [if_pos, show ((2 : Nat) = 0) = False by simp, show ((2 : Nat) = 1) = False by simp, if_false] at sh0 fit0 sh2 fit2
  have lF0 : F0.length ≤ 16777216 := by rw [List.length_append] at dl; omega
  have L0 := lifts_eq sh0 fit0.srt lF0 fit0.good wh
  have L2 := lifts_eq sh2 fit2.srt (wl _ (by simp; omega)) fit2.good wh
  rw [← liftsD_same os.1 os.2] at L2
  have pl := liftsD_plain F0 wh
  have eq := fun s => fEq_refl false _ s pl.1 pl.2
  have n0 := lenS_eq sh0
  have n2 := lenS_eq sh2
  rw [numF_len, show (B ++ DD).length = F0.length by rw [List.length_append] at dl ⊢; omega] at n2
  have z0 := sh0.ins "__len__"
  have z2 := sh2.ins "__len__"
  have lc := fun s => lenC_nat F0.length s (by rw [List.length_append] at dl; omega)
  have ei := fun s => fEq_refl false (.int F0.length) s rfl (by simp [D.dep])
  simp [ix0, ix2, L0, L2, eq, n0, n2, z0, z2, lc, ei, wipeR, -rng1_eq, -fIx_eq, fIx_tup]
end TG

set_option Elab.async false
set_option linter.all false
set_option maxRecDepth 100000
set_option maxHeartbeats 4000000
namespace Lk29
open PySem L2 PyProof.Rows TG
def topS (i : Nat) : Stmt := PySem.Challenge.pw_tappet_k29_whole_cuts_in_any_order.main.body.getD i (.Pass ⟨0, 0, 0, 0⟩)
structure Tx (K : PySem.W.Frag) (mg : Str → Option Value) (cl : Str → Option Addr) : Prop where
  b_abs : mg "abs" = none
  b_all : mg "all" = none
  b_bool : mg "bool" = none
  b_dict : mg "dict" = none
  b_enumerate : mg "enumerate" = none
  b_int : mg "int" = none
  b_isinstance : mg "isinstance" = none
  b_len : mg "len" = none
  b_list : mg "list" = none
  b_max : mg "max" = none
  b_min : mg "min" = none
  b_range : mg "range" = none
  b_sorted : mg "sorted" = none
  b_str : mg "str" = none
  b_sum : mg "sum" = none
  b_tuple : mg "tuple" = none
  b_zip : mg "zip" = none
  c_DEEPEST : ∃ t, mg "DEEPEST" = some (.int 5 t)
  c_FEWEST : ∃ t, mg "FEWEST" = some (.int 3 t)
  c_LAST_CAM : ∃ t, mg "LAST_CAM" = some (.int 5 t)
  c_LAST_FOLLOWER_facts : ∃ t, mg "LAST_FOLLOWER_facts" = some (.int 7 t)
  c_LAST_FOLLOWER_levers : ∃ t, mg "LAST_FOLLOWER_levers" = some (.int 7 t)
  c_LAST_LEVER : ∃ t, mg "LAST_LEVER" = some (.int 5 t)
  c_MOST : ∃ t, mg "MOST" = some (.int 48 t)
  c_MOST_DROP : ∃ t, mg "MOST_DROP" = some (.int 99 t)
  c_MOST_PARTS : ∃ t, mg "MOST_PARTS" = some (.int 15 t)
  c_MOST_PLACES : ∃ t, mg "MOST_PLACES" = some (.int 9 t)
  c_MOST_TOLD : ∃ t, mg "MOST_TOLD" = some (.int 100 t)
  c_MOST_TURNS : ∃ t, mg "MOST_TURNS" = some (.int 99 t)
  f_Foot_drops : ClsF K cl "Foot" "drops"
  f_Foot_middle : ClsF K cl "Foot" "middle"
  f_Hold_many_told : ClsF K cl "Hold" "many_told"
  f_Hold_there : ClsF K cl "Hold" "there"
  f_Workshop_gone : ClsF K cl "Workshop" "gone"
  f_Workshop_times_kept : ClsF K cl "Workshop" "times_kept"
  e_BadFact : ExcAt K mg cl "BadFact"
  e_BadFoot : ExcAt K mg cl "BadFoot"
  e_BadRim : ExcAt K mg cl "BadRim"
  e_BadSize : ExcAt K mg cl "BadSize"
  e_Full : ExcAt K mg cl "Full"
  o_Workshop : IsC K mg cl "Workshop"
  z_ : True
abbrev s_v_law_bag : Stmt := topS 64
abbrev N_v_law_bag : List Str := ["_law_script", "_law_salt", "_law_cell"]
theorem sc_v_law_bag : FnScope N_v_law_bag ["_law_script"] (defScope s_v_law_bag) := ⟨rfl, rfl, rfl, by decide +kernel, rfl, by decide +kernel, by decide +kernel⟩
theorem ok_v_law_bag {P : Program} {w : World} {K : PySem.W.Frag} {mg : Str → Option Value} {base : Heap} {cl : Str → Option Addr} (T : Tx K mg cl) {f : Addr} {fd : FuncData} (F : Fun K "_law_bag" "_law_bag" s_v_law_bag f fd) : FnOk P w K mg base (L2.CX P w) 1 f fd ["_law_script"] (spOf K cl f_v_law_bag) :=
  fn_ok F sc_v_law_bag fun cdv A outer s H E hr ok => by
    have nd : N_v_law_bag.Nodup := sc_v_law_bag.nd
    have hr1 := hr
    exact (jb_cons (js_set 1 nd je_int)
      (jb_cons (js_for ok rfl (ji_seq (je_slice sl_all sls_all (je_var 0) jo_none (jo_some je_int))) (jg_name 2 nd) (jb_one (js_set 1 nd (je_bin op_modN ops_mod (je_bin op_addAll ops_add (je_bin op_addAll ops_add (je_bin op_mulAll ops_mul (je_var 1) je_int) (je_bin op_modN ops_mod (je_var 2) je_int)) je_int) je_int))))
      (jb_one (js_retL (jl_lst (ja_cons (je_frz (jl_listof (by rfl) T.b_list (ja_cons (je_slice sl_all sls_all (je_var 0) jo_none (jo_some je_int)) ja_nil))) (ja_cons je_int (ja_cons je_int (ja_cons (je_var 1) ja_nil)))))))))
abbrev s_v_law_pull : Stmt := topS 65
abbrev N_v_law_pull : List Str := ["_law_bag_here", "_law_amount", "_law_cell", "_law_got", "_law_seed"]
theorem sc_v_law_pull : FnScope N_v_law_pull ["_law_bag_here", "_law_amount"] (defScope s_v_law_pull) := ⟨rfl, rfl, rfl, by decide +kernel, rfl, by decide +kernel, by decide +kernel⟩
theorem ok_v_law_pull {P : Program} {w : World} {K : PySem.W.Frag} {mg : Str → Option Value} {base : Heap} {cl : Str → Option Addr} (T : Tx K mg cl) {f : Addr} {fd : FuncData} (F : Fun K "_law_pull" "_law_pull" s_v_law_pull f fd) : FnOk P w K mg base (L2.CX P w) 1 f fd ["_law_bag_here", "_law_amount"] (spOf K cl f_v_law_pull) :=
  fn_ok F sc_v_law_pull fun cdv A outer s H E hr ok => by
    have nd : N_v_law_pull.Nodup := sc_v_law_pull.nd
    have hr1 := hr
    exact (jb_cons (js_if (jt_w (jw_and (jt_cmp (op_eqD hr.units) ops_eq (je_ix (ix_all (hu_of hr)) ops_ix (je_var 0) je_int) je_int) (jw_and1 (jt_cmp op_lt ops_lt (je_ix (ix_all (hu_of hr)) ops_ix (je_var 0) je_int) (je_callB call_len calls_len (by rfl) T.b_len PySem.boot_len (ja_cons (je_ix (ix_all (hu_of hr)) ops_ix (je_var 0) je_int) ja_nil)))))) (jb_cons (js_set 2 nd (je_ix (ix_all (hu_of hr)) ops_ix (je_ix (ix_all (hu_of hr)) ops_ix (je_var 0) je_int) (je_ix (ix_all (hu_of hr)) ops_ix (je_var 0) je_int)))
      (jb_cons (js_setI (je_var 0) je_int (je_bin op_addAll ops_add (je_ix (ix_all (hu_of hr)) ops_ix (je_var 0) je_int) je_int))
      (jb_one (js_if (jt_cmp op_ge ops_ge (je_var 2) (je_bin op_pow ops_pow je_int je_int)) (jb_one (js_setI (je_var 0) je_int (je_var 2))) (jb_one (js_setI (je_var 0) je_int (je_bin op_modN ops_mod (je_bin op_addAll ops_add (je_bin op_addAll ops_add (je_bin op_mulAll ops_mul (je_ix (ix_all (hu_of hr)) ops_ix (je_var 0) je_int) je_int) (je_bin op_mulAll ops_mul (je_bin op_modN ops_mod (je_var 2) je_int) je_int)) je_int) je_int))))))) jb_nil)
      (jb_cons (js_if (jt_cmp op_gt ops_gt (je_ix (ix_all (hu_of hr)) ops_ix (je_var 0) je_int) je_int) (jb_cons (js_set 3 nd (je_bin op_modN ops_mod (je_ix (ix_all (hu_of hr)) ops_ix (je_var 0) je_int) (je_var 1)))
      (jb_cons (js_setI (je_var 0) je_int (je_bin op_fdivN ops_div (je_ix (ix_all (hu_of hr)) ops_ix (je_var 0) je_int) (je_var 1)))
      (jb_one (js_ret (je_var 3))))) jb_nil)
      (jb_cons (js_set 4 nd (je_ix (ix_all (hu_of hr)) ops_ix (je_var 0) je_int))
      (jb_cons (js_setI (je_var 0) je_int (je_bin op_modN ops_mod (je_bin op_addAll ops_add (je_bin op_addAll ops_add (je_bin op_mulAll ops_mul (je_var 4) je_int) (je_bin op_mulAll ops_mul (je_bin op_fdivN ops_div (je_var 4) je_int) je_int)) je_int) je_int))
      (jb_one (js_ret (je_bin op_modN ops_mod (je_bin op_addAll ops_add (je_bin op_fdivN ops_div (je_ix (ix_all (hu_of hr)) ops_ix (je_var 0) je_int) je_int) (je_bin op_mulAll ops_mul (je_bin op_modN ops_mod (je_ix (ix_all (hu_of hr)) ops_ix (je_var 0) je_int) je_int) je_int)) (je_var 1))))))))
abbrev s_v_law_far : Stmt := topS 67
abbrev N_v_law_far : List Str := ["_law_bag_here", "_law_number"]
theorem sc_v_law_far : FnScope N_v_law_far ["_law_bag_here"] (defScope s_v_law_far) := ⟨rfl, rfl, rfl, by decide +kernel, rfl, by decide +kernel, by decide +kernel⟩
theorem ok_v_law_far {P : Program} {w : World} {K : PySem.W.Frag} {mg : Str → Option Value} {base : Heap} {cl : Str → Option Addr} (T : Tx K mg cl) {f : Addr} {fd : FuncData} (F : Fun K "_law_far" "_law_far" s_v_law_far f fd) (F_v_law_pull : FnAt P w K mg base cl 1 "_law_pull" ["_law_bag_here", "_law_amount"] f_v_law_pull) : FnOk P w K mg base (L2.CX P w) 2 f fd ["_law_bag_here"] (spOf K cl f_v_law_far) :=
  fn_ok F sc_v_law_far fun cdv A outer s H E hr ok => by
    have F_v_law_pull := F_v_law_pull.mono (k := 1) (by decide)
    have nd : N_v_law_far.Nodup := sc_v_law_far.nd
    have hr1 := hr
    exact (jb_cons (js_set 1 nd (je_bin op_addAll ops_add (je_bin op_pow ops_pow je_int je_int) (je_call ok hr F_v_law_pull (ja_cons (je_var 0) (ja_cons (je_bin op_pow ops_pow je_int je_int) ja_nil)))))
      (jb_cons (js_if (jt_cmp (op_eqD hr.units) ops_eq (je_call ok hr F_v_law_pull (ja_cons (je_var 0) (ja_cons je_int ja_nil))) je_int) (jb_one (js_set 1 nd (je_bin op_addAll ops_add (je_var 1) (je_bin op_pow ops_pow je_int je_int)))) jb_nil)
      (jb_cons (js_if (jt_cmp (op_eqD hr.units) ops_eq (je_call ok hr F_v_law_pull (ja_cons (je_var 0) (ja_cons je_int ja_nil))) je_int) (jb_one (js_ret (je_bin op_sub ops_sub (je_un un_neg uns_neg je_int) (je_var 1)))) jb_nil)
      (jb_one (js_ret (je_var 1))))))
abbrev s_v_law_angle : Stmt := topS 73
abbrev N_v_law_angle : List Str := ["_law_bag_here"]
theorem sc_v_law_angle : FnScope N_v_law_angle ["_law_bag_here"] (defScope s_v_law_angle) := ⟨rfl, rfl, rfl, by decide +kernel, rfl, by decide +kernel, by decide +kernel⟩
theorem ok_v_law_angle {P : Program} {w : World} {K : PySem.W.Frag} {mg : Str → Option Value} {base : Heap} {cl : Str → Option Addr} (T : Tx K mg cl) {f : Addr} {fd : FuncData} (F : Fun K "_law_angle" "_law_angle" s_v_law_angle f fd) (F_v_law_far : FnAt P w K mg base cl 2 "_law_far" ["_law_bag_here"] f_v_law_far) (F_v_law_pull : FnAt P w K mg base cl 1 "_law_pull" ["_law_bag_here", "_law_amount"] f_v_law_pull) : FnOk P w K mg base (L2.CX P w) 3 f fd ["_law_bag_here"] (spOf K cl f_v_law_angle) :=
  fn_ok F sc_v_law_angle fun cdv A outer s H E hr ok => by
    have F_v_law_far := F_v_law_far.mono (k := 2) (by decide)
    have F_v_law_pull := F_v_law_pull.mono (k := 2) (by decide)
    have nd : N_v_law_angle.Nodup := sc_v_law_angle.nd
    have hr1 := hr
    exact (jb_one (js_ret (je_ix (ix_all (hu_of hr)) ops_ix (je_frz (jl_lst (ja_cons (je_bin op_sub ops_sub (je_call ok hr F_v_law_pull (ja_cons (je_var 0) (ja_cons je_int ja_nil))) je_int) (ja_cons (je_call ok hr F_v_law_far (ja_cons (je_var 0) ja_nil)) ja_nil)))) (je_callTy call_int1 calls_int (by rfl) T.b_int (by decide +kernel) (ja_cons (je_cmp (op_eqD hr.units) ops_eq (je_call ok hr F_v_law_pull (ja_cons (je_var 0) (ja_cons je_int ja_nil))) je_int) ja_nil)))))
abbrev s_v_law_mixed : Stmt := topS 68
abbrev N_v_law_mixed : List Str := ["_law_bag_here", "_law_row", "_law_left", "_law_found", "_law_step"]
theorem sc_v_law_mixed : FnScope N_v_law_mixed ["_law_bag_here", "_law_row"] (defScope s_v_law_mixed) := ⟨rfl, rfl, rfl, by decide +kernel, rfl, by decide +kernel, by decide +kernel⟩
theorem ok_v_law_mixed {P : Program} {w : World} {K : PySem.W.Frag} {mg : Str → Option Value} {base : Heap} {cl : Str → Option Addr} (T : Tx K mg cl) {f : Addr} {fd : FuncData} (F : Fun K "_law_mixed" "_law_mixed" s_v_law_mixed f fd) (F_v_law_pull : FnAt P w K mg base cl 1 "_law_pull" ["_law_bag_here", "_law_amount"] f_v_law_pull) : FnOk P w K mg base (L2.CX P w) 2 f fd ["_law_bag_here", "_law_row"] (spOf K cl f_v_law_mixed) :=
  fn_ok F sc_v_law_mixed fun cdv A outer s H E hr ok => by
    have F_v_law_pull := F_v_law_pull.mono (k := 1) (by decide)
    have nd : N_v_law_mixed.Nodup := sc_v_law_mixed.nd
    have hr1 := hr
    exact (jb_cons (js_setO 2 nd (jl_listof (by rfl) T.b_list (ja_cons (je_var 1) ja_nil)))
      (jb_cons (js_setO 3 nd (jl_lst ja_nil))
      (jb_cons (js_for ok rfl (ji_rng1 (by rfl) T.b_range (ja_cons (je_callB call_len calls_len (by rfl) T.b_len PySem.boot_len (ja_cons (je_var 1) ja_nil)) ja_nil)) (jg_name 4 nd) (jb_one (js_appPop 3 2 (je_call ok hr F_v_law_pull (ja_cons (je_var 0) (ja_cons (je_lenO 2 (by rfl) T.b_len) ja_nil))))))
      (jb_one (js_retO 3)))))
abbrev s_is_number : Stmt := topS 25
abbrev N_is_number : List Str := ["thing"]
theorem sc_is_number : FnScope N_is_number ["thing"] (defScope s_is_number) := ⟨rfl, rfl, rfl, by decide +kernel, rfl, by decide +kernel, by decide +kernel⟩
theorem ok_is_number {P : Program} {w : World} {K : PySem.W.Frag} {mg : Str → Option Value} {base : Heap} {cl : Str → Option Addr} (T : Tx K mg cl) {f : Addr} {fd : FuncData} (F : Fun K "is_number" "is_number" s_is_number f fd) : FnOk P w K mg base (L2.CX P w) 1 f fd ["thing"] (spOf K cl f_is_number) :=
  fn_ok F sc_is_number fun cdv A outer s H E hr ok => by
    have nd : N_is_number.Nodup := sc_is_number.nd
    have hr1 := hr
    exact (jb_one (js_ret (je_and (je_isi "int" (by rfl) T.b_isinstance (by decide +kernel) (by rfl) T.b_int (by decide +kernel) (je_var 0)) (je_one (je_not (je_isi "bool" (by rfl) T.b_isinstance (by decide +kernel) (by rfl) T.b_bool (by decide +kernel) (je_var 0)))))))
abbrev s_are_numbers : Stmt := topS 48
abbrev N_are_numbers : List Str := ["things", "one"]
theorem sc_are_numbers : FnScope N_are_numbers ["things"] (defScope s_are_numbers) := ⟨rfl, rfl, rfl, by decide +kernel, rfl, by decide +kernel, by decide +kernel⟩
theorem ok_are_numbers {P : Program} {w : World} {K : PySem.W.Frag} {mg : Str → Option Value} {base : Heap} {cl : Str → Option Addr} (T : Tx K mg cl) {f : Addr} {fd : FuncData} (F : Fun K "are_numbers" "are_numbers" s_are_numbers f fd) (F_is_number : FnAt P w K mg base cl 1 "is_number" ["thing"] f_is_number) : FnOk P w K mg base (L2.CX P w) 2 f fd ["things"] (spOf K cl f_are_numbers) :=
  fn_ok F sc_are_numbers fun cdv A outer s H E hr ok => by
    have F_is_number := F_is_number.mono (k := 1) (by decide)
    have nd : N_are_numbers.Nodup := sc_are_numbers.nd
    have hr1 := hr
    exact (jb_one (js_ret (je_and (je_isi "tuple" (by rfl) T.b_isinstance (by decide +kernel) (by rfl) T.b_tuple (by decide +kernel) (je_var 0)) (je_one (je_callB (cr_all rfl) calls_all (by rfl) T.b_all (by decide +kernel) (ja_cons (je_frz (jl_lc (own := [("one", 1)]) rfl nd (ji_seq (je_var 0)) (blkOk_by (N := N_are_numbers) (sc := defScope s_are_numbers) (own := [("one", 1)]) (by decide +kernel)) (fun _ _ _ _ _ => (jg_name 1 nd)) (fun _ _ _ _ _ => jts_nil) (fun _ _ _ _ _ => (je_call (ok).blk hr F_is_number (ja_cons (je_var 1) ja_nil))))) ja_nil))))))
abbrev s_good_kinds : Stmt := topS 49
abbrev N_good_kinds : List Str := ["fact"]
theorem sc_good_kinds : FnScope N_good_kinds ["fact"] (defScope s_good_kinds) := ⟨rfl, rfl, rfl, by decide +kernel, rfl, by decide +kernel, by decide +kernel⟩
theorem ok_good_kinds {P : Program} {w : World} {K : PySem.W.Frag} {mg : Str → Option Value} {base : Heap} {cl : Str → Option Addr} (T : Tx K mg cl) {f : Addr} {fd : FuncData} (F : Fun K "good_kinds" "good_kinds" s_good_kinds f fd) (F_are_numbers : FnAt P w K mg base cl 2 "are_numbers" ["things"] f_are_numbers) (F_is_number : FnAt P w K mg base cl 1 "is_number" ["thing"] f_is_number) : FnOk P w K mg base (L2.CX P w) 3 f fd ["fact"] (spOf K cl f_good_kinds) :=
  fn_ok F sc_good_kinds fun cdv A outer s H E hr ok => by
    have F_are_numbers := F_are_numbers.mono (k := 2) (by decide)
    have F_is_number := F_is_number.mono (k := 2) (by decide)
    have nd : N_good_kinds.Nodup := sc_good_kinds.nd
    have hr1 := hr
    exact (jb_cons (js_if (jt_cmp (op_eqD hr.units) ops_eq (je_ix (ix_all (hu_of hr)) ops_ix (je_var 0) je_int) je_str) (jb_one (js_ret (je_and (je_call ok hr F_is_number (ja_cons (je_ix (ix_all (hu_of hr)) ops_ix (je_var 0) je_int) ja_nil)) (je_one (je_isi "tuple" (by rfl) T.b_isinstance (by decide +kernel) (by rfl) T.b_tuple (by decide +kernel) (je_ix (ix_all (hu_of hr)) ops_ix (je_var 0) je_int)))))) jb_nil)
      (jb_cons (js_if (jt_cmp (op_eqD hr.units) ops_eq (je_ix (ix_all (hu_of hr)) ops_ix (je_var 0) je_int) je_str) (jb_one (js_ret (je_and (je_call ok hr F_are_numbers (ja_cons (je_bin op_addAll ops_add (je_slice sl_all sls_all (je_var 0) (jo_some je_int) (jo_some je_int)) (je_slice sl_all sls_all (je_var 0) (jo_some je_int) jo_none)) ja_nil)) (je_one (je_call ok hr F_are_numbers (ja_cons (je_ix (ix_all (hu_of hr)) ops_ix (je_var 0) je_int) ja_nil)))))) jb_nil)
      (jb_cons (js_if (jt_cmp (op_eqD hr.units) ops_eq (je_ix (ix_all (hu_of hr)) ops_ix (je_var 0) je_int) je_str) (jb_one (js_ret (je_and (je_call ok hr F_is_number (ja_cons (je_ix (ix_all (hu_of hr)) ops_ix (je_var 0) je_int) ja_nil)) (je_one (je_call ok hr F_are_numbers (ja_cons (je_ix (ix_all (hu_of hr)) ops_ix (je_var 0) je_int) ja_nil)))))) jb_nil)
      (jb_one (js_ret (je_call ok hr F_are_numbers (ja_cons (je_slice sl_all sls_all (je_var 0) (jo_some je_int) jo_none) ja_nil)))))))
abbrev s_good_mount : Stmt := topS 50
abbrev N_good_mount : List Str := ["fact"]
theorem sc_good_mount : FnScope N_good_mount ["fact"] (defScope s_good_mount) := ⟨rfl, rfl, rfl, by decide +kernel, rfl, by decide +kernel, by decide +kernel⟩
theorem ok_good_mount {P : Program} {w : World} {K : PySem.W.Frag} {mg : Str → Option Value} {base : Heap} {cl : Str → Option Addr} (T : Tx K mg cl) {f : Addr} {fd : FuncData} (F : Fun K "good_mount" "good_mount" s_good_mount f fd) : FnOk P w K mg base (L2.CX P w) 1 f fd ["fact"] (spOf K cl f_good_mount) :=
  fn_ok F sc_good_mount fun cdv A outer s H E hr ok => by
    have nd : N_good_mount.Nodup := sc_good_mount.nd
    have hr1 := hr
    exact (jb_one (js_ret (je_and (je_cmp op_le ops_le (je_callB call_abs calls_abs (by rfl) T.b_abs (by decide +kernel) (ja_cons (je_ix (ix_all (hu_of hr)) ops_ix (je_var 0) je_int) ja_nil)) (je_globI' (by rfl) T.c_MOST_TURNS)) (je_one (je_chain op_le op_le ops_le ops_le je_int (je_ix (ix_all (hu_of hr)) ops_ix (je_var 0) je_int) (je_globI' (by rfl) T.c_MOST_TURNS))))))
abbrev s_is_rim : Stmt := topS 37
abbrev N_is_rim : List Str := ["row"]
theorem sc_is_rim : FnScope N_is_rim ["row"] (defScope s_is_rim) := ⟨rfl, rfl, rfl, by decide +kernel, rfl, by decide +kernel, by decide +kernel⟩
theorem ok_is_rim {P : Program} {w : World} {K : PySem.W.Frag} {mg : Str → Option Value} {base : Heap} {cl : Str → Option Addr} (T : Tx K mg cl) {f : Addr} {fd : FuncData} (F : Fun K "is_rim" "is_rim" s_is_rim f fd) : FnOk P w K mg base (L2.CX P w) 1 f fd ["row"] (spOf K cl f_is_rim) :=
  fn_ok F sc_is_rim fun cdv A outer s H E hr ok => by
    have nd : N_is_rim.Nodup := sc_is_rim.nd
    have hr1 := hr
    exact (jb_one (js_ret (je_chain op_le op_le ops_le ops_le (je_globI' (by rfl) T.c_FEWEST) (je_callB call_len calls_len (by rfl) T.b_len PySem.boot_len (ja_cons (je_var 0) ja_nil)) (je_globI' (by rfl) T.c_MOST))))
abbrev s_shaped : Stmt := topS 26
abbrev N_shaped : List Str := ["tree", "deep", "part"]
theorem sc_shaped : FnScope N_shaped ["tree", "deep"] (defScope s_shaped) := ⟨rfl, rfl, rfl, by decide +kernel, rfl, by decide +kernel, by decide +kernel⟩
theorem ok_shaped {P : Program} {w : World} {K : PySem.W.Frag} {mg : Str → Option Value} {base : Heap} {cl : Str → Option Addr} (T : Tx K mg cl) {f : Addr} {fd : FuncData} (F : Fun K "shaped" "shaped" s_shaped f fd) (hm : mg "shaped" = some (.ref f)) (hk : PySem.W.keepIn K (.ref f) = true) (F_is_number : FnAt P w K mg base cl 1 "is_number" ["thing"] f_is_number) (KD_PARTS : KdAt K w mg "PARTS" [("foot", 0), ("sum", 2), ("high", 2), ("less", 1)]) : ∀ n, FnOk P w K mg base (L2.CX P w) (2 + n) f fd ["tree", "deep"] (spOf K cl (f_shaped n))
  | 0 => fnok_no
  | n + 1 => fn_ok F sc_shaped fun cdv A outer s H E hr ok => by
    have F_shaped : FnAt P w K mg base cl (2 + n) "shaped" ["tree", "deep"] (f_shaped n) := ⟨⟨f, fd, hm, hk, F.binds (ps := ["tree", "deep"]) fun _ _ _ _ _ _ us hl => match us, hl with | [_, _], _ => rfl, ok_shaped T F hm hk F_is_number KD_PARTS n⟩⟩
    have F_is_number := F_is_number.mono (k := 2 + n) (by omega)
    have nd : N_shaped.Nodup := sc_shaped.nd
    have hr1 := hr
    exact (jb_cons (js_if (jt_w (jw_or (jt_cmp (op_eqD hr.units) ops_eq (je_var 1) je_int) (jw_or (jt_cmp (op_eqD hr.units) ops_eq (je_callB call_len calls_len (by rfl) T.b_len PySem.boot_len (ja_cons (je_var 0) ja_nil)) je_int) (jw_or (jt_not (jt_val (je_isi "str" (by rfl) T.b_isinstance (by decide +kernel) (by rfl) T.b_str (by decide +kernel) (je_ix (ix_all (hu_of hr)) ops_ix (je_var 0) je_int)))) (jw_or1 (jt_niKD (by rfl) KD_PARTS (je_ix (ix_all (hu_of hr)) ops_ix (je_var 0) je_int))))))) (jb_one (js_ret je_bl)) jb_nil)
      (jb_cons (js_if (jt_cmp (op_eqD hr.units) ops_eq (je_ix (ix_all (hu_of hr)) ops_ix (je_var 0) je_int) je_str) (jb_one (js_ret (je_and (je_cmp (op_eqD hr.units) ops_eq (je_callB call_len calls_len (by rfl) T.b_len PySem.boot_len (ja_cons (je_var 0) ja_nil)) je_int) (je_and (je_call ok hr F_is_number (ja_cons (je_ix (ix_all (hu_of hr)) ops_ix (je_var 0) je_int) ja_nil)) (je_one (je_chain op_le op_le ops_le ops_le je_int (je_ix (ix_all (hu_of hr)) ops_ix (je_var 0) je_int) (je_globI' (by rfl) T.c_LAST_FOLLOWER_levers))))))) jb_nil)
      (jb_cons (js_if (jt_cmp (op_neD hr.units) ops_ne (je_callB call_len calls_len (by rfl) T.b_len PySem.boot_len (ja_cons (je_var 0) ja_nil)) (je_bin op_addAll ops_add je_int (je_ixKD (by rfl) KD_PARTS (je_ix (ix_all (hu_of hr)) ops_ix (je_var 0) je_int)))) (jb_one (js_ret je_bl)) jb_nil)
      (jb_one (js_ret (je_callB (cr_all rfl) calls_all (by rfl) T.b_all (by decide +kernel) (ja_cons (je_frz (jl_lc (own := [("part", 2)]) rfl nd (ji_seq (je_slice sl_all sls_all (je_var 0) (jo_some je_int) jo_none)) (blkOk_by (N := N_shaped) (sc := defScope s_shaped) (own := [("part", 2)]) (by decide +kernel)) (fun _ _ _ _ _ => (jg_name 2 nd)) (fun _ _ _ _ _ => jts_nil) (fun _ _ _ _ _ => (je_and (je_isi "tuple" (by rfl) T.b_isinstance (by decide +kernel) (by rfl) T.b_tuple (by decide +kernel) (je_var 2)) (je_one (je_call (ok).blk hr F_shaped (ja_cons (je_var 2) (ja_cons (je_bin op_sub ops_sub (je_var 1) je_int) ja_nil)))))))) ja_nil)))))))
abbrev s_count_parts : Stmt := topS 27
abbrev N_count_parts : List Str := ["tree", "part"]
theorem sc_count_parts : FnScope N_count_parts ["tree"] (defScope s_count_parts) := ⟨rfl, rfl, rfl, by decide +kernel, rfl, by decide +kernel, by decide +kernel⟩
theorem ok_count_parts {P : Program} {w : World} {K : PySem.W.Frag} {mg : Str → Option Value} {base : Heap} {cl : Str → Option Addr} (T : Tx K mg cl) {f : Addr} {fd : FuncData} (F : Fun K "count_parts" "count_parts" s_count_parts f fd) (hm : mg "count_parts" = some (.ref f)) (hk : PySem.W.keepIn K (.ref f) = true) : ∀ n, FnOk P w K mg base (L2.CX P w) (1 + n) f fd ["tree"] (spOf K cl (f_count_parts n))
  | 0 => fnok_no
  | n + 1 => fn_ok F sc_count_parts fun cdv A outer s H E hr ok => by
    have F_count_parts : FnAt P w K mg base cl (1 + n) "count_parts" ["tree"] (f_count_parts n) := ⟨⟨f, fd, hm, hk, F.binds (ps := ["tree"]) fun _ _ _ _ _ _ us hl => match us, hl with | [_], _ => rfl, ok_count_parts T F hm hk  n⟩⟩
    have nd : N_count_parts.Nodup := sc_count_parts.nd
    have hr1 := hr
    exact (jb_cons (js_if (jt_cmp (op_eqD hr.units) ops_eq (je_ix (ix_all (hu_of hr)) ops_ix (je_var 0) je_int) je_str) (jb_one (js_ret je_int)) jb_nil)
      (jb_one (js_ret (je_sum1 rfl (by rfl) T.b_sum (ja_cons (je_frz (jl_lc (own := [("part", 1)]) rfl nd (ji_seq (je_slice sl_all sls_all (je_var 0) (jo_some je_int) jo_none)) (blkOk_by (N := N_count_parts) (sc := defScope s_count_parts) (own := [("part", 1)]) (by decide +kernel)) (fun _ _ _ _ _ => (jg_name 1 nd)) (fun _ _ _ _ _ => jts_nil) (fun _ _ _ _ _ => (je_call (ok).blk hr F_count_parts (ja_cons (je_var 1) ja_nil))))) ja_nil)))))
abbrev s_is_tree : Stmt := topS 28
abbrev N_is_tree : List Str := ["tree"]
theorem sc_is_tree : FnScope N_is_tree ["tree"] (defScope s_is_tree) := ⟨rfl, rfl, rfl, by decide +kernel, rfl, by decide +kernel, by decide +kernel⟩
theorem ok_is_tree {P : Program} {w : World} {K : PySem.W.Frag} {mg : Str → Option Value} {base : Heap} {cl : Str → Option Addr} (T : Tx K mg cl) {f : Addr} {fd : FuncData} (F : Fun K "is_tree" "is_tree" s_is_tree f fd) (F_count_parts : FnAt P w K mg base cl 13 "count_parts" ["tree"] (f_count_parts 12)) (F_shaped : FnAt P w K mg base cl 14 "shaped" ["tree", "deep"] (f_shaped 12)) : FnOk P w K mg base (L2.CX P w) 15 f fd ["tree"] (spOf K cl f_is_tree) :=
  fn_ok F sc_is_tree fun cdv A outer s H E hr ok => by
    have F_count_parts := F_count_parts.mono (k := 14) (by decide)
    have F_shaped := F_shaped.mono (k := 14) (by decide)
    have nd : N_is_tree.Nodup := sc_is_tree.nd
    have hr1 := hr
    exact (jb_one (js_ret (je_and (je_call ok hr F_shaped (ja_cons (je_var 0) (ja_cons (je_globI' (by rfl) T.c_DEEPEST) ja_nil))) (je_one (je_cmp op_le ops_le (je_call ok hr F_count_parts (ja_cons (je_var 0) ja_nil)) (je_globI' (by rfl) T.c_MOST_PARTS))))))
abbrev s_good_drops : Stmt := topS 17
abbrev N_good_drops : List Str := ["drops", "drop"]
theorem sc_good_drops : FnScope N_good_drops ["drops"] (defScope s_good_drops) := ⟨rfl, rfl, rfl, by decide +kernel, rfl, by decide +kernel, by decide +kernel⟩
theorem ok_good_drops {P : Program} {w : World} {K : PySem.W.Frag} {mg : Str → Option Value} {base : Heap} {cl : Str → Option Addr} (T : Tx K mg cl) {f : Addr} {fd : FuncData} (F : Fun K "good_drops" "good_drops" s_good_drops f fd) : FnOk P w K mg base (L2.CX P w) 1 f fd ["drops"] (spOf K cl f_good_drops) :=
  fn_ok F sc_good_drops fun cdv A outer s H E hr ok => by
    have nd : N_good_drops.Nodup := sc_good_drops.nd
    have hr1 := hr
    exact (jb_one (js_ret (je_and (je_chain op_le op_le ops_le ops_le je_int (je_callB call_len calls_len (by rfl) T.b_len PySem.boot_len (ja_cons (je_var 0) ja_nil)) (je_globI' (by rfl) T.c_MOST_PLACES)) (je_one (je_callB (cr_all rfl) calls_all (by rfl) T.b_all (by decide +kernel) (ja_cons (je_frz (jl_lc (own := [("drop", 1)]) rfl nd (ji_seq (je_var 0)) (blkOk_by (N := N_good_drops) (sc := defScope s_good_drops) (own := [("drop", 1)]) (by decide +kernel)) (fun _ _ _ _ _ => (jg_name 1 nd)) (fun _ _ _ _ _ => jts_nil) (fun _ _ _ _ _ => (je_chain op_le op_le ops_le ops_le je_int (je_var 1) (je_globI' (by rfl) T.c_MOST_DROP))))) ja_nil))))))
abbrev s_good_foot : Stmt := topS 18
abbrev N_good_foot : List Str := ["drops", "middle"]
theorem sc_good_foot : FnScope N_good_foot ["drops", "middle"] (defScope s_good_foot) := ⟨rfl, rfl, rfl, by decide +kernel, rfl, by decide +kernel, by decide +kernel⟩
theorem ok_good_foot {P : Program} {w : World} {K : PySem.W.Frag} {mg : Str → Option Value} {base : Heap} {cl : Str → Option Addr} (T : Tx K mg cl) {f : Addr} {fd : FuncData} (F : Fun K "good_foot" "good_foot" s_good_foot f fd) (F_good_drops : FnAt P w K mg base cl 1 "good_drops" ["drops"] f_good_drops) : FnOk P w K mg base (L2.CX P w) 2 f fd ["drops", "middle"] (spOf K cl f_good_foot) :=
  fn_ok F sc_good_foot fun cdv A outer s H E hr ok => by
    have F_good_drops := F_good_drops.mono (k := 1) (by decide)
    have nd : N_good_foot.Nodup := sc_good_foot.nd
    have hr1 := hr
    exact (jb_one (js_ret (je_and (je_call ok hr F_good_drops (ja_cons (je_var 0) ja_nil)) (je_one (je_chain op_le op_lt ops_le ops_lt je_int (je_var 1) (je_callB call_len calls_len (by rfl) T.b_len PySem.boot_len (ja_cons (je_var 0) ja_nil)))))))
abbrev s_good_things : Stmt := topS 51
abbrev N_good_things : List Str := ["fact", "word"]
theorem sc_good_things : FnScope N_good_things ["fact"] (defScope s_good_things) := ⟨rfl, rfl, rfl, by decide +kernel, rfl, by decide +kernel, by decide +kernel⟩
theorem ok_good_things {P : Program} {w : World} {K : PySem.W.Frag} {mg : Str → Option Value} {base : Heap} {cl : Str → Option Addr} (T : Tx K mg cl) {f : Addr} {fd : FuncData} (F : Fun K "good_things" "good_things" s_good_things f fd) (F_good_foot : FnAt P w K mg base cl 2 "good_foot" ["drops", "middle"] f_good_foot) (F_good_mount : FnAt P w K mg base cl 1 "good_mount" ["fact"] f_good_mount) (F_is_rim : FnAt P w K mg base cl 1 "is_rim" ["row"] f_is_rim) (F_is_tree : FnAt P w K mg base cl 15 "is_tree" ["tree"] f_is_tree) : FnOk P w K mg base (L2.CX P w) 16 f fd ["fact"] (spOf K cl f_good_things) :=
  fn_ok F sc_good_things fun cdv A outer s H E hr ok => by
    have F_good_foot := F_good_foot.mono (k := 15) (by decide)
    have F_good_mount := F_good_mount.mono (k := 15) (by decide)
    have F_is_rim := F_is_rim.mono (k := 15) (by decide)
    have F_is_tree := F_is_tree.mono (k := 15) (by decide)
    have nd : N_good_things.Nodup := sc_good_things.nd
    have hr1 := hr
    exact (jb_cons (js_set 1 nd (je_ix (ix_all (hu_of hr)) ops_ix (je_var 0) je_int))
      (jb_cons (js_if (jt_cmp (op_eqD hr.units) ops_eq (je_var 1) je_str) (jb_one (js_ret (je_and (je_chain op_le op_le ops_le ops_le je_int (je_ix (ix_all (hu_of hr)) ops_ix (je_var 0) je_int) (je_globI' (by rfl) T.c_LAST_LEVER)) (je_one (je_call ok hr F_is_tree (ja_cons (je_ix (ix_all (hu_of hr)) ops_ix (je_var 0) je_int) ja_nil)))))) jb_nil)
      (jb_cons (js_if (jt_cmp (op_eqD hr.units) ops_eq (je_var 1) je_str) (jb_one (js_ret (je_and (je_chain op_le op_le ops_le ops_le je_int (je_ix (ix_all (hu_of hr)) ops_ix (je_var 0) je_int) (je_globI' (by rfl) T.c_LAST_FOLLOWER_facts)) (je_and (je_chain op_le op_le ops_le ops_le je_int (je_ix (ix_all (hu_of hr)) ops_ix (je_var 0) je_int) (je_globI' (by rfl) T.c_LAST_CAM)) (je_one (je_call ok hr F_good_foot (ja_cons (je_ix (ix_all (hu_of hr)) ops_ix (je_var 0) je_int) (ja_cons (je_ix (ix_all (hu_of hr)) ops_ix (je_var 0) je_int) ja_nil)))))))) jb_nil)
      (jb_cons (js_if (jt_not (jt_chain op_le op_le ops_le ops_le je_int (je_ix (ix_all (hu_of hr)) ops_ix (je_var 0) je_int) (je_globI' (by rfl) T.c_LAST_CAM))) (jb_one (js_ret je_bl)) jb_nil)
      (jb_cons (js_if (jt_cmp (op_eqD hr.units) ops_eq (je_var 1) je_str) (jb_one (js_ret (je_call ok hr F_is_rim (ja_cons (je_ix (ix_all (hu_of hr)) ops_ix (je_var 0) je_int) ja_nil)))) jb_nil)
      (jb_cons (js_if (jt_cmp (op_eqD hr.units) ops_eq (je_var 1) je_str) (jb_one (js_ret (je_chain op_le op_lt ops_le ops_lt je_int (je_ix (ix_all (hu_of hr)) ops_ix (je_var 0) je_int) (je_globI' (by rfl) T.c_MOST)))) jb_nil)
      (jb_one (js_ret (je_call ok hr F_good_mount (ja_cons (je_var 0) ja_nil))))))))))
abbrev s_need_fact : Stmt := topS 52
abbrev N_need_fact : List Str := ["fact"]
theorem sc_need_fact : FnScope N_need_fact ["fact"] (defScope s_need_fact) := ⟨rfl, rfl, rfl, by decide +kernel, rfl, by decide +kernel, by decide +kernel⟩
theorem ok_need_fact {P : Program} {w : World} {K : PySem.W.Frag} {mg : Str → Option Value} {base : Heap} {cl : Str → Option Addr} (T : Tx K mg cl) {f : Addr} {fd : FuncData} (F : Fun K "need_fact" "need_fact" s_need_fact f fd) (F_good_kinds : FnAt P w K mg base cl 3 "good_kinds" ["fact"] f_good_kinds) (F_good_things : FnAt P w K mg base cl 16 "good_things" ["fact"] f_good_things) (KD_LENGTHS : KdAt K w mg "LENGTHS" [("blank", 3), ("cut", 4), ("mount", 5), ("foot", 5), ("lever", 3)]) : FnOk P w K mg base (L2.CX P w) 17 f fd ["fact"] (spOf K cl f_need_fact) :=
  fn_ok F sc_need_fact fun cdv A outer s H E hr ok => by
    have F_good_kinds := F_good_kinds.mono (k := 16) (by decide)
    have F_good_things := F_good_things.mono (k := 16) (by decide)
    have nd : N_need_fact.Nodup := sc_need_fact.nd
    have hr1 := hr
    exact (jb_cons (js_if (jt_w (jw_or (jt_cmp (op_eqD hr.units) ops_eq (je_callB call_len calls_len (by rfl) T.b_len PySem.boot_len (ja_cons (je_var 0) ja_nil)) je_int) (jw_or (jt_not (jt_val (je_isi "str" (by rfl) T.b_isinstance (by decide +kernel) (by rfl) T.b_str (by decide +kernel) (je_ix (ix_all (hu_of hr)) ops_ix (je_var 0) je_int)))) (jw_or1 (jt_niKD (by rfl) KD_LENGTHS (je_ix (ix_all (hu_of hr)) ops_ix (je_var 0) je_int)))))) (jb_one (js_raise0 ok rfl T.e_BadFact)) jb_nil)
      (jb_one (js_if (jt_w (jw_or (jt_cmp (op_neD hr.units) ops_ne (je_callB call_len calls_len (by rfl) T.b_len PySem.boot_len (ja_cons (je_var 0) ja_nil)) (je_ixKD (by rfl) KD_LENGTHS (je_ix (ix_all (hu_of hr)) ops_ix (je_var 0) je_int))) (jw_or (jt_not (jt_val (je_call ok hr F_good_kinds (ja_cons (je_var 0) ja_nil)))) (jw_or1 (jt_not (jt_val (je_call ok hr F_good_things (ja_cons (je_var 0) ja_nil)))))))) (jb_one (js_raise0 ok rfl T.e_BadFact)) jb_nil)))
abbrev s_Hold_init : Stmt := inClass (topS 61) 0
abbrev N_Hold_init : List Str := ["self", "there", "many_told"]
theorem sc_Hold_init : FnScope N_Hold_init ["self", "there", "many_told"] (defScope s_Hold_init) := ⟨rfl, rfl, rfl, by decide +kernel, rfl, by decide +kernel, by decide +kernel⟩
theorem ok_Hold_init {P : Program} {w : World} {K : PySem.W.Frag} {mg : Str → Option Value} {base : Heap} {cl : Str → Option Addr} (T : Tx K mg cl) {f : Addr} {fd : FuncData} (F : Fun K "__init__" "Hold.__init__" s_Hold_init f fd) : FnOk P w K mg base (L2.CX P w) 1 f fd ["self", "there", "many_told"] (spOf K cl f_Hold_init) :=
  fn_ok F sc_Hold_init fun cdv A outer s H E hr ok => by
    have nd : N_Hold_init.Nodup := sc_Hold_init.nd
    have hr1 := hr
    exact (jb_cons (js_fld T.f_Hold_there (je_var 0) (je_var 1))
      (jb_one (js_fld T.f_Hold_many_told (je_var 0) (je_var 2))))
abbrev s_Workshop_go_on : Stmt := inClass (topS 62) 3
abbrev N_Workshop_go_on : List Str := ["self", "there", "many_told"]
theorem sc_Workshop_go_on : FnScope N_Workshop_go_on ["self", "there", "many_told"] (defScope s_Workshop_go_on) := ⟨rfl, rfl, rfl, by decide +kernel, rfl, by decide +kernel, by decide +kernel⟩
theorem ok_Workshop_go_on {P : Program} {w : World} {K : PySem.W.Frag} {mg : Str → Option Value} {base : Heap} {cl : Str → Option Addr} (T : Tx K mg cl) {f : Addr} {fd : FuncData} (F : Fun K "go_on" "Workshop.go_on" s_Workshop_go_on f fd) (C_Hold : ClsAt P w K mg base cl 1 "Hold" ["self", "there", "many_told"] f_Hold_init) : FnOk P w K mg base (L2.CX P w) 3 f fd ["self", "there", "many_told"] (spOf K cl f_Workshop_go_on) :=
  fn_ok F sc_Workshop_go_on fun cdv A outer s H E hr ok => by
    have C_Hold := C_Hold.mono (k := 1) (by decide)
    have nd : N_Workshop_go_on.Nodup := sc_Workshop_go_on.nd
    have hr1 := hr
    exact (jb_cons (js_appC (je_fld T.f_Workshop_times_kept (je_var 0)) (je_make ok hr C_Hold (ja_cons (je_var 1) (ja_cons (je_var 2) ja_nil))))
      (jb_one (js_fld T.f_Workshop_gone (je_var 0) (je_cell (jl_lst ja_nil)))))
abbrev s_Workshop_tell : Stmt := inClass (topS 62) 4
abbrev N_Workshop_tell : List Str := ["self", "fact", "here", "there"]
theorem sc_Workshop_tell : FnScope N_Workshop_tell ["self", "fact"] (defScope s_Workshop_tell) := ⟨rfl, rfl, rfl, by decide +kernel, rfl, by decide +kernel, by decide +kernel⟩
theorem ok_Workshop_tell {P : Program} {w : World} {K : PySem.W.Frag} {mg : Str → Option Value} {base : Heap} {cl : Str → Option Addr} (T : Tx K mg cl) {f : Addr} {fd : FuncData} (F : Fun K "tell" "Workshop.tell" s_Workshop_tell f fd) (F_need_fact : FnAt P w K mg base cl 17 "need_fact" ["fact"] f_need_fact) (M_Workshop_go_on : MethAt P w K mg base cl 3 "Workshop" "go_on" ["self", "there", "many_told"] f_Workshop_go_on) : FnOk P w K mg base (L2.CX P w) 18 f fd ["self", "fact"] (spOf K cl f_Workshop_tell) :=
  fn_ok F sc_Workshop_tell fun cdv A outer s H E hr ok => by
    have F_need_fact := F_need_fact.mono (k := 17) (by decide)
    have M_Workshop_go_on := M_Workshop_go_on.mono (k := 17) (by decide)
    have nd : N_Workshop_tell.Nodup := sc_Workshop_tell.nd
    have hr1 := hr
    exact (jb_cons (js_expr (je_call ok hr F_need_fact (ja_cons (je_var 1) ja_nil)))
      (jb_cons (js_set 2 nd (je_ix (ix_all (hu_of hr)) ops_ix (je_fld T.f_Workshop_times_kept (je_var 0)) (je_un un_neg uns_neg je_int)))
      (jb_cons (js_if (jt_cmp op_ge ops_ge (je_fld T.f_Hold_many_told (je_var 2)) (je_globI' (by rfl) T.c_MOST_TOLD)) (jb_one (js_raise0 ok rfl T.e_Full)) jb_nil)
      (jb_cons (js_setD 3 nd (jd_dictO (by rfl) T.b_dict (ja_cons (je_fld T.f_Hold_there (je_var 2)) ja_nil)))
      (jb_cons (js_setKO 3 (hr.mono (by decide)) (je_bin op_addAll ops_add (je_fld T.f_Hold_many_told (je_var 2)) je_int) (je_var 1))
      (jb_frzD 3 (jb_cons (js_expr (je_meth ok hr M_Workshop_go_on (je_var 0) (ja_cons (je_var 3) (ja_cons (je_bin op_addAll ops_add (je_fld T.f_Hold_many_told (je_var 2)) je_int) ja_nil))))
      (jb_one (js_ret (je_bin op_addAll ops_add (je_fld T.f_Hold_many_told (je_var 2)) je_int))))))))))
abbrev s_Workshop_fact_of : Stmt := inClass (topS 62) 5
abbrev N_Workshop_fact_of : List Str := ["self", "number", "there"]
theorem sc_Workshop_fact_of : FnScope N_Workshop_fact_of ["self", "number"] (defScope s_Workshop_fact_of) := ⟨rfl, rfl, rfl, by decide +kernel, rfl, by decide +kernel, by decide +kernel⟩
theorem ok_Workshop_fact_of {P : Program} {w : World} {K : PySem.W.Frag} {mg : Str → Option Value} {base : Heap} {cl : Str → Option Addr} (T : Tx K mg cl) {f : Addr} {fd : FuncData} (F : Fun K "fact_of" "Workshop.fact_of" s_Workshop_fact_of f fd) : FnOk P w K mg base (L2.CX P w) 1 f fd ["self", "number"] (spOf K cl f_Workshop_fact_of_2) :=
  fn_ok F sc_Workshop_fact_of fun cdv A outer s H E hr ok => by
    have nd : N_Workshop_fact_of.Nodup := sc_Workshop_fact_of.nd
    have hr1 := hr
    exact (jb_cons (js_set 2 nd (je_fld T.f_Hold_there (je_ix (ix_all (hu_of hr)) ops_ix (je_fld T.f_Workshop_times_kept (je_var 0)) (je_un un_neg uns_neg je_int))))
      (jb_cons (js_if (jt_cmp (op_niAll (hu_of hr)) (ops_in true) (je_var 1) (je_var 2)) (jb_one js_never) jb_nil)
      (jb_one (js_ret (je_ix (ix_all (hu_of hr)) ops_ix (je_var 2) (je_var 1))))))
abbrev s_Workshop_strike : Stmt := inClass (topS 62) 7
abbrev N_Workshop_strike : List Str := ["self", "number", "old", "here", "there"]
theorem sc_Workshop_strike : FnScope N_Workshop_strike ["self", "number"] (defScope s_Workshop_strike) := ⟨rfl, rfl, rfl, by decide +kernel, rfl, by decide +kernel, by decide +kernel⟩
theorem ok_Workshop_strike {P : Program} {w : World} {K : PySem.W.Frag} {mg : Str → Option Value} {base : Heap} {cl : Str → Option Addr} (T : Tx K mg cl) {f : Addr} {fd : FuncData} (F : Fun K "strike" "Workshop.strike" s_Workshop_strike f fd) (M_Workshop_fact_of : MethAt P w K mg base cl 1 "Workshop" "fact_of" ["self", "number"] f_Workshop_fact_of_2) (M_Workshop_go_on : MethAt P w K mg base cl 3 "Workshop" "go_on" ["self", "there", "many_told"] f_Workshop_go_on) : FnOk P w K mg base (L2.CX P w) 4 f fd ["self", "number"] (spOf K cl f_Workshop_strike_2) :=
  fn_ok F sc_Workshop_strike fun cdv A outer s H E hr ok => by
    have M_Workshop_fact_of := M_Workshop_fact_of.mono (k := 3) (by decide)
    have M_Workshop_go_on := M_Workshop_go_on.mono (k := 3) (by decide)
    have nd : N_Workshop_strike.Nodup := sc_Workshop_strike.nd
    have hr1 := hr
    exact (jb_cons (js_set 2 nd (je_meth ok hr M_Workshop_fact_of (je_var 0) (ja_cons (je_var 1) ja_nil)))
      (jb_cons (js_set 3 nd (je_ix (ix_all (hu_of hr)) ops_ix (je_fld T.f_Workshop_times_kept (je_var 0)) (je_un un_neg uns_neg je_int)))
      (jb_cons (js_setD 4 nd (jd_dictO (by rfl) T.b_dict (ja_cons (je_fld T.f_Hold_there (je_var 3)) ja_nil)))
      (jb_cons (js_popKO 4 (je_var 1))
      (jb_frzD 4 (jb_cons (js_expr (je_meth ok hr M_Workshop_go_on (je_var 0) (ja_cons (je_var 4) (ja_cons (je_fld T.f_Hold_many_told (je_var 3)) ja_nil))))
      (jb_one (js_ret (je_var 2)))))))))
abbrev s_v_law_drops : Stmt := topS 71
abbrev N_v_law_drops : List Str := ["_law_bag_here", "_law_count", "_law_wide", "_law_place"]
theorem sc_v_law_drops : FnScope N_v_law_drops ["_law_bag_here"] (defScope s_v_law_drops) := ⟨rfl, rfl, rfl, by decide +kernel, rfl, by decide +kernel, by decide +kernel⟩
theorem ok_v_law_drops {P : Program} {w : World} {K : PySem.W.Frag} {mg : Str → Option Value} {base : Heap} {cl : Str → Option Addr} (T : Tx K mg cl) {f : Addr} {fd : FuncData} (F : Fun K "_law_drops" "_law_drops" s_v_law_drops f fd) (F_v_law_pull : FnAt P w K mg base cl 1 "_law_pull" ["_law_bag_here", "_law_amount"] f_v_law_pull) : FnOk P w K mg base (L2.CX P w) 2 f fd ["_law_bag_here"] (spOf K cl f_v_law_drops) :=
  fn_ok F sc_v_law_drops fun cdv A outer s H E hr ok => by
    have F_v_law_pull := F_v_law_pull.mono (k := 1) (by decide)
    have nd : N_v_law_drops.Nodup := sc_v_law_drops.nd
    have hr1 := hr
    exact (jb_cons (js_set 1 nd (je_ix (ix_all (hu_of hr)) ops_ix (je_frz (jl_lst (ja_cons je_int (ja_cons je_int (ja_cons je_int (ja_cons (je_bin op_addAll ops_add je_int (je_call ok hr F_v_law_pull (ja_cons (je_var 0) (ja_cons je_int ja_nil)))) (ja_cons je_int ja_nil))))))) (je_call ok hr F_v_law_pull (ja_cons (je_var 0) (ja_cons je_int ja_nil)))))
      (jb_cons (js_set 2 nd (je_ix (ix_all (hu_of hr)) ops_ix (je_frz (jl_lst (ja_cons je_int (ja_cons je_int (ja_cons je_int (ja_cons je_int ja_nil)))))) (je_call ok hr F_v_law_pull (ja_cons (je_var 0) (ja_cons je_int ja_nil)))))
      (jb_one (js_ret (je_callTy call_tuple_of calls_tuple (by rfl) T.b_tuple (by decide +kernel) (ja_cons (je_frz (jl_lc (own := [("_law_place", 3)]) rfl nd (ji_rng1 (by rfl) T.b_range (ja_cons (je_var 1) ja_nil)) (blkOk_by (N := N_v_law_drops) (sc := defScope s_v_law_drops) (own := [("_law_place", 3)]) (by decide +kernel)) (fun _ _ _ _ _ => (jg_name 3 nd)) (fun _ _ _ _ _ => jts_nil) (fun _ _ _ _ _ => (je_call (ok).blk hr F_v_law_pull (ja_cons (je_var 0) (ja_cons (je_var 2) ja_nil)))))) ja_nil))))))
abbrev s_v_law_pair : Stmt := topS 72
abbrev N_v_law_pair : List Str := ["_law_bag_here", "_law_drops_here"]
theorem sc_v_law_pair : FnScope N_v_law_pair ["_law_bag_here"] (defScope s_v_law_pair) := ⟨rfl, rfl, rfl, by decide +kernel, rfl, by decide +kernel, by decide +kernel⟩
theorem ok_v_law_pair {P : Program} {w : World} {K : PySem.W.Frag} {mg : Str → Option Value} {base : Heap} {cl : Str → Option Addr} (T : Tx K mg cl) {f : Addr} {fd : FuncData} (F : Fun K "_law_pair" "_law_pair" s_v_law_pair f fd) (F_v_law_drops : FnAt P w K mg base cl 2 "_law_drops" ["_law_bag_here"] f_v_law_drops) (F_v_law_pull : FnAt P w K mg base cl 1 "_law_pull" ["_law_bag_here", "_law_amount"] f_v_law_pull) : FnOk P w K mg base (L2.CX P w) 3 f fd ["_law_bag_here"] (spOf K cl f_v_law_pair) :=
  fn_ok F sc_v_law_pair fun cdv A outer s H E hr ok => by
    have F_v_law_drops := F_v_law_drops.mono (k := 2) (by decide)
    have F_v_law_pull := F_v_law_pull.mono (k := 2) (by decide)
    have nd : N_v_law_pair.Nodup := sc_v_law_pair.nd
    have hr1 := hr
    exact (jb_cons (js_set 1 nd (je_call ok hr F_v_law_drops (ja_cons (je_var 0) ja_nil)))
      (jb_one (js_ret (je_tup (ja_cons (je_var 1) (ja_cons (je_call ok hr F_v_law_pull (ja_cons (je_var 0) (ja_cons (je_callB call_len calls_len (by rfl) T.b_len PySem.boot_len (ja_cons (je_var 1) ja_nil)) ja_nil))) ja_nil))))))
abbrev s_v_law_tree : Stmt := topS 74
abbrev N_v_law_tree : List Str := ["_law_bag_here", "_law_deep_here", "_law_way"]
theorem sc_v_law_tree : FnScope N_v_law_tree ["_law_bag_here", "_law_deep_here"] (defScope s_v_law_tree) := ⟨rfl, rfl, rfl, by decide +kernel, rfl, by decide +kernel, by decide +kernel⟩
theorem ok_v_law_tree {P : Program} {w : World} {K : PySem.W.Frag} {mg : Str → Option Value} {base : Heap} {cl : Str → Option Addr} (T : Tx K mg cl) {f : Addr} {fd : FuncData} (F : Fun K "_law_tree" "_law_tree" s_v_law_tree f fd) (hm : mg "_law_tree" = some (.ref f)) (hk : PySem.W.keepIn K (.ref f) = true) (F_v_law_pull : FnAt P w K mg base cl 1 "_law_pull" ["_law_bag_here", "_law_amount"] f_v_law_pull) : ∀ n, FnOk P w K mg base (L2.CX P w) (2 + n) f fd ["_law_bag_here", "_law_deep_here"] (spOf K cl (f_v_law_tree n))
  | 0 => fnok_no
  | n + 1 => fn_ok F sc_v_law_tree fun cdv A outer s H E hr ok => by
    have F_v_law_tree : FnAt P w K mg base cl (2 + n) "_law_tree" ["_law_bag_here", "_law_deep_here"] (f_v_law_tree n) := ⟨⟨f, fd, hm, hk, F.binds (ps := ["_law_bag_here", "_law_deep_here"]) fun _ _ _ _ _ _ us hl => match us, hl with | [_, _], _ => rfl, ok_v_law_tree T F hm hk F_v_law_pull n⟩⟩
    have F_v_law_pull := F_v_law_pull.mono (k := 2 + n) (by omega)
    have nd : N_v_law_tree.Nodup := sc_v_law_tree.nd
    have hr1 := hr
    exact (jb_cons (js_set 2 nd (je_call ok hr F_v_law_pull (ja_cons (je_var 0) (ja_cons je_int ja_nil))))
      (jb_cons (js_if (jt_w (jw_or (jt_cmp op_lt ops_lt (je_var 1) je_int) (jw_or1 (jt_cmp op_lt ops_lt (je_var 2) je_int)))) (jb_one (js_ret (je_tup (ja_cons je_str (ja_cons (je_call ok hr F_v_law_pull (ja_cons (je_var 0) (ja_cons je_int ja_nil))) ja_nil))))) jb_nil)
      (jb_cons (js_if (jt_cmp op_lt ops_lt (je_var 2) je_int) (jb_one (js_ret (je_tup (ja_cons je_str (ja_cons (je_call ok hr F_v_law_tree (ja_cons (je_var 0) (ja_cons (je_bin op_sub ops_sub (je_var 1) je_int) ja_nil))) ja_nil))))) jb_nil)
      (jb_one (js_ret (je_tup (ja_cons (je_ix (ix_all (hu_of hr)) ops_ix (je_frz (jl_lst (ja_cons je_str (ja_cons je_str (ja_cons je_str ja_nil))))) (je_bin op_sub ops_sub (je_var 2) je_int)) (ja_cons (je_call ok hr F_v_law_tree (ja_cons (je_var 0) (ja_cons (je_bin op_sub ops_sub (je_var 1) je_int) ja_nil))) (ja_cons (je_call ok hr F_v_law_tree (ja_cons (je_var 0) (ja_cons (je_bin op_sub ops_sub (je_var 1) je_int) ja_nil))) ja_nil)))))))))
abbrev s_v_law_full_tree : Stmt := topS 79
abbrev N_v_law_full_tree : List Str := ["_law_bag_here", "_law_deep_here"]
theorem sc_v_law_full_tree : FnScope N_v_law_full_tree ["_law_bag_here", "_law_deep_here"] (defScope s_v_law_full_tree) := ⟨rfl, rfl, rfl, by decide +kernel, rfl, by decide +kernel, by decide +kernel⟩
theorem ok_v_law_full_tree {P : Program} {w : World} {K : PySem.W.Frag} {mg : Str → Option Value} {base : Heap} {cl : Str → Option Addr} (T : Tx K mg cl) {f : Addr} {fd : FuncData} (F : Fun K "_law_full_tree" "_law_full_tree" s_v_law_full_tree f fd) (hm : mg "_law_full_tree" = some (.ref f)) (hk : PySem.W.keepIn K (.ref f) = true) (F_v_law_pull : FnAt P w K mg base cl 1 "_law_pull" ["_law_bag_here", "_law_amount"] f_v_law_pull) : ∀ n, FnOk P w K mg base (L2.CX P w) (2 + n) f fd ["_law_bag_here", "_law_deep_here"] (spOf K cl (f_v_law_full_tree n))
  | 0 => fnok_no
  | n + 1 => fn_ok F sc_v_law_full_tree fun cdv A outer s H E hr ok => by
    have F_v_law_full_tree : FnAt P w K mg base cl (2 + n) "_law_full_tree" ["_law_bag_here", "_law_deep_here"] (f_v_law_full_tree n) := ⟨⟨f, fd, hm, hk, F.binds (ps := ["_law_bag_here", "_law_deep_here"]) fun _ _ _ _ _ _ us hl => match us, hl with | [_, _], _ => rfl, ok_v_law_full_tree T F hm hk F_v_law_pull n⟩⟩
    have F_v_law_pull := F_v_law_pull.mono (k := 2 + n) (by omega)
    have nd : N_v_law_full_tree.Nodup := sc_v_law_full_tree.nd
    have hr1 := hr
    exact (jb_cons (js_if (jt_cmp op_lt ops_lt (je_var 1) je_int) (jb_one (js_ret (je_tup (ja_cons je_str (ja_cons (je_call ok hr F_v_law_pull (ja_cons (je_var 0) (ja_cons je_int ja_nil))) ja_nil))))) jb_nil)
      (jb_one (js_ret (je_tup (ja_cons (je_ix (ix_all (hu_of hr)) ops_ix (je_frz (jl_lst (ja_cons je_str (ja_cons je_str ja_nil)))) (je_call ok hr F_v_law_pull (ja_cons (je_var 0) (ja_cons je_int ja_nil)))) (ja_cons (je_call ok hr F_v_law_full_tree (ja_cons (je_var 0) (ja_cons (je_bin op_sub ops_sub (je_var 1) je_int) ja_nil))) (ja_cons (je_call ok hr F_v_law_full_tree (ja_cons (je_var 0) (ja_cons (je_bin op_sub ops_sub (je_var 1) je_int) ja_nil))) ja_nil)))))))
abbrev s_v_law_num : Stmt := topS 66
abbrev N_v_law_num : List Str := ["_law_found"]
theorem sc_v_law_num : FnScope N_v_law_num ["_law_found"] (defScope s_v_law_num) := ⟨rfl, rfl, rfl, by decide +kernel, rfl, by decide +kernel, by decide +kernel⟩
theorem ok_v_law_num {P : Program} {w : World} {K : PySem.W.Frag} {mg : Str → Option Value} {base : Heap} {cl : Str → Option Addr} (T : Tx K mg cl) {f : Addr} {fd : FuncData} (F : Fun K "_law_num" "_law_num" s_v_law_num f fd) : FnOk P w K mg base (L2.CX P w) 1 f fd ["_law_found"] (spOf K cl f_v_law_num) :=
  fn_ok F sc_v_law_num fun cdv A outer s H E hr ok => by
    have nd : N_v_law_num.Nodup := sc_v_law_num.nd
    have hr1 := hr
    exact (jb_one (js_ret (je_and (je_isi "int" (by rfl) T.b_isinstance (by decide +kernel) (by rfl) T.b_int (by decide +kernel) (je_var 0)) (je_one (je_not (je_isi "bool" (by rfl) T.b_isinstance (by decide +kernel) (by rfl) T.b_bool (by decide +kernel) (je_var 0)))))))
abbrev s_v_law_tree_ok : Stmt := topS 77
abbrev N_v_law_tree_ok : List Str := ["_law_tree_here", "_law_kinds", "_law_part"]
theorem sc_v_law_tree_ok : FnScope N_v_law_tree_ok ["_law_tree_here"] (defScope s_v_law_tree_ok) := ⟨rfl, rfl, rfl, by decide +kernel, rfl, by decide +kernel, by decide +kernel⟩
theorem ok_v_law_tree_ok {P : Program} {w : World} {K : PySem.W.Frag} {mg : Str → Option Value} {base : Heap} {cl : Str → Option Addr} (T : Tx K mg cl) {f : Addr} {fd : FuncData} (F : Fun K "_law_tree_ok" "_law_tree_ok" s_v_law_tree_ok f fd) (hm : mg "_law_tree_ok" = some (.ref f)) (hk : PySem.W.keepIn K (.ref f) = true) (F_v_law_num : FnAt P w K mg base cl 1 "_law_num" ["_law_found"] f_v_law_num) : ∀ n, FnOk P w K mg base (L2.CX P w) (2 + n) f fd ["_law_tree_here"] (spOf K cl (f_v_law_tree_ok n))
  | 0 => fnok_no
  | n + 1 => fn_ok F sc_v_law_tree_ok fun cdv A outer s H E hr ok => by
    have F_v_law_tree_ok : FnAt P w K mg base cl (2 + n) "_law_tree_ok" ["_law_tree_here"] (f_v_law_tree_ok n) := ⟨⟨f, fd, hm, hk, F.binds (ps := ["_law_tree_here"]) fun _ _ _ _ _ _ us hl => match us, hl with | [_], _ => rfl, ok_v_law_tree_ok T F hm hk F_v_law_num n⟩⟩
    have F_v_law_num := F_v_law_num.mono (k := 2 + n) (by omega)
    have nd : N_v_law_tree_ok.Nodup := sc_v_law_tree_ok.nd
    have hr1 := hr
    exact (jb_cons (js_set 1 nd (je_dicI (.cons (.cons (.cons (.cons .nil))))))
      (jb_cons (js_if (jt_w (jw_or (jt_cmp (op_eqD hr.units) ops_eq (je_callB call_len calls_len (by rfl) T.b_len PySem.boot_len (ja_cons (je_var 0) ja_nil)) je_int) (jw_or (jt_cmp (op_niAll (hu_of hr)) (ops_in true) (je_ix (ix_all (hu_of hr)) ops_ix (je_var 0) je_int) (je_var 1)) (jw_or1 (jt_cmp (op_neD hr.units) ops_ne (je_callB call_len calls_len (by rfl) T.b_len PySem.boot_len (ja_cons (je_var 0) ja_nil)) (je_bin op_addAll ops_add je_int (je_ix (ix_all (hu_of hr)) ops_ix (je_var 1) (je_ix (ix_all (hu_of hr)) ops_ix (je_var 0) je_int)))))))) (jb_one (js_ret je_bl)) jb_nil)
      (jb_cons (js_if (jt_cmp (op_eqD hr.units) ops_eq (je_ix (ix_all (hu_of hr)) ops_ix (je_var 0) je_int) je_str) (jb_one (js_ret (je_and (je_call ok hr F_v_law_num (ja_cons (je_ix (ix_all (hu_of hr)) ops_ix (je_var 0) je_int) ja_nil)) (je_one (je_chain op_le op_le ops_le ops_le je_int (je_ix (ix_all (hu_of hr)) ops_ix (je_var 0) je_int) je_int))))) jb_nil)
      (jb_one (js_ret (je_callB (cr_all rfl) calls_all (by rfl) T.b_all (by decide +kernel) (ja_cons (je_frz (jl_lc (own := [("_law_part", 2)]) rfl nd (ji_seq (je_slice sl_all sls_all (je_var 0) (jo_some je_int) jo_none)) (blkOk_by (N := N_v_law_tree_ok) (sc := defScope s_v_law_tree_ok) (own := [("_law_part", 2)]) (by decide +kernel)) (fun _ _ _ _ _ => (jg_name 2 nd)) (fun _ _ _ _ _ => jts_nil) (fun _ _ _ _ _ => (je_and (je_isi "tuple" (by rfl) T.b_isinstance (by decide +kernel) (by rfl) T.b_tuple (by decide +kernel) (je_var 2)) (je_one (je_call (ok).blk hr F_v_law_tree_ok (ja_cons (je_var 2) ja_nil))))))) ja_nil)))))))
abbrev s_v_law_deep : Stmt := topS 75
abbrev N_v_law_deep : List Str := ["_law_tree_here", "_law_part"]
theorem sc_v_law_deep : FnScope N_v_law_deep ["_law_tree_here"] (defScope s_v_law_deep) := ⟨rfl, rfl, rfl, by decide +kernel, rfl, by decide +kernel, by decide +kernel⟩
theorem ok_v_law_deep {P : Program} {w : World} {K : PySem.W.Frag} {mg : Str → Option Value} {base : Heap} {cl : Str → Option Addr} (T : Tx K mg cl) {f : Addr} {fd : FuncData} (F : Fun K "_law_deep" "_law_deep" s_v_law_deep f fd) (hm : mg "_law_deep" = some (.ref f)) (hk : PySem.W.keepIn K (.ref f) = true) : ∀ n, FnOk P w K mg base (L2.CX P w) (1 + n) f fd ["_law_tree_here"] (spOf K cl (f_v_law_deep n))
  | 0 => fnok_no
  | n + 1 => fn_ok F sc_v_law_deep fun cdv A outer s H E hr ok => by
    have F_v_law_deep : FnAt P w K mg base cl (1 + n) "_law_deep" ["_law_tree_here"] (f_v_law_deep n) := ⟨⟨f, fd, hm, hk, F.binds (ps := ["_law_tree_here"]) fun _ _ _ _ _ _ us hl => match us, hl with | [_], _ => rfl, ok_v_law_deep T F hm hk  n⟩⟩
    have nd : N_v_law_deep.Nodup := sc_v_law_deep.nd
    have hr1 := hr
    exact (jb_cons (js_if (jt_cmp (op_eqD hr.units) ops_eq (je_ix (ix_all (hu_of hr)) ops_ix (je_var 0) je_int) je_str) (jb_one (js_ret je_int)) jb_nil)
      (jb_one (js_ret (je_bin op_addAll ops_add je_int (je_callB (cr_max rfl) calls_maxL (by rfl) T.b_max PyProof.Rows.boot_max (ja_cons (je_frz (jl_lc (own := [("_law_part", 1)]) rfl nd (ji_seq (je_slice sl_all sls_all (je_var 0) (jo_some je_int) jo_none)) (blkOk_by (N := N_v_law_deep) (sc := defScope s_v_law_deep) (own := [("_law_part", 1)]) (by decide +kernel)) (fun _ _ _ _ _ => (jg_name 1 nd)) (fun _ _ _ _ _ => jts_nil) (fun _ _ _ _ _ => (je_call (ok).blk hr F_v_law_deep (ja_cons (je_var 1) ja_nil))))) ja_nil))))))
abbrev s_v_law_parts : Stmt := topS 76
abbrev N_v_law_parts : List Str := ["_law_tree_here", "_law_part"]
theorem sc_v_law_parts : FnScope N_v_law_parts ["_law_tree_here"] (defScope s_v_law_parts) := ⟨rfl, rfl, rfl, by decide +kernel, rfl, by decide +kernel, by decide +kernel⟩
theorem ok_v_law_parts {P : Program} {w : World} {K : PySem.W.Frag} {mg : Str → Option Value} {base : Heap} {cl : Str → Option Addr} (T : Tx K mg cl) {f : Addr} {fd : FuncData} (F : Fun K "_law_parts" "_law_parts" s_v_law_parts f fd) (hm : mg "_law_parts" = some (.ref f)) (hk : PySem.W.keepIn K (.ref f) = true) : ∀ n, FnOk P w K mg base (L2.CX P w) (1 + n) f fd ["_law_tree_here"] (spOf K cl (f_v_law_parts n))
  | 0 => fnok_no
  | n + 1 => fn_ok F sc_v_law_parts fun cdv A outer s H E hr ok => by
    have F_v_law_parts : FnAt P w K mg base cl (1 + n) "_law_parts" ["_law_tree_here"] (f_v_law_parts n) := ⟨⟨f, fd, hm, hk, F.binds (ps := ["_law_tree_here"]) fun _ _ _ _ _ _ us hl => match us, hl with | [_], _ => rfl, ok_v_law_parts T F hm hk  n⟩⟩
    have nd : N_v_law_parts.Nodup := sc_v_law_parts.nd
    have hr1 := hr
    exact (jb_cons (js_if (jt_cmp (op_eqD hr.units) ops_eq (je_ix (ix_all (hu_of hr)) ops_ix (je_var 0) je_int) je_str) (jb_one (js_ret je_int)) jb_nil)
      (jb_one (js_ret (je_bin op_addAll ops_add je_int (je_callB (cr_sum rfl) calls_sum (by rfl) T.b_sum (by decide +kernel) (ja_cons (je_frz (jl_lc (own := [("_law_part", 1)]) rfl nd (ji_seq (je_slice sl_all sls_all (je_var 0) (jo_some je_int) jo_none)) (blkOk_by (N := N_v_law_parts) (sc := defScope s_v_law_parts) (own := [("_law_part", 1)]) (by decide +kernel)) (fun _ _ _ _ _ => (jg_name 1 nd)) (fun _ _ _ _ _ => jts_nil) (fun _ _ _ _ _ => (je_call (ok).blk hr F_v_law_parts (ja_cons (je_var 1) ja_nil))))) ja_nil))))))
abbrev s_v_law_good_tree : Stmt := topS 78
abbrev N_v_law_good_tree : List Str := ["_law_tree_here"]
theorem sc_v_law_good_tree : FnScope N_v_law_good_tree ["_law_tree_here"] (defScope s_v_law_good_tree) := ⟨rfl, rfl, rfl, by decide +kernel, rfl, by decide +kernel, by decide +kernel⟩
theorem ok_v_law_good_tree {P : Program} {w : World} {K : PySem.W.Frag} {mg : Str → Option Value} {base : Heap} {cl : Str → Option Addr} (T : Tx K mg cl) {f : Addr} {fd : FuncData} (F : Fun K "_law_good_tree" "_law_good_tree" s_v_law_good_tree f fd) (F_v_law_deep : FnAt P w K mg base cl 13 "_law_deep" ["_law_tree_here"] (f_v_law_deep 12)) (F_v_law_parts : FnAt P w K mg base cl 13 "_law_parts" ["_law_tree_here"] (f_v_law_parts 12)) (F_v_law_tree_ok : FnAt P w K mg base cl 14 "_law_tree_ok" ["_law_tree_here"] (f_v_law_tree_ok 12)) : FnOk P w K mg base (L2.CX P w) 15 f fd ["_law_tree_here"] (spOf K cl f_v_law_good_tree) :=
  fn_ok F sc_v_law_good_tree fun cdv A outer s H E hr ok => by
    have F_v_law_deep := F_v_law_deep.mono (k := 14) (by decide)
    have F_v_law_parts := F_v_law_parts.mono (k := 14) (by decide)
    have F_v_law_tree_ok := F_v_law_tree_ok.mono (k := 14) (by decide)
    have nd : N_v_law_good_tree.Nodup := sc_v_law_good_tree.nd
    have hr1 := hr
    exact (jb_one (js_ret (je_and (je_call ok hr F_v_law_tree_ok (ja_cons (je_var 0) ja_nil)) (je_and (je_cmp op_le ops_le (je_call ok hr F_v_law_deep (ja_cons (je_var 0) ja_nil)) je_int) (je_one (je_cmp op_le ops_le (je_call ok hr F_v_law_parts (ja_cons (je_var 0) ja_nil)) je_int))))))
abbrev s_v_law_small_tree : Stmt := topS 80
abbrev N_v_law_small_tree : List Str := ["_law_bag_here", "_law_tree_here"]
theorem sc_v_law_small_tree : FnScope N_v_law_small_tree ["_law_bag_here"] (defScope s_v_law_small_tree) := ⟨rfl, rfl, rfl, by decide +kernel, rfl, by decide +kernel, by decide +kernel⟩
theorem ok_v_law_small_tree {P : Program} {w : World} {K : PySem.W.Frag} {mg : Str → Option Value} {base : Heap} {cl : Str → Option Addr} (T : Tx K mg cl) {f : Addr} {fd : FuncData} (F : Fun K "_law_small_tree" "_law_small_tree" s_v_law_small_tree f fd) (F_v_law_full_tree : FnAt P w K mg base cl 14 "_law_full_tree" ["_law_bag_here", "_law_deep_here"] (f_v_law_full_tree 12)) (F_v_law_good_tree : FnAt P w K mg base cl 15 "_law_good_tree" ["_law_tree_here"] f_v_law_good_tree) (F_v_law_pull : FnAt P w K mg base cl 1 "_law_pull" ["_law_bag_here", "_law_amount"] f_v_law_pull) (F_v_law_tree : FnAt P w K mg base cl 14 "_law_tree" ["_law_bag_here", "_law_deep_here"] (f_v_law_tree 12)) : FnOk P w K mg base (L2.CX P w) 16 f fd ["_law_bag_here"] (spOf K cl f_v_law_small_tree) :=
  fn_ok F sc_v_law_small_tree fun cdv A outer s H E hr ok => by
    have F_v_law_full_tree := F_v_law_full_tree.mono (k := 15) (by decide)
    have F_v_law_good_tree := F_v_law_good_tree.mono (k := 15) (by decide)
    have F_v_law_pull := F_v_law_pull.mono (k := 15) (by decide)
    have F_v_law_tree := F_v_law_tree.mono (k := 15) (by decide)
    have nd : N_v_law_small_tree.Nodup := sc_v_law_small_tree.nd
    have hr1 := hr
    exact (jb_cons (js_if (jt_cmp (op_eqD hr.units) ops_eq (je_call ok hr F_v_law_pull (ja_cons (je_var 0) (ja_cons je_int ja_nil))) je_int) (jb_one (js_ret (je_call ok hr F_v_law_full_tree (ja_cons (je_var 0) (ja_cons je_int ja_nil))))) jb_nil)
      (jb_cons (js_set 1 nd (je_call ok hr F_v_law_tree (ja_cons (je_var 0) (ja_cons (je_bin op_addAll ops_add je_int (je_call ok hr F_v_law_pull (ja_cons (je_var 0) (ja_cons je_int ja_nil)))) ja_nil))))
      (jb_one (js_ret (je_if (jt_val (je_call ok hr F_v_law_good_tree (ja_cons (je_var 1) ja_nil))) (je_var 1) (je_tup (ja_cons je_str (ja_cons (je_tup (ja_cons je_str (ja_cons (je_call ok hr F_v_law_pull (ja_cons (je_var 0) (ja_cons je_int ja_nil))) ja_nil))) ja_nil))))))))
abbrev s_v_law_height : Stmt := topS 69
abbrev N_v_law_height : List Str := ["_law_bag_here"]
theorem sc_v_law_height : FnScope N_v_law_height ["_law_bag_here"] (defScope s_v_law_height) := ⟨rfl, rfl, rfl, by decide +kernel, rfl, by decide +kernel, by decide +kernel⟩
theorem ok_v_law_height {P : Program} {w : World} {K : PySem.W.Frag} {mg : Str → Option Value} {base : Heap} {cl : Str → Option Addr} (T : Tx K mg cl) {f : Addr} {fd : FuncData} (F : Fun K "_law_height" "_law_height" s_v_law_height f fd) (F_v_law_far : FnAt P w K mg base cl 2 "_law_far" ["_law_bag_here"] f_v_law_far) (F_v_law_pull : FnAt P w K mg base cl 1 "_law_pull" ["_law_bag_here", "_law_amount"] f_v_law_pull) : FnOk P w K mg base (L2.CX P w) 3 f fd ["_law_bag_here"] (spOf K cl f_v_law_height) :=
  fn_ok F sc_v_law_height fun cdv A outer s H E hr ok => by
    have F_v_law_far := F_v_law_far.mono (k := 2) (by decide)
    have F_v_law_pull := F_v_law_pull.mono (k := 2) (by decide)
    have nd : N_v_law_height.Nodup := sc_v_law_height.nd
    have hr1 := hr
    exact (jb_one (js_ret (je_ix (ix_all (hu_of hr)) ops_ix (je_frz (jl_lst (ja_cons (je_call ok hr F_v_law_pull (ja_cons (je_var 0) (ja_cons je_int ja_nil))) (ja_cons (je_call ok hr F_v_law_pull (ja_cons (je_var 0) (ja_cons je_int ja_nil))) (ja_cons (je_bin op_sub ops_sub (je_call ok hr F_v_law_pull (ja_cons (je_var 0) (ja_cons je_int ja_nil))) je_int) (ja_cons (je_call ok hr F_v_law_far (ja_cons (je_var 0) ja_nil)) ja_nil)))))) (je_bin op_modN ops_mod (je_bin op_fdivN ops_div (je_call ok hr F_v_law_pull (ja_cons (je_var 0) (ja_cons je_int ja_nil))) je_int) je_int))))
abbrev s_v_law_rim : Stmt := topS 70
abbrev N_v_law_rim : List Str := ["_law_bag_here", "_law_most", "_law_size", "_law_kind", "_law_wide", "_law_cell"]
theorem sc_v_law_rim : FnScope N_v_law_rim ["_law_bag_here", "_law_most"] (defScope s_v_law_rim) := ⟨rfl, rfl, rfl, by decide +kernel, rfl, by decide +kernel, by decide +kernel⟩
theorem ok_v_law_rim {P : Program} {w : World} {K : PySem.W.Frag} {mg : Str → Option Value} {base : Heap} {cl : Str → Option Addr} (T : Tx K mg cl) {f : Addr} {fd : FuncData} (F : Fun K "_law_rim" "_law_rim" s_v_law_rim f fd) (F_v_law_height : FnAt P w K mg base cl 3 "_law_height" ["_law_bag_here"] f_v_law_height) (F_v_law_pull : FnAt P w K mg base cl 1 "_law_pull" ["_law_bag_here", "_law_amount"] f_v_law_pull) : FnOk P w K mg base (L2.CX P w) 4 f fd ["_law_bag_here", "_law_most"] (spOf K cl f_v_law_rim) :=
  fn_ok F sc_v_law_rim fun cdv A outer s H E hr ok => by
    have F_v_law_height := F_v_law_height.mono (k := 3) (by decide)
    have F_v_law_pull := F_v_law_pull.mono (k := 3) (by decide)
    have nd : N_v_law_rim.Nodup := sc_v_law_rim.nd
    have hr1 := hr
    exact (jb_cons (js_set 2 nd (je_bin op_addAll ops_add je_int (je_call ok hr F_v_law_pull (ja_cons (je_var 0) (ja_cons (je_bin op_sub ops_sub (je_var 1) je_int) ja_nil)))))
      (jb_cons (js_if (jt_cmp (op_eqD hr.units) ops_eq (je_call ok hr F_v_law_pull (ja_cons (je_var 0) (ja_cons je_int ja_nil))) je_int) (jb_one (js_set 2 nd (je_var 1))) jb_nil)
      (jb_cons (js_set 3 nd (je_call ok hr F_v_law_pull (ja_cons (je_var 0) (ja_cons je_int ja_nil))))
      (jb_cons (js_set 4 nd (je_ix (ix_all (hu_of hr)) ops_ix (je_frz (jl_lst (ja_cons je_int (ja_cons je_int (ja_cons je_int (ja_cons je_int ja_nil)))))) (je_call ok hr F_v_law_pull (ja_cons (je_var 0) (ja_cons je_int ja_nil)))))
      (jb_cons (js_if (jt_cmp (op_eqD hr.units) ops_eq (je_var 3) je_int) (jb_one (js_ret (je_callTy call_tuple_of calls_tuple (by rfl) T.b_tuple (by decide +kernel) (ja_cons (je_frz (jl_lc (own := [("_law_cell", 5)]) rfl nd (ji_rng1 (by rfl) T.b_range (ja_cons (je_var 2) ja_nil)) (blkOk_by (N := N_v_law_rim) (sc := defScope s_v_law_rim) (own := [("_law_cell", 5)]) (by decide +kernel)) (fun _ _ _ _ _ => (jg_name 5 nd)) (fun _ _ _ _ _ => jts_nil) (fun _ _ _ _ _ => (je_call (ok).blk hr F_v_law_height (ja_cons (je_var 0) ja_nil))))) ja_nil)))) jb_nil)
      (jb_cons (js_if (jt_cmp (op_eqD hr.units) ops_eq (je_var 3) je_int) (jb_one (js_ret (je_callTy call_tuple_of calls_tuple (by rfl) T.b_tuple (by decide +kernel) (ja_cons (je_frz (jl_lc (own := [("_law_cell", 5)]) rfl nd (ji_rng1 (by rfl) T.b_range (ja_cons (je_var 2) ja_nil)) (blkOk_by (N := N_v_law_rim) (sc := defScope s_v_law_rim) (own := [("_law_cell", 5)]) (by decide +kernel)) (fun _ _ _ _ _ => (jg_name 5 nd)) (fun _ _ _ _ _ => jts_nil) (fun _ _ _ _ _ => je_int))) ja_nil)))) jb_nil)
      (jb_one (js_ret (je_callTy call_tuple_of calls_tuple (by rfl) T.b_tuple (by decide +kernel) (ja_cons (je_frz (jl_lc (own := [("_law_cell", 5)]) rfl nd (ji_rng1 (by rfl) T.b_range (ja_cons (je_var 2) ja_nil)) (blkOk_by (N := N_v_law_rim) (sc := defScope s_v_law_rim) (own := [("_law_cell", 5)]) (by decide +kernel)) (fun _ _ _ _ _ => (jg_name 5 nd)) (fun _ _ _ _ _ => jts_nil) (fun _ _ _ _ _ => (je_call (ok).blk hr F_v_law_pull (ja_cons (je_var 0) (ja_cons (je_var 4) ja_nil)))))) ja_nil))))))))))
abbrev s_v_law_fact : Stmt := topS 81
abbrev N_v_law_fact : List Str := ["_law_bag_here", "_law_told", "_law_way", "_law_cam", "_law_cell", "_law_speed", "_law_drops_here", "_law_middle"]
theorem sc_v_law_fact : FnScope N_v_law_fact ["_law_bag_here", "_law_told"] (defScope s_v_law_fact) := ⟨rfl, rfl, rfl, by decide +kernel, rfl, by decide +kernel, by decide +kernel⟩
theorem ok_v_law_fact {P : Program} {w : World} {K : PySem.W.Frag} {mg : Str → Option Value} {base : Heap} {cl : Str → Option Addr} (T : Tx K mg cl) {f : Addr} {fd : FuncData} (F : Fun K "_law_fact" "_law_fact" s_v_law_fact f fd) (F_v_law_angle : FnAt P w K mg base cl 3 "_law_angle" ["_law_bag_here"] f_v_law_angle) (F_v_law_height : FnAt P w K mg base cl 3 "_law_height" ["_law_bag_here"] f_v_law_height) (F_v_law_pair : FnAt P w K mg base cl 3 "_law_pair" ["_law_bag_here"] f_v_law_pair) (F_v_law_pull : FnAt P w K mg base cl 1 "_law_pull" ["_law_bag_here", "_law_amount"] f_v_law_pull) (F_v_law_rim : FnAt P w K mg base cl 4 "_law_rim" ["_law_bag_here", "_law_most"] f_v_law_rim) (F_v_law_small_tree : FnAt P w K mg base cl 16 "_law_small_tree" ["_law_bag_here"] f_v_law_small_tree) : FnOk P w K mg base (L2.CX P w) 17 f fd ["_law_bag_here", "_law_told"] (spOf K cl f_v_law_fact) :=
  fn_ok F sc_v_law_fact fun cdv A outer s H E hr ok => by
    have F_v_law_angle := F_v_law_angle.mono (k := 16) (by decide)
    have F_v_law_height := F_v_law_height.mono (k := 16) (by decide)
    have F_v_law_pair := F_v_law_pair.mono (k := 16) (by decide)
    have F_v_law_pull := F_v_law_pull.mono (k := 16) (by decide)
    have F_v_law_rim := F_v_law_rim.mono (k := 16) (by decide)
    have F_v_law_small_tree := F_v_law_small_tree.mono (k := 16) (by decide)
    have nd : N_v_law_fact.Nodup := sc_v_law_fact.nd
    have hr1 := hr
    exact (jb_cons (js_set 2 nd (je_call ok hr F_v_law_pull (ja_cons (je_var 0) (ja_cons je_int ja_nil))))
      (jb_cons (js_set 3 nd (je_call ok hr F_v_law_pull (ja_cons (je_var 0) (ja_cons (je_ix (ix_all (hu_of hr)) ops_ix (je_tup (ja_cons je_int (ja_cons je_int ja_nil))) (je_callTy call_int1 calls_int (by rfl) T.b_int (by decide +kernel) (ja_cons (je_cmp (op_eqD hr.units) ops_eq (je_call ok hr F_v_law_pull (ja_cons (je_var 0) (ja_cons je_int ja_nil))) je_int) ja_nil))) ja_nil))))
      (jb_cons (js_if (jt_cmp op_lt ops_lt (je_var 2) je_int) (jb_one (js_ret (je_tup (ja_cons je_str (ja_cons (je_var 3) (ja_cons (je_call ok hr F_v_law_rim (ja_cons (je_var 0) (ja_cons (je_ix (ix_all (hu_of hr)) ops_ix (je_frz (jl_lst (ja_cons je_int (ja_cons je_int (ja_cons je_int ja_nil))))) (je_call ok hr F_v_law_pull (ja_cons (je_var 0) (ja_cons je_int ja_nil)))) ja_nil))) ja_nil)))))) jb_nil)
      (jb_cons (js_if (jt_cmp op_lt ops_lt (je_var 2) je_int) (jb_cons (js_set 4 nd (je_if (jt_cmp op_gt ops_gt (je_call ok hr F_v_law_pull (ja_cons (je_var 0) (ja_cons je_int ja_nil))) je_int) (je_call ok hr F_v_law_pull (ja_cons (je_var 0) (ja_cons je_int ja_nil))) (je_call ok hr F_v_law_pull (ja_cons (je_var 0) (ja_cons je_int ja_nil)))))
      (jb_one (js_ret (je_tup (ja_cons je_str (ja_cons (je_var 3) (ja_cons (je_var 4) (ja_cons (je_call ok hr F_v_law_height (ja_cons (je_var 0) ja_nil)) ja_nil)))))))) jb_nil)
      (jb_cons (js_if (jt_cmp op_lt ops_lt (je_var 2) je_int) (jb_cons (js_set 5 nd (je_ix (ix_all (hu_of hr)) ops_ix (je_frz (jl_lst (ja_cons (je_bin op_sub ops_sub (je_call ok hr F_v_law_pull (ja_cons (je_var 0) (ja_cons je_int ja_nil))) je_int) (ja_cons (je_bin op_sub ops_sub (je_call ok hr F_v_law_pull (ja_cons (je_var 0) (ja_cons je_int ja_nil))) je_int) (ja_cons je_int ja_nil))))) (je_call ok hr F_v_law_pull (ja_cons (je_var 0) (ja_cons je_int ja_nil)))))
      (jb_one (js_ret (je_tup (ja_cons je_str (ja_cons (je_var 3) (ja_cons (je_var 5) (ja_cons (je_bin op_addAll ops_add je_int (je_call ok hr F_v_law_pull (ja_cons (je_var 0) (ja_cons (je_ix (ix_all (hu_of hr)) ops_ix (je_frz (jl_lst (ja_cons je_int (ja_cons je_int ja_nil)))) (je_call ok hr F_v_law_pull (ja_cons (je_var 0) (ja_cons je_int ja_nil)))) ja_nil)))) (ja_cons (je_call ok hr F_v_law_angle (ja_cons (je_var 0) ja_nil)) ja_nil))))))))) jb_nil)
      (jb_cons (js_if (jt_cmp op_lt ops_lt (je_var 2) je_int) (jb_cons (js_setT (jg_tup 2 rfl (jgs_cons (jg_name 6 nd) (jgs_cons (jg_name 7 nd) jgs_nil))) (je_call ok hr F_v_law_pair (ja_cons (je_var 0) ja_nil)))
      (jb_one (js_ret (je_tup (ja_cons je_str (ja_cons (je_call ok hr F_v_law_pull (ja_cons (je_var 0) (ja_cons je_int ja_nil))) (ja_cons (je_ix (ix_all (hu_of hr)) ops_ix (je_frz (jl_lst (ja_cons (je_var 3) (ja_cons (je_call ok hr F_v_law_pull (ja_cons (je_var 0) (ja_cons je_int ja_nil))) ja_nil)))) (je_call ok hr F_v_law_pull (ja_cons (je_var 0) (ja_cons je_int ja_nil)))) (ja_cons (je_var 6) (ja_cons (je_var 7) ja_nil))))))))) jb_nil)
      (jb_one (js_ret (je_tup (ja_cons je_str (ja_cons (je_call ok hr F_v_law_pull (ja_cons (je_var 0) (ja_cons je_int ja_nil))) (ja_cons (je_call ok hr F_v_law_small_tree (ja_cons (je_var 0) ja_nil)) ja_nil))))))))))))
abbrev s_Workshop_init : Stmt := inClass (topS 62) 0
abbrev N_Workshop_init : List Str := ["self"]
theorem sc_Workshop_init : FnScope N_Workshop_init ["self"] (defScope s_Workshop_init) := ⟨rfl, rfl, rfl, by decide +kernel, rfl, by decide +kernel, by decide +kernel⟩
theorem ok_Workshop_init {P : Program} {w : World} {K : PySem.W.Frag} {mg : Str → Option Value} {base : Heap} {cl : Str → Option Addr} (T : Tx K mg cl) {f : Addr} {fd : FuncData} (F : Fun K "__init__" "Workshop.__init__" s_Workshop_init f fd) (C_Hold : ClsAt P w K mg base cl 1 "Hold" ["self", "there", "many_told"] f_Hold_init) : FnOk P w K mg base (L2.CX P w) 3 f fd ["self"] (spOf K cl f_Workshop_init) :=
  fn_ok F sc_Workshop_init fun cdv A outer s H E hr ok => by
    have C_Hold := C_Hold.mono (k := 1) (by decide)
    have nd : N_Workshop_init.Nodup := sc_Workshop_init.nd
    have hr1 := hr
    exact (jb_cons (js_fld T.f_Workshop_times_kept (je_var 0) (je_cell (jl_lst (ja_cons (je_make ok hr C_Hold (ja_cons (je_frzD jd_new) (ja_cons je_int ja_nil))) ja_nil))))
      (jb_one (js_fld T.f_Workshop_gone (je_var 0) (je_cell (jl_lst ja_nil)))))
abbrev s_last_of : Stmt := topS 53
abbrev N_last_of : List Str := ["facts", "word", "number", "found", "told", "fact"]
theorem sc_last_of : FnScope N_last_of ["facts", "word", "number"] (defScope s_last_of) := ⟨rfl, rfl, rfl, by decide +kernel, rfl, by decide +kernel, by decide +kernel⟩
theorem ok_last_of {P : Program} {w : World} {K : PySem.W.Frag} {mg : Str → Option Value} {base : Heap} {cl : Str → Option Addr} (T : Tx K mg cl) {f : Addr} {fd : FuncData} (F : Fun K "last_of" "last_of" s_last_of f fd) : FnOk P w K mg base (L2.CX P w) 1 f fd ["facts", "word", "number"] (spOf K cl f_last_of) :=
  fn_ok F sc_last_of fun cdv A outer s H E hr ok => by
    have nd : N_last_of.Nodup := sc_last_of.nd
    have hr1 := hr
    exact (jb_cons (js_set 3 nd je_non)
      (jb_cons (js_for ok rfl (ji_seq (je_var 0)) (jg_tup 2 rfl (jgs_cons (jg_name 4 nd) (jgs_cons (jg_name 5 nd) jgs_nil))) (jb_one (js_if (jt_w (jw_and (jt_cmp (op_eqD hr.units) ops_eq (je_ix (ix_all (hu_of hr)) ops_ix (je_var 5) je_int) (je_var 1)) (jw_and1 (jt_cmp (op_eqD hr.units) ops_eq (je_ix (ix_all (hu_of hr)) ops_ix (je_var 5) je_int) (je_var 2))))) (jb_one (js_set 3 nd (je_var 5))) jb_nil)))
      (jb_one (js_ret (je_var 3)))))
abbrev s_Workshop_facts : Stmt := inClass (topS 62) 10
abbrev N_Workshop_facts : List Str := ["self", "there", "number"]
theorem sc_Workshop_facts : FnScope N_Workshop_facts ["self"] (defScope s_Workshop_facts) := ⟨rfl, rfl, rfl, by decide +kernel, rfl, by decide +kernel, by decide +kernel⟩
theorem ok_Workshop_facts {P : Program} {w : World} {K : PySem.W.Frag} {mg : Str → Option Value} {base : Heap} {cl : Str → Option Addr} (T : Tx K mg cl) {f : Addr} {fd : FuncData} (F : Fun K "facts" "Workshop.facts" s_Workshop_facts f fd) : FnOk P w K mg base (L2.CX P w) 1 f fd ["self"] (spOf K cl f_Workshop_facts) :=
  fn_ok F sc_Workshop_facts fun cdv A outer s H E hr ok => by
    have nd : N_Workshop_facts.Nodup := sc_Workshop_facts.nd
    have hr1 := hr
    exact (jb_cons (js_set 1 nd (je_fld T.f_Hold_there (je_ix (ix_all (hu_of hr)) ops_ix (je_fld T.f_Workshop_times_kept (je_var 0)) (je_un un_neg uns_neg je_int))))
      (jb_one (js_retL (jl_lc (own := [("number", 2)]) rfl nd (ji_seq (je_frz (jl_sortDI rfl (by rfl) T.b_sorted (ja_cons (je_var 1) ja_nil)))) (blkOk_by (N := N_Workshop_facts) (sc := defScope s_Workshop_facts) (own := [("number", 2)]) (by decide +kernel)) (fun _ _ _ _ _ => (jg_name 2 nd)) (fun _ _ _ _ _ => jts_nil) (fun _ _ _ _ _ => (je_tup (ja_cons (je_var 2) (ja_cons (je_ix (ix_all (hu_of hr)) ops_ix (je_var 1) (je_var 2)) ja_nil))))))))
abbrev s_cut_at : Stmt := topS 39
abbrev N_cut_at : List Str := ["rim", "cell", "height"]
theorem sc_cut_at : FnScope N_cut_at ["rim", "cell", "height"] (defScope s_cut_at) := ⟨rfl, rfl, rfl, by decide +kernel, rfl, by decide +kernel, by decide +kernel⟩
theorem ok_cut_at {P : Program} {w : World} {K : PySem.W.Frag} {mg : Str → Option Value} {base : Heap} {cl : Str → Option Addr} (T : Tx K mg cl) {f : Addr} {fd : FuncData} (F : Fun K "cut_at" "cut_at" s_cut_at f fd) : FnOk P w K mg base (L2.CX P w) 1 f fd ["rim", "cell", "height"] (spOf K cl f_cut_at) :=
  fn_ok F sc_cut_at fun cdv A outer s H E hr ok => by
    have nd : N_cut_at.Nodup := sc_cut_at.nd
    have hr1 := hr
    exact (jb_one (js_ret (je_bin op_addAll ops_add (je_bin op_addAll ops_add (je_slice sl_all sls_all (je_var 0) jo_none (jo_some (je_var 1))) (je_tup (ja_cons (je_callB (call_min2 rfl) calls_min2 (by rfl) T.b_min (by decide +kernel) (ja_cons (je_ix (ix_all (hu_of hr)) ops_ix (je_var 0) (je_var 1)) (ja_cons (je_var 2) ja_nil))) ja_nil))) (je_slice sl_all sls_all (je_var 0) (jo_some (je_bin op_addAll ops_add (je_var 1) je_int)) jo_none))))
abbrev s_Workshop_rim_of : Stmt := inClass (topS 62) 13
abbrev N_Workshop_rim_of : List Str := ["self", "cam", "facts", "blank", "found", "number", "fact"]
theorem sc_Workshop_rim_of : FnScope N_Workshop_rim_of ["self", "cam"] (defScope s_Workshop_rim_of) := ⟨rfl, rfl, rfl, by decide +kernel, rfl, by decide +kernel, by decide +kernel⟩
theorem ok_Workshop_rim_of {P : Program} {w : World} {K : PySem.W.Frag} {mg : Str → Option Value} {base : Heap} {cl : Str → Option Addr} (T : Tx K mg cl) {f : Addr} {fd : FuncData} (F : Fun K "rim_of" "Workshop.rim_of" s_Workshop_rim_of f fd) (F_cut_at : FnAt P w K mg base cl 1 "cut_at" ["rim", "cell", "height"] f_cut_at) (F_last_of : FnAt P w K mg base cl 1 "last_of" ["facts", "word", "number"] f_last_of) (M_Workshop_facts : MethAt P w K mg base cl 1 "Workshop" "facts" ["self"] f_Workshop_facts) : FnOk P w K mg base (L2.CX P w) 2 f fd ["self", "cam"] (spOf K cl f_Workshop_rim_of) :=
  fn_ok F sc_Workshop_rim_of fun cdv A outer s H E hr ok => by
    have F_cut_at := F_cut_at.mono (k := 1) (by decide)
    have F_last_of := F_last_of.mono (k := 1) (by decide)
    have M_Workshop_facts := M_Workshop_facts.mono (k := 1) (by decide)
    have nd : N_Workshop_rim_of.Nodup := sc_Workshop_rim_of.nd
    have hr1 := hr
    exact (jb_cons (js_set 2 nd (je_meth0 ok hr M_Workshop_facts (je_var 0)))
      (jb_cons (js_set 3 nd (je_call ok hr F_last_of (ja_cons (je_var 2) (ja_cons je_str (ja_cons (je_var 1) ja_nil)))))
      (jb_cons (js_if (jt_isN (je_var 3)) (jb_one (js_ret je_non)) jb_nil)
      (jb_cons (js_set 4 nd (je_ix (ix_all (hu_of hr)) ops_ix (je_var 3) je_int))
      (jb_cons (js_for ok rfl (ji_seq (je_var 2)) (jg_tup 2 rfl (jgs_cons (jg_name 5 nd) (jgs_cons (jg_name 6 nd) jgs_nil))) (jb_one (js_if (jt_w (jw_and (jt_cmp (op_eqD hr.units) ops_eq (je_ix (ix_all (hu_of hr)) ops_ix (je_var 6) je_int) je_str) (jw_and (jt_cmp (op_eqD hr.units) ops_eq (je_ix (ix_all (hu_of hr)) ops_ix (je_var 6) je_int) (je_var 1)) (jw_and1 (jt_cmp op_lt ops_lt (je_ix (ix_all (hu_of hr)) ops_ix (je_var 6) je_int) (je_callB call_len calls_len (by rfl) T.b_len PySem.boot_len (ja_cons (je_var 4) ja_nil))))))) (jb_one (js_set 4 nd (je_call ok hr F_cut_at (ja_cons (je_var 4) (ja_cons (je_ix (ix_all (hu_of hr)) ops_ix (je_var 6) je_int) (ja_cons (je_ix (ix_all (hu_of hr)) ops_ix (je_var 6) je_int) ja_nil)))))) jb_nil)))
      (jb_one (js_ret (je_var 4))))))))
abbrev s_Workshop_mount_of : Stmt := inClass (topS 62) 15
abbrev N_Workshop_mount_of : List Str := ["self", "cam", "mount"]
theorem sc_Workshop_mount_of : FnScope N_Workshop_mount_of ["self", "cam"] (defScope s_Workshop_mount_of) := ⟨rfl, rfl, rfl, by decide +kernel, rfl, by decide +kernel, by decide +kernel⟩
theorem ok_Workshop_mount_of {P : Program} {w : World} {K : PySem.W.Frag} {mg : Str → Option Value} {base : Heap} {cl : Str → Option Addr} (T : Tx K mg cl) {f : Addr} {fd : FuncData} (F : Fun K "mount_of" "Workshop.mount_of" s_Workshop_mount_of f fd) (F_last_of : FnAt P w K mg base cl 1 "last_of" ["facts", "word", "number"] f_last_of) (M_Workshop_facts : MethAt P w K mg base cl 1 "Workshop" "facts" ["self"] f_Workshop_facts) : FnOk P w K mg base (L2.CX P w) 2 f fd ["self", "cam"] (spOf K cl f_Workshop_mount_of) :=
  fn_ok F sc_Workshop_mount_of fun cdv A outer s H E hr ok => by
    have F_last_of := F_last_of.mono (k := 1) (by decide)
    have M_Workshop_facts := M_Workshop_facts.mono (k := 1) (by decide)
    have nd : N_Workshop_mount_of.Nodup := sc_Workshop_mount_of.nd
    have hr1 := hr
    exact (jb_cons (js_set 2 nd (je_call ok hr F_last_of (ja_cons (je_meth0 ok hr M_Workshop_facts (je_var 0)) (ja_cons je_str (ja_cons (je_var 1) ja_nil)))))
      (jb_cons (js_if (jt_isN (je_var 2)) (jb_one (js_ret (je_tup (ja_cons je_int (ja_cons je_int (ja_cons je_int ja_nil)))))) jb_nil)
      (jb_one (js_ret (je_slice sl_all sls_all (je_var 2) (jo_some je_int) jo_none)))))
abbrev s_touched : Stmt := topS 55
abbrev N_touched : List Str := ["size", "foot", "angle", "found", "place", "drop"]
theorem sc_touched : FnScope N_touched ["size", "foot", "angle"] (defScope s_touched) := ⟨rfl, rfl, rfl, by decide +kernel, rfl, by decide +kernel, by decide +kernel⟩
theorem ok_touched {P : Program} {w : World} {K : PySem.W.Frag} {mg : Str → Option Value} {base : Heap} {cl : Str → Option Addr} (T : Tx K mg cl) {f : Addr} {fd : FuncData} (F : Fun K "touched" "touched" s_touched f fd) : FnOk P w K mg base (L2.CX P w) 1 f fd ["size", "foot", "angle"] (spOf K cl f_touched) :=
  fn_ok F sc_touched fun cdv A outer s H E hr ok => by
    have nd : N_touched.Nodup := sc_touched.nd
    have hr1 := hr
    exact (jb_cons (js_setO 3 nd (jl_lst ja_nil))
      (jb_cons (js_for ok rfl (ji_enum (by rfl) T.b_enumerate (ja_cons (je_fld T.f_Foot_drops (je_var 1)) ja_nil)) (jg_tup 2 rfl (jgs_cons (jg_name 4 nd) (jgs_cons (jg_name 5 nd) jgs_nil))) (jb_one (js_app 3 (je_tup (ja_cons (je_bin op_modN ops_mod (je_bin op_sub ops_sub (je_bin op_addAll ops_add (je_var 2) (je_var 4)) (je_fld T.f_Foot_middle (je_var 1))) (je_var 0)) (ja_cons (je_var 5) ja_nil))))))
      (jb_one (js_retO 3))))
abbrev s_lift_on : Stmt := topS 56
abbrev N_lift_on : List Str := ["rim", "foot", "angle", "cell", "drop"]
theorem sc_lift_on : FnScope N_lift_on ["rim", "foot", "angle"] (defScope s_lift_on) := ⟨rfl, rfl, rfl, by decide +kernel, rfl, by decide +kernel, by decide +kernel⟩
theorem ok_lift_on {P : Program} {w : World} {K : PySem.W.Frag} {mg : Str → Option Value} {base : Heap} {cl : Str → Option Addr} (T : Tx K mg cl) {f : Addr} {fd : FuncData} (F : Fun K "lift_on" "lift_on" s_lift_on f fd) (F_touched : FnAt P w K mg base cl 1 "touched" ["size", "foot", "angle"] f_touched) : FnOk P w K mg base (L2.CX P w) 2 f fd ["rim", "foot", "angle"] (spOf K cl f_lift_on) :=
  fn_ok F sc_lift_on fun cdv A outer s H E hr ok => by
    have F_touched := F_touched.mono (k := 1) (by decide)
    have nd : N_lift_on.Nodup := sc_lift_on.nd
    have hr1 := hr
    exact (jb_one (js_ret (je_callB (cr_max rfl) calls_maxL (by rfl) T.b_max PyProof.Rows.boot_max (ja_cons (je_frz (jl_lc (own := [("cell", 3), ("drop", 4)]) rfl nd (ji_seq (je_call ok hr F_touched (ja_cons (je_callB call_len calls_len (by rfl) T.b_len PySem.boot_len (ja_cons (je_var 0) ja_nil)) (ja_cons (je_var 1) (ja_cons (je_var 2) ja_nil))))) (blkOk_by (N := N_lift_on) (sc := defScope s_lift_on) (own := [("cell", 3), ("drop", 4)]) (by decide +kernel)) (fun _ _ _ _ _ => (jg_tup 2 rfl (jgs_cons (jg_name 3 nd) (jgs_cons (jg_name 4 nd) jgs_nil)))) (fun _ _ _ _ _ => jts_nil) (fun _ _ _ _ _ => (je_bin op_sub ops_sub (je_ix (ix_all (hu_of hr)) ops_ix (je_var 0) (je_var 3)) (je_var 4))))) ja_nil))))
abbrev s_Foot_init : Stmt := inClass (topS 19) 0
abbrev N_Foot_init : List Str := ["self", "drops", "middle"]
theorem sc_Foot_init : FnScope N_Foot_init ["self", "drops", "middle"] (defScope s_Foot_init) := ⟨rfl, rfl, rfl, by decide +kernel, rfl, by decide +kernel, by decide +kernel⟩
theorem ok_Foot_init {P : Program} {w : World} {K : PySem.W.Frag} {mg : Str → Option Value} {base : Heap} {cl : Str → Option Addr} (T : Tx K mg cl) {f : Addr} {fd : FuncData} (F : FunD K "__init__" "Foot.__init__" (defArgs s_Foot_init) (defBody s_Foot_init) (defScope s_Foot_init) [V.int 0] [] f fd) (F_good_foot : FnAt P w K mg base cl 2 "good_foot" ["drops", "middle"] f_good_foot) : FnOk P w K mg base (L2.CX P w) 3 f fd ["self", "drops", "middle"] (spOf K cl f_Foot_init) :=
  fn_okD F sc_Foot_init fun cdv A outer s H E hr ok => by
    have F_good_foot := F_good_foot.mono (k := 2) (by decide)
    have nd : N_Foot_init.Nodup := sc_Foot_init.nd
    have hr1 := hr
    exact (jb_cons (js_if (jt_not (jt_val (je_call ok hr F_good_foot (ja_cons (je_var 1) (ja_cons (je_var 2) ja_nil))))) (jb_one (js_raise0 ok rfl T.e_BadFoot)) jb_nil)
      (jb_cons (js_fld T.f_Foot_drops (je_var 0) (je_var 1))
      (jb_one (js_fld T.f_Foot_middle (je_var 0) (je_var 2)))))
abbrev s_angle_at : Stmt := topS 58
abbrev N_angle_at : List Str := ["turns", "moments", "first", "moment"]
theorem sc_angle_at : FnScope N_angle_at ["turns", "moments", "first", "moment"] (defScope s_angle_at) := ⟨rfl, rfl, rfl, by decide +kernel, rfl, by decide +kernel, by decide +kernel⟩
theorem ok_angle_at {P : Program} {w : World} {K : PySem.W.Frag} {mg : Str → Option Value} {base : Heap} {cl : Str → Option Addr} (T : Tx K mg cl) {f : Addr} {fd : FuncData} (F : FunD K "angle_at" "angle_at" (defArgs s_angle_at) (defBody s_angle_at) (defScope s_angle_at) [V.int 1, V.int 0, V.int 0] [] f fd) : FnOk P w K mg base (L2.CX P w) 1 f fd ["turns", "moments", "first", "moment"] (spOf K cl f_angle_at) :=
  fn_okD F sc_angle_at fun cdv A outer s H E hr ok => by
    have nd : N_angle_at.Nodup := sc_angle_at.nd
    have hr1 := hr
    exact (jb_one (js_ret (je_bin op_addAll ops_add (je_var 2) (je_bin op_fdivN ops_div (je_bin op_mulAll ops_mul (je_var 3) (je_var 0)) (je_var 1)))))
abbrev s_Workshop_lift_at : Stmt := inClass (topS 62) 16
abbrev N_Workshop_lift_at : List Str := ["self", "follower", "moment", "foot", "rim", "turns", "moments", "first"]
theorem sc_Workshop_lift_at : FnScope N_Workshop_lift_at ["self", "follower", "moment"] (defScope s_Workshop_lift_at) := ⟨rfl, rfl, rfl, by decide +kernel, rfl, by decide +kernel, by decide +kernel⟩
theorem ok_Workshop_lift_at {P : Program} {w : World} {K : PySem.W.Frag} {mg : Str → Option Value} {base : Heap} {cl : Str → Option Addr} (T : Tx K mg cl) {f : Addr} {fd : FuncData} (F : Fun K "lift_at" "Workshop.lift_at" s_Workshop_lift_at f fd) (F_angle_at : FnAt P w K mg base cl 1 "angle_at" ["turns", "moments", "first", "moment"] f_angle_at) (F_last_of : FnAt P w K mg base cl 1 "last_of" ["facts", "word", "number"] f_last_of) (F_lift_on : FnAt P w K mg base cl 2 "lift_on" ["rim", "foot", "angle"] f_lift_on) (C_Foot : ClsAt P w K mg base cl 3 "Foot" ["self", "drops", "middle"] f_Foot_init) (M_Workshop_facts : MethAt P w K mg base cl 1 "Workshop" "facts" ["self"] f_Workshop_facts) (M_Workshop_mount_of : MethAt P w K mg base cl 2 "Workshop" "mount_of" ["self", "cam"] f_Workshop_mount_of) (M_Workshop_rim_of : MethAt P w K mg base cl 2 "Workshop" "rim_of" ["self", "cam"] f_Workshop_rim_of) : FnOk P w K mg base (L2.CX P w) 5 f fd ["self", "follower", "moment"] (spOf K cl f_Workshop_lift_at) :=
  fn_ok F sc_Workshop_lift_at fun cdv A outer s H E hr ok => by
    have F_angle_at := F_angle_at.mono (k := 4) (by decide)
    have F_last_of := F_last_of.mono (k := 4) (by decide)
    have F_lift_on := F_lift_on.mono (k := 4) (by decide)
    have C_Foot := C_Foot.mono (k := 3) (by decide)
    have M_Workshop_facts := M_Workshop_facts.mono (k := 4) (by decide)
    have M_Workshop_mount_of := M_Workshop_mount_of.mono (k := 4) (by decide)
    have M_Workshop_rim_of := M_Workshop_rim_of.mono (k := 4) (by decide)
    have nd : N_Workshop_lift_at.Nodup := sc_Workshop_lift_at.nd
    have hr1 := hr
    exact (jb_cons (js_set 3 nd (je_call ok hr F_last_of (ja_cons (je_meth0 ok hr M_Workshop_facts (je_var 0)) (ja_cons je_str (ja_cons (je_var 1) ja_nil)))))
      (jb_cons (js_if (jt_isN (je_var 3)) (jb_one (js_ret je_non)) jb_nil)
      (jb_cons (js_set 4 nd (je_meth ok hr M_Workshop_rim_of (je_var 0) (ja_cons (je_ix (ix_all (hu_of hr)) ops_ix (je_var 3) je_int) ja_nil)))
      (jb_cons (js_if (jt_isN (je_var 4)) (jb_one (js_ret je_non)) jb_nil)
      (jb_cons (js_setT (jg_tup 3 rfl (jgs_cons (jg_name 5 nd) (jgs_cons (jg_name 6 nd) (jgs_cons (jg_name 7 nd) jgs_nil)))) (je_meth ok hr M_Workshop_mount_of (je_var 0) (ja_cons (je_ix (ix_all (hu_of hr)) ops_ix (je_var 3) je_int) ja_nil)))
      (jb_one (js_ret (je_call ok hr F_lift_on (ja_cons (je_var 4) (ja_cons (je_make ok hr C_Foot (ja_cons (je_ix (ix_all (hu_of hr)) ops_ix (je_var 3) je_int) (ja_cons (je_ix (ix_all (hu_of hr)) ops_ix (je_var 3) je_int) ja_nil))) (ja_cons (je_call ok hr F_angle_at (ja_cons (je_var 5) (ja_cons (je_var 6) (ja_cons (je_var 7) (ja_cons (je_var 2) ja_nil))))) ja_nil)))))))))))
abbrev s_Workshop_lift : Stmt := inClass (topS 62) 17
abbrev N_Workshop_lift : List Str := ["self", "follower", "moment"]
theorem sc_Workshop_lift : FnScope N_Workshop_lift ["self", "follower", "moment"] (defScope s_Workshop_lift) := ⟨rfl, rfl, rfl, by decide +kernel, rfl, by decide +kernel, by decide +kernel⟩
theorem ok_Workshop_lift {P : Program} {w : World} {K : PySem.W.Frag} {mg : Str → Option Value} {base : Heap} {cl : Str → Option Addr} (T : Tx K mg cl) {f : Addr} {fd : FuncData} (F : FunD K "lift" "Workshop.lift" (defArgs s_Workshop_lift) (defBody s_Workshop_lift) (defScope s_Workshop_lift) [V.int 0] [] f fd) (M_Workshop_lift_at : MethAt P w K mg base cl 5 "Workshop" "lift_at" ["self", "follower", "moment"] f_Workshop_lift_at) : FnOk P w K mg base (L2.CX P w) 6 f fd ["self", "follower", "moment"] (spOf K cl f_Workshop_lift_2) :=
  fn_okD F sc_Workshop_lift fun cdv A outer s H E hr ok => by
    have M_Workshop_lift_at := M_Workshop_lift_at.mono (k := 5) (by decide)
    have nd : N_Workshop_lift.Nodup := sc_Workshop_lift.nd
    have hr1 := hr
    exact (jb_cons (js_if (jt_not (jt_chain op_le op_le ops_le ops_le je_int (je_var 1) (je_globI' (by rfl) T.c_LAST_FOLLOWER_facts))) (jb_one js_never) jb_nil)
      (jb_one (js_ret (je_meth ok hr M_Workshop_lift_at (je_var 0) (ja_cons (je_var 1) (ja_cons (je_var 2) ja_nil))))))
abbrev s_Workshop_rim : Stmt := inClass (topS 62) 14
abbrev N_Workshop_rim : List Str := ["self", "cam"]
theorem sc_Workshop_rim : FnScope N_Workshop_rim ["self", "cam"] (defScope s_Workshop_rim) := ⟨rfl, rfl, rfl, by decide +kernel, rfl, by decide +kernel, by decide +kernel⟩
theorem ok_Workshop_rim {P : Program} {w : World} {K : PySem.W.Frag} {mg : Str → Option Value} {base : Heap} {cl : Str → Option Addr} (T : Tx K mg cl) {f : Addr} {fd : FuncData} (F : Fun K "rim" "Workshop.rim" s_Workshop_rim f fd) (M_Workshop_rim_of : MethAt P w K mg base cl 2 "Workshop" "rim_of" ["self", "cam"] f_Workshop_rim_of) : FnOk P w K mg base (L2.CX P w) 3 f fd ["self", "cam"] (spOf K cl f_Workshop_rim_2) :=
  fn_ok F sc_Workshop_rim fun cdv A outer s H E hr ok => by
    have M_Workshop_rim_of := M_Workshop_rim_of.mono (k := 2) (by decide)
    have nd : N_Workshop_rim.Nodup := sc_Workshop_rim.nd
    have hr1 := hr
    exact (jb_cons (js_if (jt_not (jt_chain op_le op_le ops_le ops_le je_int (je_var 1) (je_globI' (by rfl) T.c_LAST_CAM))) (jb_one js_never) jb_nil)
      (jb_one (js_ret (je_meth ok hr M_Workshop_rim_of (je_var 0) (ja_cons (je_var 1) ja_nil)))))
abbrev s_v_law_lifts : Stmt := topS 82
abbrev N_v_law_lifts : List Str := ["_law_shop", "_law_when", "_law_follower", "_law_cam"]
theorem sc_v_law_lifts : FnScope N_v_law_lifts ["_law_shop", "_law_when"] (defScope s_v_law_lifts) := ⟨rfl, rfl, rfl, by decide +kernel, rfl, by decide +kernel, by decide +kernel⟩
theorem ok_v_law_lifts {P : Program} {w : World} {K : PySem.W.Frag} {mg : Str → Option Value} {base : Heap} {cl : Str → Option Addr} (T : Tx K mg cl) {f : Addr} {fd : FuncData} (F : Fun K "_law_lifts" "_law_lifts" s_v_law_lifts f fd) (M_Workshop_lift : MethAt P w K mg base cl 6 "Workshop" "lift" ["self", "follower", "moment"] f_Workshop_lift_2) (M_Workshop_rim : MethAt P w K mg base cl 3 "Workshop" "rim" ["self", "cam"] f_Workshop_rim_2) : FnOk P w K mg base (L2.CX P w) 7 f fd ["_law_shop", "_law_when"] (spOf K cl f_v_law_lifts) :=
  fn_ok F sc_v_law_lifts fun cdv A outer s H E hr ok => by
    have M_Workshop_lift := M_Workshop_lift.mono (k := 6) (by decide)
    have M_Workshop_rim := M_Workshop_rim.mono (k := 6) (by decide)
    have nd : N_v_law_lifts.Nodup := sc_v_law_lifts.nd
    have hr1 := hr
    exact (jb_one (js_ret (je_bin op_addAll ops_add (je_frz (jl_lc (own := [("_law_follower", 2)]) rfl nd (ji_rng1 (by rfl) T.b_range (ja_cons je_int ja_nil)) (blkOk_by (N := N_v_law_lifts) (sc := defScope s_v_law_lifts) (own := [("_law_follower", 2)]) (by decide +kernel)) (fun _ _ _ _ _ => (jg_name 2 nd)) (fun _ _ _ _ _ => jts_nil) (fun _ _ _ _ _ => (je_meth (ok).blk hr M_Workshop_lift (je_var 0) (ja_cons (je_var 2) (ja_cons (je_var 1) ja_nil)))))) (je_frz (jl_lc (own := [("_law_cam", 3)]) rfl nd (ji_rng1 (by rfl) T.b_range (ja_cons je_int ja_nil)) (blkOk_by (N := N_v_law_lifts) (sc := defScope s_v_law_lifts) (own := [("_law_cam", 3)]) (by decide +kernel)) (fun _ _ _ _ _ => (jg_name 3 nd)) (fun _ _ _ _ _ => jts_nil) (fun _ _ _ _ _ => (je_meth (ok).blk hr M_Workshop_rim (je_var 0) (ja_cons (je_var 3) ja_nil))))))))
abbrev s_Workshop_eq : Stmt := inClass (topS 62) 1
abbrev N_Workshop_eq : List Str := ["self", "other"]
theorem sc_Workshop_eq : FnScope N_Workshop_eq ["self", "other"] (defScope s_Workshop_eq) := ⟨rfl, rfl, rfl, by decide +kernel, rfl, by decide +kernel, by decide +kernel⟩
theorem ok_Workshop_eq {P : Program} {w : World} {K : PySem.W.Frag} {mg : Str → Option Value} {base : Heap} {cl : Str → Option Addr} (T : Tx K mg cl) {f : Addr} {fd : FuncData} (F : Fun K "__eq__" "Workshop.__eq__" s_Workshop_eq f fd) (M_Workshop_facts : MethAt P w K mg base cl 1 "Workshop" "facts" ["self"] f_Workshop_facts) : FnOk P w K mg base (L2.CX P w) 2 f fd ["self", "other"] (spOf K cl f_Workshop_eq) :=
  fn_ok F sc_Workshop_eq fun cdv A outer s H E hr ok => by
    have M_Workshop_facts := M_Workshop_facts.mono (k := 1) (by decide)
    have nd : N_Workshop_eq.Nodup := sc_Workshop_eq.nd
    have hr1 := hr
    exact (jb_one (js_ret (je_and (je_isOC "Workshop" (by rfl) T.b_isinstance (by decide +kernel) (by rfl) T.o_Workshop (je_var 1)) (je_one (je_cmp (op_eqD hr.units) ops_eq (je_meth0 ok hr M_Workshop_facts (je_var 0)) (je_meth0 ok hr M_Workshop_facts (je_var 1)))))))
abbrev s_Workshop_len : Stmt := inClass (topS 62) 2
abbrev N_Workshop_len : List Str := ["self"]
theorem sc_Workshop_len : FnScope N_Workshop_len ["self"] (defScope s_Workshop_len) := ⟨rfl, rfl, rfl, by decide +kernel, rfl, by decide +kernel, by decide +kernel⟩
theorem ok_Workshop_len {P : Program} {w : World} {K : PySem.W.Frag} {mg : Str → Option Value} {base : Heap} {cl : Str → Option Addr} (T : Tx K mg cl) {f : Addr} {fd : FuncData} (F : Fun K "__len__" "Workshop.__len__" s_Workshop_len f fd) : FnOk P w K mg base (L2.CX P w) 1 f fd ["self"] (spOf K cl f_Workshop_len) :=
  fn_ok F sc_Workshop_len fun cdv A outer s H E hr ok => by
    have nd : N_Workshop_len.Nodup := sc_Workshop_len.nd
    have hr1 := hr
    exact (jb_one (js_ret (je_lenDic (by rfl) T.b_len (ja_cons (je_fld T.f_Hold_there (je_ix (ix_all (hu_of hr)) ops_ix (je_fld T.f_Workshop_times_kept (je_var 0)) (je_un un_neg uns_neg je_int))) ja_nil))))
abbrev s_look_rim : Stmt := topS 38
abbrev N_look_rim : List Str := ["row"]
theorem sc_look_rim : FnScope N_look_rim ["row"] (defScope s_look_rim) := ⟨rfl, rfl, rfl, by decide +kernel, rfl, by decide +kernel, by decide +kernel⟩
theorem ok_look_rim {P : Program} {w : World} {K : PySem.W.Frag} {mg : Str → Option Value} {base : Heap} {cl : Str → Option Addr} (T : Tx K mg cl) {f : Addr} {fd : FuncData} (F : Fun K "look_rim" "look_rim" s_look_rim f fd) (F_is_rim : FnAt P w K mg base cl 1 "is_rim" ["row"] f_is_rim) : FnOk P w K mg base (L2.CX P w) 2 f fd ["row"] (spOf K cl f_look_rim) :=
  fn_ok F sc_look_rim fun cdv A outer s H E hr ok => by
    have F_is_rim := F_is_rim.mono (k := 1) (by decide)
    have nd : N_look_rim.Nodup := sc_look_rim.nd
    have hr1 := hr
    exact (jb_one (js_if (jt_not (jt_val (je_call ok hr F_is_rim (ja_cons (je_var 0) ja_nil)))) (jb_one (js_raise0 ok rfl T.e_BadRim)) jb_nil))
abbrev s_lies_within : Stmt := topS 40
abbrev N_lies_within : List Str := ["one", "other", "low", "high"]
theorem sc_lies_within : FnScope N_lies_within ["one", "other"] (defScope s_lies_within) := ⟨rfl, rfl, rfl, by decide +kernel, rfl, by decide +kernel, by decide +kernel⟩
theorem ok_lies_within {P : Program} {w : World} {K : PySem.W.Frag} {mg : Str → Option Value} {base : Heap} {cl : Str → Option Addr} (T : Tx K mg cl) {f : Addr} {fd : FuncData} (F : Fun K "lies_within" "lies_within" s_lies_within f fd) : FnOk P w K mg base (L2.CX P w) 1 f fd ["one", "other"] (spOf K cl f_lies_within) :=
  fn_ok F sc_lies_within fun cdv A outer s H E hr ok => by
    have nd : N_lies_within.Nodup := sc_lies_within.nd
    have hr1 := hr
    exact (jb_one (js_ret (je_callB (cr_all rfl) calls_all (by rfl) T.b_all (by decide +kernel) (ja_cons (je_frz (jl_lc (own := [("low", 2), ("high", 3)]) rfl nd (ji_zipS (by rfl) T.b_zip (ja_cons (je_var 0) (ja_cons (je_var 1) ja_nil))) (blkOk_by (N := N_lies_within) (sc := defScope s_lies_within) (own := [("low", 2), ("high", 3)]) (by decide +kernel)) (fun _ _ _ _ _ => (jg_tup 2 rfl (jgs_cons (jg_name 2 nd) (jgs_cons (jg_name 3 nd) jgs_nil)))) (fun _ _ _ _ _ => jts_nil) (fun _ _ _ _ _ => (je_cmp op_le ops_le (je_var 2) (je_var 3))))) ja_nil))))
abbrev s_within : Stmt := topS 41
abbrev N_within : List Str := ["one", "other"]
theorem sc_within : FnScope N_within ["one", "other"] (defScope s_within) := ⟨rfl, rfl, rfl, by decide +kernel, rfl, by decide +kernel, by decide +kernel⟩
theorem ok_within {P : Program} {w : World} {K : PySem.W.Frag} {mg : Str → Option Value} {base : Heap} {cl : Str → Option Addr} (T : Tx K mg cl) {f : Addr} {fd : FuncData} (F : Fun K "within" "within" s_within f fd) (F_lies_within : FnAt P w K mg base cl 1 "lies_within" ["one", "other"] f_lies_within) (F_look_rim : FnAt P w K mg base cl 2 "look_rim" ["row"] f_look_rim) : FnOk P w K mg base (L2.CX P w) 3 f fd ["one", "other"] (spOf K cl f_within) :=
  fn_ok F sc_within fun cdv A outer s H E hr ok => by
    have F_lies_within := F_lies_within.mono (k := 2) (by decide)
    have F_look_rim := F_look_rim.mono (k := 2) (by decide)
    have nd : N_within.Nodup := sc_within.nd
    have hr1 := hr
    exact (jb_cons (js_expr (je_call ok hr F_look_rim (ja_cons (je_var 0) ja_nil)))
      (jb_cons (js_expr (je_call ok hr F_look_rim (ja_cons (je_var 1) ja_nil)))
      (jb_cons (js_if (jt_cmp (op_neD hr.units) ops_ne (je_callB call_len calls_len (by rfl) T.b_len PySem.boot_len (ja_cons (je_var 0) ja_nil)) (je_callB call_len calls_len (by rfl) T.b_len PySem.boot_len (ja_cons (je_var 1) ja_nil))) (jb_one (js_raise0 ok rfl T.e_BadSize)) jb_nil)
      (jb_one (js_ret (je_call ok hr F_lies_within (ja_cons (je_var 0) (ja_cons (je_var 1) ja_nil))))))))
abbrev s_law : Stmt := topS 83
abbrev N_law : List Str := ["_law_script", "_law_bag_here", "_law_base", "_law_cuts", "_law_shops", "_law_shop", "_law_fact_here", "_law_when", "_law_cut", "_law_early", "_law_cam", "_law_at", "_law_number", "_law_turn"]
theorem sc_law : FnScope N_law ["_law_script"] (defScope s_law) := ⟨rfl, rfl, rfl, by decide +kernel, rfl, by decide +kernel, by decide +kernel⟩
theorem ok_law {P : Program} {w : World} {K : PySem.W.Frag} {mg : Str → Option Value} {base : Heap} {cl : Str → Option Addr} (T : Tx K mg cl) {f : Addr} {fd : FuncData} (F : Fun K "law" "law" s_law f fd) (F_v_law_angle : FnAt P w K mg base cl 3 "_law_angle" ["_law_bag_here"] f_v_law_angle) (F_v_law_bag : FnAt P w K mg base cl 1 "_law_bag" ["_law_script"] f_v_law_bag) (F_v_law_fact : FnAt P w K mg base cl 17 "_law_fact" ["_law_bag_here", "_law_told"] f_v_law_fact) (F_v_law_height : FnAt P w K mg base cl 3 "_law_height" ["_law_bag_here"] f_v_law_height) (F_v_law_lifts : FnAt P w K mg base cl 7 "_law_lifts" ["_law_shop", "_law_when"] f_v_law_lifts) (F_v_law_mixed : FnAt P w K mg base cl 2 "_law_mixed" ["_law_bag_here", "_law_row"] f_v_law_mixed) (F_v_law_pull : FnAt P w K mg base cl 1 "_law_pull" ["_law_bag_here", "_law_amount"] f_v_law_pull) (F_v_law_rim : FnAt P w K mg base cl 4 "_law_rim" ["_law_bag_here", "_law_most"] f_v_law_rim) (F_within : FnAt P w K mg base cl 3 "within" ["one", "other"] f_within) (C_Workshop : ClsAt P w K mg base cl 3 "Workshop" ["self"] f_Workshop_init) (M_Workshop_rim : MethAt P w K mg base cl 3 "Workshop" "rim" ["self", "cam"] f_Workshop_rim_2) (M_Workshop_strike : MethAt P w K mg base cl 4 "Workshop" "strike" ["self", "number"] f_Workshop_strike_2) (M_Workshop_tell : MethAt P w K mg base cl 18 "Workshop" "tell" ["self", "fact"] f_Workshop_tell) (L_Workshop : LenAt P w K mg base cl 1 "Workshop" ["self"] f_Workshop_len) (EC_Workshop : EqAtC P w K mg base cl 2 "Workshop" ["self", "other"] f_Workshop_eq) : FnOk P w K mg base (L2.CX P w) 19 f fd ["_law_script"] (spOf K cl f_law_k29) :=
  fn_ok F sc_law fun cdv A outer s H E hr ok => by
    have F_v_law_angle := F_v_law_angle.mono (k := 18) (by decide)
    have F_v_law_bag := F_v_law_bag.mono (k := 18) (by decide)
    have F_v_law_fact := F_v_law_fact.mono (k := 18) (by decide)
    have F_v_law_height := F_v_law_height.mono (k := 18) (by decide)
    have F_v_law_lifts := F_v_law_lifts.mono (k := 18) (by decide)
    have F_v_law_mixed := F_v_law_mixed.mono (k := 18) (by decide)
    have F_v_law_pull := F_v_law_pull.mono (k := 18) (by decide)
    have F_v_law_rim := F_v_law_rim.mono (k := 18) (by decide)
    have F_within := F_within.mono (k := 18) (by decide)
    have C_Workshop := C_Workshop.mono (k := 17) (by decide)
    have M_Workshop_rim := M_Workshop_rim.mono (k := 18) (by decide)
    have M_Workshop_strike := M_Workshop_strike.mono (k := 18) (by decide)
    have M_Workshop_tell := M_Workshop_tell.mono (k := 18) (by decide)
    have nd : N_law.Nodup := sc_law.nd
    have hr1 := hr
    exact (jb_cons (js_set 1 nd (je_cell (jl_call ok hr F_v_law_bag (ja_cons (je_var 0) ja_nil))))
      (jb_cons (js_setLc 2 (own := [("_law_turn", 13)]) rfl nd rfl (ji_rng1 (by rfl) T.b_range (ja_cons je_int ja_nil)) (blkOk_by (N := N_law) (sc := defScope s_law) (own := [("_law_turn", 13)]) (by decide +kernel)) (fun _ _ _ _ _ => (jg_name 13 nd)) (fun _ _ _ _ _ => jts_nil) (fun _ _ _ _ _ => (je_call (ok).blk hr F_v_law_fact (ja_cons (je_var 1) (ja_cons je_int ja_nil)))))
      (jb_cons (js_setLcO 2 (own := [("_law_fact_here", 6)]) rfl nd rfl (ji_seq (je_var 2)) (blkOk_by (N := N_law) (sc := defScope s_law) (own := [("_law_fact_here", 6)]) (by decide +kernel)) (fun _ _ _ _ _ => (jg_name 6 nd)) (fun _ _ _ _ _ => (jts_one (jt_cmp (op_neD hr.units) ops_ne (je_ix (ix_all (hu_of hr)) ops_ix (je_var 6) je_int) je_str))) (fun _ _ _ _ _ => (je_var 6)))
      (jb_cons (js_setLc 3 (own := [("_law_turn", 13)]) rfl nd rfl (ji_rng1 (by rfl) T.b_range (ja_cons (je_call ok hr F_v_law_pull (ja_cons (je_var 1) (ja_cons je_int ja_nil))) ja_nil)) (blkOk_by (N := N_law) (sc := defScope s_law) (own := [("_law_turn", 13)]) (by decide +kernel)) (fun _ _ _ _ _ => (jg_name 13 nd)) (fun _ _ _ _ _ => jts_nil) (fun _ _ _ _ _ => (je_tup (ja_cons je_str (ja_cons (je_call (ok).blk hr F_v_law_pull (ja_cons (je_var 1) (ja_cons je_int ja_nil))) (ja_cons (je_call (ok).blk hr F_v_law_pull (ja_cons (je_var 1) (ja_cons je_int ja_nil))) (ja_cons (je_call (ok).blk hr F_v_law_height (ja_cons (je_var 1) ja_nil)) ja_nil)))))))
      (jb_cons (js_app 2 (je_tup (ja_cons je_str (ja_cons je_int (ja_cons (je_call ok hr F_v_law_rim (ja_cons (je_var 1) (ja_cons je_int ja_nil))) ja_nil)))))
      (jb_frz 2 (jb_cons (js_set 4 nd (je_cell (jl_lst (ja_cons (je_makeC0 ok hr C_Workshop) (ja_cons (je_makeC0 ok hr C_Workshop) (ja_cons (je_makeC0 ok hr C_Workshop) ja_nil))))))
      (jb_cons (js_forC ok rfl (ji_cell (je_var 4)) (jg_name 5 nd) (jb_one (js_for ok rfl (ji_seq (je_var 2)) (jg_name 6 nd) (jb_one (js_expr (je_meth ok hr M_Workshop_tell (je_var 5) (ja_cons (je_var 6) ja_nil)))))))
      (jb_cons (js_set 7 nd (je_call ok hr F_v_law_angle (ja_cons (je_var 1) ja_nil)))
      (jb_cons (js_for ok rfl (ji_seq (je_var 3)) (jg_name 8 nd) (jb_cons (js_setLc 9 (own := [("_law_cam", 10)]) rfl nd rfl (ji_rng1 (by rfl) T.b_range (ja_cons je_int ja_nil)) (blkOk_by (N := N_law) (sc := defScope s_law) (own := [("_law_cam", 10)]) (by decide +kernel)) (fun _ _ _ _ _ => (jg_name 10 nd)) (fun _ _ _ _ _ => jts_nil) (fun _ _ _ _ _ => (je_meth (ok).blk hr M_Workshop_rim (je_ix (ix_all (hu_of hr)) ops_ix (je_var 4) je_int) (ja_cons (je_var 10) ja_nil))))
      (jb_cons (js_expr (je_meth ok hr M_Workshop_tell (je_ix (ix_all (hu_of hr)) ops_ix (je_var 4) je_int) (ja_cons (je_var 8) ja_nil)))
      (jb_one (js_for ok rfl (ji_rng1 (by rfl) T.b_range (ja_cons je_int ja_nil)) (jg_name 10 nd) (jb_one (js_if (jt_w (jw_and (jt_notN (je_ix (ix_all (hu_of hr)) ops_ix (je_var 9) (je_var 10))) (jw_and1 (jt_not (jt_val (je_call ok hr F_within (ja_cons (je_meth ok hr M_Workshop_rim (je_ix (ix_all (hu_of hr)) ops_ix (je_var 4) je_int) (ja_cons (je_var 10) ja_nil)) (ja_cons (je_ix (ix_all (hu_of hr)) ops_ix (je_var 9) (je_var 10)) ja_nil)))))))) (jb_one (js_ret je_bl)) jb_nil)))))))
      (jb_cons (js_for ok rfl (ji_seq (je_call ok hr F_v_law_mixed (ja_cons (je_var 1) (ja_cons (je_var 3) ja_nil)))) (jg_name 8 nd) (jb_one (js_expr (je_meth ok hr M_Workshop_tell (je_ix (ix_all (hu_of hr)) ops_ix (je_var 4) je_int) (ja_cons (je_var 8) ja_nil)))))
      (jb_cons (js_if (jt_cmp (op_neD hr.units) ops_ne (je_call ok hr F_v_law_lifts (ja_cons (je_ix (ix_all (hu_of hr)) ops_ix (je_var 4) je_int) (ja_cons (je_var 7) ja_nil))) (je_call ok hr F_v_law_lifts (ja_cons (je_ix (ix_all (hu_of hr)) ops_ix (je_var 4) je_int) (ja_cons (je_var 7) ja_nil)))) (jb_one (js_ret je_bl)) jb_nil)
      (jb_cons (js_if (jt_cmp (op_eqD hr.units) ops_eq (je_callB call_len calls_len (by rfl) T.b_len PySem.boot_len (ja_cons (je_var 3) ja_nil)) je_int) (jb_one (js_ret (je_cmp (op_eqC EC_Workshop (hr.mono (by decide))) ops_eqC (je_ix (ix_all (hu_of hr)) ops_ix (je_var 4) je_int) (je_ix (ix_all (hu_of hr)) ops_ix (je_var 4) je_int)))) jb_nil)
      (jb_cons (js_set 11 nd (je_call ok hr F_v_law_pull (ja_cons (je_var 1) (ja_cons (je_callB call_len calls_len (by rfl) T.b_len PySem.boot_len (ja_cons (je_var 3) ja_nil)) ja_nil))))
      (jb_cons (js_set 12 nd (je_meth ok hr M_Workshop_tell (je_ix (ix_all (hu_of hr)) ops_ix (je_var 4) je_int) (ja_cons (je_ix (ix_all (hu_of hr)) ops_ix (je_var 3) (je_var 11)) ja_nil)))
      (jb_cons (js_if (jt_cmp (op_neD hr.units) ops_ne (je_call ok hr F_v_law_lifts (ja_cons (je_ix (ix_all (hu_of hr)) ops_ix (je_var 4) je_int) (ja_cons (je_var 7) ja_nil))) (je_call ok hr F_v_law_lifts (ja_cons (je_ix (ix_all (hu_of hr)) ops_ix (je_var 4) je_int) (ja_cons (je_var 7) ja_nil)))) (jb_one (js_ret je_bl)) jb_nil)
      (jb_cons (js_expr (je_meth ok hr M_Workshop_strike (je_ix (ix_all (hu_of hr)) ops_ix (je_var 4) je_int) (ja_cons (je_var 12) ja_nil)))
      (jb_cons (js_expr (je_meth ok hr M_Workshop_strike (je_ix (ix_all (hu_of hr)) ops_ix (je_var 4) je_int) (ja_cons (je_bin op_addAll ops_add (je_bin op_addAll ops_add (je_callB call_len calls_len (by rfl) T.b_len PySem.boot_len (ja_cons (je_var 2) ja_nil)) je_int) (je_var 11)) ja_nil)))
      (jb_cons (js_for ok rfl (ji_seq (je_bin op_addAll ops_add (je_slice sl_all sls_all (je_var 3) jo_none (jo_some (je_var 11))) (je_slice sl_all sls_all (je_var 3) (jo_some (je_bin op_addAll ops_add (je_var 11) je_int)) jo_none))) (jg_name 8 nd) (jb_one (js_expr (je_meth ok hr M_Workshop_tell (je_ix (ix_all (hu_of hr)) ops_ix (je_var 4) je_int) (ja_cons (je_var 8) ja_nil)))))
      (jb_one (js_ret (je_and (je_cmp (op_eqD hr.units) ops_eq (je_call ok hr F_v_law_lifts (ja_cons (je_ix (ix_all (hu_of hr)) ops_ix (je_var 4) je_int) (ja_cons (je_var 7) ja_nil))) (je_call ok hr F_v_law_lifts (ja_cons (je_ix (ix_all (hu_of hr)) ops_ix (je_var 4) je_int) (ja_cons (je_var 7) ja_nil)))) (je_one (je_cmp (op_eqD hr.units) ops_eq (je_lenC L_Workshop (hr.mono (by decide)) (by rfl) T.b_len PySem.boot_len (je_ix (ix_all (hu_of hr)) ops_ix (je_var 4) je_int)) (je_lenC L_Workshop (hr.mono (by decide)) (by rfl) T.b_len PySem.boot_len (je_ix (ix_all (hu_of hr)) ops_ix (je_var 4) je_int))))))))))))))))))))))))))
theorem all_mk {l : PySem.W.OpenLaw} {w : World} {K : PySem.W.Frag} {h : Heap} {mg : Str → Option Value} {fa : Addr} (X : K.In h) (G : h.Ns mainGlobals mg) (hfa : mg "law" = some (.ref fa))
    {C_BadFact : Addr}
    {C_BadFoot : Addr}
    {C_BadRim : Addr}
    {C_BadSize : Addr}
    {C_Foot : Addr}
    {C_Full : Addr}
    {C_Hold : Addr}
    {C_Workshop : Addr}
    {fn_v_law_bag : Addr} {od_v_law_bag an_v_law_bag : Option Addr} {sl_v_law_bag : Array (Option Value)} {oc_v_law_bag kV_v_law_bag dc_v_law_bag pm_v_law_bag cd_v_law_bag ct_v_law_bag : Value}
    {fn_v_law_pull : Addr} {od_v_law_pull an_v_law_pull : Option Addr} {sl_v_law_pull : Array (Option Value)} {oc_v_law_pull kV_v_law_pull dc_v_law_pull pm_v_law_pull cd_v_law_pull ct_v_law_pull : Value}
    {fn_v_law_far : Addr} {od_v_law_far an_v_law_far : Option Addr} {sl_v_law_far : Array (Option Value)} {oc_v_law_far kV_v_law_far dc_v_law_far pm_v_law_far cd_v_law_far ct_v_law_far : Value}
    {fn_v_law_angle : Addr} {od_v_law_angle an_v_law_angle : Option Addr} {sl_v_law_angle : Array (Option Value)} {oc_v_law_angle kV_v_law_angle dc_v_law_angle pm_v_law_angle cd_v_law_angle ct_v_law_angle : Value}
    {fn_v_law_mixed : Addr} {od_v_law_mixed an_v_law_mixed : Option Addr} {sl_v_law_mixed : Array (Option Value)} {oc_v_law_mixed kV_v_law_mixed dc_v_law_mixed pm_v_law_mixed cd_v_law_mixed ct_v_law_mixed : Value}
    {fn_is_number : Addr} {od_is_number an_is_number : Option Addr} {sl_is_number : Array (Option Value)} {oc_is_number kV_is_number dc_is_number pm_is_number cd_is_number ct_is_number : Value}
    {fn_are_numbers : Addr} {od_are_numbers an_are_numbers : Option Addr} {sl_are_numbers : Array (Option Value)} {oc_are_numbers kV_are_numbers dc_are_numbers pm_are_numbers cd_are_numbers ct_are_numbers : Value}
    {fn_good_kinds : Addr} {od_good_kinds an_good_kinds : Option Addr} {sl_good_kinds : Array (Option Value)} {oc_good_kinds kV_good_kinds dc_good_kinds pm_good_kinds cd_good_kinds ct_good_kinds : Value}
    {fn_good_mount : Addr} {od_good_mount an_good_mount : Option Addr} {sl_good_mount : Array (Option Value)} {oc_good_mount kV_good_mount dc_good_mount pm_good_mount cd_good_mount ct_good_mount : Value}
    {fn_is_rim : Addr} {od_is_rim an_is_rim : Option Addr} {sl_is_rim : Array (Option Value)} {oc_is_rim kV_is_rim dc_is_rim pm_is_rim cd_is_rim ct_is_rim : Value}
    {fn_shaped : Addr} {od_shaped an_shaped : Option Addr} {sl_shaped : Array (Option Value)} {oc_shaped kV_shaped dc_shaped pm_shaped cd_shaped ct_shaped : Value}
    {fn_count_parts : Addr} {od_count_parts an_count_parts : Option Addr} {sl_count_parts : Array (Option Value)} {oc_count_parts kV_count_parts dc_count_parts pm_count_parts cd_count_parts ct_count_parts : Value}
    {fn_is_tree : Addr} {od_is_tree an_is_tree : Option Addr} {sl_is_tree : Array (Option Value)} {oc_is_tree kV_is_tree dc_is_tree pm_is_tree cd_is_tree ct_is_tree : Value}
    {fn_good_drops : Addr} {od_good_drops an_good_drops : Option Addr} {sl_good_drops : Array (Option Value)} {oc_good_drops kV_good_drops dc_good_drops pm_good_drops cd_good_drops ct_good_drops : Value}
    {fn_good_foot : Addr} {od_good_foot an_good_foot : Option Addr} {sl_good_foot : Array (Option Value)} {oc_good_foot kV_good_foot dc_good_foot pm_good_foot cd_good_foot ct_good_foot : Value}
    {fn_good_things : Addr} {od_good_things an_good_things : Option Addr} {sl_good_things : Array (Option Value)} {oc_good_things kV_good_things dc_good_things pm_good_things cd_good_things ct_good_things : Value}
    {fn_need_fact : Addr} {od_need_fact an_need_fact : Option Addr} {sl_need_fact : Array (Option Value)} {oc_need_fact kV_need_fact dc_need_fact pm_need_fact cd_need_fact ct_need_fact : Value}
    {fn_Hold_init : Addr} {od_Hold_init an_Hold_init : Option Addr} {sl_Hold_init : Array (Option Value)} {oc_Hold_init kV_Hold_init dc_Hold_init pm_Hold_init cd_Hold_init ct_Hold_init : Value}
    {fn_Workshop_go_on : Addr} {od_Workshop_go_on an_Workshop_go_on : Option Addr} {sl_Workshop_go_on : Array (Option Value)} {oc_Workshop_go_on kV_Workshop_go_on dc_Workshop_go_on pm_Workshop_go_on cd_Workshop_go_on ct_Workshop_go_on : Value}
    {fn_Workshop_tell : Addr} {od_Workshop_tell an_Workshop_tell : Option Addr} {sl_Workshop_tell : Array (Option Value)} {oc_Workshop_tell kV_Workshop_tell dc_Workshop_tell pm_Workshop_tell cd_Workshop_tell ct_Workshop_tell : Value}
    {fn_Workshop_fact_of : Addr} {od_Workshop_fact_of an_Workshop_fact_of : Option Addr} {sl_Workshop_fact_of : Array (Option Value)} {oc_Workshop_fact_of kV_Workshop_fact_of dc_Workshop_fact_of pm_Workshop_fact_of cd_Workshop_fact_of ct_Workshop_fact_of : Value}
    {fn_Workshop_strike : Addr} {od_Workshop_strike an_Workshop_strike : Option Addr} {sl_Workshop_strike : Array (Option Value)} {oc_Workshop_strike kV_Workshop_strike dc_Workshop_strike pm_Workshop_strike cd_Workshop_strike ct_Workshop_strike : Value}
    {fn_v_law_drops : Addr} {od_v_law_drops an_v_law_drops : Option Addr} {sl_v_law_drops : Array (Option Value)} {oc_v_law_drops kV_v_law_drops dc_v_law_drops pm_v_law_drops cd_v_law_drops ct_v_law_drops : Value}
    {fn_v_law_pair : Addr} {od_v_law_pair an_v_law_pair : Option Addr} {sl_v_law_pair : Array (Option Value)} {oc_v_law_pair kV_v_law_pair dc_v_law_pair pm_v_law_pair cd_v_law_pair ct_v_law_pair : Value}
    {fn_v_law_tree : Addr} {od_v_law_tree an_v_law_tree : Option Addr} {sl_v_law_tree : Array (Option Value)} {oc_v_law_tree kV_v_law_tree dc_v_law_tree pm_v_law_tree cd_v_law_tree ct_v_law_tree : Value}
    {fn_v_law_full_tree : Addr} {od_v_law_full_tree an_v_law_full_tree : Option Addr} {sl_v_law_full_tree : Array (Option Value)} {oc_v_law_full_tree kV_v_law_full_tree dc_v_law_full_tree pm_v_law_full_tree cd_v_law_full_tree ct_v_law_full_tree : Value}
    {fn_v_law_num : Addr} {od_v_law_num an_v_law_num : Option Addr} {sl_v_law_num : Array (Option Value)} {oc_v_law_num kV_v_law_num dc_v_law_num pm_v_law_num cd_v_law_num ct_v_law_num : Value}
    {fn_v_law_tree_ok : Addr} {od_v_law_tree_ok an_v_law_tree_ok : Option Addr} {sl_v_law_tree_ok : Array (Option Value)} {oc_v_law_tree_ok kV_v_law_tree_ok dc_v_law_tree_ok pm_v_law_tree_ok cd_v_law_tree_ok ct_v_law_tree_ok : Value}
    {fn_v_law_deep : Addr} {od_v_law_deep an_v_law_deep : Option Addr} {sl_v_law_deep : Array (Option Value)} {oc_v_law_deep kV_v_law_deep dc_v_law_deep pm_v_law_deep cd_v_law_deep ct_v_law_deep : Value}
    {fn_v_law_parts : Addr} {od_v_law_parts an_v_law_parts : Option Addr} {sl_v_law_parts : Array (Option Value)} {oc_v_law_parts kV_v_law_parts dc_v_law_parts pm_v_law_parts cd_v_law_parts ct_v_law_parts : Value}
    {fn_v_law_good_tree : Addr} {od_v_law_good_tree an_v_law_good_tree : Option Addr} {sl_v_law_good_tree : Array (Option Value)} {oc_v_law_good_tree kV_v_law_good_tree dc_v_law_good_tree pm_v_law_good_tree cd_v_law_good_tree ct_v_law_good_tree : Value}
    {fn_v_law_small_tree : Addr} {od_v_law_small_tree an_v_law_small_tree : Option Addr} {sl_v_law_small_tree : Array (Option Value)} {oc_v_law_small_tree kV_v_law_small_tree dc_v_law_small_tree pm_v_law_small_tree cd_v_law_small_tree ct_v_law_small_tree : Value}
    {fn_v_law_height : Addr} {od_v_law_height an_v_law_height : Option Addr} {sl_v_law_height : Array (Option Value)} {oc_v_law_height kV_v_law_height dc_v_law_height pm_v_law_height cd_v_law_height ct_v_law_height : Value}
    {fn_v_law_rim : Addr} {od_v_law_rim an_v_law_rim : Option Addr} {sl_v_law_rim : Array (Option Value)} {oc_v_law_rim kV_v_law_rim dc_v_law_rim pm_v_law_rim cd_v_law_rim ct_v_law_rim : Value}
    {fn_v_law_fact : Addr} {od_v_law_fact an_v_law_fact : Option Addr} {sl_v_law_fact : Array (Option Value)} {oc_v_law_fact kV_v_law_fact dc_v_law_fact pm_v_law_fact cd_v_law_fact ct_v_law_fact : Value}
    {fn_Workshop_init : Addr} {od_Workshop_init an_Workshop_init : Option Addr} {sl_Workshop_init : Array (Option Value)} {oc_Workshop_init kV_Workshop_init dc_Workshop_init pm_Workshop_init cd_Workshop_init ct_Workshop_init : Value}
    {fn_last_of : Addr} {od_last_of an_last_of : Option Addr} {sl_last_of : Array (Option Value)} {oc_last_of kV_last_of dc_last_of pm_last_of cd_last_of ct_last_of : Value}
    {fn_Workshop_facts : Addr} {od_Workshop_facts an_Workshop_facts : Option Addr} {sl_Workshop_facts : Array (Option Value)} {oc_Workshop_facts kV_Workshop_facts dc_Workshop_facts pm_Workshop_facts cd_Workshop_facts ct_Workshop_facts : Value}
    {fn_cut_at : Addr} {od_cut_at an_cut_at : Option Addr} {sl_cut_at : Array (Option Value)} {oc_cut_at kV_cut_at dc_cut_at pm_cut_at cd_cut_at ct_cut_at : Value}
    {fn_Workshop_rim_of : Addr} {od_Workshop_rim_of an_Workshop_rim_of : Option Addr} {sl_Workshop_rim_of : Array (Option Value)} {oc_Workshop_rim_of kV_Workshop_rim_of dc_Workshop_rim_of pm_Workshop_rim_of cd_Workshop_rim_of ct_Workshop_rim_of : Value}
    {fn_Workshop_mount_of : Addr} {od_Workshop_mount_of an_Workshop_mount_of : Option Addr} {sl_Workshop_mount_of : Array (Option Value)} {oc_Workshop_mount_of kV_Workshop_mount_of dc_Workshop_mount_of pm_Workshop_mount_of cd_Workshop_mount_of ct_Workshop_mount_of : Value}
    {fn_touched : Addr} {od_touched an_touched : Option Addr} {sl_touched : Array (Option Value)} {oc_touched kV_touched dc_touched pm_touched cd_touched ct_touched : Value}
    {fn_lift_on : Addr} {od_lift_on an_lift_on : Option Addr} {sl_lift_on : Array (Option Value)} {oc_lift_on kV_lift_on dc_lift_on pm_lift_on cd_lift_on ct_lift_on : Value}
    {fn_Foot_init : Addr} {od_Foot_init an_Foot_init : Option Addr} {sl_Foot_init : Array (Option Value)} {oc_Foot_init kV_Foot_init dc_Foot_init pm_Foot_init cd_Foot_init ct_Foot_init : Value}
    {T_Foot_init : Addr} {cT_Foot_init : Value} {dT_Foot_init : Option Addr} {nT_Foot_init : Nat} {sT_Foot_init : Array (Option Value)} {t0_Foot_init : Tok}
    {fn_angle_at : Addr} {od_angle_at an_angle_at : Option Addr} {sl_angle_at : Array (Option Value)} {oc_angle_at kV_angle_at dc_angle_at pm_angle_at cd_angle_at ct_angle_at : Value}
    {T_angle_at : Addr} {cT_angle_at : Value} {dT_angle_at : Option Addr} {nT_angle_at : Nat} {sT_angle_at : Array (Option Value)} {t0_angle_at t1_angle_at t2_angle_at : Tok}
    {fn_Workshop_lift_at : Addr} {od_Workshop_lift_at an_Workshop_lift_at : Option Addr} {sl_Workshop_lift_at : Array (Option Value)} {oc_Workshop_lift_at kV_Workshop_lift_at dc_Workshop_lift_at pm_Workshop_lift_at cd_Workshop_lift_at ct_Workshop_lift_at : Value}
    {fn_Workshop_lift : Addr} {od_Workshop_lift an_Workshop_lift : Option Addr} {sl_Workshop_lift : Array (Option Value)} {oc_Workshop_lift kV_Workshop_lift dc_Workshop_lift pm_Workshop_lift cd_Workshop_lift ct_Workshop_lift : Value}
    {T_Workshop_lift : Addr} {cT_Workshop_lift : Value} {dT_Workshop_lift : Option Addr} {nT_Workshop_lift : Nat} {sT_Workshop_lift : Array (Option Value)} {t0_Workshop_lift : Tok}
    {fn_Workshop_rim : Addr} {od_Workshop_rim an_Workshop_rim : Option Addr} {sl_Workshop_rim : Array (Option Value)} {oc_Workshop_rim kV_Workshop_rim dc_Workshop_rim pm_Workshop_rim cd_Workshop_rim ct_Workshop_rim : Value}
    {fn_v_law_lifts : Addr} {od_v_law_lifts an_v_law_lifts : Option Addr} {sl_v_law_lifts : Array (Option Value)} {oc_v_law_lifts kV_v_law_lifts dc_v_law_lifts pm_v_law_lifts cd_v_law_lifts ct_v_law_lifts : Value}
    {fn_Workshop_eq : Addr} {od_Workshop_eq an_Workshop_eq : Option Addr} {sl_Workshop_eq : Array (Option Value)} {oc_Workshop_eq kV_Workshop_eq dc_Workshop_eq pm_Workshop_eq cd_Workshop_eq ct_Workshop_eq : Value}
    {fn_Workshop_len : Addr} {od_Workshop_len an_Workshop_len : Option Addr} {sl_Workshop_len : Array (Option Value)} {oc_Workshop_len kV_Workshop_len dc_Workshop_len pm_Workshop_len cd_Workshop_len ct_Workshop_len : Value}
    {fn_look_rim : Addr} {od_look_rim an_look_rim : Option Addr} {sl_look_rim : Array (Option Value)} {oc_look_rim kV_look_rim dc_look_rim pm_look_rim cd_look_rim ct_look_rim : Value}
    {fn_lies_within : Addr} {od_lies_within an_lies_within : Option Addr} {sl_lies_within : Array (Option Value)} {oc_lies_within kV_lies_within dc_lies_within pm_lies_within cd_lies_within ct_lies_within : Value}
    {fn_within : Addr} {od_within an_within : Option Addr} {sl_within : Array (Option Value)} {oc_within kV_within dc_within pm_within cd_within ct_within : Value}
    {fn_law : Addr} {od_law an_law : Option Addr} {sl_law : Array (Option Value)} {oc_law kV_law dc_law pm_law cd_law ct_law : Value}
    {D_LENGTHS : Addr} {es_LENGTHS : Array DictEntry} {nn_LENGTHS : Nat}
    {D_PARTS : Addr} {es_PARTS : Array DictEntry} {nn_PARTS : Nat}
    {tc_DEEPEST : Tok}
    {tc_FEWEST : Tok}
    {tc_LAST_CAM : Tok}
    {tc_LAST_FOLLOWER_facts : Tok}
    {tc_LAST_FOLLOWER_levers : Tok}
    {tc_LAST_LEVER : Tok}
    {tc_MOST : Tok}
    {tc_MOST_DROP : Tok}
    {tc_MOST_PARTS : Tok}
    {tc_MOST_PLACES : Tok}
    {tc_MOST_TOLD : Tok}
    {tc_MOST_TURNS : Tok}
    (gC_BadFact : PySem.W.nsIn K mainGlobals "BadFact" = some (some (.ref C_BadFact)))
    (gC_BadFoot : PySem.W.nsIn K mainGlobals "BadFoot" = some (some (.ref C_BadFoot)))
    (gC_BadRim : PySem.W.nsIn K mainGlobals "BadRim" = some (some (.ref C_BadRim)))
    (gC_BadSize : PySem.W.nsIn K mainGlobals "BadSize" = some (some (.ref C_BadSize)))
    (gC_Foot : PySem.W.nsIn K mainGlobals "Foot" = some (some (.ref C_Foot)))
    (gC_Full : PySem.W.nsIn K mainGlobals "Full" = some (some (.ref C_Full)))
    (gC_Hold : PySem.W.nsIn K mainGlobals "Hold" = some (some (.ref C_Hold)))
    (gC_Workshop : PySem.W.nsIn K mainGlobals "Workshop" = some (some (.ref C_Workshop)))
    (a_v_law_bag : PySem.W.nsIn K mainGlobals "_law_bag" = some (some (.ref fn_v_law_bag)))
    (l_v_law_bag : K.lookup fn_v_law_bag = some ⟨oc_v_law_bag, od_v_law_bag, .func (PySem.W.fnOf "_law_bag" "_law_bag" (defArgs s_v_law_bag) (defBody s_v_law_bag) (defScope s_v_law_bag) .none kV_v_law_bag dc_v_law_bag pm_v_law_bag an_v_law_bag cd_v_law_bag ct_v_law_bag), sl_v_law_bag⟩)
    (c_v_law_bag : PySem.W.codeIn K cd_v_law_bag "_law_bag" = true)
    (k_v_law_bag : PySem.W.keepIn K (.ref fn_v_law_bag) = true)
    (a_v_law_pull : PySem.W.nsIn K mainGlobals "_law_pull" = some (some (.ref fn_v_law_pull)))
    (l_v_law_pull : K.lookup fn_v_law_pull = some ⟨oc_v_law_pull, od_v_law_pull, .func (PySem.W.fnOf "_law_pull" "_law_pull" (defArgs s_v_law_pull) (defBody s_v_law_pull) (defScope s_v_law_pull) .none kV_v_law_pull dc_v_law_pull pm_v_law_pull an_v_law_pull cd_v_law_pull ct_v_law_pull), sl_v_law_pull⟩)
    (c_v_law_pull : PySem.W.codeIn K cd_v_law_pull "_law_pull" = true)
    (k_v_law_pull : PySem.W.keepIn K (.ref fn_v_law_pull) = true)
    (a_v_law_far : PySem.W.nsIn K mainGlobals "_law_far" = some (some (.ref fn_v_law_far)))
    (l_v_law_far : K.lookup fn_v_law_far = some ⟨oc_v_law_far, od_v_law_far, .func (PySem.W.fnOf "_law_far" "_law_far" (defArgs s_v_law_far) (defBody s_v_law_far) (defScope s_v_law_far) .none kV_v_law_far dc_v_law_far pm_v_law_far an_v_law_far cd_v_law_far ct_v_law_far), sl_v_law_far⟩)
    (c_v_law_far : PySem.W.codeIn K cd_v_law_far "_law_far" = true)
    (k_v_law_far : PySem.W.keepIn K (.ref fn_v_law_far) = true)
    (a_v_law_angle : PySem.W.nsIn K mainGlobals "_law_angle" = some (some (.ref fn_v_law_angle)))
    (l_v_law_angle : K.lookup fn_v_law_angle = some ⟨oc_v_law_angle, od_v_law_angle, .func (PySem.W.fnOf "_law_angle" "_law_angle" (defArgs s_v_law_angle) (defBody s_v_law_angle) (defScope s_v_law_angle) .none kV_v_law_angle dc_v_law_angle pm_v_law_angle an_v_law_angle cd_v_law_angle ct_v_law_angle), sl_v_law_angle⟩)
    (c_v_law_angle : PySem.W.codeIn K cd_v_law_angle "_law_angle" = true)
    (k_v_law_angle : PySem.W.keepIn K (.ref fn_v_law_angle) = true)
    (a_v_law_mixed : PySem.W.nsIn K mainGlobals "_law_mixed" = some (some (.ref fn_v_law_mixed)))
    (l_v_law_mixed : K.lookup fn_v_law_mixed = some ⟨oc_v_law_mixed, od_v_law_mixed, .func (PySem.W.fnOf "_law_mixed" "_law_mixed" (defArgs s_v_law_mixed) (defBody s_v_law_mixed) (defScope s_v_law_mixed) .none kV_v_law_mixed dc_v_law_mixed pm_v_law_mixed an_v_law_mixed cd_v_law_mixed ct_v_law_mixed), sl_v_law_mixed⟩)
    (c_v_law_mixed : PySem.W.codeIn K cd_v_law_mixed "_law_mixed" = true)
    (k_v_law_mixed : PySem.W.keepIn K (.ref fn_v_law_mixed) = true)
    (a_is_number : PySem.W.nsIn K mainGlobals "is_number" = some (some (.ref fn_is_number)))
    (l_is_number : K.lookup fn_is_number = some ⟨oc_is_number, od_is_number, .func (PySem.W.fnOf "is_number" "is_number" (defArgs s_is_number) (defBody s_is_number) (defScope s_is_number) .none kV_is_number dc_is_number pm_is_number an_is_number cd_is_number ct_is_number), sl_is_number⟩)
    (c_is_number : PySem.W.codeIn K cd_is_number "is_number" = true)
    (k_is_number : PySem.W.keepIn K (.ref fn_is_number) = true)
    (a_are_numbers : PySem.W.nsIn K mainGlobals "are_numbers" = some (some (.ref fn_are_numbers)))
    (l_are_numbers : K.lookup fn_are_numbers = some ⟨oc_are_numbers, od_are_numbers, .func (PySem.W.fnOf "are_numbers" "are_numbers" (defArgs s_are_numbers) (defBody s_are_numbers) (defScope s_are_numbers) .none kV_are_numbers dc_are_numbers pm_are_numbers an_are_numbers cd_are_numbers ct_are_numbers), sl_are_numbers⟩)
    (c_are_numbers : PySem.W.codeIn K cd_are_numbers "are_numbers" = true)
    (k_are_numbers : PySem.W.keepIn K (.ref fn_are_numbers) = true)
    (a_good_kinds : PySem.W.nsIn K mainGlobals "good_kinds" = some (some (.ref fn_good_kinds)))
    (l_good_kinds : K.lookup fn_good_kinds = some ⟨oc_good_kinds, od_good_kinds, .func (PySem.W.fnOf "good_kinds" "good_kinds" (defArgs s_good_kinds) (defBody s_good_kinds) (defScope s_good_kinds) .none kV_good_kinds dc_good_kinds pm_good_kinds an_good_kinds cd_good_kinds ct_good_kinds), sl_good_kinds⟩)
    (c_good_kinds : PySem.W.codeIn K cd_good_kinds "good_kinds" = true)
    (k_good_kinds : PySem.W.keepIn K (.ref fn_good_kinds) = true)
    (a_good_mount : PySem.W.nsIn K mainGlobals "good_mount" = some (some (.ref fn_good_mount)))
    (l_good_mount : K.lookup fn_good_mount = some ⟨oc_good_mount, od_good_mount, .func (PySem.W.fnOf "good_mount" "good_mount" (defArgs s_good_mount) (defBody s_good_mount) (defScope s_good_mount) .none kV_good_mount dc_good_mount pm_good_mount an_good_mount cd_good_mount ct_good_mount), sl_good_mount⟩)
    (c_good_mount : PySem.W.codeIn K cd_good_mount "good_mount" = true)
    (k_good_mount : PySem.W.keepIn K (.ref fn_good_mount) = true)
    (a_is_rim : PySem.W.nsIn K mainGlobals "is_rim" = some (some (.ref fn_is_rim)))
    (l_is_rim : K.lookup fn_is_rim = some ⟨oc_is_rim, od_is_rim, .func (PySem.W.fnOf "is_rim" "is_rim" (defArgs s_is_rim) (defBody s_is_rim) (defScope s_is_rim) .none kV_is_rim dc_is_rim pm_is_rim an_is_rim cd_is_rim ct_is_rim), sl_is_rim⟩)
    (c_is_rim : PySem.W.codeIn K cd_is_rim "is_rim" = true)
    (k_is_rim : PySem.W.keepIn K (.ref fn_is_rim) = true)
    (a_shaped : PySem.W.nsIn K mainGlobals "shaped" = some (some (.ref fn_shaped)))
    (l_shaped : K.lookup fn_shaped = some ⟨oc_shaped, od_shaped, .func (PySem.W.fnOf "shaped" "shaped" (defArgs s_shaped) (defBody s_shaped) (defScope s_shaped) .none kV_shaped dc_shaped pm_shaped an_shaped cd_shaped ct_shaped), sl_shaped⟩)
    (c_shaped : PySem.W.codeIn K cd_shaped "shaped" = true)
    (k_shaped : PySem.W.keepIn K (.ref fn_shaped) = true)
    (a_count_parts : PySem.W.nsIn K mainGlobals "count_parts" = some (some (.ref fn_count_parts)))
    (l_count_parts : K.lookup fn_count_parts = some ⟨oc_count_parts, od_count_parts, .func (PySem.W.fnOf "count_parts" "count_parts" (defArgs s_count_parts) (defBody s_count_parts) (defScope s_count_parts) .none kV_count_parts dc_count_parts pm_count_parts an_count_parts cd_count_parts ct_count_parts), sl_count_parts⟩)
    (c_count_parts : PySem.W.codeIn K cd_count_parts "count_parts" = true)
    (k_count_parts : PySem.W.keepIn K (.ref fn_count_parts) = true)
    (a_is_tree : PySem.W.nsIn K mainGlobals "is_tree" = some (some (.ref fn_is_tree)))
    (l_is_tree : K.lookup fn_is_tree = some ⟨oc_is_tree, od_is_tree, .func (PySem.W.fnOf "is_tree" "is_tree" (defArgs s_is_tree) (defBody s_is_tree) (defScope s_is_tree) .none kV_is_tree dc_is_tree pm_is_tree an_is_tree cd_is_tree ct_is_tree), sl_is_tree⟩)
    (c_is_tree : PySem.W.codeIn K cd_is_tree "is_tree" = true)
    (k_is_tree : PySem.W.keepIn K (.ref fn_is_tree) = true)
    (a_good_drops : PySem.W.nsIn K mainGlobals "good_drops" = some (some (.ref fn_good_drops)))
    (l_good_drops : K.lookup fn_good_drops = some ⟨oc_good_drops, od_good_drops, .func (PySem.W.fnOf "good_drops" "good_drops" (defArgs s_good_drops) (defBody s_good_drops) (defScope s_good_drops) .none kV_good_drops dc_good_drops pm_good_drops an_good_drops cd_good_drops ct_good_drops), sl_good_drops⟩)
    (c_good_drops : PySem.W.codeIn K cd_good_drops "good_drops" = true)
    (k_good_drops : PySem.W.keepIn K (.ref fn_good_drops) = true)
    (a_good_foot : PySem.W.nsIn K mainGlobals "good_foot" = some (some (.ref fn_good_foot)))
    (l_good_foot : K.lookup fn_good_foot = some ⟨oc_good_foot, od_good_foot, .func (PySem.W.fnOf "good_foot" "good_foot" (defArgs s_good_foot) (defBody s_good_foot) (defScope s_good_foot) .none kV_good_foot dc_good_foot pm_good_foot an_good_foot cd_good_foot ct_good_foot), sl_good_foot⟩)
    (c_good_foot : PySem.W.codeIn K cd_good_foot "good_foot" = true)
    (k_good_foot : PySem.W.keepIn K (.ref fn_good_foot) = true)
    (a_good_things : PySem.W.nsIn K mainGlobals "good_things" = some (some (.ref fn_good_things)))
    (l_good_things : K.lookup fn_good_things = some ⟨oc_good_things, od_good_things, .func (PySem.W.fnOf "good_things" "good_things" (defArgs s_good_things) (defBody s_good_things) (defScope s_good_things) .none kV_good_things dc_good_things pm_good_things an_good_things cd_good_things ct_good_things), sl_good_things⟩)
    (c_good_things : PySem.W.codeIn K cd_good_things "good_things" = true)
    (k_good_things : PySem.W.keepIn K (.ref fn_good_things) = true)
    (a_need_fact : PySem.W.nsIn K mainGlobals "need_fact" = some (some (.ref fn_need_fact)))
    (l_need_fact : K.lookup fn_need_fact = some ⟨oc_need_fact, od_need_fact, .func (PySem.W.fnOf "need_fact" "need_fact" (defArgs s_need_fact) (defBody s_need_fact) (defScope s_need_fact) .none kV_need_fact dc_need_fact pm_need_fact an_need_fact cd_need_fact ct_need_fact), sl_need_fact⟩)
    (c_need_fact : PySem.W.codeIn K cd_need_fact "need_fact" = true)
    (k_need_fact : PySem.W.keepIn K (.ref fn_need_fact) = true)
    (a_Hold_init : PySem.W.findIn K (.ref C_Hold) "__init__" = some (some (.ref fn_Hold_init)))
    (i_Hold_init : PySem.W.isFn K (.ref fn_Hold_init) = true)
    (l_Hold_init : K.lookup fn_Hold_init = some ⟨oc_Hold_init, od_Hold_init, .func (PySem.W.fnOf "__init__" "Hold.__init__" (defArgs s_Hold_init) (defBody s_Hold_init) (defScope s_Hold_init) .none kV_Hold_init dc_Hold_init pm_Hold_init an_Hold_init cd_Hold_init ct_Hold_init), sl_Hold_init⟩)
    (c_Hold_init : PySem.W.codeIn K cd_Hold_init "Hold.__init__" = true)
    (k_Hold_init : PySem.W.keepIn K (.ref fn_Hold_init) = true)
    (a_Workshop_go_on : PySem.W.findIn K (.ref C_Workshop) "go_on" = some (some (.ref fn_Workshop_go_on)))
    (i_Workshop_go_on : PySem.W.isFn K (.ref fn_Workshop_go_on) = true)
    (l_Workshop_go_on : K.lookup fn_Workshop_go_on = some ⟨oc_Workshop_go_on, od_Workshop_go_on, .func (PySem.W.fnOf "go_on" "Workshop.go_on" (defArgs s_Workshop_go_on) (defBody s_Workshop_go_on) (defScope s_Workshop_go_on) .none kV_Workshop_go_on dc_Workshop_go_on pm_Workshop_go_on an_Workshop_go_on cd_Workshop_go_on ct_Workshop_go_on), sl_Workshop_go_on⟩)
    (c_Workshop_go_on : PySem.W.codeIn K cd_Workshop_go_on "Workshop.go_on" = true)
    (k_Workshop_go_on : PySem.W.keepIn K (.ref fn_Workshop_go_on) = true)
    (a_Workshop_tell : PySem.W.findIn K (.ref C_Workshop) "tell" = some (some (.ref fn_Workshop_tell)))
    (i_Workshop_tell : PySem.W.isFn K (.ref fn_Workshop_tell) = true)
    (l_Workshop_tell : K.lookup fn_Workshop_tell = some ⟨oc_Workshop_tell, od_Workshop_tell, .func (PySem.W.fnOf "tell" "Workshop.tell" (defArgs s_Workshop_tell) (defBody s_Workshop_tell) (defScope s_Workshop_tell) .none kV_Workshop_tell dc_Workshop_tell pm_Workshop_tell an_Workshop_tell cd_Workshop_tell ct_Workshop_tell), sl_Workshop_tell⟩)
    (c_Workshop_tell : PySem.W.codeIn K cd_Workshop_tell "Workshop.tell" = true)
    (k_Workshop_tell : PySem.W.keepIn K (.ref fn_Workshop_tell) = true)
    (a_Workshop_fact_of : PySem.W.findIn K (.ref C_Workshop) "fact_of" = some (some (.ref fn_Workshop_fact_of)))
    (i_Workshop_fact_of : PySem.W.isFn K (.ref fn_Workshop_fact_of) = true)
    (l_Workshop_fact_of : K.lookup fn_Workshop_fact_of = some ⟨oc_Workshop_fact_of, od_Workshop_fact_of, .func (PySem.W.fnOf "fact_of" "Workshop.fact_of" (defArgs s_Workshop_fact_of) (defBody s_Workshop_fact_of) (defScope s_Workshop_fact_of) .none kV_Workshop_fact_of dc_Workshop_fact_of pm_Workshop_fact_of an_Workshop_fact_of cd_Workshop_fact_of ct_Workshop_fact_of), sl_Workshop_fact_of⟩)
    (c_Workshop_fact_of : PySem.W.codeIn K cd_Workshop_fact_of "Workshop.fact_of" = true)
    (k_Workshop_fact_of : PySem.W.keepIn K (.ref fn_Workshop_fact_of) = true)
    (a_Workshop_strike : PySem.W.findIn K (.ref C_Workshop) "strike" = some (some (.ref fn_Workshop_strike)))
    (i_Workshop_strike : PySem.W.isFn K (.ref fn_Workshop_strike) = true)
    (l_Workshop_strike : K.lookup fn_Workshop_strike = some ⟨oc_Workshop_strike, od_Workshop_strike, .func (PySem.W.fnOf "strike" "Workshop.strike" (defArgs s_Workshop_strike) (defBody s_Workshop_strike) (defScope s_Workshop_strike) .none kV_Workshop_strike dc_Workshop_strike pm_Workshop_strike an_Workshop_strike cd_Workshop_strike ct_Workshop_strike), sl_Workshop_strike⟩)
    (c_Workshop_strike : PySem.W.codeIn K cd_Workshop_strike "Workshop.strike" = true)
    (k_Workshop_strike : PySem.W.keepIn K (.ref fn_Workshop_strike) = true)
    (a_v_law_drops : PySem.W.nsIn K mainGlobals "_law_drops" = some (some (.ref fn_v_law_drops)))
    (l_v_law_drops : K.lookup fn_v_law_drops = some ⟨oc_v_law_drops, od_v_law_drops, .func (PySem.W.fnOf "_law_drops" "_law_drops" (defArgs s_v_law_drops) (defBody s_v_law_drops) (defScope s_v_law_drops) .none kV_v_law_drops dc_v_law_drops pm_v_law_drops an_v_law_drops cd_v_law_drops ct_v_law_drops), sl_v_law_drops⟩)
    (c_v_law_drops : PySem.W.codeIn K cd_v_law_drops "_law_drops" = true)
    (k_v_law_drops : PySem.W.keepIn K (.ref fn_v_law_drops) = true)
    (a_v_law_pair : PySem.W.nsIn K mainGlobals "_law_pair" = some (some (.ref fn_v_law_pair)))
    (l_v_law_pair : K.lookup fn_v_law_pair = some ⟨oc_v_law_pair, od_v_law_pair, .func (PySem.W.fnOf "_law_pair" "_law_pair" (defArgs s_v_law_pair) (defBody s_v_law_pair) (defScope s_v_law_pair) .none kV_v_law_pair dc_v_law_pair pm_v_law_pair an_v_law_pair cd_v_law_pair ct_v_law_pair), sl_v_law_pair⟩)
    (c_v_law_pair : PySem.W.codeIn K cd_v_law_pair "_law_pair" = true)
    (k_v_law_pair : PySem.W.keepIn K (.ref fn_v_law_pair) = true)
    (a_v_law_tree : PySem.W.nsIn K mainGlobals "_law_tree" = some (some (.ref fn_v_law_tree)))
    (l_v_law_tree : K.lookup fn_v_law_tree = some ⟨oc_v_law_tree, od_v_law_tree, .func (PySem.W.fnOf "_law_tree" "_law_tree" (defArgs s_v_law_tree) (defBody s_v_law_tree) (defScope s_v_law_tree) .none kV_v_law_tree dc_v_law_tree pm_v_law_tree an_v_law_tree cd_v_law_tree ct_v_law_tree), sl_v_law_tree⟩)
    (c_v_law_tree : PySem.W.codeIn K cd_v_law_tree "_law_tree" = true)
    (k_v_law_tree : PySem.W.keepIn K (.ref fn_v_law_tree) = true)
    (a_v_law_full_tree : PySem.W.nsIn K mainGlobals "_law_full_tree" = some (some (.ref fn_v_law_full_tree)))
    (l_v_law_full_tree : K.lookup fn_v_law_full_tree = some ⟨oc_v_law_full_tree, od_v_law_full_tree, .func (PySem.W.fnOf "_law_full_tree" "_law_full_tree" (defArgs s_v_law_full_tree) (defBody s_v_law_full_tree) (defScope s_v_law_full_tree) .none kV_v_law_full_tree dc_v_law_full_tree pm_v_law_full_tree an_v_law_full_tree cd_v_law_full_tree ct_v_law_full_tree), sl_v_law_full_tree⟩)
    (c_v_law_full_tree : PySem.W.codeIn K cd_v_law_full_tree "_law_full_tree" = true)
    (k_v_law_full_tree : PySem.W.keepIn K (.ref fn_v_law_full_tree) = true)
    (a_v_law_num : PySem.W.nsIn K mainGlobals "_law_num" = some (some (.ref fn_v_law_num)))
    (l_v_law_num : K.lookup fn_v_law_num = some ⟨oc_v_law_num, od_v_law_num, .func (PySem.W.fnOf "_law_num" "_law_num" (defArgs s_v_law_num) (defBody s_v_law_num) (defScope s_v_law_num) .none kV_v_law_num dc_v_law_num pm_v_law_num an_v_law_num cd_v_law_num ct_v_law_num), sl_v_law_num⟩)
    (c_v_law_num : PySem.W.codeIn K cd_v_law_num "_law_num" = true)
    (k_v_law_num : PySem.W.keepIn K (.ref fn_v_law_num) = true)
    (a_v_law_tree_ok : PySem.W.nsIn K mainGlobals "_law_tree_ok" = some (some (.ref fn_v_law_tree_ok)))
    (l_v_law_tree_ok : K.lookup fn_v_law_tree_ok = some ⟨oc_v_law_tree_ok, od_v_law_tree_ok, .func (PySem.W.fnOf "_law_tree_ok" "_law_tree_ok" (defArgs s_v_law_tree_ok) (defBody s_v_law_tree_ok) (defScope s_v_law_tree_ok) .none kV_v_law_tree_ok dc_v_law_tree_ok pm_v_law_tree_ok an_v_law_tree_ok cd_v_law_tree_ok ct_v_law_tree_ok), sl_v_law_tree_ok⟩)
    (c_v_law_tree_ok : PySem.W.codeIn K cd_v_law_tree_ok "_law_tree_ok" = true)
    (k_v_law_tree_ok : PySem.W.keepIn K (.ref fn_v_law_tree_ok) = true)
    (a_v_law_deep : PySem.W.nsIn K mainGlobals "_law_deep" = some (some (.ref fn_v_law_deep)))
    (l_v_law_deep : K.lookup fn_v_law_deep = some ⟨oc_v_law_deep, od_v_law_deep, .func (PySem.W.fnOf "_law_deep" "_law_deep" (defArgs s_v_law_deep) (defBody s_v_law_deep) (defScope s_v_law_deep) .none kV_v_law_deep dc_v_law_deep pm_v_law_deep an_v_law_deep cd_v_law_deep ct_v_law_deep), sl_v_law_deep⟩)
    (c_v_law_deep : PySem.W.codeIn K cd_v_law_deep "_law_deep" = true)
    (k_v_law_deep : PySem.W.keepIn K (.ref fn_v_law_deep) = true)
    (a_v_law_parts : PySem.W.nsIn K mainGlobals "_law_parts" = some (some (.ref fn_v_law_parts)))
    (l_v_law_parts : K.lookup fn_v_law_parts = some ⟨oc_v_law_parts, od_v_law_parts, .func (PySem.W.fnOf "_law_parts" "_law_parts" (defArgs s_v_law_parts) (defBody s_v_law_parts) (defScope s_v_law_parts) .none kV_v_law_parts dc_v_law_parts pm_v_law_parts an_v_law_parts cd_v_law_parts ct_v_law_parts), sl_v_law_parts⟩)
    (c_v_law_parts : PySem.W.codeIn K cd_v_law_parts "_law_parts" = true)
    (k_v_law_parts : PySem.W.keepIn K (.ref fn_v_law_parts) = true)
    (a_v_law_good_tree : PySem.W.nsIn K mainGlobals "_law_good_tree" = some (some (.ref fn_v_law_good_tree)))
    (l_v_law_good_tree : K.lookup fn_v_law_good_tree = some ⟨oc_v_law_good_tree, od_v_law_good_tree, .func (PySem.W.fnOf "_law_good_tree" "_law_good_tree" (defArgs s_v_law_good_tree) (defBody s_v_law_good_tree) (defScope s_v_law_good_tree) .none kV_v_law_good_tree dc_v_law_good_tree pm_v_law_good_tree an_v_law_good_tree cd_v_law_good_tree ct_v_law_good_tree), sl_v_law_good_tree⟩)
    (c_v_law_good_tree : PySem.W.codeIn K cd_v_law_good_tree "_law_good_tree" = true)
    (k_v_law_good_tree : PySem.W.keepIn K (.ref fn_v_law_good_tree) = true)
    (a_v_law_small_tree : PySem.W.nsIn K mainGlobals "_law_small_tree" = some (some (.ref fn_v_law_small_tree)))
    (l_v_law_small_tree : K.lookup fn_v_law_small_tree = some ⟨oc_v_law_small_tree, od_v_law_small_tree, .func (PySem.W.fnOf "_law_small_tree" "_law_small_tree" (defArgs s_v_law_small_tree) (defBody s_v_law_small_tree) (defScope s_v_law_small_tree) .none kV_v_law_small_tree dc_v_law_small_tree pm_v_law_small_tree an_v_law_small_tree cd_v_law_small_tree ct_v_law_small_tree), sl_v_law_small_tree⟩)
    (c_v_law_small_tree : PySem.W.codeIn K cd_v_law_small_tree "_law_small_tree" = true)
    (k_v_law_small_tree : PySem.W.keepIn K (.ref fn_v_law_small_tree) = true)
    (a_v_law_height : PySem.W.nsIn K mainGlobals "_law_height" = some (some (.ref fn_v_law_height)))
    (l_v_law_height : K.lookup fn_v_law_height = some ⟨oc_v_law_height, od_v_law_height, .func (PySem.W.fnOf "_law_height" "_law_height" (defArgs s_v_law_height) (defBody s_v_law_height) (defScope s_v_law_height) .none kV_v_law_height dc_v_law_height pm_v_law_height an_v_law_height cd_v_law_height ct_v_law_height), sl_v_law_height⟩)
    (c_v_law_height : PySem.W.codeIn K cd_v_law_height "_law_height" = true)
    (k_v_law_height : PySem.W.keepIn K (.ref fn_v_law_height) = true)
    (a_v_law_rim : PySem.W.nsIn K mainGlobals "_law_rim" = some (some (.ref fn_v_law_rim)))
    (l_v_law_rim : K.lookup fn_v_law_rim = some ⟨oc_v_law_rim, od_v_law_rim, .func (PySem.W.fnOf "_law_rim" "_law_rim" (defArgs s_v_law_rim) (defBody s_v_law_rim) (defScope s_v_law_rim) .none kV_v_law_rim dc_v_law_rim pm_v_law_rim an_v_law_rim cd_v_law_rim ct_v_law_rim), sl_v_law_rim⟩)
    (c_v_law_rim : PySem.W.codeIn K cd_v_law_rim "_law_rim" = true)
    (k_v_law_rim : PySem.W.keepIn K (.ref fn_v_law_rim) = true)
    (a_v_law_fact : PySem.W.nsIn K mainGlobals "_law_fact" = some (some (.ref fn_v_law_fact)))
    (l_v_law_fact : K.lookup fn_v_law_fact = some ⟨oc_v_law_fact, od_v_law_fact, .func (PySem.W.fnOf "_law_fact" "_law_fact" (defArgs s_v_law_fact) (defBody s_v_law_fact) (defScope s_v_law_fact) .none kV_v_law_fact dc_v_law_fact pm_v_law_fact an_v_law_fact cd_v_law_fact ct_v_law_fact), sl_v_law_fact⟩)
    (c_v_law_fact : PySem.W.codeIn K cd_v_law_fact "_law_fact" = true)
    (k_v_law_fact : PySem.W.keepIn K (.ref fn_v_law_fact) = true)
    (a_Workshop_init : PySem.W.findIn K (.ref C_Workshop) "__init__" = some (some (.ref fn_Workshop_init)))
    (i_Workshop_init : PySem.W.isFn K (.ref fn_Workshop_init) = true)
    (l_Workshop_init : K.lookup fn_Workshop_init = some ⟨oc_Workshop_init, od_Workshop_init, .func (PySem.W.fnOf "__init__" "Workshop.__init__" (defArgs s_Workshop_init) (defBody s_Workshop_init) (defScope s_Workshop_init) .none kV_Workshop_init dc_Workshop_init pm_Workshop_init an_Workshop_init cd_Workshop_init ct_Workshop_init), sl_Workshop_init⟩)
    (c_Workshop_init : PySem.W.codeIn K cd_Workshop_init "Workshop.__init__" = true)
    (k_Workshop_init : PySem.W.keepIn K (.ref fn_Workshop_init) = true)
    (a_last_of : PySem.W.nsIn K mainGlobals "last_of" = some (some (.ref fn_last_of)))
    (l_last_of : K.lookup fn_last_of = some ⟨oc_last_of, od_last_of, .func (PySem.W.fnOf "last_of" "last_of" (defArgs s_last_of) (defBody s_last_of) (defScope s_last_of) .none kV_last_of dc_last_of pm_last_of an_last_of cd_last_of ct_last_of), sl_last_of⟩)
    (c_last_of : PySem.W.codeIn K cd_last_of "last_of" = true)
    (k_last_of : PySem.W.keepIn K (.ref fn_last_of) = true)
    (a_Workshop_facts : PySem.W.findIn K (.ref C_Workshop) "facts" = some (some (.ref fn_Workshop_facts)))
    (i_Workshop_facts : PySem.W.isFn K (.ref fn_Workshop_facts) = true)
    (l_Workshop_facts : K.lookup fn_Workshop_facts = some ⟨oc_Workshop_facts, od_Workshop_facts, .func (PySem.W.fnOf "facts" "Workshop.facts" (defArgs s_Workshop_facts) (defBody s_Workshop_facts) (defScope s_Workshop_facts) .none kV_Workshop_facts dc_Workshop_facts pm_Workshop_facts an_Workshop_facts cd_Workshop_facts ct_Workshop_facts), sl_Workshop_facts⟩)
    (c_Workshop_facts : PySem.W.codeIn K cd_Workshop_facts "Workshop.facts" = true)
    (k_Workshop_facts : PySem.W.keepIn K (.ref fn_Workshop_facts) = true)
    (a_cut_at : PySem.W.nsIn K mainGlobals "cut_at" = some (some (.ref fn_cut_at)))
    (l_cut_at : K.lookup fn_cut_at = some ⟨oc_cut_at, od_cut_at, .func (PySem.W.fnOf "cut_at" "cut_at" (defArgs s_cut_at) (defBody s_cut_at) (defScope s_cut_at) .none kV_cut_at dc_cut_at pm_cut_at an_cut_at cd_cut_at ct_cut_at), sl_cut_at⟩)
    (c_cut_at : PySem.W.codeIn K cd_cut_at "cut_at" = true)
    (k_cut_at : PySem.W.keepIn K (.ref fn_cut_at) = true)
    (a_Workshop_rim_of : PySem.W.findIn K (.ref C_Workshop) "rim_of" = some (some (.ref fn_Workshop_rim_of)))
    (i_Workshop_rim_of : PySem.W.isFn K (.ref fn_Workshop_rim_of) = true)
    (l_Workshop_rim_of : K.lookup fn_Workshop_rim_of = some ⟨oc_Workshop_rim_of, od_Workshop_rim_of, .func (PySem.W.fnOf "rim_of" "Workshop.rim_of" (defArgs s_Workshop_rim_of) (defBody s_Workshop_rim_of) (defScope s_Workshop_rim_of) .none kV_Workshop_rim_of dc_Workshop_rim_of pm_Workshop_rim_of an_Workshop_rim_of cd_Workshop_rim_of ct_Workshop_rim_of), sl_Workshop_rim_of⟩)
    (c_Workshop_rim_of : PySem.W.codeIn K cd_Workshop_rim_of "Workshop.rim_of" = true)
    (k_Workshop_rim_of : PySem.W.keepIn K (.ref fn_Workshop_rim_of) = true)
    (a_Workshop_mount_of : PySem.W.findIn K (.ref C_Workshop) "mount_of" = some (some (.ref fn_Workshop_mount_of)))
    (i_Workshop_mount_of : PySem.W.isFn K (.ref fn_Workshop_mount_of) = true)
    (l_Workshop_mount_of : K.lookup fn_Workshop_mount_of = some ⟨oc_Workshop_mount_of, od_Workshop_mount_of, .func (PySem.W.fnOf "mount_of" "Workshop.mount_of" (defArgs s_Workshop_mount_of) (defBody s_Workshop_mount_of) (defScope s_Workshop_mount_of) .none kV_Workshop_mount_of dc_Workshop_mount_of pm_Workshop_mount_of an_Workshop_mount_of cd_Workshop_mount_of ct_Workshop_mount_of), sl_Workshop_mount_of⟩)
    (c_Workshop_mount_of : PySem.W.codeIn K cd_Workshop_mount_of "Workshop.mount_of" = true)
    (k_Workshop_mount_of : PySem.W.keepIn K (.ref fn_Workshop_mount_of) = true)
    (a_touched : PySem.W.nsIn K mainGlobals "touched" = some (some (.ref fn_touched)))
    (l_touched : K.lookup fn_touched = some ⟨oc_touched, od_touched, .func (PySem.W.fnOf "touched" "touched" (defArgs s_touched) (defBody s_touched) (defScope s_touched) .none kV_touched dc_touched pm_touched an_touched cd_touched ct_touched), sl_touched⟩)
    (c_touched : PySem.W.codeIn K cd_touched "touched" = true)
    (k_touched : PySem.W.keepIn K (.ref fn_touched) = true)
    (a_lift_on : PySem.W.nsIn K mainGlobals "lift_on" = some (some (.ref fn_lift_on)))
    (l_lift_on : K.lookup fn_lift_on = some ⟨oc_lift_on, od_lift_on, .func (PySem.W.fnOf "lift_on" "lift_on" (defArgs s_lift_on) (defBody s_lift_on) (defScope s_lift_on) .none kV_lift_on dc_lift_on pm_lift_on an_lift_on cd_lift_on ct_lift_on), sl_lift_on⟩)
    (c_lift_on : PySem.W.codeIn K cd_lift_on "lift_on" = true)
    (k_lift_on : PySem.W.keepIn K (.ref fn_lift_on) = true)
    (a_Foot_init : PySem.W.findIn K (.ref C_Foot) "__init__" = some (some (.ref fn_Foot_init)))
    (i_Foot_init : PySem.W.isFn K (.ref fn_Foot_init) = true)
    (l_Foot_init : K.lookup fn_Foot_init = some ⟨oc_Foot_init, od_Foot_init, .func (PySem.W.fnOf "__init__" "Foot.__init__" (defArgs s_Foot_init) (defBody s_Foot_init) (defScope s_Foot_init) (.ref T_Foot_init) kV_Foot_init dc_Foot_init pm_Foot_init an_Foot_init cd_Foot_init ct_Foot_init), sl_Foot_init⟩)
    (c_Foot_init : PySem.W.codeIn K cd_Foot_init "Foot.__init__" = true)
    (k_Foot_init : PySem.W.keepIn K (.ref fn_Foot_init) = true)
    (d_Foot_init : K.lookup T_Foot_init = some ⟨cT_Foot_init, dT_Foot_init, .seq #[.int 0 t0_Foot_init] nT_Foot_init, sT_Foot_init⟩)
    (a_angle_at : PySem.W.nsIn K mainGlobals "angle_at" = some (some (.ref fn_angle_at)))
    (l_angle_at : K.lookup fn_angle_at = some ⟨oc_angle_at, od_angle_at, .func (PySem.W.fnOf "angle_at" "angle_at" (defArgs s_angle_at) (defBody s_angle_at) (defScope s_angle_at) (.ref T_angle_at) kV_angle_at dc_angle_at pm_angle_at an_angle_at cd_angle_at ct_angle_at), sl_angle_at⟩)
    (c_angle_at : PySem.W.codeIn K cd_angle_at "angle_at" = true)
    (k_angle_at : PySem.W.keepIn K (.ref fn_angle_at) = true)
    (d_angle_at : K.lookup T_angle_at = some ⟨cT_angle_at, dT_angle_at, .seq #[.int 1 t0_angle_at, .int 0 t1_angle_at, .int 0 t2_angle_at] nT_angle_at, sT_angle_at⟩)
    (a_Workshop_lift_at : PySem.W.findIn K (.ref C_Workshop) "lift_at" = some (some (.ref fn_Workshop_lift_at)))
    (i_Workshop_lift_at : PySem.W.isFn K (.ref fn_Workshop_lift_at) = true)
    (l_Workshop_lift_at : K.lookup fn_Workshop_lift_at = some ⟨oc_Workshop_lift_at, od_Workshop_lift_at, .func (PySem.W.fnOf "lift_at" "Workshop.lift_at" (defArgs s_Workshop_lift_at) (defBody s_Workshop_lift_at) (defScope s_Workshop_lift_at) .none kV_Workshop_lift_at dc_Workshop_lift_at pm_Workshop_lift_at an_Workshop_lift_at cd_Workshop_lift_at ct_Workshop_lift_at), sl_Workshop_lift_at⟩)
    (c_Workshop_lift_at : PySem.W.codeIn K cd_Workshop_lift_at "Workshop.lift_at" = true)
    (k_Workshop_lift_at : PySem.W.keepIn K (.ref fn_Workshop_lift_at) = true)
    (a_Workshop_lift : PySem.W.findIn K (.ref C_Workshop) "lift" = some (some (.ref fn_Workshop_lift)))
    (i_Workshop_lift : PySem.W.isFn K (.ref fn_Workshop_lift) = true)
    (l_Workshop_lift : K.lookup fn_Workshop_lift = some ⟨oc_Workshop_lift, od_Workshop_lift, .func (PySem.W.fnOf "lift" "Workshop.lift" (defArgs s_Workshop_lift) (defBody s_Workshop_lift) (defScope s_Workshop_lift) (.ref T_Workshop_lift) kV_Workshop_lift dc_Workshop_lift pm_Workshop_lift an_Workshop_lift cd_Workshop_lift ct_Workshop_lift), sl_Workshop_lift⟩)
    (c_Workshop_lift : PySem.W.codeIn K cd_Workshop_lift "Workshop.lift" = true)
    (k_Workshop_lift : PySem.W.keepIn K (.ref fn_Workshop_lift) = true)
    (d_Workshop_lift : K.lookup T_Workshop_lift = some ⟨cT_Workshop_lift, dT_Workshop_lift, .seq #[.int 0 t0_Workshop_lift] nT_Workshop_lift, sT_Workshop_lift⟩)
    (a_Workshop_rim : PySem.W.findIn K (.ref C_Workshop) "rim" = some (some (.ref fn_Workshop_rim)))
    (i_Workshop_rim : PySem.W.isFn K (.ref fn_Workshop_rim) = true)
    (l_Workshop_rim : K.lookup fn_Workshop_rim = some ⟨oc_Workshop_rim, od_Workshop_rim, .func (PySem.W.fnOf "rim" "Workshop.rim" (defArgs s_Workshop_rim) (defBody s_Workshop_rim) (defScope s_Workshop_rim) .none kV_Workshop_rim dc_Workshop_rim pm_Workshop_rim an_Workshop_rim cd_Workshop_rim ct_Workshop_rim), sl_Workshop_rim⟩)
    (c_Workshop_rim : PySem.W.codeIn K cd_Workshop_rim "Workshop.rim" = true)
    (k_Workshop_rim : PySem.W.keepIn K (.ref fn_Workshop_rim) = true)
    (a_v_law_lifts : PySem.W.nsIn K mainGlobals "_law_lifts" = some (some (.ref fn_v_law_lifts)))
    (l_v_law_lifts : K.lookup fn_v_law_lifts = some ⟨oc_v_law_lifts, od_v_law_lifts, .func (PySem.W.fnOf "_law_lifts" "_law_lifts" (defArgs s_v_law_lifts) (defBody s_v_law_lifts) (defScope s_v_law_lifts) .none kV_v_law_lifts dc_v_law_lifts pm_v_law_lifts an_v_law_lifts cd_v_law_lifts ct_v_law_lifts), sl_v_law_lifts⟩)
    (c_v_law_lifts : PySem.W.codeIn K cd_v_law_lifts "_law_lifts" = true)
    (k_v_law_lifts : PySem.W.keepIn K (.ref fn_v_law_lifts) = true)
    (a_Workshop_eq : PySem.W.findIn K (.ref C_Workshop) "__eq__" = some (some (.ref fn_Workshop_eq)))
    (i_Workshop_eq : PySem.W.isFn K (.ref fn_Workshop_eq) = true)
    (l_Workshop_eq : K.lookup fn_Workshop_eq = some ⟨oc_Workshop_eq, od_Workshop_eq, .func (PySem.W.fnOf "__eq__" "Workshop.__eq__" (defArgs s_Workshop_eq) (defBody s_Workshop_eq) (defScope s_Workshop_eq) .none kV_Workshop_eq dc_Workshop_eq pm_Workshop_eq an_Workshop_eq cd_Workshop_eq ct_Workshop_eq), sl_Workshop_eq⟩)
    (c_Workshop_eq : PySem.W.codeIn K cd_Workshop_eq "Workshop.__eq__" = true)
    (k_Workshop_eq : PySem.W.keepIn K (.ref fn_Workshop_eq) = true)
    (a_Workshop_len : PySem.W.findIn K (.ref C_Workshop) "__len__" = some (some (.ref fn_Workshop_len)))
    (i_Workshop_len : PySem.W.isFn K (.ref fn_Workshop_len) = true)
    (l_Workshop_len : K.lookup fn_Workshop_len = some ⟨oc_Workshop_len, od_Workshop_len, .func (PySem.W.fnOf "__len__" "Workshop.__len__" (defArgs s_Workshop_len) (defBody s_Workshop_len) (defScope s_Workshop_len) .none kV_Workshop_len dc_Workshop_len pm_Workshop_len an_Workshop_len cd_Workshop_len ct_Workshop_len), sl_Workshop_len⟩)
    (c_Workshop_len : PySem.W.codeIn K cd_Workshop_len "Workshop.__len__" = true)
    (k_Workshop_len : PySem.W.keepIn K (.ref fn_Workshop_len) = true)
    (a_look_rim : PySem.W.nsIn K mainGlobals "look_rim" = some (some (.ref fn_look_rim)))
    (l_look_rim : K.lookup fn_look_rim = some ⟨oc_look_rim, od_look_rim, .func (PySem.W.fnOf "look_rim" "look_rim" (defArgs s_look_rim) (defBody s_look_rim) (defScope s_look_rim) .none kV_look_rim dc_look_rim pm_look_rim an_look_rim cd_look_rim ct_look_rim), sl_look_rim⟩)
    (c_look_rim : PySem.W.codeIn K cd_look_rim "look_rim" = true)
    (k_look_rim : PySem.W.keepIn K (.ref fn_look_rim) = true)
    (a_lies_within : PySem.W.nsIn K mainGlobals "lies_within" = some (some (.ref fn_lies_within)))
    (l_lies_within : K.lookup fn_lies_within = some ⟨oc_lies_within, od_lies_within, .func (PySem.W.fnOf "lies_within" "lies_within" (defArgs s_lies_within) (defBody s_lies_within) (defScope s_lies_within) .none kV_lies_within dc_lies_within pm_lies_within an_lies_within cd_lies_within ct_lies_within), sl_lies_within⟩)
    (c_lies_within : PySem.W.codeIn K cd_lies_within "lies_within" = true)
    (k_lies_within : PySem.W.keepIn K (.ref fn_lies_within) = true)
    (a_within : PySem.W.nsIn K mainGlobals "within" = some (some (.ref fn_within)))
    (l_within : K.lookup fn_within = some ⟨oc_within, od_within, .func (PySem.W.fnOf "within" "within" (defArgs s_within) (defBody s_within) (defScope s_within) .none kV_within dc_within pm_within an_within cd_within ct_within), sl_within⟩)
    (c_within : PySem.W.codeIn K cd_within "within" = true)
    (k_within : PySem.W.keepIn K (.ref fn_within) = true)
    (a_law : PySem.W.nsIn K mainGlobals "law" = some (some (.ref fn_law)))
    (l_law : K.lookup fn_law = some ⟨oc_law, od_law, .func (PySem.W.fnOf "law" "law" (defArgs s_law) (defBody s_law) (defScope s_law) .none kV_law dc_law pm_law an_law cd_law ct_law), sl_law⟩)
    (c_law : PySem.W.codeIn K cd_law "law" = true)
    (k_law : PySem.W.keepIn K (.ref fn_law) = true)
    (pg_Foot : PySem.W.plainGet K C_Foot Str.empty = true)
    (hd_Foot : PySem.W.hasDictIn K C_Foot = true)
    (po_Foot : PySem.W.plainOver K C_Foot = true)
    (sa_Foot : PySem.W.findIn K (.ref C_Foot) "__setattr__" = some (some (.builtin "object.__setattr__")))
    (mk_Foot : PySem.W.makesIn K C_Foot = true)
    (kc_Foot : PySem.W.keepIn K (.ref C_Foot) = true)
    (pg_Hold : PySem.W.plainGet K C_Hold Str.empty = true)
    (hd_Hold : PySem.W.hasDictIn K C_Hold = true)
    (po_Hold : PySem.W.plainOver K C_Hold = true)
    (sa_Hold : PySem.W.findIn K (.ref C_Hold) "__setattr__" = some (some (.builtin "object.__setattr__")))
    (mk_Hold : PySem.W.makesIn K C_Hold = true)
    (kc_Hold : PySem.W.keepIn K (.ref C_Hold) = true)
    (pg_Workshop : PySem.W.plainGet K C_Workshop Str.empty = true)
    (hd_Workshop : PySem.W.hasDictIn K C_Workshop = true)
    (po_Workshop : PySem.W.plainOver K C_Workshop = true)
    (sa_Workshop : PySem.W.findIn K (.ref C_Workshop) "__setattr__" = some (some (.builtin "object.__setattr__")))
    (mk_Workshop : PySem.W.makesIn K C_Workshop = true)
    (kc_Workshop : PySem.W.keepIn K (.ref C_Workshop) = true)
    (xe_BadFact : PySem.W.excIn K C_BadFact [.type "ValueError", .type "Exception", .type "BaseException", .type "object"] "ValueError.__new__" = true)
    (xk_BadFact : PySem.W.keepIn K (.ref C_BadFact) = true)
    (xs_BadFact : PySem.W.subIn K (.ref C_BadFact) (.type "BaseException") = some true)
    (xt_BadFact : PySem.W.typeIn K (.ref C_BadFact) = some (.type "type"))
    (xe_BadFoot : PySem.W.excIn K C_BadFoot [.type "ValueError", .type "Exception", .type "BaseException", .type "object"] "ValueError.__new__" = true)
    (xk_BadFoot : PySem.W.keepIn K (.ref C_BadFoot) = true)
    (xs_BadFoot : PySem.W.subIn K (.ref C_BadFoot) (.type "BaseException") = some true)
    (xt_BadFoot : PySem.W.typeIn K (.ref C_BadFoot) = some (.type "type"))
    (xe_BadRim : PySem.W.excIn K C_BadRim [.type "ValueError", .type "Exception", .type "BaseException", .type "object"] "ValueError.__new__" = true)
    (xk_BadRim : PySem.W.keepIn K (.ref C_BadRim) = true)
    (xs_BadRim : PySem.W.subIn K (.ref C_BadRim) (.type "BaseException") = some true)
    (xt_BadRim : PySem.W.typeIn K (.ref C_BadRim) = some (.type "type"))
    (xe_BadSize : PySem.W.excIn K C_BadSize [.type "ValueError", .type "Exception", .type "BaseException", .type "object"] "ValueError.__new__" = true)
    (xk_BadSize : PySem.W.keepIn K (.ref C_BadSize) = true)
    (xs_BadSize : PySem.W.subIn K (.ref C_BadSize) (.type "BaseException") = some true)
    (xt_BadSize : PySem.W.typeIn K (.ref C_BadSize) = some (.type "type"))
    (xe_Full : PySem.W.excIn K C_Full [.type "ValueError", .type "Exception", .type "BaseException", .type "object"] "ValueError.__new__" = true)
    (xk_Full : PySem.W.keepIn K (.ref C_Full) = true)
    (xs_Full : PySem.W.subIn K (.ref C_Full) (.type "BaseException") = some true)
    (xt_Full : PySem.W.typeIn K (.ref C_Full) = some (.type "type"))
    (ga_Workshop : PySem.W.findIn K (.ref C_Workshop) "__class__" = some (some (.builtin "object.__class__")))
    (gm_Workshop : PySem.W.mroIn K C_Workshop (.type "object") = some true)
    (gs_ : PySem.W.specialIn K (.builtin "object.__class__") "__get__" = some (some (.builtin "getset_descriptor.__get__")))
    (gt_ : PySem.W.takesIn K (.builtin "object.__class__") = some true)
    (n_Foot_drops : PySem.W.findIn K (.ref C_Foot) "drops" = some none)
    (n_Foot_middle : PySem.W.findIn K (.ref C_Foot) "middle" = some none)
    (n_Hold_many_told : PySem.W.findIn K (.ref C_Hold) "many_told" = some none)
    (n_Hold_there : PySem.W.findIn K (.ref C_Hold) "there" = some none)
    (n_Workshop_gone : PySem.W.findIn K (.ref C_Workshop) "gone" = some none)
    (n_Workshop_times_kept : PySem.W.findIn K (.ref C_Workshop) "times_kept" = some none)
    (z_abs : PySem.W.nsIn K mainGlobals "abs" = some none)
    (z_all : PySem.W.nsIn K mainGlobals "all" = some none)
    (z_bool : PySem.W.nsIn K mainGlobals "bool" = some none)
    (z_dict : PySem.W.nsIn K mainGlobals "dict" = some none)
    (z_enumerate : PySem.W.nsIn K mainGlobals "enumerate" = some none)
    (z_int : PySem.W.nsIn K mainGlobals "int" = some none)
    (z_isinstance : PySem.W.nsIn K mainGlobals "isinstance" = some none)
    (z_len : PySem.W.nsIn K mainGlobals "len" = some none)
    (z_list : PySem.W.nsIn K mainGlobals "list" = some none)
    (z_max : PySem.W.nsIn K mainGlobals "max" = some none)
    (z_min : PySem.W.nsIn K mainGlobals "min" = some none)
    (z_range : PySem.W.nsIn K mainGlobals "range" = some none)
    (z_sorted : PySem.W.nsIn K mainGlobals "sorted" = some none)
    (z_str : PySem.W.nsIn K mainGlobals "str" = some none)
    (z_sum : PySem.W.nsIn K mainGlobals "sum" = some none)
    (z_tuple : PySem.W.nsIn K mainGlobals "tuple" = some none)
    (z_zip : PySem.W.nsIn K mainGlobals "zip" = some none)
    (dy_LENGTHS : PySem.W.nsIn K mainGlobals "LENGTHS" = some (some (.ref D_LENGTHS)))
    (dl_LENGTHS : K.lookup D_LENGTHS = some ⟨.type "dict", none, .dict es_LENGTHS nn_LENGTHS, #[]⟩)
    (dh_LENGTHS : es_LENGTHS.toList.map He.keyOf = He.keysIn w.params ["blank", "cut", "mount", "foot", "lever"])
    (ds_LENGTHS : (D_LENGTHS == sysModules) = false)
    (dr_LENGTHS : es_LENGTHS.toList.map TG.rowI = ([("blank", 3), ("cut", 4), ("mount", 5), ("foot", 5), ("lever", 3)] : List (Str × Int)).map some)
    (dy_PARTS : PySem.W.nsIn K mainGlobals "PARTS" = some (some (.ref D_PARTS)))
    (dl_PARTS : K.lookup D_PARTS = some ⟨.type "dict", none, .dict es_PARTS nn_PARTS, #[]⟩)
    (dh_PARTS : es_PARTS.toList.map He.keyOf = He.keysIn w.params ["foot", "sum", "high", "less"])
    (ds_PARTS : (D_PARTS == sysModules) = false)
    (dr_PARTS : es_PARTS.toList.map TG.rowI = ([("foot", 0), ("sum", 2), ("high", 2), ("less", 1)] : List (Str × Int)).map some)
    (y_DEEPEST : PySem.W.nsIn K mainGlobals "DEEPEST" = some (some (.int 5 tc_DEEPEST)))
    (y_FEWEST : PySem.W.nsIn K mainGlobals "FEWEST" = some (some (.int 3 tc_FEWEST)))
    (y_LAST_CAM : PySem.W.nsIn K mainGlobals "LAST_CAM" = some (some (.int 5 tc_LAST_CAM)))
    (y_LAST_FOLLOWER_facts : PySem.W.nsIn K mainGlobals "LAST_FOLLOWER_facts" = some (some (.int 7 tc_LAST_FOLLOWER_facts)))
    (y_LAST_FOLLOWER_levers : PySem.W.nsIn K mainGlobals "LAST_FOLLOWER_levers" = some (some (.int 7 tc_LAST_FOLLOWER_levers)))
    (y_LAST_LEVER : PySem.W.nsIn K mainGlobals "LAST_LEVER" = some (some (.int 5 tc_LAST_LEVER)))
    (y_MOST : PySem.W.nsIn K mainGlobals "MOST" = some (some (.int 48 tc_MOST)))
    (y_MOST_DROP : PySem.W.nsIn K mainGlobals "MOST_DROP" = some (some (.int 99 tc_MOST_DROP)))
    (y_MOST_PARTS : PySem.W.nsIn K mainGlobals "MOST_PARTS" = some (some (.int 15 tc_MOST_PARTS)))
    (y_MOST_PLACES : PySem.W.nsIn K mainGlobals "MOST_PLACES" = some (some (.int 9 tc_MOST_PLACES)))
    (y_MOST_TOLD : PySem.W.nsIn K mainGlobals "MOST_TOLD" = some (some (.int 100 tc_MOST_TOLD)))
    (y_MOST_TURNS : PySem.W.nsIn K mainGlobals "MOST_TURNS" = some (some (.int 99 tc_MOST_TURNS)))
    (pure_law : ∀ ns : List Int, ns.length ≤ 63 → ∃ s', f_law_k29 [.d (.scr (ns.map D.int))] [] = .ok (.w (.d (.bl true))) s') :
    ∃ fd : FuncData, (∀ (s : Shared) (v : Value), BindsTo s fd ⟨[v], []⟩ [("_law_script", v)]) ∧ ∀ base : Heap, K.In base → base.Ns mainGlobals mg → FnOk l.prog w K mg base (L2.CX l.prog w) 19 fa fd ["_law_script"] (spLaw K) := by
  have e := hfa.symm.trans (PySem.W.mg_of X G a_law)
  cases e
  let cl : Str → Option Addr := fun x => if x = "BadFact" then some C_BadFact else if x = "BadFoot" then some C_BadFoot else if x = "BadRim" then some C_BadRim else if x = "BadSize" then some C_BadSize else if x = "Foot" then some C_Foot else if x = "Full" then some C_Full else if x = "Hold" then some C_Hold else if x = "Workshop" then some C_Workshop else none
  have cl_BadFact : cl "BadFact" = some C_BadFact := by
    show (if ("BadFact" : Str) = "BadFact" then some C_BadFact else if ("BadFact" : Str) = "BadFoot" then some C_BadFoot else if ("BadFact" : Str) = "BadRim" then some C_BadRim else if ("BadFact" : Str) = "BadSize" then some C_BadSize else if ("BadFact" : Str) = "Foot" then some C_Foot else if ("BadFact" : Str) = "Full" then some C_Full else if ("BadFact" : Str) = "Hold" then some C_Hold else if ("BadFact" : Str) = "Workshop" then some C_Workshop else none) = _
    rw [if_pos rfl]
  have cl_BadFoot : cl "BadFoot" = some C_BadFoot := by
    show (if ("BadFoot" : Str) = "BadFact" then some C_BadFact else if ("BadFoot" : Str) = "BadFoot" then some C_BadFoot else if ("BadFoot" : Str) = "BadRim" then some C_BadRim else if ("BadFoot" : Str) = "BadSize" then some C_BadSize else if ("BadFoot" : Str) = "Foot" then some C_Foot else if ("BadFoot" : Str) = "Full" then some C_Full else if ("BadFoot" : Str) = "Hold" then some C_Hold else if ("BadFoot" : Str) = "Workshop" then some C_Workshop else none) = _
    rw [if_neg (by decide), if_pos rfl]
  have cl_BadRim : cl "BadRim" = some C_BadRim := by
    show (if ("BadRim" : Str) = "BadFact" then some C_BadFact else if ("BadRim" : Str) = "BadFoot" then some C_BadFoot else if ("BadRim" : Str) = "BadRim" then some C_BadRim else if ("BadRim" : Str) = "BadSize" then some C_BadSize else if ("BadRim" : Str) = "Foot" then some C_Foot else if ("BadRim" : Str) = "Full" then some C_Full else if ("BadRim" : Str) = "Hold" then some C_Hold else if ("BadRim" : Str) = "Workshop" then some C_Workshop else none) = _
    rw [if_neg (by decide), if_neg (by decide), if_pos rfl]
  have cl_BadSize : cl "BadSize" = some C_BadSize := by
    show (if ("BadSize" : Str) = "BadFact" then some C_BadFact else if ("BadSize" : Str) = "BadFoot" then some C_BadFoot else if ("BadSize" : Str) = "BadRim" then some C_BadRim else if ("BadSize" : Str) = "BadSize" then some C_BadSize else if ("BadSize" : Str) = "Foot" then some C_Foot else if ("BadSize" : Str) = "Full" then some C_Full else if ("BadSize" : Str) = "Hold" then some C_Hold else if ("BadSize" : Str) = "Workshop" then some C_Workshop else none) = _
    rw [if_neg (by decide), if_neg (by decide), if_neg (by decide), if_pos rfl]
  have cl_Foot : cl "Foot" = some C_Foot := by
    show (if ("Foot" : Str) = "BadFact" then some C_BadFact else if ("Foot" : Str) = "BadFoot" then some C_BadFoot else if ("Foot" : Str) = "BadRim" then some C_BadRim else if ("Foot" : Str) = "BadSize" then some C_BadSize else if ("Foot" : Str) = "Foot" then some C_Foot else if ("Foot" : Str) = "Full" then some C_Full else if ("Foot" : Str) = "Hold" then some C_Hold else if ("Foot" : Str) = "Workshop" then some C_Workshop else none) = _
    rw [if_neg (by decide), if_neg (by decide), if_neg (by decide), if_neg (by decide), if_pos rfl]
  have cl_Full : cl "Full" = some C_Full := by
    show (if ("Full" : Str) = "BadFact" then some C_BadFact else if ("Full" : Str) = "BadFoot" then some C_BadFoot else if ("Full" : Str) = "BadRim" then some C_BadRim else if ("Full" : Str) = "BadSize" then some C_BadSize else if ("Full" : Str) = "Foot" then some C_Foot else if ("Full" : Str) = "Full" then some C_Full else if ("Full" : Str) = "Hold" then some C_Hold else if ("Full" : Str) = "Workshop" then some C_Workshop else none) = _
    rw [if_neg (by decide), if_neg (by decide), if_neg (by decide), if_neg (by decide), if_neg (by decide), if_pos rfl]
  have cl_Hold : cl "Hold" = some C_Hold := by
    show (if ("Hold" : Str) = "BadFact" then some C_BadFact else if ("Hold" : Str) = "BadFoot" then some C_BadFoot else if ("Hold" : Str) = "BadRim" then some C_BadRim else if ("Hold" : Str) = "BadSize" then some C_BadSize else if ("Hold" : Str) = "Foot" then some C_Foot else if ("Hold" : Str) = "Full" then some C_Full else if ("Hold" : Str) = "Hold" then some C_Hold else if ("Hold" : Str) = "Workshop" then some C_Workshop else none) = _
    rw [if_neg (by decide), if_neg (by decide), if_neg (by decide), if_neg (by decide), if_neg (by decide), if_neg (by decide), if_pos rfl]
  have cl_Workshop : cl "Workshop" = some C_Workshop := by
    show (if ("Workshop" : Str) = "BadFact" then some C_BadFact else if ("Workshop" : Str) = "BadFoot" then some C_BadFoot else if ("Workshop" : Str) = "BadRim" then some C_BadRim else if ("Workshop" : Str) = "BadSize" then some C_BadSize else if ("Workshop" : Str) = "Foot" then some C_Foot else if ("Workshop" : Str) = "Full" then some C_Full else if ("Workshop" : Str) = "Hold" then some C_Hold else if ("Workshop" : Str) = "Workshop" then some C_Workshop else none) = _
    rw [if_neg (by decide), if_neg (by decide), if_neg (by decide), if_neg (by decide), if_neg (by decide), if_neg (by decide), if_neg (by decide), if_pos rfl]
  have T : Tx K mg cl := ⟨PySem.W.mg_none_of X G z_abs, PySem.W.mg_none_of X G z_all, PySem.W.mg_none_of X G z_bool, PySem.W.mg_none_of X G z_dict, PySem.W.mg_none_of X G z_enumerate, PySem.W.mg_none_of X G z_int, PySem.W.mg_none_of X G z_isinstance, PySem.W.mg_none_of X G z_len, PySem.W.mg_none_of X G z_list, PySem.W.mg_none_of X G z_max, PySem.W.mg_none_of X G z_min, PySem.W.mg_none_of X G z_range, PySem.W.mg_none_of X G z_sorted, PySem.W.mg_none_of X G z_str, PySem.W.mg_none_of X G z_sum, PySem.W.mg_none_of X G z_tuple, PySem.W.mg_none_of X G z_zip, ⟨_, PySem.W.mg_of X G y_DEEPEST⟩, ⟨_, PySem.W.mg_of X G y_FEWEST⟩, ⟨_, PySem.W.mg_of X G y_LAST_CAM⟩, ⟨_, PySem.W.mg_of X G y_LAST_FOLLOWER_facts⟩, ⟨_, PySem.W.mg_of X G y_LAST_FOLLOWER_levers⟩, ⟨_, PySem.W.mg_of X G y_LAST_LEVER⟩, ⟨_, PySem.W.mg_of X G y_MOST⟩, ⟨_, PySem.W.mg_of X G y_MOST_DROP⟩, ⟨_, PySem.W.mg_of X G y_MOST_PARTS⟩, ⟨_, PySem.W.mg_of X G y_MOST_PLACES⟩, ⟨_, PySem.W.mg_of X G y_MOST_TOLD⟩, ⟨_, PySem.W.mg_of X G y_MOST_TURNS⟩, ⟨fun C hC => by
      cases (Option.some.inj (cl_Foot.symm.trans hC))
      exact ⟨⟨pg_Foot, hd_Foot, po_Foot, sa_Foot⟩, n_Foot_drops⟩⟩, ⟨fun C hC => by
      cases (Option.some.inj (cl_Foot.symm.trans hC))
      exact ⟨⟨pg_Foot, hd_Foot, po_Foot, sa_Foot⟩, n_Foot_middle⟩⟩, ⟨fun C hC => by
      cases (Option.some.inj (cl_Hold.symm.trans hC))
      exact ⟨⟨pg_Hold, hd_Hold, po_Hold, sa_Hold⟩, n_Hold_many_told⟩⟩, ⟨fun C hC => by
      cases (Option.some.inj (cl_Hold.symm.trans hC))
      exact ⟨⟨pg_Hold, hd_Hold, po_Hold, sa_Hold⟩, n_Hold_there⟩⟩, ⟨fun C hC => by
      cases (Option.some.inj (cl_Workshop.symm.trans hC))
      exact ⟨⟨pg_Workshop, hd_Workshop, po_Workshop, sa_Workshop⟩, n_Workshop_gone⟩⟩, ⟨fun C hC => by
      cases (Option.some.inj (cl_Workshop.symm.trans hC))
      exact ⟨⟨pg_Workshop, hd_Workshop, po_Workshop, sa_Workshop⟩, n_Workshop_times_kept⟩⟩, ⟨⟨C_BadFact, _, _, _, _, cl_BadFact, PySem.W.mg_of X G gC_BadFact, PySem.F.excBase_ValueError, xe_BadFact, xk_BadFact, xs_BadFact, xt_BadFact⟩⟩, ⟨⟨C_BadFoot, _, _, _, _, cl_BadFoot, PySem.W.mg_of X G gC_BadFoot, PySem.F.excBase_ValueError, xe_BadFoot, xk_BadFoot, xs_BadFoot, xt_BadFoot⟩⟩, ⟨⟨C_BadRim, _, _, _, _, cl_BadRim, PySem.W.mg_of X G gC_BadRim, PySem.F.excBase_ValueError, xe_BadRim, xk_BadRim, xs_BadRim, xt_BadRim⟩⟩, ⟨⟨C_BadSize, _, _, _, _, cl_BadSize, PySem.W.mg_of X G gC_BadSize, PySem.F.excBase_ValueError, xe_BadSize, xk_BadSize, xs_BadSize, xt_BadSize⟩⟩, ⟨⟨C_Full, _, _, _, _, cl_Full, PySem.W.mg_of X G gC_Full, PySem.F.excBase_ValueError, xe_Full, xk_Full, xs_Full, xt_Full⟩⟩, ⟨⟨C_Workshop, cl_Workshop, PySem.W.mg_of X G gC_Workshop, ⟨⟨pg_Workshop, hd_Workshop, po_Workshop, sa_Workshop⟩, ga_Workshop, gs_, gt_, gm_Workshop, if_pos (beq_self_eq_true _)⟩⟩⟩, trivial⟩
  have KD_LENGTHS : KdAt K w mg "LENGTHS" [("blank", 3), ("cut", 4), ("mount", 5), ("foot", 5), ("lever", 3)] := ⟨⟨D_LENGTHS, es_LENGTHS, nn_LENGTHS, PySem.W.mg_of X G dy_LENGTHS, ⟨dl_LENGTHS, He.keysLit_of dh_LENGTHS, ds_LENGTHS⟩, dr_LENGTHS⟩⟩
  have KD_PARTS : KdAt K w mg "PARTS" [("foot", 0), ("sum", 2), ("high", 2), ("less", 1)] := ⟨⟨D_PARTS, es_PARTS, nn_PARTS, PySem.W.mg_of X G dy_PARTS, ⟨dl_PARTS, He.keysLit_of dh_PARTS, ds_PARTS⟩, dr_PARTS⟩⟩
  have G_v_law_bag := fun_mk (st := s_v_law_bag) l_v_law_bag c_v_law_bag k_v_law_bag
  have G_v_law_pull := fun_mk (st := s_v_law_pull) l_v_law_pull c_v_law_pull k_v_law_pull
  have G_v_law_far := fun_mk (st := s_v_law_far) l_v_law_far c_v_law_far k_v_law_far
  have G_v_law_angle := fun_mk (st := s_v_law_angle) l_v_law_angle c_v_law_angle k_v_law_angle
  have G_v_law_mixed := fun_mk (st := s_v_law_mixed) l_v_law_mixed c_v_law_mixed k_v_law_mixed
  have G_is_number := fun_mk (st := s_is_number) l_is_number c_is_number k_is_number
  have G_are_numbers := fun_mk (st := s_are_numbers) l_are_numbers c_are_numbers k_are_numbers
  have G_good_kinds := fun_mk (st := s_good_kinds) l_good_kinds c_good_kinds k_good_kinds
  have G_good_mount := fun_mk (st := s_good_mount) l_good_mount c_good_mount k_good_mount
  have G_is_rim := fun_mk (st := s_is_rim) l_is_rim c_is_rim k_is_rim
  have G_shaped := fun_mk (st := s_shaped) l_shaped c_shaped k_shaped
  have G_count_parts := fun_mk (st := s_count_parts) l_count_parts c_count_parts k_count_parts
  have G_is_tree := fun_mk (st := s_is_tree) l_is_tree c_is_tree k_is_tree
  have G_good_drops := fun_mk (st := s_good_drops) l_good_drops c_good_drops k_good_drops
  have G_good_foot := fun_mk (st := s_good_foot) l_good_foot c_good_foot k_good_foot
  have G_good_things := fun_mk (st := s_good_things) l_good_things c_good_things k_good_things
  have G_need_fact := fun_mk (st := s_need_fact) l_need_fact c_need_fact k_need_fact
  have G_Hold_init := fun_mk (st := s_Hold_init) l_Hold_init c_Hold_init k_Hold_init
  have G_Workshop_go_on := fun_mk (st := s_Workshop_go_on) l_Workshop_go_on c_Workshop_go_on k_Workshop_go_on
  have G_Workshop_tell := fun_mk (st := s_Workshop_tell) l_Workshop_tell c_Workshop_tell k_Workshop_tell
  have G_Workshop_fact_of := fun_mk (st := s_Workshop_fact_of) l_Workshop_fact_of c_Workshop_fact_of k_Workshop_fact_of
  have G_Workshop_strike := fun_mk (st := s_Workshop_strike) l_Workshop_strike c_Workshop_strike k_Workshop_strike
  have G_v_law_drops := fun_mk (st := s_v_law_drops) l_v_law_drops c_v_law_drops k_v_law_drops
  have G_v_law_pair := fun_mk (st := s_v_law_pair) l_v_law_pair c_v_law_pair k_v_law_pair
  have G_v_law_tree := fun_mk (st := s_v_law_tree) l_v_law_tree c_v_law_tree k_v_law_tree
  have G_v_law_full_tree := fun_mk (st := s_v_law_full_tree) l_v_law_full_tree c_v_law_full_tree k_v_law_full_tree
  have G_v_law_num := fun_mk (st := s_v_law_num) l_v_law_num c_v_law_num k_v_law_num
  have G_v_law_tree_ok := fun_mk (st := s_v_law_tree_ok) l_v_law_tree_ok c_v_law_tree_ok k_v_law_tree_ok
  have G_v_law_deep := fun_mk (st := s_v_law_deep) l_v_law_deep c_v_law_deep k_v_law_deep
  have G_v_law_parts := fun_mk (st := s_v_law_parts) l_v_law_parts c_v_law_parts k_v_law_parts
  have G_v_law_good_tree := fun_mk (st := s_v_law_good_tree) l_v_law_good_tree c_v_law_good_tree k_v_law_good_tree
  have G_v_law_small_tree := fun_mk (st := s_v_law_small_tree) l_v_law_small_tree c_v_law_small_tree k_v_law_small_tree
  have G_v_law_height := fun_mk (st := s_v_law_height) l_v_law_height c_v_law_height k_v_law_height
  have G_v_law_rim := fun_mk (st := s_v_law_rim) l_v_law_rim c_v_law_rim k_v_law_rim
  have G_v_law_fact := fun_mk (st := s_v_law_fact) l_v_law_fact c_v_law_fact k_v_law_fact
  have G_Workshop_init := fun_mk (st := s_Workshop_init) l_Workshop_init c_Workshop_init k_Workshop_init
  have G_last_of := fun_mk (st := s_last_of) l_last_of c_last_of k_last_of
  have G_Workshop_facts := fun_mk (st := s_Workshop_facts) l_Workshop_facts c_Workshop_facts k_Workshop_facts
  have G_cut_at := fun_mk (st := s_cut_at) l_cut_at c_cut_at k_cut_at
  have G_Workshop_rim_of := fun_mk (st := s_Workshop_rim_of) l_Workshop_rim_of c_Workshop_rim_of k_Workshop_rim_of
  have G_Workshop_mount_of := fun_mk (st := s_Workshop_mount_of) l_Workshop_mount_of c_Workshop_mount_of k_Workshop_mount_of
  have G_touched := fun_mk (st := s_touched) l_touched c_touched k_touched
  have G_lift_on := fun_mk (st := s_lift_on) l_lift_on c_lift_on k_lift_on
  have G_Foot_init := fund_mk (st := s_Foot_init) (its := [.int 0 t0_Foot_init]) (dvs := [V.int 0]) l_Foot_init c_Foot_init k_Foot_init d_Foot_init (by simp) (.cons ⟨_, rfl⟩ (.nil))
  have G_angle_at := fund_mk (st := s_angle_at) (its := [.int 1 t0_angle_at, .int 0 t1_angle_at, .int 0 t2_angle_at]) (dvs := [V.int 1, V.int 0, V.int 0]) l_angle_at c_angle_at k_angle_at d_angle_at (by simp) (.cons ⟨_, rfl⟩ (.cons ⟨_, rfl⟩ (.cons ⟨_, rfl⟩ (.nil))))
  have G_Workshop_lift_at := fun_mk (st := s_Workshop_lift_at) l_Workshop_lift_at c_Workshop_lift_at k_Workshop_lift_at
  have G_Workshop_lift := fund_mk (st := s_Workshop_lift) (its := [.int 0 t0_Workshop_lift]) (dvs := [V.int 0]) l_Workshop_lift c_Workshop_lift k_Workshop_lift d_Workshop_lift (by simp) (.cons ⟨_, rfl⟩ (.nil))
  have G_Workshop_rim := fun_mk (st := s_Workshop_rim) l_Workshop_rim c_Workshop_rim k_Workshop_rim
  have G_v_law_lifts := fun_mk (st := s_v_law_lifts) l_v_law_lifts c_v_law_lifts k_v_law_lifts
  have G_Workshop_eq := fun_mk (st := s_Workshop_eq) l_Workshop_eq c_Workshop_eq k_Workshop_eq
  have G_Workshop_len := fun_mk (st := s_Workshop_len) l_Workshop_len c_Workshop_len k_Workshop_len
  have G_look_rim := fun_mk (st := s_look_rim) l_look_rim c_look_rim k_look_rim
  have G_lies_within := fun_mk (st := s_lies_within) l_lies_within c_lies_within k_lies_within
  have G_within := fun_mk (st := s_within) l_within c_within k_within
  have G_law := fun_mk (st := s_law) l_law c_law k_law
  refine ⟨PySem.W.fnOf "law" "law" (defArgs s_law) (defBody s_law) (defScope s_law) .none kV_law dc_law pm_law an_law cd_law ct_law, fun s v => .of_eq rfl, fun base _ _ => ?_⟩
  have O_v_law_bag := ok_v_law_bag (P := l.prog) (w := w) (base := base) T G_v_law_bag
  have A_v_law_bag : FnAt l.prog w K mg base cl 1 "_law_bag" ["_law_script"] f_v_law_bag := ⟨⟨fn_v_law_bag, _, PySem.W.mg_of X G a_v_law_bag, k_v_law_bag, G_v_law_bag.binds (ps := ["_law_script"]) fun _ _ _ _ _ _ us hl => match us, hl with | [_], _ => rfl, O_v_law_bag⟩⟩
  have O_v_law_pull := ok_v_law_pull (P := l.prog) (w := w) (base := base) T G_v_law_pull
  have A_v_law_pull : FnAt l.prog w K mg base cl 1 "_law_pull" ["_law_bag_here", "_law_amount"] f_v_law_pull := ⟨⟨fn_v_law_pull, _, PySem.W.mg_of X G a_v_law_pull, k_v_law_pull, G_v_law_pull.binds (ps := ["_law_bag_here", "_law_amount"]) fun _ _ _ _ _ _ us hl => match us, hl with | [_, _], _ => rfl, O_v_law_pull⟩⟩
  have O_v_law_far := ok_v_law_far (P := l.prog) (w := w) (base := base) T G_v_law_far A_v_law_pull
  have A_v_law_far : FnAt l.prog w K mg base cl 2 "_law_far" ["_law_bag_here"] f_v_law_far := ⟨⟨fn_v_law_far, _, PySem.W.mg_of X G a_v_law_far, k_v_law_far, G_v_law_far.binds (ps := ["_law_bag_here"]) fun _ _ _ _ _ _ us hl => match us, hl with | [_], _ => rfl, O_v_law_far⟩⟩
  have O_v_law_angle := ok_v_law_angle (P := l.prog) (w := w) (base := base) T G_v_law_angle A_v_law_far A_v_law_pull
  have A_v_law_angle : FnAt l.prog w K mg base cl 3 "_law_angle" ["_law_bag_here"] f_v_law_angle := ⟨⟨fn_v_law_angle, _, PySem.W.mg_of X G a_v_law_angle, k_v_law_angle, G_v_law_angle.binds (ps := ["_law_bag_here"]) fun _ _ _ _ _ _ us hl => match us, hl with | [_], _ => rfl, O_v_law_angle⟩⟩
  have O_v_law_mixed := ok_v_law_mixed (P := l.prog) (w := w) (base := base) T G_v_law_mixed A_v_law_pull
  have A_v_law_mixed : FnAt l.prog w K mg base cl 2 "_law_mixed" ["_law_bag_here", "_law_row"] f_v_law_mixed := ⟨⟨fn_v_law_mixed, _, PySem.W.mg_of X G a_v_law_mixed, k_v_law_mixed, G_v_law_mixed.binds (ps := ["_law_bag_here", "_law_row"]) fun _ _ _ _ _ _ us hl => match us, hl with | [_, _], _ => rfl, O_v_law_mixed⟩⟩
  have O_is_number := ok_is_number (P := l.prog) (w := w) (base := base) T G_is_number
  have A_is_number : FnAt l.prog w K mg base cl 1 "is_number" ["thing"] f_is_number := ⟨⟨fn_is_number, _, PySem.W.mg_of X G a_is_number, k_is_number, G_is_number.binds (ps := ["thing"]) fun _ _ _ _ _ _ us hl => match us, hl with | [_], _ => rfl, O_is_number⟩⟩
  have O_are_numbers := ok_are_numbers (P := l.prog) (w := w) (base := base) T G_are_numbers A_is_number
  have A_are_numbers : FnAt l.prog w K mg base cl 2 "are_numbers" ["things"] f_are_numbers := ⟨⟨fn_are_numbers, _, PySem.W.mg_of X G a_are_numbers, k_are_numbers, G_are_numbers.binds (ps := ["things"]) fun _ _ _ _ _ _ us hl => match us, hl with | [_], _ => rfl, O_are_numbers⟩⟩
  have O_good_kinds := ok_good_kinds (P := l.prog) (w := w) (base := base) T G_good_kinds A_are_numbers A_is_number
  have A_good_kinds : FnAt l.prog w K mg base cl 3 "good_kinds" ["fact"] f_good_kinds := ⟨⟨fn_good_kinds, _, PySem.W.mg_of X G a_good_kinds, k_good_kinds, G_good_kinds.binds (ps := ["fact"]) fun _ _ _ _ _ _ us hl => match us, hl with | [_], _ => rfl, O_good_kinds⟩⟩
  have O_good_mount := ok_good_mount (P := l.prog) (w := w) (base := base) T G_good_mount
  have A_good_mount : FnAt l.prog w K mg base cl 1 "good_mount" ["fact"] f_good_mount := ⟨⟨fn_good_mount, _, PySem.W.mg_of X G a_good_mount, k_good_mount, G_good_mount.binds (ps := ["fact"]) fun _ _ _ _ _ _ us hl => match us, hl with | [_], _ => rfl, O_good_mount⟩⟩
  have O_is_rim := ok_is_rim (P := l.prog) (w := w) (base := base) T G_is_rim
  have A_is_rim : FnAt l.prog w K mg base cl 1 "is_rim" ["row"] f_is_rim := ⟨⟨fn_is_rim, _, PySem.W.mg_of X G a_is_rim, k_is_rim, G_is_rim.binds (ps := ["row"]) fun _ _ _ _ _ _ us hl => match us, hl with | [_], _ => rfl, O_is_rim⟩⟩
  have O_shaped := ok_shaped (P := l.prog) (w := w) (base := base) T G_shaped (PySem.W.mg_of X G a_shaped) k_shaped A_is_number KD_PARTS 12
  have A_shaped : FnAt l.prog w K mg base cl 14 "shaped" ["tree", "deep"] (f_shaped 12) := ⟨⟨fn_shaped, _, PySem.W.mg_of X G a_shaped, k_shaped, G_shaped.binds (ps := ["tree", "deep"]) fun _ _ _ _ _ _ us hl => match us, hl with | [_, _], _ => rfl, O_shaped⟩⟩
  have O_count_parts := ok_count_parts (P := l.prog) (w := w) (base := base) T G_count_parts (PySem.W.mg_of X G a_count_parts) k_count_parts 12
  have A_count_parts : FnAt l.prog w K mg base cl 13 "count_parts" ["tree"] (f_count_parts 12) := ⟨⟨fn_count_parts, _, PySem.W.mg_of X G a_count_parts, k_count_parts, G_count_parts.binds (ps := ["tree"]) fun _ _ _ _ _ _ us hl => match us, hl with | [_], _ => rfl, O_count_parts⟩⟩
  have O_is_tree := ok_is_tree (P := l.prog) (w := w) (base := base) T G_is_tree A_count_parts A_shaped
  have A_is_tree : FnAt l.prog w K mg base cl 15 "is_tree" ["tree"] f_is_tree := ⟨⟨fn_is_tree, _, PySem.W.mg_of X G a_is_tree, k_is_tree, G_is_tree.binds (ps := ["tree"]) fun _ _ _ _ _ _ us hl => match us, hl with | [_], _ => rfl, O_is_tree⟩⟩
  have O_good_drops := ok_good_drops (P := l.prog) (w := w) (base := base) T G_good_drops
  have A_good_drops : FnAt l.prog w K mg base cl 1 "good_drops" ["drops"] f_good_drops := ⟨⟨fn_good_drops, _, PySem.W.mg_of X G a_good_drops, k_good_drops, G_good_drops.binds (ps := ["drops"]) fun _ _ _ _ _ _ us hl => match us, hl with | [_], _ => rfl, O_good_drops⟩⟩
  have O_good_foot := ok_good_foot (P := l.prog) (w := w) (base := base) T G_good_foot A_good_drops
  have A_good_foot : FnAt l.prog w K mg base cl 2 "good_foot" ["drops", "middle"] f_good_foot := ⟨⟨fn_good_foot, _, PySem.W.mg_of X G a_good_foot, k_good_foot, G_good_foot.binds (ps := ["drops", "middle"]) fun _ _ _ _ _ _ us hl => match us, hl with | [_, _], _ => rfl, O_good_foot⟩⟩
  have O_good_things := ok_good_things (P := l.prog) (w := w) (base := base) T G_good_things A_good_foot A_good_mount A_is_rim A_is_tree
  have A_good_things : FnAt l.prog w K mg base cl 16 "good_things" ["fact"] f_good_things := ⟨⟨fn_good_things, _, PySem.W.mg_of X G a_good_things, k_good_things, G_good_things.binds (ps := ["fact"]) fun _ _ _ _ _ _ us hl => match us, hl with | [_], _ => rfl, O_good_things⟩⟩
  have O_need_fact := ok_need_fact (P := l.prog) (w := w) (base := base) T G_need_fact A_good_kinds A_good_things KD_LENGTHS
  have A_need_fact : FnAt l.prog w K mg base cl 17 "need_fact" ["fact"] f_need_fact := ⟨⟨fn_need_fact, _, PySem.W.mg_of X G a_need_fact, k_need_fact, G_need_fact.binds (ps := ["fact"]) fun _ _ _ _ _ _ us hl => match us, hl with | [_], _ => rfl, O_need_fact⟩⟩
  have O_Hold_init := ok_Hold_init (P := l.prog) (w := w) (base := base) T G_Hold_init
  have D_Hold : ClsAt l.prog w K mg base cl 1 "Hold" ["self", "there", "many_told"] f_Hold_init := ⟨⟨C_Hold, fn_Hold_init, _, cl_Hold, PySem.W.mg_of X G gC_Hold, ⟨mk_Hold, a_Hold_init, i_Hold_init, kc_Hold⟩, G_Hold_init.binds (ps := ["self", "there", "many_told"]) fun _ _ _ _ _ _ us hl => match us, hl with | [_, _, _], _ => rfl, O_Hold_init⟩⟩
  have O_Workshop_go_on := ok_Workshop_go_on (P := l.prog) (w := w) (base := base) T G_Workshop_go_on D_Hold
  have M_Workshop_go_on : MethAt l.prog w K mg base cl 3 "Workshop" "go_on" ["self", "there", "many_told"] f_Workshop_go_on := ⟨⟨C_Workshop, fn_Workshop_go_on, _, cl_Workshop, ⟨pg_Workshop, hd_Workshop, po_Workshop, sa_Workshop⟩, ⟨a_Workshop_go_on, i_Workshop_go_on, k_Workshop_go_on⟩, G_Workshop_go_on.binds (ps := ["self", "there", "many_told"]) fun _ _ _ _ _ _ us hl => match us, hl with | [_, _, _], _ => rfl, O_Workshop_go_on⟩⟩
  have O_Workshop_tell := ok_Workshop_tell (P := l.prog) (w := w) (base := base) T G_Workshop_tell A_need_fact M_Workshop_go_on
  have M_Workshop_tell : MethAt l.prog w K mg base cl 18 "Workshop" "tell" ["self", "fact"] f_Workshop_tell := ⟨⟨C_Workshop, fn_Workshop_tell, _, cl_Workshop, ⟨pg_Workshop, hd_Workshop, po_Workshop, sa_Workshop⟩, ⟨a_Workshop_tell, i_Workshop_tell, k_Workshop_tell⟩, G_Workshop_tell.binds (ps := ["self", "fact"]) fun _ _ _ _ _ _ us hl => match us, hl with | [_, _], _ => rfl, O_Workshop_tell⟩⟩
  have O_Workshop_fact_of := ok_Workshop_fact_of (P := l.prog) (w := w) (base := base) T G_Workshop_fact_of
  have M_Workshop_fact_of : MethAt l.prog w K mg base cl 1 "Workshop" "fact_of" ["self", "number"] f_Workshop_fact_of_2 := ⟨⟨C_Workshop, fn_Workshop_fact_of, _, cl_Workshop, ⟨pg_Workshop, hd_Workshop, po_Workshop, sa_Workshop⟩, ⟨a_Workshop_fact_of, i_Workshop_fact_of, k_Workshop_fact_of⟩, G_Workshop_fact_of.binds (ps := ["self", "number"]) fun _ _ _ _ _ _ us hl => match us, hl with | [_, _], _ => rfl, O_Workshop_fact_of⟩⟩
  have O_Workshop_strike := ok_Workshop_strike (P := l.prog) (w := w) (base := base) T G_Workshop_strike M_Workshop_fact_of M_Workshop_go_on
  have M_Workshop_strike : MethAt l.prog w K mg base cl 4 "Workshop" "strike" ["self", "number"] f_Workshop_strike_2 := ⟨⟨C_Workshop, fn_Workshop_strike, _, cl_Workshop, ⟨pg_Workshop, hd_Workshop, po_Workshop, sa_Workshop⟩, ⟨a_Workshop_strike, i_Workshop_strike, k_Workshop_strike⟩, G_Workshop_strike.binds (ps := ["self", "number"]) fun _ _ _ _ _ _ us hl => match us, hl with | [_, _], _ => rfl, O_Workshop_strike⟩⟩
  have O_v_law_drops := ok_v_law_drops (P := l.prog) (w := w) (base := base) T G_v_law_drops A_v_law_pull
  have A_v_law_drops : FnAt l.prog w K mg base cl 2 "_law_drops" ["_law_bag_here"] f_v_law_drops := ⟨⟨fn_v_law_drops, _, PySem.W.mg_of X G a_v_law_drops, k_v_law_drops, G_v_law_drops.binds (ps := ["_law_bag_here"]) fun _ _ _ _ _ _ us hl => match us, hl with | [_], _ => rfl, O_v_law_drops⟩⟩
  have O_v_law_pair := ok_v_law_pair (P := l.prog) (w := w) (base := base) T G_v_law_pair A_v_law_drops A_v_law_pull
  have A_v_law_pair : FnAt l.prog w K mg base cl 3 "_law_pair" ["_law_bag_here"] f_v_law_pair := ⟨⟨fn_v_law_pair, _, PySem.W.mg_of X G a_v_law_pair, k_v_law_pair, G_v_law_pair.binds (ps := ["_law_bag_here"]) fun _ _ _ _ _ _ us hl => match us, hl with | [_], _ => rfl, O_v_law_pair⟩⟩
  have O_v_law_tree := ok_v_law_tree (P := l.prog) (w := w) (base := base) T G_v_law_tree (PySem.W.mg_of X G a_v_law_tree) k_v_law_tree A_v_law_pull 12
  have A_v_law_tree : FnAt l.prog w K mg base cl 14 "_law_tree" ["_law_bag_here", "_law_deep_here"] (f_v_law_tree 12) := ⟨⟨fn_v_law_tree, _, PySem.W.mg_of X G a_v_law_tree, k_v_law_tree, G_v_law_tree.binds (ps := ["_law_bag_here", "_law_deep_here"]) fun _ _ _ _ _ _ us hl => match us, hl with | [_, _], _ => rfl, O_v_law_tree⟩⟩
  have O_v_law_full_tree := ok_v_law_full_tree (P := l.prog) (w := w) (base := base) T G_v_law_full_tree (PySem.W.mg_of X G a_v_law_full_tree) k_v_law_full_tree A_v_law_pull 12
  have A_v_law_full_tree : FnAt l.prog w K mg base cl 14 "_law_full_tree" ["_law_bag_here", "_law_deep_here"] (f_v_law_full_tree 12) := ⟨⟨fn_v_law_full_tree, _, PySem.W.mg_of X G a_v_law_full_tree, k_v_law_full_tree, G_v_law_full_tree.binds (ps := ["_law_bag_here", "_law_deep_here"]) fun _ _ _ _ _ _ us hl => match us, hl with | [_, _], _ => rfl, O_v_law_full_tree⟩⟩
  have O_v_law_num := ok_v_law_num (P := l.prog) (w := w) (base := base) T G_v_law_num
  have A_v_law_num : FnAt l.prog w K mg base cl 1 "_law_num" ["_law_found"] f_v_law_num := ⟨⟨fn_v_law_num, _, PySem.W.mg_of X G a_v_law_num, k_v_law_num, G_v_law_num.binds (ps := ["_law_found"]) fun _ _ _ _ _ _ us hl => match us, hl with | [_], _ => rfl, O_v_law_num⟩⟩
  have O_v_law_tree_ok := ok_v_law_tree_ok (P := l.prog) (w := w) (base := base) T G_v_law_tree_ok (PySem.W.mg_of X G a_v_law_tree_ok) k_v_law_tree_ok A_v_law_num 12
  have A_v_law_tree_ok : FnAt l.prog w K mg base cl 14 "_law_tree_ok" ["_law_tree_here"] (f_v_law_tree_ok 12) := ⟨⟨fn_v_law_tree_ok, _, PySem.W.mg_of X G a_v_law_tree_ok, k_v_law_tree_ok, G_v_law_tree_ok.binds (ps := ["_law_tree_here"]) fun _ _ _ _ _ _ us hl => match us, hl with | [_], _ => rfl, O_v_law_tree_ok⟩⟩
  have O_v_law_deep := ok_v_law_deep (P := l.prog) (w := w) (base := base) T G_v_law_deep (PySem.W.mg_of X G a_v_law_deep) k_v_law_deep 12
  have A_v_law_deep : FnAt l.prog w K mg base cl 13 "_law_deep" ["_law_tree_here"] (f_v_law_deep 12) := ⟨⟨fn_v_law_deep, _, PySem.W.mg_of X G a_v_law_deep, k_v_law_deep, G_v_law_deep.binds (ps := ["_law_tree_here"]) fun _ _ _ _ _ _ us hl => match us, hl with | [_], _ => rfl, O_v_law_deep⟩⟩
  have O_v_law_parts := ok_v_law_parts (P := l.prog) (w := w) (base := base) T G_v_law_parts (PySem.W.mg_of X G a_v_law_parts) k_v_law_parts 12
  have A_v_law_parts : FnAt l.prog w K mg base cl 13 "_law_parts" ["_law_tree_here"] (f_v_law_parts 12) := ⟨⟨fn_v_law_parts, _, PySem.W.mg_of X G a_v_law_parts, k_v_law_parts, G_v_law_parts.binds (ps := ["_law_tree_here"]) fun _ _ _ _ _ _ us hl => match us, hl with | [_], _ => rfl, O_v_law_parts⟩⟩
  have O_v_law_good_tree := ok_v_law_good_tree (P := l.prog) (w := w) (base := base) T G_v_law_good_tree A_v_law_deep A_v_law_parts A_v_law_tree_ok
  have A_v_law_good_tree : FnAt l.prog w K mg base cl 15 "_law_good_tree" ["_law_tree_here"] f_v_law_good_tree := ⟨⟨fn_v_law_good_tree, _, PySem.W.mg_of X G a_v_law_good_tree, k_v_law_good_tree, G_v_law_good_tree.binds (ps := ["_law_tree_here"]) fun _ _ _ _ _ _ us hl => match us, hl with | [_], _ => rfl, O_v_law_good_tree⟩⟩
  have O_v_law_small_tree := ok_v_law_small_tree (P := l.prog) (w := w) (base := base) T G_v_law_small_tree A_v_law_full_tree A_v_law_good_tree A_v_law_pull A_v_law_tree
  have A_v_law_small_tree : FnAt l.prog w K mg base cl 16 "_law_small_tree" ["_law_bag_here"] f_v_law_small_tree := ⟨⟨fn_v_law_small_tree, _, PySem.W.mg_of X G a_v_law_small_tree, k_v_law_small_tree, G_v_law_small_tree.binds (ps := ["_law_bag_here"]) fun _ _ _ _ _ _ us hl => match us, hl with | [_], _ => rfl, O_v_law_small_tree⟩⟩
  have O_v_law_height := ok_v_law_height (P := l.prog) (w := w) (base := base) T G_v_law_height A_v_law_far A_v_law_pull
  have A_v_law_height : FnAt l.prog w K mg base cl 3 "_law_height" ["_law_bag_here"] f_v_law_height := ⟨⟨fn_v_law_height, _, PySem.W.mg_of X G a_v_law_height, k_v_law_height, G_v_law_height.binds (ps := ["_law_bag_here"]) fun _ _ _ _ _ _ us hl => match us, hl with | [_], _ => rfl, O_v_law_height⟩⟩
  have O_v_law_rim := ok_v_law_rim (P := l.prog) (w := w) (base := base) T G_v_law_rim A_v_law_height A_v_law_pull
  have A_v_law_rim : FnAt l.prog w K mg base cl 4 "_law_rim" ["_law_bag_here", "_law_most"] f_v_law_rim := ⟨⟨fn_v_law_rim, _, PySem.W.mg_of X G a_v_law_rim, k_v_law_rim, G_v_law_rim.binds (ps := ["_law_bag_here", "_law_most"]) fun _ _ _ _ _ _ us hl => match us, hl with | [_, _], _ => rfl, O_v_law_rim⟩⟩
  have O_v_law_fact := ok_v_law_fact (P := l.prog) (w := w) (base := base) T G_v_law_fact A_v_law_angle A_v_law_height A_v_law_pair A_v_law_pull A_v_law_rim A_v_law_small_tree
  have A_v_law_fact : FnAt l.prog w K mg base cl 17 "_law_fact" ["_law_bag_here", "_law_told"] f_v_law_fact := ⟨⟨fn_v_law_fact, _, PySem.W.mg_of X G a_v_law_fact, k_v_law_fact, G_v_law_fact.binds (ps := ["_law_bag_here", "_law_told"]) fun _ _ _ _ _ _ us hl => match us, hl with | [_, _], _ => rfl, O_v_law_fact⟩⟩
  have O_Workshop_init := ok_Workshop_init (P := l.prog) (w := w) (base := base) T G_Workshop_init D_Hold
  have D_Workshop : ClsAt l.prog w K mg base cl 3 "Workshop" ["self"] f_Workshop_init := ⟨⟨C_Workshop, fn_Workshop_init, _, cl_Workshop, PySem.W.mg_of X G gC_Workshop, ⟨mk_Workshop, a_Workshop_init, i_Workshop_init, kc_Workshop⟩, G_Workshop_init.binds (ps := ["self"]) fun _ _ _ _ _ _ us hl => match us, hl with | [_], _ => rfl, O_Workshop_init⟩⟩
  have O_last_of := ok_last_of (P := l.prog) (w := w) (base := base) T G_last_of
  have A_last_of : FnAt l.prog w K mg base cl 1 "last_of" ["facts", "word", "number"] f_last_of := ⟨⟨fn_last_of, _, PySem.W.mg_of X G a_last_of, k_last_of, G_last_of.binds (ps := ["facts", "word", "number"]) fun _ _ _ _ _ _ us hl => match us, hl with | [_, _, _], _ => rfl, O_last_of⟩⟩
  have O_Workshop_facts := ok_Workshop_facts (P := l.prog) (w := w) (base := base) T G_Workshop_facts
  have M_Workshop_facts : MethAt l.prog w K mg base cl 1 "Workshop" "facts" ["self"] f_Workshop_facts := ⟨⟨C_Workshop, fn_Workshop_facts, _, cl_Workshop, ⟨pg_Workshop, hd_Workshop, po_Workshop, sa_Workshop⟩, ⟨a_Workshop_facts, i_Workshop_facts, k_Workshop_facts⟩, G_Workshop_facts.binds (ps := ["self"]) fun _ _ _ _ _ _ us hl => match us, hl with | [_], _ => rfl, O_Workshop_facts⟩⟩
  have O_cut_at := ok_cut_at (P := l.prog) (w := w) (base := base) T G_cut_at
  have A_cut_at : FnAt l.prog w K mg base cl 1 "cut_at" ["rim", "cell", "height"] f_cut_at := ⟨⟨fn_cut_at, _, PySem.W.mg_of X G a_cut_at, k_cut_at, G_cut_at.binds (ps := ["rim", "cell", "height"]) fun _ _ _ _ _ _ us hl => match us, hl with | [_, _, _], _ => rfl, O_cut_at⟩⟩
  have O_Workshop_rim_of := ok_Workshop_rim_of (P := l.prog) (w := w) (base := base) T G_Workshop_rim_of A_cut_at A_last_of M_Workshop_facts
  have M_Workshop_rim_of : MethAt l.prog w K mg base cl 2 "Workshop" "rim_of" ["self", "cam"] f_Workshop_rim_of := ⟨⟨C_Workshop, fn_Workshop_rim_of, _, cl_Workshop, ⟨pg_Workshop, hd_Workshop, po_Workshop, sa_Workshop⟩, ⟨a_Workshop_rim_of, i_Workshop_rim_of, k_Workshop_rim_of⟩, G_Workshop_rim_of.binds (ps := ["self", "cam"]) fun _ _ _ _ _ _ us hl => match us, hl with | [_, _], _ => rfl, O_Workshop_rim_of⟩⟩
  have O_Workshop_mount_of := ok_Workshop_mount_of (P := l.prog) (w := w) (base := base) T G_Workshop_mount_of A_last_of M_Workshop_facts
  have M_Workshop_mount_of : MethAt l.prog w K mg base cl 2 "Workshop" "mount_of" ["self", "cam"] f_Workshop_mount_of := ⟨⟨C_Workshop, fn_Workshop_mount_of, _, cl_Workshop, ⟨pg_Workshop, hd_Workshop, po_Workshop, sa_Workshop⟩, ⟨a_Workshop_mount_of, i_Workshop_mount_of, k_Workshop_mount_of⟩, G_Workshop_mount_of.binds (ps := ["self", "cam"]) fun _ _ _ _ _ _ us hl => match us, hl with | [_, _], _ => rfl, O_Workshop_mount_of⟩⟩
  have O_touched := ok_touched (P := l.prog) (w := w) (base := base) T G_touched
  have A_touched : FnAt l.prog w K mg base cl 1 "touched" ["size", "foot", "angle"] f_touched := ⟨⟨fn_touched, _, PySem.W.mg_of X G a_touched, k_touched, G_touched.binds (ps := ["size", "foot", "angle"]) fun _ _ _ _ _ _ us hl => match us, hl with | [_, _, _], _ => rfl, O_touched⟩⟩
  have O_lift_on := ok_lift_on (P := l.prog) (w := w) (base := base) T G_lift_on A_touched
  have A_lift_on : FnAt l.prog w K mg base cl 2 "lift_on" ["rim", "foot", "angle"] f_lift_on := ⟨⟨fn_lift_on, _, PySem.W.mg_of X G a_lift_on, k_lift_on, G_lift_on.binds (ps := ["rim", "foot", "angle"]) fun _ _ _ _ _ _ us hl => match us, hl with | [_, _, _], _ => rfl, O_lift_on⟩⟩
  have O_Foot_init := ok_Foot_init (P := l.prog) (w := w) (base := base) T G_Foot_init A_good_foot
  have D_Foot : ClsAt l.prog w K mg base cl 3 "Foot" ["self", "drops", "middle"] f_Foot_init := ⟨⟨C_Foot, fn_Foot_init, _, cl_Foot, PySem.W.mg_of X G gC_Foot, ⟨mk_Foot, a_Foot_init, i_Foot_init, kc_Foot⟩, bindsD (ps := ["self", "drops", "middle"]) G_Foot_init (by simp) fun T kV doc pm an cdv ct us its h1 h2 => match us, its, h1, h2 with | [u0, u1, u2], [i0], _, _ => ⟨_, rfl, rfl⟩, O_Foot_init⟩⟩
  have O_angle_at := ok_angle_at (P := l.prog) (w := w) (base := base) T G_angle_at
  have A_angle_at : FnAt l.prog w K mg base cl 1 "angle_at" ["turns", "moments", "first", "moment"] f_angle_at := ⟨⟨fn_angle_at, _, PySem.W.mg_of X G a_angle_at, k_angle_at, bindsD (ps := ["turns", "moments", "first", "moment"]) G_angle_at (by simp) fun T kV doc pm an cdv ct us its h1 h2 => match us, its, h1, h2 with | [u0, u1, u2, u3], [i0, i1, i2], _, _ => ⟨_, rfl, rfl⟩, O_angle_at⟩⟩
  have O_Workshop_lift_at := ok_Workshop_lift_at (P := l.prog) (w := w) (base := base) T G_Workshop_lift_at A_angle_at A_last_of A_lift_on D_Foot M_Workshop_facts M_Workshop_mount_of M_Workshop_rim_of
  have M_Workshop_lift_at : MethAt l.prog w K mg base cl 5 "Workshop" "lift_at" ["self", "follower", "moment"] f_Workshop_lift_at := ⟨⟨C_Workshop, fn_Workshop_lift_at, _, cl_Workshop, ⟨pg_Workshop, hd_Workshop, po_Workshop, sa_Workshop⟩, ⟨a_Workshop_lift_at, i_Workshop_lift_at, k_Workshop_lift_at⟩, G_Workshop_lift_at.binds (ps := ["self", "follower", "moment"]) fun _ _ _ _ _ _ us hl => match us, hl with | [_, _, _], _ => rfl, O_Workshop_lift_at⟩⟩
  have O_Workshop_lift := ok_Workshop_lift (P := l.prog) (w := w) (base := base) T G_Workshop_lift M_Workshop_lift_at
  have M_Workshop_lift : MethAt l.prog w K mg base cl 6 "Workshop" "lift" ["self", "follower", "moment"] f_Workshop_lift_2 := ⟨⟨C_Workshop, fn_Workshop_lift, _, cl_Workshop, ⟨pg_Workshop, hd_Workshop, po_Workshop, sa_Workshop⟩, ⟨a_Workshop_lift, i_Workshop_lift, k_Workshop_lift⟩, bindsD (ps := ["self", "follower", "moment"]) G_Workshop_lift (by simp) fun T kV doc pm an cdv ct us its h1 h2 => match us, its, h1, h2 with | [u0, u1, u2], [i0], _, _ => ⟨_, rfl, rfl⟩, O_Workshop_lift⟩⟩
  have O_Workshop_rim := ok_Workshop_rim (P := l.prog) (w := w) (base := base) T G_Workshop_rim M_Workshop_rim_of
  have M_Workshop_rim : MethAt l.prog w K mg base cl 3 "Workshop" "rim" ["self", "cam"] f_Workshop_rim_2 := ⟨⟨C_Workshop, fn_Workshop_rim, _, cl_Workshop, ⟨pg_Workshop, hd_Workshop, po_Workshop, sa_Workshop⟩, ⟨a_Workshop_rim, i_Workshop_rim, k_Workshop_rim⟩, G_Workshop_rim.binds (ps := ["self", "cam"]) fun _ _ _ _ _ _ us hl => match us, hl with | [_, _], _ => rfl, O_Workshop_rim⟩⟩
  have O_v_law_lifts := ok_v_law_lifts (P := l.prog) (w := w) (base := base) T G_v_law_lifts M_Workshop_lift M_Workshop_rim
  have A_v_law_lifts : FnAt l.prog w K mg base cl 7 "_law_lifts" ["_law_shop", "_law_when"] f_v_law_lifts := ⟨⟨fn_v_law_lifts, _, PySem.W.mg_of X G a_v_law_lifts, k_v_law_lifts, G_v_law_lifts.binds (ps := ["_law_shop", "_law_when"]) fun _ _ _ _ _ _ us hl => match us, hl with | [_, _], _ => rfl, O_v_law_lifts⟩⟩
  have O_Workshop_eq := ok_Workshop_eq (P := l.prog) (w := w) (base := base) T G_Workshop_eq M_Workshop_facts
  have EC_Workshop : EqAtC l.prog w K mg base cl 2 "Workshop" ["self", "other"] f_Workshop_eq := ⟨⟨C_Workshop, fn_Workshop_eq, _, cl_Workshop, a_Workshop_eq, i_Workshop_eq, G_Workshop_eq.binds (ps := ["self", "other"]) fun _ _ _ _ _ _ us hl => match us, hl with | [_, _], _ => rfl, O_Workshop_eq⟩⟩
  have O_Workshop_len := ok_Workshop_len (P := l.prog) (w := w) (base := base) T G_Workshop_len
  have L_Workshop : LenAt l.prog w K mg base cl 1 "Workshop" ["self"] f_Workshop_len := ⟨⟨C_Workshop, fn_Workshop_len, _, cl_Workshop, a_Workshop_len, i_Workshop_len, G_Workshop_len.binds (ps := ["self"]) fun _ _ _ _ _ _ us hl => match us, hl with | [_], _ => rfl, O_Workshop_len⟩⟩
  have O_look_rim := ok_look_rim (P := l.prog) (w := w) (base := base) T G_look_rim A_is_rim
  have A_look_rim : FnAt l.prog w K mg base cl 2 "look_rim" ["row"] f_look_rim := ⟨⟨fn_look_rim, _, PySem.W.mg_of X G a_look_rim, k_look_rim, G_look_rim.binds (ps := ["row"]) fun _ _ _ _ _ _ us hl => match us, hl with | [_], _ => rfl, O_look_rim⟩⟩
  have O_lies_within := ok_lies_within (P := l.prog) (w := w) (base := base) T G_lies_within
  have A_lies_within : FnAt l.prog w K mg base cl 1 "lies_within" ["one", "other"] f_lies_within := ⟨⟨fn_lies_within, _, PySem.W.mg_of X G a_lies_within, k_lies_within, G_lies_within.binds (ps := ["one", "other"]) fun _ _ _ _ _ _ us hl => match us, hl with | [_, _], _ => rfl, O_lies_within⟩⟩
  have O_within := ok_within (P := l.prog) (w := w) (base := base) T G_within A_lies_within A_look_rim
  have A_within : FnAt l.prog w K mg base cl 3 "within" ["one", "other"] f_within := ⟨⟨fn_within, _, PySem.W.mg_of X G a_within, k_within, G_within.binds (ps := ["one", "other"]) fun _ _ _ _ _ _ us hl => match us, hl with | [_, _], _ => rfl, O_within⟩⟩
  have O_law := ok_law (P := l.prog) (w := w) (base := base) T G_law A_v_law_angle A_v_law_bag A_v_law_fact A_v_law_height A_v_law_lifts A_v_law_mixed A_v_law_pull A_v_law_rim A_within D_Workshop M_Workshop_rim M_Workshop_strike M_Workshop_tell L_Workshop EC_Workshop
  exact law_ok O_law pure_law
theorem pure_law (ns : List Int) (hl : ns.length ≤ 63) : ∃ s', f_law_k29 [.d (.scr (ns.map D.int))] [] = .ok (.w (.d (.bl true))) s' := by
  exact TG.pure_k29 ns hl
end Lk29
open PySem PySem.W PyProof.Rows
set_option maxHeartbeats 0 in
theorem PySem.Challenge.cw_tappet_k29_whole_cuts_in_any_order_holds : PySem.Challenge.rw_tappet_k29_whole_cuts_in_any_order.Holds := by
  w_on; o_law; k_head; (case hw => w_witness2)
  k_fill
  refine L2.walk_of (l := PySem.Challenge.rw_tappet_k29_whole_cuts_in_any_order) (n := 63) (k := 19) (x := "_law_script") (CX := fun w => L2.CX PySem.Challenge.rw_tappet_k29_whole_cuts_in_any_order.prog w) (sp := fun w => TG.spLaw _) rfl (by decide) rfl ⟨rfl, by decide, by decide⟩ (fun w h Y => PySem.W.kIn_of Y) ?F (fun _ _ a ns hl _ hS => ⟨a, ns, rfl, hS, hl, fun _ => rfl⟩) (fun _ _ _ _ _ h => TG.cx_false _ _ _ _ h)
  case F =>
    intro w mg fa h KX G hmg
    refine' Lk29.all_mk KX G hmg ?gC_BadFact ?gC_BadFoot ?gC_BadRim ?gC_BadSize ?gC_Foot ?gC_Full ?gC_Hold ?gC_Workshop ?a_v_law_bag ?l_v_law_bag ?c_v_law_bag ?k_v_law_bag ?a_v_law_pull ?l_v_law_pull ?c_v_law_pull ?k_v_law_pull ?a_v_law_far ?l_v_law_far ?c_v_law_far ?k_v_law_far ?a_v_law_angle ?l_v_law_angle ?c_v_law_angle ?k_v_law_angle ?a_v_law_mixed ?l_v_law_mixed ?c_v_law_mixed ?k_v_law_mixed ?a_is_number ?l_is_number ?c_is_number ?k_is_number ?a_are_numbers ?l_are_numbers ?c_are_numbers ?k_are_numbers ?a_good_kinds ?l_good_kinds ?c_good_kinds ?k_good_kinds ?a_good_mount ?l_good_mount ?c_good_mount ?k_good_mount ?a_is_rim ?l_is_rim ?c_is_rim ?k_is_rim ?a_shaped ?l_shaped ?c_shaped ?k_shaped ?a_count_parts ?l_count_parts ?c_count_parts ?k_count_parts ?a_is_tree ?l_is_tree ?c_is_tree ?k_is_tree ?a_good_drops ?l_good_drops ?c_good_drops ?k_good_drops ?a_good_foot ?l_good_foot ?c_good_foot ?k_good_foot ?a_good_things ?l_good_things ?c_good_things ?k_good_things ?a_need_fact ?l_need_fact ?c_need_fact ?k_need_fact ?a_Hold_init ?i_Hold_init ?l_Hold_init ?c_Hold_init ?k_Hold_init ?a_Workshop_go_on ?i_Workshop_go_on ?l_Workshop_go_on ?c_Workshop_go_on ?k_Workshop_go_on ?a_Workshop_tell ?i_Workshop_tell ?l_Workshop_tell ?c_Workshop_tell ?k_Workshop_tell ?a_Workshop_fact_of ?i_Workshop_fact_of ?l_Workshop_fact_of ?c_Workshop_fact_of ?k_Workshop_fact_of ?a_Workshop_strike ?i_Workshop_strike ?l_Workshop_strike ?c_Workshop_strike ?k_Workshop_strike ?a_v_law_drops ?l_v_law_drops ?c_v_law_drops ?k_v_law_drops ?a_v_law_pair ?l_v_law_pair ?c_v_law_pair ?k_v_law_pair ?a_v_law_tree ?l_v_law_tree ?c_v_law_tree ?k_v_law_tree ?a_v_law_full_tree ?l_v_law_full_tree ?c_v_law_full_tree ?k_v_law_full_tree ?a_v_law_num ?l_v_law_num ?c_v_law_num ?k_v_law_num ?a_v_law_tree_ok ?l_v_law_tree_ok ?c_v_law_tree_ok ?k_v_law_tree_ok ?a_v_law_deep ?l_v_law_deep ?c_v_law_deep ?k_v_law_deep ?a_v_law_parts ?l_v_law_parts ?c_v_law_parts ?k_v_law_parts ?a_v_law_good_tree ?l_v_law_good_tree ?c_v_law_good_tree ?k_v_law_good_tree ?a_v_law_small_tree ?l_v_law_small_tree ?c_v_law_small_tree ?k_v_law_small_tree ?a_v_law_height ?l_v_law_height ?c_v_law_height ?k_v_law_height ?a_v_law_rim ?l_v_law_rim ?c_v_law_rim ?k_v_law_rim ?a_v_law_fact ?l_v_law_fact ?c_v_law_fact ?k_v_law_fact ?a_Workshop_init ?i_Workshop_init ?l_Workshop_init ?c_Workshop_init ?k_Workshop_init ?a_last_of ?l_last_of ?c_last_of ?k_last_of ?a_Workshop_facts ?i_Workshop_facts ?l_Workshop_facts ?c_Workshop_facts ?k_Workshop_facts ?a_cut_at ?l_cut_at ?c_cut_at ?k_cut_at ?a_Workshop_rim_of ?i_Workshop_rim_of ?l_Workshop_rim_of ?c_Workshop_rim_of ?k_Workshop_rim_of ?a_Workshop_mount_of ?i_Workshop_mount_of ?l_Workshop_mount_of ?c_Workshop_mount_of ?k_Workshop_mount_of ?a_touched ?l_touched ?c_touched ?k_touched ?a_lift_on ?l_lift_on ?c_lift_on ?k_lift_on ?a_Foot_init ?i_Foot_init ?l_Foot_init ?c_Foot_init ?k_Foot_init ?d_Foot_init ?a_angle_at ?l_angle_at ?c_angle_at ?k_angle_at ?d_angle_at ?a_Workshop_lift_at ?i_Workshop_lift_at ?l_Workshop_lift_at ?c_Workshop_lift_at ?k_Workshop_lift_at ?a_Workshop_lift ?i_Workshop_lift ?l_Workshop_lift ?c_Workshop_lift ?k_Workshop_lift ?d_Workshop_lift ?a_Workshop_rim ?i_Workshop_rim ?l_Workshop_rim ?c_Workshop_rim ?k_Workshop_rim ?a_v_law_lifts ?l_v_law_lifts ?c_v_law_lifts ?k_v_law_lifts ?a_Workshop_eq ?i_Workshop_eq ?l_Workshop_eq ?c_Workshop_eq ?k_Workshop_eq ?a_Workshop_len ?i_Workshop_len ?l_Workshop_len ?c_Workshop_len ?k_Workshop_len ?a_look_rim ?l_look_rim ?c_look_rim ?k_look_rim ?a_lies_within ?l_lies_within ?c_lies_within ?k_lies_within ?a_within ?l_within ?c_within ?k_within ?a_law ?l_law ?c_law ?k_law ?pg_Foot ?hd_Foot ?po_Foot ?sa_Foot ?mk_Foot ?kc_Foot ?pg_Hold ?hd_Hold ?po_Hold ?sa_Hold ?mk_Hold ?kc_Hold ?pg_Workshop ?hd_Workshop ?po_Workshop ?sa_Workshop ?mk_Workshop ?kc_Workshop ?xe_BadFact ?xk_BadFact ?xs_BadFact ?xt_BadFact ?xe_BadFoot ?xk_BadFoot ?xs_BadFoot ?xt_BadFoot ?xe_BadRim ?xk_BadRim ?xs_BadRim ?xt_BadRim ?xe_BadSize ?xk_BadSize ?xs_BadSize ?xt_BadSize ?xe_Full ?xk_Full ?xs_Full ?xt_Full ?ga_Workshop ?gm_Workshop ?gs_ ?gt_ ?n_Foot_drops ?n_Foot_middle ?n_Hold_many_told ?n_Hold_there ?n_Workshop_gone ?n_Workshop_times_kept ?z_abs ?z_all ?z_bool ?z_dict ?z_enumerate ?z_int ?z_isinstance ?z_len ?z_list ?z_max ?z_min ?z_range ?z_sorted ?z_str ?z_sum ?z_tuple ?z_zip ?dy_LENGTHS ?dl_LENGTHS ?dh_LENGTHS ?ds_LENGTHS ?dr_LENGTHS ?dy_PARTS ?dl_PARTS ?dh_PARTS ?ds_PARTS ?dr_PARTS ?y_DEEPEST ?y_FEWEST ?y_LAST_CAM ?y_LAST_FOLLOWER_facts ?y_LAST_FOLLOWER_levers ?y_LAST_LEVER ?y_MOST ?y_MOST_DROP ?y_MOST_PARTS ?y_MOST_PLACES ?y_MOST_TOLD ?y_MOST_TURNS Lk29.pure_law
    (case gC_BadFact => k_is); (case gC_BadFoot => k_is); (case gC_BadRim => k_is); (case gC_BadSize => k_is); (case gC_Foot => k_is); (case gC_Full => k_is)
    (case gC_Hold => k_is); (case gC_Workshop => k_is); (case a_v_law_bag => k_is); (case l_v_law_bag => k_is); (case c_v_law_bag => k_is); (case k_v_law_bag => k_is)
    (case a_v_law_pull => k_is); (case l_v_law_pull => k_is); (case c_v_law_pull => k_is); (case k_v_law_pull => k_is); (case a_v_law_far => k_is); (case l_v_law_far => k_is)
    (case c_v_law_far => k_is); (case k_v_law_far => k_is); (case a_v_law_angle => k_is); (case l_v_law_angle => k_is); (case c_v_law_angle => k_is); (case k_v_law_angle => k_is)
    (case a_v_law_mixed => k_is); (case l_v_law_mixed => k_is); (case c_v_law_mixed => k_is); (case k_v_law_mixed => k_is); (case a_is_number => k_is); (case l_is_number => k_is)
    (case c_is_number => k_is); (case k_is_number => k_is); (case a_are_numbers => k_is); (case l_are_numbers => k_is); (case c_are_numbers => k_is); (case k_are_numbers => k_is)
    (case a_good_kinds => k_is); (case l_good_kinds => k_is); (case c_good_kinds => k_is); (case k_good_kinds => k_is); (case a_good_mount => k_is); (case l_good_mount => k_is)
    (case c_good_mount => k_is); (case k_good_mount => k_is); (case a_is_rim => k_is); (case l_is_rim => k_is); (case c_is_rim => k_is); (case k_is_rim => k_is)
    (case a_shaped => k_is); (case l_shaped => k_is); (case c_shaped => k_is); (case k_shaped => k_is); (case a_count_parts => k_is); (case l_count_parts => k_is)
    (case c_count_parts => k_is); (case k_count_parts => k_is); (case a_is_tree => k_is); (case l_is_tree => k_is); (case c_is_tree => k_is); (case k_is_tree => k_is)
    (case a_good_drops => k_is); (case l_good_drops => k_is); (case c_good_drops => k_is); (case k_good_drops => k_is); (case a_good_foot => k_is); (case l_good_foot => k_is)
    (case c_good_foot => k_is); (case k_good_foot => k_is); (case a_good_things => k_is); (case l_good_things => k_is); (case c_good_things => k_is); (case k_good_things => k_is)
    (case a_need_fact => k_is); (case l_need_fact => k_is); (case c_need_fact => k_is); (case k_need_fact => k_is); (case a_Hold_init => k_is); (case i_Hold_init => k_is)
    (case l_Hold_init => k_is); (case c_Hold_init => k_is); (case k_Hold_init => k_is); (case a_Workshop_go_on => k_is); (case i_Workshop_go_on => k_is); (case l_Workshop_go_on => k_is)
    (case c_Workshop_go_on => k_is); (case k_Workshop_go_on => k_is); (case a_Workshop_tell => k_is); (case i_Workshop_tell => k_is); (case l_Workshop_tell => k_is); (case c_Workshop_tell => k_is)
    (case k_Workshop_tell => k_is); (case a_Workshop_fact_of => k_is); (case i_Workshop_fact_of => k_is); (case l_Workshop_fact_of => k_is); (case c_Workshop_fact_of => k_is); (case k_Workshop_fact_of => k_is)
    (case a_Workshop_strike => k_is); (case i_Workshop_strike => k_is); (case l_Workshop_strike => k_is); (case c_Workshop_strike => k_is); (case k_Workshop_strike => k_is); (case a_v_law_drops => k_is)
    (case l_v_law_drops => k_is); (case c_v_law_drops => k_is); (case k_v_law_drops => k_is); (case a_v_law_pair => k_is); (case l_v_law_pair => k_is); (case c_v_law_pair => k_is)
    (case k_v_law_pair => k_is); (case a_v_law_tree => k_is); (case l_v_law_tree => k_is); (case c_v_law_tree => k_is); (case k_v_law_tree => k_is); (case a_v_law_full_tree => k_is)
    (case l_v_law_full_tree => k_is); (case c_v_law_full_tree => k_is); (case k_v_law_full_tree => k_is); (case a_v_law_num => k_is); (case l_v_law_num => k_is); (case c_v_law_num => k_is)
    (case k_v_law_num => k_is); (case a_v_law_tree_ok => k_is); (case l_v_law_tree_ok => k_is); (case c_v_law_tree_ok => k_is); (case k_v_law_tree_ok => k_is); (case a_v_law_deep => k_is)
    (case l_v_law_deep => k_is); (case c_v_law_deep => k_is); (case k_v_law_deep => k_is); (case a_v_law_parts => k_is); (case l_v_law_parts => k_is); (case c_v_law_parts => k_is)
    (case k_v_law_parts => k_is); (case a_v_law_good_tree => k_is); (case l_v_law_good_tree => k_is); (case c_v_law_good_tree => k_is); (case k_v_law_good_tree => k_is); (case a_v_law_small_tree => k_is)
    (case l_v_law_small_tree => k_is); (case c_v_law_small_tree => k_is); (case k_v_law_small_tree => k_is); (case a_v_law_height => k_is); (case l_v_law_height => k_is); (case c_v_law_height => k_is)
    (case k_v_law_height => k_is); (case a_v_law_rim => k_is); (case l_v_law_rim => k_is); (case c_v_law_rim => k_is); (case k_v_law_rim => k_is); (case a_v_law_fact => k_is)
    (case l_v_law_fact => k_is); (case c_v_law_fact => k_is); (case k_v_law_fact => k_is); (case a_Workshop_init => k_is); (case i_Workshop_init => k_is); (case l_Workshop_init => k_is)
    (case c_Workshop_init => k_is); (case k_Workshop_init => k_is); (case a_last_of => k_is); (case l_last_of => k_is); (case c_last_of => k_is); (case k_last_of => k_is)
    (case a_Workshop_facts => k_is); (case i_Workshop_facts => k_is); (case l_Workshop_facts => k_is); (case c_Workshop_facts => k_is); (case k_Workshop_facts => k_is); (case a_cut_at => k_is)
    (case l_cut_at => k_is); (case c_cut_at => k_is); (case k_cut_at => k_is); (case a_Workshop_rim_of => k_is); (case i_Workshop_rim_of => k_is); (case l_Workshop_rim_of => k_is)
    (case c_Workshop_rim_of => k_is); (case k_Workshop_rim_of => k_is); (case a_Workshop_mount_of => k_is); (case i_Workshop_mount_of => k_is); (case l_Workshop_mount_of => k_is); (case c_Workshop_mount_of => k_is)
    (case k_Workshop_mount_of => k_is); (case a_touched => k_is); (case l_touched => k_is); (case c_touched => k_is); (case k_touched => k_is); (case a_lift_on => k_is)
    (case l_lift_on => k_is); (case c_lift_on => k_is); (case k_lift_on => k_is); (case a_Foot_init => k_is); (case i_Foot_init => k_is); (case l_Foot_init => k_is)
    (case c_Foot_init => k_is); (case k_Foot_init => k_is); (case d_Foot_init => k_is); (case a_angle_at => k_is); (case l_angle_at => k_is); (case c_angle_at => k_is)
    (case k_angle_at => k_is); (case d_angle_at => k_is); (case a_Workshop_lift_at => k_is); (case i_Workshop_lift_at => k_is); (case l_Workshop_lift_at => k_is); (case c_Workshop_lift_at => k_is)
    (case k_Workshop_lift_at => k_is); (case a_Workshop_lift => k_is); (case i_Workshop_lift => k_is); (case l_Workshop_lift => k_is); (case c_Workshop_lift => k_is); (case k_Workshop_lift => k_is)
    (case d_Workshop_lift => k_is); (case a_Workshop_rim => k_is); (case i_Workshop_rim => k_is); (case l_Workshop_rim => k_is); (case c_Workshop_rim => k_is); (case k_Workshop_rim => k_is)
    (case a_v_law_lifts => k_is); (case l_v_law_lifts => k_is); (case c_v_law_lifts => k_is); (case k_v_law_lifts => k_is); (case a_Workshop_eq => k_is); (case i_Workshop_eq => k_is)
    (case l_Workshop_eq => k_is); (case c_Workshop_eq => k_is); (case k_Workshop_eq => k_is); (case a_Workshop_len => k_is); (case i_Workshop_len => k_is); (case l_Workshop_len => k_is)
    (case c_Workshop_len => k_is); (case k_Workshop_len => k_is); (case a_look_rim => k_is); (case l_look_rim => k_is); (case c_look_rim => k_is); (case k_look_rim => k_is)
    (case a_lies_within => k_is); (case l_lies_within => k_is); (case c_lies_within => k_is); (case k_lies_within => k_is); (case a_within => k_is); (case l_within => k_is)
    (case c_within => k_is); (case k_within => k_is); (case a_law => k_is); (case l_law => k_is); (case c_law => k_is); (case k_law => k_is)
    (case pg_Foot => k_is); (case hd_Foot => k_is); (case po_Foot => k_is); (case sa_Foot => k_is); (case mk_Foot => k_is); (case kc_Foot => k_is)
    (case pg_Hold => k_is); (case hd_Hold => k_is); (case po_Hold => k_is); (case sa_Hold => k_is); (case mk_Hold => k_is); (case kc_Hold => k_is)
    (case pg_Workshop => k_is); (case hd_Workshop => k_is); (case po_Workshop => k_is); (case sa_Workshop => k_is); (case mk_Workshop => k_is); (case kc_Workshop => k_is)
    (case xe_BadFact => k_exc); (case xk_BadFact => k_is); (case xs_BadFact => k_is); (case xt_BadFact => k_is); (case xe_BadFoot => k_exc); (case xk_BadFoot => k_is)
    (case xs_BadFoot => k_is); (case xt_BadFoot => k_is); (case xe_BadRim => k_exc); (case xk_BadRim => k_is); (case xs_BadRim => k_is); (case xt_BadRim => k_is)
    (case xe_BadSize => k_exc); (case xk_BadSize => k_is); (case xs_BadSize => k_is); (case xt_BadSize => k_is); (case xe_Full => k_exc); (case xk_Full => k_is)
    (case xs_Full => k_is); (case xt_Full => k_is); (case ga_Workshop => k_is); (case gm_Workshop => k_is); (case gs_ => k_is); (case gt_ => k_is)
    (case n_Foot_drops => k_is); (case n_Foot_middle => k_is); (case n_Hold_many_told => k_is); (case n_Hold_there => k_is); (case n_Workshop_gone => k_is); (case n_Workshop_times_kept => k_is)
    (case z_abs => k_is); (case z_all => k_is); (case z_bool => k_is); (case z_dict => k_is); (case z_enumerate => k_is); (case z_int => k_is)
    (case z_isinstance => k_is); (case z_len => k_is); (case z_list => k_is); (case z_max => k_is); (case z_min => k_is); (case z_range => k_is)
    (case z_sorted => k_is); (case z_str => k_is); (case z_sum => k_is); (case z_tuple => k_is); (case z_zip => k_is); (case dy_LENGTHS => k_is)
    (case dl_LENGTHS => k_is); (case dh_LENGTHS => first | rfl | decide); (case ds_LENGTHS => first | rfl | decide); (case dr_LENGTHS => first | rfl | decide); (case dy_PARTS => k_is); (case dl_PARTS => k_is)
    (case dh_PARTS => first | rfl | decide); (case ds_PARTS => first | rfl | decide); (case dr_PARTS => first | rfl | decide); (case y_DEEPEST => k_is); (case y_FEWEST => k_is); (case y_LAST_CAM => k_is)
    (case y_LAST_FOLLOWER_facts => k_is); (case y_LAST_FOLLOWER_levers => k_is); (case y_LAST_LEVER => k_is); (case y_MOST => k_is); (case y_MOST_DROP => k_is); (case y_MOST_PARTS => k_is)
    (case y_MOST_PLACES => k_is); (case y_MOST_TOLD => k_is); (case y_MOST_TURNS => k_is)
