import PyProof.Rows.All
import HandS.Head0
import HandS.Head1
import HandS.Head2
import HandS.HeadHook1
import HandS.HeadHook2
import HandS.HeadHook3
import PyProof.ExcClass
import HandS.ForExc
import PySem.Challenge.RW_tappet_k03_feet_alike_and_shown
import HandS.ForMost
import HandS.TupAny
import HandS.IsInst
import HandS.CallSlots
import HandS.Walk
import HandS.TupMul
import HandS.SortInts
import HandS.More
import HandS.SortKw
import HandS.Iter
import KE.GoesEnum
import KE.GoesMore
import HandS.Defaults
import HandS.Small
import HandS.TryMany
import HandS.SetFor
import HandS.Strs
import HandS.Zip
import KE.GoesEnumKw
import HandS.OwnEq
import HandS.Codes
import HandS.Conv
import KE.DataMinMax
import HandS.Style
import HandS.NamedTupGet
import KE.KExcInit
import HandS.Flt
import HandS.Text
import PyProof.SumWalkG
import HandS.DeepEq
import PyProof.Rows.StrStep
import HandS.Deep
import HandS.Dict
import PyProof.Rows.StrCountLaw
import HandS.RaiseMore
import PyProof.ReprRoads
import HandS.Ends
import HandS.HeadEnd
import KE.KCallOwn
import HandS.FStr
import PyProof.MeetsIn
import PyProof.SeqRoads2
set_option Elab.async false
set_option linter.all false
set_option maxRecDepth 100000
set_option maxHeartbeats 4000000
namespace TG
open PySem PySem.Spec PyProof.Rows L2
noncomputable def rowsXh (z : List Value) : List Value → Bool
  | .ref _ :: r => rowsXh z r
  | l => l == z
noncomputable def rowIh (e : DictEntry) : Option (Str × Int) := match e.key, e.val with
  | .str x _, .int i _ => some (x, i)
  | _, _ => none
noncomputable abbrev Tst : Type := PySem.W.Frag → Bool
noncomputable abbrev AlT : Type := Bool × List He.FnW × List (Option (List (Option (Str × Int))))
structure Hd where
  fs : List Tst
  fn : List He.DefD
  dk : List (Str × List Str)
noncomputable def obsT (Z : Hd) (K : PySem.W.Frag) : AlT := (Z.fs.all (fun f => f K) && Z.fn.all (fun d => d.ok K), Z.fn.map fun d => He.fnW K d.at_, Z.dk.map fun x => He.dicW K (He.ga K x.1))
noncomputable def valT (Z : Hd) (w : World) : AlT := (true, Z.fn.map He.DefD.val, Z.dk.map fun x => some (He.keysIn w.params x.2))
noncomputable def SaysT (Z : Hd) (w : World) (K : PySem.W.Frag) : Prop := obsT Z K = valT Z w
noncomputable def kidsF (o : Obj) : List Addr := match o.data with
  | .func fd => He.refV fd.code ++ He.refV fd.defaults
  | _ => []
noncomputable def kidsE (g : Addr → Option Obj) (v : Value) : List Addr := match v with
  | .ref a => a :: (match g a with | some o => kidsF o | none => [])
  | _ => []
noncomputable def kidsC (g : Addr → Option Obj) (o : Obj) : List Addr := match o.data with
  | .func fd => He.refV fd.code ++ He.refV fd.defaults
  | .cls cd => cd.ns :: (match g cd.ns with | some ⟨_, _, .dict es _, _⟩ => es.toList.flatMap fun e => kidsE g e.val | _ => [])
  | _ => []
noncomputable def kidsG (g : Addr → Option Obj) (v : Value) : List Addr := match v with
  | .ref a => a :: (match g a with | some o => kidsC g o | none => [])
  | _ => []
noncomputable def asT (g : Addr → Option Obj) : List Addr := mainGlobals :: (match g mainGlobals with
  | some ⟨_, _, .dict es _, _⟩ => es.toList.flatMap fun e => kidsG g e.val
  | _ => [])
noncomputable def frE {α : Type} : List DictEntry → (List DictEntry → α) → α
  | [], k => k []
  | ⟨h, key, v⟩ :: r, k => frE r fun r => k (⟨h, key, v⟩ :: r)
theorem frE_eq {α : Type} : ∀ (l : List DictEntry) (k : List DictEntry → α), frE l k = k l
  | [], _ => rfl
  | ⟨h, key, v⟩ :: r, k => frE_eq r _
noncomputable def frO {α : Type} (o : Obj) (k : Obj → α) : α := match o with
  | ⟨c, d, dt, sl⟩ => match dt with
    | .dict ⟨l⟩ n => HandSHeadRun.frNat n fun n => frE l fun l => k ⟨c, d, .dict ⟨l⟩ n, sl⟩
    | .func fd => k ⟨c, d, .func fd, sl⟩
    | .cls cd => k ⟨c, d, .cls cd, sl⟩
    | dt => k ⟨c, d, dt, sl⟩
theorem frO_eq {α : Type} (o : Obj) (k : Obj → α) : frO o k = k o := by
  obtain ⟨c, d, dt, sl⟩ := o
  cases dt with
  | dict es n =>
    obtain ⟨l⟩ := es
    show HandSHeadRun.frNat n (fun n => frE l fun l => k ⟨c, d, .dict ⟨l⟩ n, sl⟩) = _
    rw [HandSHeadRun.frNat_eq, frE_eq]
  | _ => rfl
noncomputable def frK {α : Type} : PySem.W.Frag → (PySem.W.Frag → α) → α
  | [], k => k []
  | (a, o) :: r, k => HandSHeadRun.frNat a fun a => frO o fun o => frK r fun r => k ((a, o) :: r)
theorem frK_eq {α : Type} : ∀ (l : PySem.W.Frag) (k : PySem.W.Frag → α), frK l k = k l
  | [], k => rfl
  | (a, o) :: r, k => by
    show HandSHeadRun.frNat a (fun a => frO o fun o => frK r fun r => k ((a, o) :: r)) = _
    rw [HandSHeadRun.frNat_eq, frO_eq]
    exact frK_eq r _
noncomputable def frA {α : Type} : List Addr → (List Addr → α) → α
  | [], k => k []
  | a :: r, k => HandSHeadRun.frNat a fun a => frA r fun r => k (a :: r)
theorem frA_eq {α : Type} : ∀ (l : List Addr) (k : List Addr → α), frA l k = k l
  | [], k => rfl
  | a :: r, k => by
    show HandSHeadRun.frNat a (fun a => frA r fun r => k (a :: r)) = _
    rw [HandSHeadRun.frNat_eq]
    exact frA_eq r _
noncomputable def obsTG (Z : Hd) (g : Addr → Option Obj) : AlT := frA (asT g) fun as => frK (He.frG g as) fun K => obsT Z K
noncomputable def hookT (Z : Hd) : PySem.W.Hook where
  α := AlT
  obs := fun s => obsTG Z s.heap.get?
  val := fun w => valT Z w
  says := fun w h => ∃ K : PySem.W.Frag, K.In h ∧ SaysT Z w K
  of := fun w s e => ⟨He.frG s.heap.get? (asT s.heap.get?), He.frG_in, by
    have e : obsTG Z s.heap.get? = valT Z w := e
    unfold obsTG at e
    rw [frA_eq, frK_eq] at e
    exact e⟩
  keeps := fun _ _ _ ⟨K, hK, c⟩ k => ⟨K, PySem.W.Frag.In.keeps hK k, c⟩
theorem obsTG_eq {Z : Hd} {g : Addr → Option Obj} {s : Shared} (h : ∀ a, g a = s.heap.get? a) : obsTG Z g = (hookT Z).obs s := by
  have e : g = s.heap.get? := funext h
  rw [e] <;> rfl
noncomputable def isIB (K : PySem.W.Frag) (x : Str) (i : Int) : Bool := match PySem.W.nsIn K mainGlobals x with
  | some (some (.int j _)) => decide (j = i)
  | _ => false
end TG

set_option Elab.async false
set_option linter.all false
set_option maxRecDepth 1000000
set_option maxHeartbeats 4000000
namespace Lk03
open PySem L2 PyProof.Rows TG
noncomputable def topS (i : Nat) : Stmt := PySem.Challenge.pw_tappet_k03_feet_alike_and_shown.main.body.getD i (.Pass ⟨0, 0, 0, 0⟩)
noncomputable abbrev s_v_law_bag : Stmt := topS 11
noncomputable abbrev s_v_law_pull : Stmt := topS 12
noncomputable abbrev s_v_law_drops : Stmt := topS 15
noncomputable abbrev s_v_law_pair : Stmt := topS 16
noncomputable abbrev s_good_drops : Stmt := topS 7
noncomputable abbrev s_good_foot : Stmt := topS 8
noncomputable abbrev s_Foot_init : Stmt := inClass (topS 9) 0
noncomputable abbrev s_v_law_made : Stmt := topS 17
noncomputable abbrev s_Foot_about : Stmt := inClass (topS 9) 6
noncomputable abbrev s_v_law_like : Stmt := topS 13
noncomputable abbrev s_Foot_eq : Stmt := inClass (topS 9) 1
noncomputable abbrev s_v_law_far : Stmt := topS 14
noncomputable abbrev s_Foot_len : Stmt := inClass (topS 9) 2
noncomputable abbrev s_Foot_words : Stmt := inClass (topS 9) 5
noncomputable abbrev s_Foot_str : Stmt := inClass (topS 9) 4
noncomputable abbrev s_v_law_shown : Stmt := topS 18
noncomputable abbrev s_Foot_repr : Stmt := inClass (topS 9) 3
noncomputable abbrev s_law : Stmt := topS 19
noncomputable def q_0 : Tst := fun K => (decide (PySem.W.nsIn K mainGlobals "BadFoot" = some (some (.ref (He.ga K "BadFoot"))))) && ((decide (PySem.W.nsIn K mainGlobals "Foot" = some (some (.ref (He.ga K "Foot"))))) && ((decide (PySem.W.nsIn K mainGlobals "_law_bag" = some (some (.ref (He.ga K "_law_bag"))))) && ((decide (PySem.W.nsIn K mainGlobals "_law_pull" = some (some (.ref (He.ga K "_law_pull"))))) && ((decide (PySem.W.nsIn K mainGlobals "_law_drops" = some (some (.ref (He.ga K "_law_drops"))))) && ((decide (PySem.W.nsIn K mainGlobals "_law_pair" = some (some (.ref (He.ga K "_law_pair"))))) && ((decide (PySem.W.nsIn K mainGlobals "good_drops" = some (some (.ref (He.ga K "good_drops"))))) && ((decide (PySem.W.nsIn K mainGlobals "good_foot" = some (some (.ref (He.ga K "good_foot"))))) && ((decide (PySem.W.findIn K (.ref (He.ga K "Foot")) "__init__" = some (some (.ref (He.ma K (He.ga K "Foot") "__init__"))))) && ((PySem.W.isFn K (.ref (He.ma K (He.ga K "Foot") "__init__"))) && ((decide (PySem.W.nsIn K mainGlobals "_law_made" = some (some (.ref (He.ga K "_law_made"))))) && ((decide (PySem.W.findIn K (.ref (He.ga K "Foot")) "about" = some (some (.ref (He.ma K (He.ga K "Foot") "about"))))) && true)))))))))))
noncomputable def q_1 : Tst := fun K => (PySem.W.isFn K (.ref (He.ma K (He.ga K "Foot") "about"))) && ((decide (PySem.W.nsIn K mainGlobals "_law_like" = some (some (.ref (He.ga K "_law_like"))))) && ((decide (PySem.W.findIn K (.ref (He.ga K "Foot")) "__eq__" = some (some (.ref (He.ma K (He.ga K "Foot") "__eq__"))))) && ((PySem.W.isFn K (.ref (He.ma K (He.ga K "Foot") "__eq__"))) && ((decide (PySem.W.nsIn K mainGlobals "_law_far" = some (some (.ref (He.ga K "_law_far"))))) && ((decide (PySem.W.findIn K (.ref (He.ga K "Foot")) "__len__" = some (some (.ref (He.ma K (He.ga K "Foot") "__len__"))))) && ((PySem.W.isFn K (.ref (He.ma K (He.ga K "Foot") "__len__"))) && ((decide (PySem.W.findIn K (.ref (He.ga K "Foot")) "words" = some (some (.ref (He.ma K (He.ga K "Foot") "words"))))) && ((PySem.W.isFn K (.ref (He.ma K (He.ga K "Foot") "words"))) && ((decide (PySem.W.findIn K (.ref (He.ga K "Foot")) "__str__" = some (some (.ref (He.ma K (He.ga K "Foot") "__str__"))))) && ((PySem.W.isFn K (.ref (He.ma K (He.ga K "Foot") "__str__"))) && ((decide (PySem.W.nsIn K mainGlobals "_law_shown" = some (some (.ref (He.ga K "_law_shown"))))) && true)))))))))))
noncomputable def q_2 : Tst := fun K => (decide (PySem.W.findIn K (.ref (He.ga K "Foot")) "__repr__" = some (some (.ref (He.ma K (He.ga K "Foot") "__repr__"))))) && ((PySem.W.isFn K (.ref (He.ma K (He.ga K "Foot") "__repr__"))) && ((decide (PySem.W.nsIn K mainGlobals "law" = some (some (.ref (He.ga K "law"))))) && ((PySem.W.plainGet K (He.ga K "Foot") Str.empty) && ((PySem.W.hasDictIn K (He.ga K "Foot")) && ((PySem.W.plainOver K (He.ga K "Foot")) && ((decide (PySem.W.findIn K (.ref (He.ga K "Foot")) "__setattr__" = some (some (.builtin "object.__setattr__")))) && ((PySem.W.makesIn K (He.ga K "Foot")) && ((PySem.W.keepIn K (.ref (He.ga K "Foot"))) && ((PySem.W.excIn K (He.ga K "BadFoot") [.type "ValueError", .type "Exception", .type "BaseException", .type "object"] "ValueError.__new__") && ((PySem.W.keepIn K (.ref (He.ga K "BadFoot"))) && ((decide (PySem.W.subIn K (.ref (He.ga K "BadFoot")) (.type "BaseException") = some true)) && true)))))))))))
noncomputable def q_3 : Tst := fun K => (decide (PySem.W.typeIn K (.ref (He.ga K "BadFoot")) = some (.type "type"))) && ((decide (PySem.W.findIn K (.ref (He.ga K "Foot")) "__class__" = some (some (.builtin "object.__class__")))) && ((decide (PySem.W.mroIn K (He.ga K "Foot") (.type "object") = some true)) && ((decide (PySem.W.kitOne K (.type "tuple") (.ref (He.ga K "Foot")) = some false)) && ((PySem.W.notFirst K (He.ga K "Foot") (.type "tuple")) && ((decide (PySem.W.findIn K (.ref (He.ga K "Foot")) "__bool__" = some none)) && ((decide (PySem.W.findIn K (.ref (He.ga K "Foot")) "__ne__" = some (some (.builtin "object.__ne__")))) && ((decide (PySem.W.specialIn K (.builtin "object.__class__") "__get__" = some (some (.builtin "getset_descriptor.__get__")))) && ((decide (PySem.W.takesIn K (.builtin "object.__class__") = some true)) && ((PySem.W.isClsIn K (He.ga K "BadFoot")) && ((decide (PySem.W.subIn K (.ref (He.ga K "BadFoot")) (.ref (He.ga K "BadFoot")) = some true)) && ((decide (PySem.W.findIn K (.ref (He.ga K "Foot")) "drops" = some none)) && true)))))))))))
noncomputable def q_4 : Tst := fun K => (decide (PySem.W.findIn K (.ref (He.ga K "Foot")) "middle" = some none)) && ((decide (PySem.W.nsIn K mainGlobals "all" = some none)) && ((decide (PySem.W.nsIn K mainGlobals "bool" = some none)) && ((decide (PySem.W.nsIn K mainGlobals "isinstance" = some none)) && ((decide (PySem.W.nsIn K mainGlobals "len" = some none)) && ((decide (PySem.W.nsIn K mainGlobals "list" = some none)) && ((decide (PySem.W.nsIn K mainGlobals "range" = some none)) && ((decide (PySem.W.nsIn K mainGlobals "repr" = some none)) && ((decide (PySem.W.nsIn K mainGlobals "str" = some none)) && ((decide (PySem.W.nsIn K mainGlobals "tuple" = some none)) && ((isIB K "MOST_DROP" 99) && ((isIB K "MOST_PLACES" 9) && true)))))))))))
noncomputable def qs_0 : List Tst := [q_0, q_1, q_2, q_3, q_4]
noncomputable def qs : List Tst := qs_0
noncomputable def dd_v_law_bag : He.DefD := ⟨("_law_bag", none), "_law_bag", "_law_bag", defArgs s_v_law_bag, defBody s_v_law_bag, defScope s_v_law_bag, [], []⟩
noncomputable def dd_v_law_pull : He.DefD := ⟨("_law_pull", none), "_law_pull", "_law_pull", defArgs s_v_law_pull, defBody s_v_law_pull, defScope s_v_law_pull, [], []⟩
noncomputable def dd_v_law_drops : He.DefD := ⟨("_law_drops", none), "_law_drops", "_law_drops", defArgs s_v_law_drops, defBody s_v_law_drops, defScope s_v_law_drops, [], []⟩
noncomputable def dd_v_law_pair : He.DefD := ⟨("_law_pair", none), "_law_pair", "_law_pair", defArgs s_v_law_pair, defBody s_v_law_pair, defScope s_v_law_pair, [], []⟩
noncomputable def dd_good_drops : He.DefD := ⟨("good_drops", none), "good_drops", "good_drops", defArgs s_good_drops, defBody s_good_drops, defScope s_good_drops, [], []⟩
noncomputable def dd_good_foot : He.DefD := ⟨("good_foot", none), "good_foot", "good_foot", defArgs s_good_foot, defBody s_good_foot, defScope s_good_foot, [], []⟩
noncomputable def dd_Foot_init : He.DefD := ⟨("Foot", some "__init__"), "__init__", "Foot.__init__", defArgs s_Foot_init, defBody s_Foot_init, defScope s_Foot_init, [.int 0], []⟩
noncomputable def dd_v_law_made : He.DefD := ⟨("_law_made", none), "_law_made", "_law_made", defArgs s_v_law_made, defBody s_v_law_made, defScope s_v_law_made, [], []⟩
noncomputable def dd_Foot_about : He.DefD := ⟨("Foot", some "about"), "about", "Foot.about", defArgs s_Foot_about, defBody s_Foot_about, defScope s_Foot_about, [], []⟩
noncomputable def dd_v_law_like : He.DefD := ⟨("_law_like", none), "_law_like", "_law_like", defArgs s_v_law_like, defBody s_v_law_like, defScope s_v_law_like, [], []⟩
noncomputable def dd_Foot_eq : He.DefD := ⟨("Foot", some "__eq__"), "__eq__", "Foot.__eq__", defArgs s_Foot_eq, defBody s_Foot_eq, defScope s_Foot_eq, [], []⟩
noncomputable def dd_v_law_far : He.DefD := ⟨("_law_far", none), "_law_far", "_law_far", defArgs s_v_law_far, defBody s_v_law_far, defScope s_v_law_far, [], []⟩
noncomputable def dd_Foot_len : He.DefD := ⟨("Foot", some "__len__"), "__len__", "Foot.__len__", defArgs s_Foot_len, defBody s_Foot_len, defScope s_Foot_len, [], []⟩
noncomputable def dd_Foot_words : He.DefD := ⟨("Foot", some "words"), "words", "Foot.words", defArgs s_Foot_words, defBody s_Foot_words, defScope s_Foot_words, [], []⟩
noncomputable def dd_Foot_str : He.DefD := ⟨("Foot", some "__str__"), "__str__", "Foot.__str__", defArgs s_Foot_str, defBody s_Foot_str, defScope s_Foot_str, [], []⟩
noncomputable def dd_v_law_shown : He.DefD := ⟨("_law_shown", none), "_law_shown", "_law_shown", defArgs s_v_law_shown, defBody s_v_law_shown, defScope s_v_law_shown, [], []⟩
noncomputable def dd_Foot_repr : He.DefD := ⟨("Foot", some "__repr__"), "__repr__", "Foot.__repr__", defArgs s_Foot_repr, defBody s_Foot_repr, defScope s_Foot_repr, [], []⟩
noncomputable def dd_law : He.DefD := ⟨("law", none), "law", "law", defArgs s_law, defBody s_law, defScope s_law, [], []⟩
noncomputable def dds_0 : List He.DefD := [dd_v_law_bag, dd_v_law_pull, dd_v_law_drops, dd_v_law_pair, dd_good_drops, dd_good_foot, dd_Foot_init, dd_v_law_made, dd_Foot_about, dd_v_law_like, dd_Foot_eq, dd_v_law_far]
noncomputable def dds_1 : List He.DefD := [dd_Foot_len, dd_Foot_words, dd_Foot_str, dd_v_law_shown, dd_Foot_repr, dd_law]
noncomputable def dds : List He.DefD := dds_0 ++ (dds_1)
noncomputable def dks_0 : List (Str × List Str) := []
noncomputable def dks : List (Str × List Str) := dks_0
noncomputable def loose_0 : List Str := ["_wall", "__name__", "TappetError", "BadFoot", "MOST_PLACES", "MOST_DROP", "good_drops", "good_foot", "Foot", "_law_bag", "_law_pull", "_law_like"]
noncomputable def loose_1 : List Str := ["_law_far", "_law_drops", "_law_pair", "_law_made", "_law_shown"]
noncomputable def loose : List Str := loose_0 ++ (loose_1)
noncomputable def Z : Hd := ⟨qs, dds, dks⟩
noncomputable abbrev RR : PySem.W.OpenRow := PySem.W.OpenLaw.row PySem.Challenge.rw_tappet_k03_feet_alike_and_shown
noncomputable abbrev hk : PySem.W.Hook := hookT Z
noncomputable def ob (s : PySem.W.SharedT) : AlT := obsTG Z (HandSHeadRun.getT s)
theorem ob_eq (s : PySem.W.SharedT) : ob s = hk.obs s.abs := obsTG_eq (HandSHeadRun.getT_eq s)
set_option maxHeartbeats 0 in
theorem run_false (w : World) : HandSHeadRun.RunEq RR (PySem.W.view RR.prog [19]) hk ob 20000 loose (w.withFollow "special-get-raises" false) := by intro os; kernel_rfl
set_option maxHeartbeats 0 in
theorem run_true (w : World) : HandSHeadRun.RunEq RR (PySem.W.view RR.prog [19]) hk ob 20000 loose (w.withFollow "special-get-raises" true) := by intro os; kernel_rfl
theorem run (w : World) : HandSHeadRun.RunEq RR (PySem.W.view RR.prog [19]) hk ob 20000 loose w :=
  PySem.W.byRow2 "special-get-raises" (P := fun w => HandSHeadRun.RunEq RR (PySem.W.view RR.prog [19]) hk ob 20000 loose w) run_false run_true w
end Lk03

set_option Elab.async false
set_option linter.all false
set_option maxRecDepth 100000
set_option maxHeartbeats 2000000
namespace TG
open PySem L2

inductive D where
  | non | bl (b : Bool) | int (i : Int) | str (x : Str) | tup (l : List D) | lst (l : List D) | dic (l : List (Key × D)) | ins (c : Str) (l : List (Str × D)) | scr (l : List D)
inductive W where
  | d (x : D) | r (n : Nat)
inductive Cell where
  | lst (l : List W) | dic (l : List (Key × W)) | ins (c : Str) (l : List (Str × W)) | tup (l : List W)
noncomputable abbrev S := List Cell
inductive EV where
  | no | w (x : W) | own (l : List W) | ownD (l : List (Key × W)) | ownI (c : Str) (l : List (Str × W))
noncomputable abbrev Rho := List EV
inductive Res (α : Type) where
  | ok (a : α) (s : S) | exc (c : Str) (x : Option D) (s : S) | no
noncomputable def Res.bind {α β : Type} : Res α → (α → S → Res β) → Res β
  | .ok a s, k => k a s
  | .exc c x s, _ => .exc c x s
  | .no, _ => .no
noncomputable abbrev Cmp (α : Type) := Rho → S → Res α

section
variable (K : PySem.W.Frag) (cl : Str → Option Addr)
mutual
inductive Rep (H0 : Hp) : V → D → Prop
  | non : Rep H0 .non .non
  | bl {b} : Rep H0 (.bl b) (.bl b)
  | int {i} : Rep H0 (.int i) (.int i)
  | str {x} : Rep H0 (.str x) (.str x)
  | tup {p vs l} : H0 p = some (.tup vs) → Reps H0 vs l → Rep H0 (.ref p) (.tup l)
  | lst {p vs l} : H0 p = some (.lst vs) → Reps H0 vs l → Rep H0 (.ref p) (.lst l)
  | scr {p vs l} : SqL K H0 p vs → Reps H0 vs l → Rep H0 (.ref p) (.scr l)
  | dic {p kvs l} : H0 p = some (.dK kvs) → RepK H0 kvs l → Rep H0 (.ref p) (.dic l)
  | ins {p C dx fs c l} : H0 p = some (.ins C dx fs) → cl c = some C → RepF H0 fs l → Rep H0 (.ref p) (.ins c l)
inductive Reps (H0 : Hp) : List V → List D → Prop
  | nil : Reps H0 [] []
  | cons {v d vs ds} : Rep H0 v d → Reps H0 vs ds → Reps H0 (v :: vs) (d :: ds)
inductive RepK (H0 : Hp) : List (Key × V) → List (Key × D) → Prop
  | nil : RepK H0 [] []
  | cons {k v d vs ds} : Rep H0 v d → RepK H0 vs ds → RepK H0 ((k, v) :: vs) ((k, d) :: ds)
inductive RepF (H0 : Hp) : List (Str × V) → List (Str × D) → Prop
  | nil : RepF H0 [] []
  | cons {k v d vs ds} : Rep H0 v d → RepF H0 vs ds → RepF H0 ((k, v) :: vs) ((k, d) :: ds)
end
end

section
variable {K : PySem.W.Frag} {cl : Str → Option Addr} {H0 H0' H H' : Hp}
theorem same_l {a : Addr} {xs : List V} (e : Same H0 H0') (h : SqL K H0 a xs) : SqL K H0' a xs := e.seq h
theorem same_rd {a : Addr} {u : HO} (e : Same H0 H0') (h : Rd H0 a u) : Rd H0' a u := by
  rcases h with h | ⟨o, h⟩
  · exact .inl (e _ _ h)
  · exact .inr ⟨o, e _ _ h⟩
theorem same_t {a : Addr} {xs : List V} (e : Same H0 H0') (h : SqT K H0 a xs) : SqT K H0' a xs := by
  rcases h with h | h
  · exact .inl (same_rd e h)
  · exact .inr h
mutual
theorem Rep.mono (e : Same H0 H0') {v d} (h : Rep K cl H0 v d) : Rep K cl H0' v d := match h with
  | .non => .non
  | .bl => .bl
  | .int => .int
  | .str => .str
  | .tup a b => .tup (e _ _ a) (b.mono e)
  | .lst a b => .lst (e _ _ a) (b.mono e)
  | .scr a b => .scr (same_l e a) (b.mono e)
  | .dic a b => .dic (e _ _ a) (b.mono e)
  | .ins a b c => .ins (e _ _ a) b (c.mono e)
theorem Reps.mono (e : Same H0 H0') {v d} (h : Reps K cl H0 v d) : Reps K cl H0' v d := match h with
  | .nil => .nil
  | .cons a b => .cons (a.mono e) (b.mono e)
theorem RepK.mono (e : Same H0 H0') {v d} (h : RepK K cl H0 v d) : RepK K cl H0' v d := match h with
  | .nil => .nil
  | .cons a b => .cons (a.mono e) (b.mono e)
theorem RepF.mono (e : Same H0 H0') {v d} (h : RepF K cl H0 v d) : RepF K cl H0' v d := match h with
  | .nil => .nil
  | .cons a b => .cons (a.mono e) (b.mono e)
end
end

noncomputable def RepW (K : PySem.W.Frag) (cl : Str → Option Addr) (H0 : Hp) (m : List Addr) (v : V) : W → Prop
  | .d x => Rep K cl H0 v x
  | .r n => ∃ a, m[n]? = some a ∧ v = .ref a
inductive RepWs (K : PySem.W.Frag) (cl : Str → Option Addr) (H0 : Hp) (m : List Addr) : List V → List W → Prop
  | nil : RepWs K cl H0 m [] []
  | cons {v d vs ds} : RepW K cl H0 m v d → RepWs K cl H0 m vs ds → RepWs K cl H0 m (v :: vs) (d :: ds)
inductive RepWK (K : PySem.W.Frag) (cl : Str → Option Addr) (H0 : Hp) (m : List Addr) {κ : Type} : List (κ × V) → List (κ × W) → Prop
  | nil : RepWK K cl H0 m [] []
  | cons {k v d vs ds} : RepW K cl H0 m v d → RepWK K cl H0 m vs ds → RepWK K cl H0 m ((k, v) :: vs) ((k, d) :: ds)

noncomputable def CellR (K : PySem.W.Frag) (cl : Str → Option Addr) (H0 H : Hp) (m : List Addr) (a : Addr) : Cell → Prop
  | .lst l => ∃ vs, H a = some (.lst vs) ∧ RepWs K cl H0 m vs l
  | .dic l => ∃ kvs, H a = some (.dK kvs) ∧ RepWK K cl H0 m kvs l
  | .ins c l => ∃ C dx fs, H a = some (.ins C dx fs) ∧ cl c = some C ∧ RepWK K cl H0 m fs l
  | .tup l => ∃ vs, H a = some (.tup vs) ∧ RepWs K cl H0 m vs l
structure Stt (K : PySem.W.Frag) (cl : Str → Option Addr) (H0 H : Hp) (m : List Addr) (s : S) : Prop where
  sub : Same H0 H
  len : m.length = s.length
  nd : m.Nodup
  cell : ∀ (n : Nat) a c, m[n]? = some a → s[n]? = some c → H0 a = none ∧ CellR K cl H0 H m a c

structure Go (H0 H : Hp) (m ow : List Addr) (H0' H' : Hp) (m' ow' : List Addr) : Prop where
  s0 : Same H0 H0'
  pre : m <+: m'
  fr : ∀ a o, H a = some o → a ∉ m → a ∉ ow → H' a = some o
  dom : ∀ a, H a ≠ none → H' a ≠ none
  n0 : ∀ a, H a ≠ none → a ∉ m → a ∉ ow → H0 a = none → H0' a = none
  nm : ∀ a ∈ m', a ∈ m ∨ a ∈ ow ∨ H a = none
  nw : ∀ a ∈ ow', a ∈ ow ∨ H a = none
noncomputable abbrev GoE (H0 H : Hp) (m : List Addr) (H0' H' : Hp) (m' : List Addr) : Prop := Go H0 H m [] H0' H' m' []

section
variable {K : PySem.W.Frag} {cl : Str → Option Addr} {H0 H H1 H1' H2 H2' : Hp} {m m1 m2 ow ow1 ow2 : List Addr} {s : S}
theorem Go.refl : Go H0 H m ow H0 H m ow :=
  ⟨Same.refl _, List.prefix_rfl, fun _ _ h _ _ => h, fun _ h => h, fun _ _ _ _ h => h, fun _ h => .inl h, fun _ h => .inl h⟩
theorem Go.trans (g : Go H0 H m ow H1 H1' m1 ow1) (g' : Go H1 H1' m1 ow1 H2 H2' m2 ow2) : Go H0 H m ow H2 H2' m2 ow2 := by
  refine ⟨g.s0.trans g'.s0, g.pre.trans g'.pre, fun a o h h1 h2 => ?_, fun a h => g'.dom a (g.dom a h), fun a h h1 h2 h3 => ?_, fun a h => ?_, fun a h => ?_⟩
  · have n1 : a ∉ m1 := fun z => by rcases g.nm a z with q | q | q <;> first | exact h1 q | exact h2 q | (rw [q] at h; cases h)
    have n2 : a ∉ ow1 := fun z => by rcases g.nw a z with q | q <;> first | exact h2 q | (rw [q] at h; cases h)
    exact g'.fr a o (g.fr a o h h1 h2) n1 n2
  · have n1 : a ∉ m1 := fun z => by rcases g.nm a z with q | q | q <;> first | exact h1 q | exact h2 q | exact h q
    have n2 : a ∉ ow1 := fun z => by rcases g.nw a z with q | q <;> first | exact h2 q | exact h q
    exact g'.n0 a (g.dom a h) n1 n2 (g.n0 a h h1 h2 h3)
  · rcases g'.nm a h with q | q | q
    · exact g.nm a q
    · rcases g.nw a q with q | q
      · exact .inr (.inl q)
      · exact .inr (.inr q)
    · refine .inr (.inr ?_)
      exact Classical.byContradiction fun z => g.dom a z q
  · rcases g'.nw a h with q | q
    · exact g.nw a q
    · refine .inr ?_
      exact Classical.byContradiction fun z => g.dom a z q
theorem Go.lift (g : GoE H0 H m H1 H1' m1) : Go H0 H m ow H1 H1' m1 ow :=
  ⟨g.s0, g.pre, fun a o h h1 _ => g.fr a o h h1 (by simp), g.dom, fun a h h1 _ h3 => g.n0 a h h1 (by simp) h3, fun a h => by
    rcases g.nm a h with q | q | q
    · exact .inl q
    · cases q
    · exact .inr (.inr q), fun a h => .inl h⟩
theorem RepW.mono {H0 H0' : Hp} {m m' : List Addr} (e : Same H0 H0') (p : m <+: m') {v : V} {x : W} (h : RepW K cl H0 m v x) : RepW K cl H0' m' v x := by
  cases x with
  | d x => exact Rep.mono e h
  | r n =>
    obtain ⟨a, h1, h2⟩ := h
    exact ⟨a, by
      obtain ⟨t, rfl⟩ := p
      rw [List.getElem?_append_left]
      · exact h1
      · exact (List.getElem?_eq_some_iff.mp h1).1, h2⟩
theorem RepWs.mono {H0 H0' : Hp} {m m' : List Addr} (e : Same H0 H0') (p : m <+: m') {v : List V} {x : List W} (h : RepWs K cl H0 m v x) : RepWs K cl H0' m' v x := by
  induction h with
  | nil => exact .nil
  | cons a _ ih => exact .cons (a.mono e p) ih
theorem RepWK.mono {κ : Type} {H0 H0' : Hp} {m m' : List Addr} (e : Same H0 H0') (p : m <+: m') {v : List (κ × V)} {x : List (κ × W)} (h : RepWK K cl H0 m v x) : RepWK K cl H0' m' v x := by
  induction h with
  | nil => exact .nil
  | cons a _ ih => exact .cons (a.mono e p) ih
end

noncomputable def SlotR (K : PySem.W.Frag) (cl : Str → Option Addr) (H0 H : Hp) (m ow : List Addr) (v : Option (Option V)) : EV → Prop
  | .no => True
  | .w x => ∃ u, v = some (some u) ∧ RepW K cl H0 m u x
  | .own l => ∃ p vs, v = some (some (.ref p)) ∧ p ∈ ow ∧ H p = some (.lst vs) ∧ RepWs K cl H0 m vs l
  | .ownD l => ∃ p kvs, v = some (some (.ref p)) ∧ p ∈ ow ∧ H p = some (.dK kvs) ∧ RepWK K cl H0 m kvs l
  | .ownI c l => ∃ p C dx fs, v = some (some (.ref p)) ∧ p ∈ ow ∧ H p = some (.ins C dx fs) ∧ cl c = some C ∧ RepWK K cl H0 m fs l
noncomputable def EV.isOwn : EV → Bool
  | .no => false | .w _ => false | .own _ => true | .ownD _ => true | .ownI _ _ => true
structure EnvR (K : PySem.W.Frag) (cl : Str → Option Addr) (H0 H : Hp) (m ow : List Addr) (σ : L2.St) (ρ : Rho) : Prop where
  len : σ.length = ρ.length
  slot : ∀ (i : Nat) e, ρ[i]? = some e → SlotR K cl H0 H m ow σ[i]? e
  apart : ∀ (i j : Nat) e e' p, ρ[i]? = some e → ρ[j]? = some e' → e.isOwn = true → e'.isOwn = true → σ[i]? = some (some (.ref p)) → σ[j]? = some (some (.ref p)) → i = j
  owns : ∀ p ∈ ow, H p ≠ none ∧ H0 p = none ∧ p ∉ m
structure Ctx (K : PySem.W.Frag) (cl : Str → Option Addr) (H0 H : Hp) (m ow : List Addr) (s : S) (σ : L2.St) (ρ : Rho) : Prop where
  st : Stt K cl H0 H m s
  en : EnvR K cl H0 H m ow σ ρ
section
variable {K : PySem.W.Frag} {cl : Str → Option Addr} {H0 H H1 H1' : Hp} {m m1 ow : List Addr} {s s1 : S} {σ : L2.St} {ρ : Rho}
theorem EnvR.go (e : EnvR K cl H0 H m ow σ ρ) (g : GoE H0 H m H1 H1' m1) : EnvR K cl H1 H1' m1 ow σ ρ := by
  have kp : ∀ p o, p ∈ ow → H p = some o → H1' p = some o := fun p o h h' => g.fr p o h' (e.owns p h).2.2 (by simp)
  refine ⟨e.len, fun i x h => ?_, e.apart, fun p h => ?_⟩
  · have q := e.slot i x h
    cases x with
    | no => trivial
    | w x =>
      obtain ⟨u, h1, h2⟩ := q
      exact ⟨u, h1, h2.mono g.s0 g.pre⟩
    | own l =>
      obtain ⟨p, vs, h1, h2, h3, h4⟩ := q
      exact ⟨p, vs, h1, h2, kp p _ h2 h3, h4.mono g.s0 g.pre⟩
    | ownD l =>
      obtain ⟨p, vs, h1, h2, h3, h4⟩ := q
      exact ⟨p, vs, h1, h2, kp p _ h2 h3, h4.mono g.s0 g.pre⟩
    | ownI c l =>
      obtain ⟨p, C, dx, fs, h1, h2, h3, h4, h5⟩ := q
      exact ⟨p, C, dx, fs, h1, h2, kp p _ h2 h3, h4, h5.mono g.s0 g.pre⟩
  · obtain ⟨h1, h2, h3⟩ := e.owns p h
    refine ⟨g.dom p h1, g.n0 p h1 h3 (by simp) h2, fun z => ?_⟩
    rcases g.nm p z with q | q | q
    · exact h3 q
    · cases q
    · exact h1 q
theorem Ctx.go (c : Ctx K cl H0 H m ow s σ ρ) (g : GoE H0 H m H1 H1' m1) (st : Stt K cl H1 H1' m1 s1) : Ctx K cl H1 H1' m1 ow s1 σ ρ := ⟨st, c.en.go g⟩
end

noncomputable def excFld (c : Str) : Str := if c = "BadWish" then "wish" else if c = "BadPage" then "row" else "number"
noncomputable def ExcR (K : PySem.W.Frag) (cl : Str → Option Addr) (H0 H : Hp) (cv : Value) (dd : Option Addr) (c : Str) : Option D → Prop
  | none => ∃ C, cl c = some C ∧ cv = .ref C
  | some x => ∃ C d v, cl c = some C ∧ cv = .ref C ∧ dd = some d ∧ H0 d = some (.xd [(excFld c, v)]) ∧ Rep K cl H0 v x

noncomputable abbrev RRT (β α : Type) := Hp → Hp → Hp → List Addr → β → α → Prop
noncomputable def rrW (K : PySem.W.Frag) (cl : Str → Option Addr) : RRT V W := fun _ H0 _ m v x => RepW K cl H0 m v x
noncomputable def rrB : RRT Bool Bool := fun _ _ _ _ v x => v = x
noncomputable def rrA (K : PySem.W.Frag) (cl : Str → Option Addr) : RRT (List V) (List W) := fun _ H0 _ m v x => RepWs K cl H0 m v x
noncomputable def rrO : RRT (Option Int) (Option Int) := fun _ _ _ _ v x => v = x
noncomputable def rrL (K : PySem.W.Frag) (cl : Str → Option Addr) : RRT V (List W) := fun H H0 H' m v l => ∃ p vs, v = .ref p ∧ H p = none ∧ H' p = some (.lst vs) ∧ H0 p = none ∧ p ∉ m ∧ RepWs K cl H0 m vs l
noncomputable def rrD (K : PySem.W.Frag) (cl : Str → Option Addr) : RRT V (List (Key × W)) := fun H H0 H' m v l => ∃ p vs, v = .ref p ∧ H p = none ∧ H' p = some (.dK vs) ∧ H0 p = none ∧ p ∉ m ∧ RepWK K cl H0 m vs l

class Early {β α : Type} (RR : RRT β α) : Prop where
  back : ∀ {H H1 H0 H' : Hp} {m : List Addr} {v : β} {x : α}, (∀ a, H a ≠ none → H1 a ≠ none) → RR H1 H0 H' m v x → RR H H0 H' m v x
theorem dom_none {H H1 : Hp} (d : ∀ a, H a ≠ none → H1 a ≠ none) {p : Addr} (h : H1 p = none) : H p = none := Classical.byContradiction fun z => d p z h
instance {K cl} : Early (rrW K cl) := ⟨fun _ h => h⟩
instance : Early rrB := ⟨fun _ h => h⟩
instance {K cl} : Early (rrA K cl) := ⟨fun _ h => h⟩
instance : Early rrO := ⟨fun _ h => h⟩
instance {K cl} : Early (rrL K cl) := ⟨fun d ⟨p, vs, a, b, c⟩ => ⟨p, vs, a, dom_none d b, c⟩⟩
instance {K cl} : Early (rrD K cl) := ⟨fun d ⟨p, vs, a, b, c⟩ => ⟨p, vs, a, dom_none d b, c⟩⟩

noncomputable def RunE (K : PySem.W.Frag) (cl : Str → Option Addr) {β α : Type} (RR : RRT β α) (Wx : WX) (H0 H : Hp) (m : List Addr) (σ : L2.St) (Q : β → Hp → Prop) : Res α → Prop
  | .ok a s' => ∀ v H0' H' m', GoE H0 H m H0' H' m' → Stt K cl H0' H' m' s' → RR H H0' H' m' v a → Q v H'
  | .exc c x s' => ∀ cv dd H0' H' m', GoE H0 H m H0' H' m' → Stt K cl H0' H' m' s' → ExcR K cl H0' H' cv dd c x → Wx cv dd σ H'
  | .no => False
noncomputable def Tof (K : PySem.W.Frag) (cl : Str → Option Addr) {β α : Type} (RR : RRT β α) (Wx : WX) (e : Cmp α) : L2.St → Hp → (β → Hp → Prop) → Prop := fun σ H Q =>
  ∃ H0 m ow s ρ, Ctx K cl H0 H m ow s σ ρ ∧ RunE K cl RR Wx H0 H m σ Q (e ρ s)

section
variable {K : PySem.W.Frag} {cl : Str → Option Addr} {H0 H H1 H1' : Hp} {m m1 ow : List Addr} {s s1 : S} {σ : L2.St} {ρ : Rho} {Wx : WX} {α β γ δ : Type}
theorem RunE.shift {RR : RRT β α} [Early RR] {Q : β → Hp → Prop} {r : Res α} (h : RunE K cl RR Wx H0 H m σ Q r) (g : GoE H0 H m H1 H1' m1) : RunE K cl RR Wx H1 H1' m1 σ Q r := by
  cases r with
  | ok a s' => exact fun v H0' H' m' g' st rr => h v H0' H' m' (g.trans g') st (Early.back g.dom rr)
  | exc c x s' => exact fun cv dd H0' H' m' g' st rr => h cv dd H0' H' m' (g.trans g') st rr
  | no => exact h
theorem RunE.imp {RR : RRT β α} {Q Q' : β → Hp → Prop} {r : Res α} (h : RunE K cl RR Wx H0 H m σ Q r) (k : ∀ v H', Q v H' → Q' v H') : RunE K cl RR Wx H0 H m σ Q' r := by
  cases r with
  | ok a s' => exact fun v H0' H' m' g' st rr => k _ _ (h v H0' H' m' g' st rr)
  | exc c x s' => exact h
  | no => exact h
theorem RunE.bind {RR : RRT β α} {RS : RRT δ γ} [Early RS] {Q : δ → Hp → Prop} {Q1 : β → Hp → Prop} {r : Res α} {k : α → S → Res γ} (h : RunE K cl RS Wx H0 H m σ Q (r.bind k))
    (q : ∀ a s1 v H1 H1' m1, GoE H0 H m H1 H1' m1 → Stt K cl H1 H1' m1 s1 → RR H H1 H1' m1 v a → RunE K cl RS Wx H1 H1' m1 σ Q (k a s1) → Q1 v H1') : RunE K cl RR Wx H0 H m σ Q1 r := by
  cases r with
  | ok a s' =>
    have h : RunE K cl RS Wx H0 H m σ Q (k a s') := h
    exact fun v H0' H' m' g st rr => q a s' v H0' H' m' g st rr (h.shift g)
  | exc c x s' => exact h
  | no => exact h
theorem RunE.done {RR : RRT β α} {Q : β → Hp → Prop} {a : α} {v : β} (h : RunE K cl RR Wx H0 H m σ Q (.ok a s)) (st : Stt K cl H0 H m s) (rr : RR H H0 H m v a) : Q v H := h v H0 H m Go.refl st rr
theorem PE.weaken {X : Cx} {e : Expr} {t t' : TE} (h : PE X e t) (w : ∀ σ H Q, t' σ H Q → t σ H Q) : PE X e t' := ⟨fun pins s σ H Q I q => h.run pins s σ H Q I (w σ H Q q)⟩
theorem PT.weaken {X : Cx} {e : Expr} {t t' : TT} (h : PT X e t) (w : ∀ σ H Q, t' σ H Q → t σ H Q) : PT X e t' := ⟨fun pins s σ H Q I q => h.run pins s σ H Q I (w σ H Q q)⟩
theorem PW.weaken {X : Cx} {e : Expr} {t t' : TT} (h : PW X e t) (w : ∀ σ H Q, t' σ H Q → t σ H Q) : PW X e t' := ⟨fun wh pins s σ H Q I q => h.run wh pins s σ H Q I (w σ H Q q)⟩
theorem PA.weaken {X : Cx} {e : List Expr} {t t' : TA} (h : PA X e t) (w : ∀ σ H Q, t' σ H Q → t σ H Q) : PA X e t' := ⟨fun pos pins s σ H Q I q => h.run pos pins s σ H Q I (w σ H Q q)⟩
theorem PO.weaken {X : Cx} {e : Option Expr} {t t' : TO} (h : PO X e t) (w : ∀ σ H Q, t' σ H Q → t σ H Q) : PO X e t' := ⟨fun pins s σ H Q I q => h.run pins s σ H Q I (w σ H Q q)⟩
theorem PS.weaken {X : Cx} {e : Stmt} {t t' : TS} (h : PS X e t) (w : ∀ D σ H, t' D σ H → t D σ H) : PS X e t' := ⟨fun pins s σ H D I q => h.run pins s σ H D I (w D σ H q)⟩
theorem PSs.weaken {X : Cx} {e : List Stmt} {t t' : TS} (h : PSs X e t) (w : ∀ D σ H, t' D σ H → t D σ H) : PSs X e t' := ⟨fun pins s σ H D I q => h.run pins s σ H D I (w D σ H q)⟩
end

noncomputable def JE (cl : Str → Option Addr) (Wx : WX) (X : Cx) (e : Expr) (c : Cmp W) : Prop := PE X e (Tof X.K cl (rrW X.K cl) Wx c)
noncomputable def JL (cl : Str → Option Addr) (Wx : WX) (X : Cx) (e : Expr) (c : Cmp (List W)) : Prop := PE X e (Tof X.K cl (rrL X.K cl) Wx c)
noncomputable def JD (cl : Str → Option Addr) (Wx : WX) (X : Cx) (e : Expr) (c : Cmp (List (Key × W))) : Prop := PE X e (Tof X.K cl (rrD X.K cl) Wx c)
noncomputable def JT (cl : Str → Option Addr) (Wx : WX) (X : Cx) (e : Expr) (c : Cmp Bool) : Prop := PT X e (Tof X.K cl rrB Wx c)
noncomputable def JW (cl : Str → Option Addr) (Wx : WX) (X : Cx) (e : Expr) (c : Cmp Bool) : Prop := PW X e (Tof X.K cl rrB Wx c)
noncomputable def JA (cl : Str → Option Addr) (Wx : WX) (X : Cx) (e : List Expr) (c : Cmp (List W)) : Prop := PA X e (Tof X.K cl (rrA X.K cl) Wx c)
noncomputable def JO (cl : Str → Option Addr) (Wx : WX) (X : Cx) (e : Option Expr) (c : Cmp (Option Int)) : Prop := PO X e (Tof X.K cl rrO Wx c)
end TG

set_option Elab.async false
set_option linter.all false
set_option maxRecDepth 100000
set_option maxHeartbeats 2000000
namespace TG
open PySem L2

noncomputable def asInt : W → Option Int | .d (.int i) => some i | _ => none
noncomputable def asBool : W → Option Bool | .d (.bl b) => some b | _ => none
noncomputable def asStr : W → Option Str | .d (.str x) => some x | _ => none
noncomputable def asTup : W → Option (List D) | .d (.tup l) => some l | _ => none
noncomputable def asData : W → Option D | .d x => some x | .r _ => none
noncomputable def wD (l : List D) : List W := l.map W.d
noncomputable def asLst : W → S → Option (List W)
  | .d (.lst l), _ => some (wD l)
  | .d _, _ => none
  | .r n, s => match s[n]? with | some (.lst l) => some l | _ => none
noncomputable def allData : List W → Option (List D)
  | [] => some []
  | .d x :: r => (allData r).map (x :: ·)
  | .r _ :: _ => none
noncomputable def allInts : List W → Option (List Int)
  | [] => some []
  | .d (.int i) :: r => (allInts r).map (i :: ·)
  | _ :: _ => none
noncomputable def allBools : List W → Option (List Bool)
  | [] => some []
  | .d (.bl i) :: r => (allBools r).map (i :: ·)
  | _ :: _ => none
theorem allData_wD (l : List D) : allData (wD l) = some l := by
  induction l with
  | nil => rfl
  | cons a l ih => show (allData (wD l)).map (a :: ·) = _; rw [ih]; rfl
theorem allInts_wD (l : List Int) : allInts (wD (l.map D.int)) = some l := by
  induction l with
  | nil => rfl
  | cons a l ih => show (allInts (wD (l.map D.int))).map (a :: ·) = _; rw [ih]; rfl
theorem allBools_wD (l : List Bool) : allBools (wD (l.map D.bl)) = some l := by
  induction l with
  | nil => rfl
  | cons a l ih => show (allBools (wD (l.map D.bl))).map (a :: ·) = _; rw [ih]; rfl
section
variable {K : PySem.W.Frag} {cl : Str → Option Addr} {H0 H H0' H' : Hp} {m m' : List Addr} {s s' : S} {v : V} {w : W} {p : Addr} {o : HO}
theorem asInt_ok {i : Int} (h : RepW K cl H0 m v w) (e : asInt w = some i) : v = .int i := by
  unfold asInt at e
  split at e
  · cases e; cases h; rfl
  · cases e
theorem asBool_ok {i : Bool} (h : RepW K cl H0 m v w) (e : asBool w = some i) : v = .bl i := by
  unfold asBool at e
  split at e
  · cases e; cases h; rfl
  · cases e
theorem asStr_ok {i : Str} (h : RepW K cl H0 m v w) (e : asStr w = some i) : v = .str i := by
  unfold asStr at e
  split at e
  · cases e; cases h; rfl
  · cases e
theorem asTup_ok {l : List D} (h : RepW K cl H0 m v w) (e : asTup w = some l) : ∃ p vs, v = .ref p ∧ H0 p = some (.tup vs) ∧ Reps K cl H0 vs l := by
  unfold asTup at e
  split at e
  · cases e
    cases h
    exact ⟨_, _, rfl, ‹_›, ‹_›⟩
  · cases e
theorem Reps.ws {vs : List V} {l : List D} (h : Reps K cl H0 vs l) : RepWs K cl H0 m vs (wD l) := by
  induction l generalizing vs with
  | nil => cases h; exact .nil
  | cons a l ih =>
    cases h with
    | cons h1 h2 => exact .cons h1 (ih h2)
theorem RepWs.ds {vs : List V} {l : List W} {ds : List D} (h : RepWs K cl H0 m vs l) (e : allData l = some ds) : Reps K cl H0 vs ds := by
  induction h generalizing ds with
  | nil => cases e; exact .nil
  | @cons v d vs l h1 h2 ih =>
    cases d with
    | r n => cases e
    | d x =>
      unfold allData at e
      cases q : allData l with
      | none => rw [q] at e; cases e
      | some z => rw [q] at e; cases e; exact .cons h1 (ih q)
theorem RepWs.ints {vs : List V} {l : List W} {ns : List Int} (h : RepWs K cl H0 m vs l) (e : allInts l = some ns) : vs = ns.map V.int := by
  induction h generalizing ns with
  | nil => cases e; rfl
  | @cons v d vs l h1 h2 ih =>
    unfold allInts at e
    split at e
    · rename_i q; cases q
    · rename_i i r q
      cases q
      cases q2 : allInts l with
      | none => rw [q2] at e; cases e
      | some z => rw [q2] at e; cases e; cases h1; rw [ih q2]; rfl
    · cases e
theorem RepWs.bools {vs : List V} {l : List W} {ns : List Bool} (h : RepWs K cl H0 m vs l) (e : allBools l = some ns) : vs = ns.map V.bl := by
  induction h generalizing ns with
  | nil => cases e; rfl
  | @cons v d vs l h1 h2 ih =>
    unfold allBools at e
    split at e
    · rename_i q; cases q
    · rename_i i r q
      cases q
      cases q2 : allBools l with
      | none => rw [q2] at e; cases e
      | some z => rw [q2] at e; cases e; cases h1; rw [ih q2]; rfl
    · cases e
theorem RepWs.length {vs : List V} {l : List W} (h : RepWs K cl H0 m vs l) : vs.length = l.length := by
  induction h with
  | nil => rfl
  | cons _ _ ih => rw [List.length_cons, List.length_cons, ih]
theorem RepWs.get {vs : List V} {l : List W} (h : RepWs K cl H0 m vs l) : ∀ {i : Nat} {x : W}, l[i]? = some x → ∃ v, vs[i]? = some v ∧ RepW K cl H0 m v x := by
  induction h with
  | nil => intro i x e; simp at e
  | cons h1 _ ih =>
    intro i x e
    cases i with
    | zero => simp at e; subst e; exact ⟨_, rfl, h1⟩
    | succ i =>
      obtain ⟨v, h1, h2⟩ := ih (i := i) (x := x) (by simpa using e)
      exact ⟨v, by simpa using h1, h2⟩
theorem RepWs.set {vs : List V} {l : List W} (h : RepWs K cl H0 m vs l) {v : V} {x : W} (hx : RepW K cl H0 m v x) : ∀ i : Nat, RepWs K cl H0 m (vs.set i v) (l.set i x) := by
  induction h with
  | nil => intro i; exact .nil
  | cons h1 h2 ih =>
    intro i
    cases i with
    | zero => exact .cons hx h2
    | succ i => exact .cons h1 (ih i)
theorem RepWs.append {vs us : List V} {l k : List W} (h : RepWs K cl H0 m vs l) (h' : RepWs K cl H0 m us k) : RepWs K cl H0 m (vs ++ us) (l ++ k) := by
  induction h with
  | nil => exact h'
  | cons h1 _ ih => exact .cons h1 ih
theorem RepWs.take {vs : List V} {l : List W} (h : RepWs K cl H0 m vs l) : ∀ n, RepWs K cl H0 m (vs.take n) (l.take n) := by
  induction h with
  | nil => intro n; simpa using RepWs.nil
  | cons h1 _ ih =>
    intro n
    cases n with
    | zero => exact .nil
    | succ n => exact .cons h1 (ih n)
theorem RepWs.drop {vs : List V} {l : List W} (h : RepWs K cl H0 m vs l) : ∀ n, RepWs K cl H0 m (vs.drop n) (l.drop n) := by
  induction h with
  | nil => intro n; simpa using RepWs.nil
  | cons h1 h2 ih =>
    intro n
    cases n with
    | zero => exact .cons h1 h2
    | succ n => exact ih n
theorem Reps.length {vs : List V} {l : List D} (h : Reps K cl H0 vs l) : vs.length = l.length := by
  have := (h.ws (m := [])).length
  simpa [wD] using this
theorem asLst_ok {l : List W} (st : Stt K cl H0 H m s) (h : RepW K cl H0 m v w) (e : asLst w s = some l) : ∃ p vs, v = .ref p ∧ H p = some (.lst vs) ∧ RepWs K cl H0 m vs l := by
  unfold asLst at e
  split at e
  · cases e
    cases h
    exact ⟨_, _, rfl, st.sub _ _ ‹_›, Reps.ws ‹_›⟩
  · cases e
  · obtain ⟨a, h1, h2⟩ := h
    split at e
    · cases e
      obtain ⟨_, vs, h3, h4⟩ := st.cell _ a _ h1 ‹_›
      exact ⟨a, vs, h2, h3, h4⟩
    · cases e
theorem asTup_at {l : List D} (st : Stt K cl H0 H m s) (h : RepW K cl H0 m v w) (e : asTup w = some l) : ∃ p vs, v = .ref p ∧ H p = some (.tup vs) ∧ RepWs K cl H0 m vs (wD l) := by
  obtain ⟨p, vs, h1, h2, h3⟩ := asTup_ok h e
  exact ⟨p, vs, h1, st.sub _ _ h2, h3.ws⟩
noncomputable def tupC (w : W) (s : S) : Option (List W) := match w with | .r n => (match s[n]? with | some (.tup l) => some l | _ => none) | _ => none
theorem tupC_ok {l : List W} (st : Stt K cl H0 H m s) (h : RepW K cl H0 m v w) (e : tupC w s = some l) : ∃ p vs, v = .ref p ∧ H p = some (.tup vs) ∧ RepWs K cl H0 m vs l := by
  cases w with
  | d x => cases e
  | r n =>
    obtain ⟨a, h1, rfl⟩ := h
    have e : (match s[n]? with | some (.tup l) => some l | _ => none) = some l := e
    split at e
    · rename_i l' q
      cases e
      obtain ⟨vs, h2, h3⟩ := (st.cell n a _ h1 q).2
      exact ⟨a, vs, rfl, h2, h3⟩
    · cases e
noncomputable def asSeq (w : W) (s : S) : Option (List W) := match asTup w with | some l => some (wD l) | none => match asLst w s with | some l => some l | none => tupC w s
theorem asSeq_ok {l : List W} (st : Stt K cl H0 H m s) (h : RepW K cl H0 m v w) (e : asSeq w s = some l) : ∃ p vs, v = .ref p ∧ (H p = some (.lst vs) ∨ H p = some (.tup vs)) ∧ RepWs K cl H0 m vs l := by
  unfold asSeq at e
  split at e
  · rename_i l' q
    cases e
    obtain ⟨p, vs, h1, h2, h3⟩ := asTup_at st h q
    exact ⟨p, vs, h1, .inr h2, h3⟩
  · split at e
    · rename_i l' q
      cases e
      obtain ⟨p, vs, h1, h2, h3⟩ := asLst_ok st h q
      exact ⟨p, vs, h1, .inl h2, h3⟩
    · obtain ⟨p, vs, h1, h2, h3⟩ := tupC_ok st h e
      exact ⟨p, vs, h1, .inr h2, h3⟩

theorem same_upd {H : Hp} {p : Addr} {o : HO} (h : H p = none) : Same H (upd H p o) := fun b x e => by
  rw [upd_ne (ne_of_none e h)]; exact e
theorem CellR.mono (e : Same H0 H0') (q : m <+: m') {a : Addr} {c : Cell} (h : CellR K cl H0 H m a c) (k : ∀ o, H a = some o → H' a = some o) : CellR K cl H0' H' m' a c := by
  cases c with
  | lst l => obtain ⟨vs, h1, h2⟩ := h; exact ⟨vs, k _ h1, h2.mono e q⟩
  | dic l => obtain ⟨vs, h1, h2⟩ := h; exact ⟨vs, k _ h1, h2.mono e q⟩
  | ins c l => obtain ⟨C, dx, fs, h1, h2, h3⟩ := h; exact ⟨C, dx, fs, k _ h1, h2, h3.mono e q⟩
  | tup l => obtain ⟨vs, h1, h2⟩ := h; exact ⟨vs, k _ h1, h2.mono e q⟩
theorem CellR.there {a : Addr} {c : Cell} (h : CellR K cl H0 H m a c) : H a ≠ none := by
  cases c with
  | lst l => obtain ⟨vs, h1, h2⟩ := h; rw [h1]; simp
  | dic l => obtain ⟨vs, h1, h2⟩ := h; rw [h1]; simp
  | ins c l => obtain ⟨C, dx, fs, h1, h2⟩ := h; rw [h1]; simp
  | tup l => obtain ⟨vs, h1, h2⟩ := h; rw [h1]; simp
theorem Stt.cellOf (st : Stt K cl H0 H m s) {a : Addr} (h : a ∈ m) : ∃ (n : Nat) (c : Cell), m[n]? = some a ∧ s[n]? = some c ∧ H0 a = none ∧ CellR K cl H0 H m a c := by
  obtain ⟨n, hn⟩ := List.mem_iff_getElem?.mp h
  have hl : n < s.length := by
    rw [← st.len]; exact (List.getElem?_eq_some_iff.mp hn).1
  have hc : s[n]? = some s[n] := by simp [hl]
  obtain ⟨h1, h2⟩ := st.cell n a _ hn hc
  exact ⟨n, s[n], hn, hc, h1, h2⟩
theorem Stt.notM (st : Stt K cl H0 H m s) (hp : H p = none) : p ∉ m := fun h => by
  obtain ⟨n, c, _, _, _, h2⟩ := st.cellOf h
  exact h2.there hp
theorem Stt.h0 (st : Stt K cl H0 H m s) (hp : H p = none) : H0 p = none := by
  cases e : H0 p with
  | none => rfl
  | some o => rw [st.sub _ _ e] at hp; cases hp
theorem Stt.freeze (st : Stt K cl H0 H m s) (h0 : H0 p = none) (hp : H p = some o) (hm : p ∉ m) : Stt K cl (upd H0 p o) H m s := by
  refine ⟨fun b x e => ?_, st.len, st.nd, fun n a c h1 h2 => ?_⟩
  · by_cases hb : b = p
    · subst hb; rw [upd_same] at e; cases e; exact hp
    · rw [upd_ne hb] at e; exact st.sub _ _ e
  · obtain ⟨q1, q2⟩ := st.cell n a c h1 h2
    have ne : a ≠ p := fun z => hm (z ▸ List.mem_of_getElem? h1)
    exact ⟨by rw [upd_ne ne]; exact q1, q2.mono (same_upd h0) List.prefix_rfl fun _ z => z⟩
theorem Stt.fresh (st : Stt K cl H0 H m s) (hp : H p = none) : Stt K cl H0 (upd H p o) m s := by
  refine ⟨st.sub.trans (same_upd hp), st.len, st.nd, fun n a c h1 h2 => ?_⟩
  obtain ⟨q1, q2⟩ := st.cell n a c h1 h2
  exact ⟨q1, q2.mono (Same.refl _) List.prefix_rfl (same_upd hp a)⟩
theorem Stt.alloc (st : Stt K cl H0 H m s) (hp : H p = none) : Stt K cl (upd H0 p o) (upd H p o) m s :=
  (st.fresh hp).freeze (st.h0 hp) upd_same (st.notM hp)
theorem Go.fresh (hp : H p = none) : GoE H0 H m H0 (upd H p o) m :=
  ⟨Same.refl _, List.prefix_rfl, fun a x h _ _ => same_upd hp a x h, fun a h => by
    unfold upd; split
    · simp
    · exact h, fun _ _ _ _ h => h, fun _ h => .inl h, fun _ h => .inl h⟩
theorem Go.freeze (st : Stt K cl H0 H m s) (g : GoE H0 H m H0' H' m') (hp : H p = none) : GoE H0 H m (upd H0' p o) H' m' := by
  refine ⟨fun b x e => ?_, g.pre, g.fr, g.dom, fun a h h1 h2 h3 => ?_, g.nm, g.nw⟩
  · have : b ≠ p := fun z => by subst z; rw [st.h0 hp] at e; cases e
    rw [upd_ne this]; exact g.s0 _ _ e
  · have : a ≠ p := fun z => h (z ▸ hp)
    rw [upd_ne this]; exact g.n0 a h h1 h2 h3
theorem Go.alloc (st : Stt K cl H0 H m s) (hp : H p = none) : GoE H0 H m (upd H0 p o) (upd H p o) m := (Go.fresh hp).freeze st hp
end

noncomputable def eC (x : D) : Cmp W := fun _ s => .ok (.d x) s
noncomputable def eVar (i : Nat) : Cmp W := fun ρ s => match ρ[i]? with | some (.w x) => .ok x s | _ => .no
noncomputable def eBin (f : W → W → S → Res W) (a b : Cmp W) : Cmp W := fun ρ s => (a ρ s).bind fun x s1 => (b ρ s1).bind fun y s2 => f x y s2
noncomputable def eUn (f : W → S → Res W) (a : Cmp W) : Cmp W := fun ρ s => (a ρ s).bind fun x s1 => f x s1
noncomputable def eTest (a : Cmp W) : Cmp Bool := fun ρ s => (a ρ s).bind fun x s1 => match asBool x with | some b => .ok b s1 | none => .no
noncomputable def eNil : Cmp (List W) := fun _ s => .ok [] s
noncomputable def eCons (a : Cmp W) (b : Cmp (List W)) : Cmp (List W) := fun ρ s => (a ρ s).bind fun x s1 => (b ρ s1).bind fun y s2 => .ok (x :: y) s2
noncomputable def eArgs (f : List W → S → Res W) (a : Cmp (List W)) : Cmp W := fun ρ s => (a ρ s).bind fun x s1 => f x s1
noncomputable def eNoPart : Cmp (Option Int) := fun _ s => .ok none s
noncomputable def ePart (a : Cmp W) : Cmp (Option Int) := fun ρ s => (a ρ s).bind fun x s1 => match asInt x with | some i => .ok (some i) s1 | none => .no
noncomputable def eSl (f : W → Option Int → Option Int → S → Res W) (a : Cmp W) (l h : Cmp (Option Int)) : Cmp W := fun ρ s => (a ρ s).bind fun x s1 => (l ρ s1).bind fun i s2 => (h ρ s2).bind fun j s3 => f x i j s3
noncomputable def eAndT (a b : Cmp Bool) : Cmp Bool := fun ρ s => (a ρ s).bind fun x s1 => if x = true then b ρ s1 else .ok false s1
noncomputable def eOrT (a b : Cmp Bool) : Cmp Bool := fun ρ s => (a ρ s).bind fun x s1 => if x = true then .ok true s1 else b ρ s1
noncomputable def eNotT (a : Cmp Bool) : Cmp Bool := fun ρ s => (a ρ s).bind fun x s1 => .ok (!x) s1
noncomputable def eAndV (a b : Cmp W) : Cmp W := fun ρ s => (a ρ s).bind fun x s1 => match asBool x with | some true => b ρ s1 | some false => .ok (.d (.bl false)) s1 | none => .no
noncomputable def eOrV (a b : Cmp W) : Cmp W := fun ρ s => (a ρ s).bind fun x s1 => match asBool x with | some false => b ρ s1 | some true => .ok (.d (.bl true)) s1 | none => .no
noncomputable def eNotV (a : Cmp W) : Cmp W := fun ρ s => (a ρ s).bind fun x s1 => match asBool x with | some b => .ok (.d (.bl (!b))) s1 | none => .no
noncomputable def eIf (t : Cmp Bool) (a b : Cmp W) : Cmp W := fun ρ s => (t ρ s).bind fun x s1 => if x = true then a ρ s1 else b ρ s1
noncomputable def eChain (f g : W → W → S → Res W) (a b c : Cmp W) : Cmp W := fun ρ s => (a ρ s).bind fun x s1 => (b ρ s1).bind fun y s2 => (f x y s2).bind fun z s3 =>
  match asBool z with | some true => (c ρ s3).bind fun w s4 => g y w s4 | some false => .ok (.d (.bl false)) s3 | none => .no
noncomputable def mkTup (l : List W) (s : S) : Res W := match allData l with | some ds => if ds.length ≤ 16777216 then .ok (.d (.tup ds)) s else .no | none => .no
noncomputable def eTup (a : Cmp (List W)) : Cmp W := fun ρ s => (a ρ s).bind mkTup
noncomputable def eLst (a : Cmp (List W)) : Cmp (List W) := fun ρ s => (a ρ s).bind fun l s1 => if l.length ≤ 16777216 then .ok l s1 else .no
noncomputable def frzL (l : List W) (s : S) : Res W := match allData l with | some ds => .ok (.d (.lst ds)) s | none => .no
noncomputable def eFrz (a : Cmp (List W)) : Cmp W := fun ρ s => (a ρ s).bind frzL
noncomputable def eCell (a : Cmp (List W)) : Cmp W := fun ρ s => (a ρ s).bind fun l s1 => .ok (.r s1.length) (s1 ++ [.lst l])

noncomputable def OpS (K : PySem.W.Frag) (cl : Str → Option Addr) (r : R2) (f : W → W → S → Res W) : Prop := ∀ (Wx : WX) (σ : L2.St) (H0 H : Hp) (m : List Addr) (s : S) (x y : V) (wx wy : W) (Q : VK),
  Stt K cl H0 H m s → RepW K cl H0 m x wx → RepW K cl H0 m y wy → RunE K cl (rrW K cl) Wx H0 H m σ Q (f wx wy s) → r x y H Q
noncomputable def UnS (K : PySem.W.Frag) (cl : Str → Option Addr) (r : V → Hp → VK → Prop) (f : W → S → Res W) : Prop := ∀ (Wx : WX) (σ : L2.St) (H0 H : Hp) (m : List Addr) (s : S) (x : V) (wx : W) (Q : VK),
  Stt K cl H0 H m s → RepW K cl H0 m x wx → RunE K cl (rrW K cl) Wx H0 H m σ Q (f wx s) → r x H Q
noncomputable def CallS (K : PySem.W.Frag) (cl : Str → Option Addr) (r : List V → Hp → VK → Prop) (f : List W → S → Res W) : Prop := ∀ (Wx : WX) (σ : L2.St) (H0 H : Hp) (m : List Addr) (s : S) (xs : List V) (ws : List W) (Q : VK),
  Stt K cl H0 H m s → RepWs K cl H0 m xs ws → RunE K cl (rrW K cl) Wx H0 H m σ Q (f ws s) → r xs H Q
noncomputable def SlS (K : PySem.W.Frag) (cl : Str → Option Addr) (r : V → Option Int → Option Int → Hp → VK → Prop) (f : W → Option Int → Option Int → S → Res W) : Prop := ∀ (Wx : WX) (σ : L2.St) (H0 H : Hp) (m : List Addr) (s : S) (x : V) (i j : Option Int) (wx : W) (Q : VK),
  Stt K cl H0 H m s → RepW K cl H0 m x wx → RunE K cl (rrW K cl) Wx H0 H m σ Q (f wx i j s) → r x i j H Q
theorem OpR.or {X : Cx} {f : Value → Value → Sem Value} {r r' : R2} (h : OpR X f r) (h' : OpR X f r') : OpR X f (fun x y H Q => r x y H Q ∨ r' x y H Q) := fun pins s σ H x y v u Q I a b q => by
  rcases q with q | q
  · exact h pins s σ H x y v u Q I a b q
  · exact h' pins s σ H x y v u Q I a b q
theorem IxR.or {X : Cx} {r r' : R2} (h : IxR X r) (h' : IxR X r') : IxR X (fun x y H Q => r x y H Q ∨ r' x y H Q) := fun va sl pins s σ H x y v u Q I a b q => by
  rcases q with q | q
  · exact h va sl pins s σ H x y v u Q I a b q
  · exact h' va sl pins s σ H x y v u Q I a b q
theorem CallR.or {X : Cx} {f : Value} {r r' : List V → Hp → VK → Prop} (h : CallR X f r) (h' : CallR X f r') : CallR X f (fun x H Q => r x H Q ∨ r' x H Q) := fun pins s σ H x v Q I a q => by
  rcases q with q | q
  · exact h pins s σ H x v Q I a q
  · exact h' pins s σ H x v Q I a q
section
variable {X : Cx} {cl : Str → Option Addr} {Wx : WX} {a b c e : Expr} {es : List Expr} {pos : Pos} {ea eb ec : Cmp W} {el : Cmp (List W)} {et eu : Cmp Bool}

theorem je_var (i : Nat) {x : Str} (hN : X.N[i]? = some x := by rfl) (hv : Vis X.env.scope x := by first | exact Or.inl rfl | exact Or.inr (Or.inl rfl) | exact Or.inr (Or.inr rfl)) (hd : (x == ("__debug__" : Str)) = false := by decide)
    (hcd : (x == ("__classdict__" : Str)) = false := by decide) : JE cl Wx X (.Name x pos) (eVar i) :=
  PE.weaken (pe_var hN hv hd hcd) fun σ H Q ⟨H0, m, ow, s, ρ, cx, h⟩ => by
    unfold eVar at h
    split at h
    · rename_i x e
      obtain ⟨u, h1, h2⟩ := cx.en.slot i _ e
      exact ⟨u, h1, h.done cx.st h2⟩
    · exact h.elim
theorem je_int {i : Int} {j} : JE cl Wx X (.Constant (.int i) j pos) (eC (.int i)) := PE.weaken pe_int fun σ H Q ⟨H0, m, ow, s, ρ, cx, h⟩ => h.done cx.st .int
theorem je_bl {i : Bool} {j} : JE cl Wx X (.Constant (.bool i) j pos) (eC (.bl i)) := PE.weaken pe_bl fun σ H Q ⟨H0, m, ow, s, ρ, cx, h⟩ => h.done cx.st .bl
theorem je_non {j} : JE cl Wx X (.Constant .none j pos) (eC .non) := PE.weaken pe_non fun σ H Q ⟨H0, m, ow, s, ρ, cx, h⟩ => h.done cx.st .non
theorem je_str {x : Str} {j} : JE cl Wx X (.Constant (.str x) j pos) (eC (.str x)) := PE.weaken pe_str fun σ H Q ⟨H0, m, ow, s, ρ, cx, h⟩ => h.done cx.st .str
theorem je_globI {x : Str} {i : Int} {t : Tok} (hg : Gl X x) (hm : X.mg x = some (.int i t)) (hd : (x == ("__debug__" : Str)) = false := by decide) : JE cl Wx X (.Name x pos) (eC (.int i)) :=
  PE.weaken (pe_glob (v := .int i) hg hm ⟨t, rfl⟩ hd) fun σ H Q ⟨H0, m, ow, s, ρ, cx, h⟩ => h.done cx.st .int
theorem tOp_of {r : R2} {f : W → W → S → Res W} (ho : OpS X.K cl r f) {σ : L2.St} {H : Hp} {Q : VK} (h : Tof X.K cl (rrW X.K cl) Wx (eBin f ea eb) σ H Q) : tOp r (Tof X.K cl (rrW X.K cl) Wx ea) (Tof X.K cl (rrW X.K cl) Wx eb) σ H Q := by
  obtain ⟨H0, m, ow, s, ρ, cx, h⟩ := h
  exact ⟨H0, m, ow, s, ρ, cx, RunE.bind h fun x s1 v H1 H1' m1 g st rr h2 => ⟨H1, m1, ow, s1, ρ, cx.go g st, RunE.bind h2 fun y s2 u H2 H2' m2 g' st' rr' h3 =>
    ho Wx σ H2 H2' m2 s2 v u x y Q st' (RepW.mono g'.s0 g'.pre rr) rr' h3⟩⟩
theorem je_bin {op : Operator} {r : R2} {f : W → W → S → Res W} (hf : OpR X (binaryOp op) r) (ho : OpS X.K cl r f) (ha : JE cl Wx X a ea) (hb : JE cl Wx X b eb) : JE cl Wx X (.BinOp a op b pos) (eBin f ea eb) :=
  PE.weaken (pe_op hf ha hb) fun σ H Q h => tOp_of ho h
theorem je_cmp {op : CmpOp} {r : R2} {f : W → W → S → Res W} (hf : OpR X (compareOp op) r) (ho : OpS X.K cl r f) (ha : JE cl Wx X a ea) (hb : JE cl Wx X b eb) (hm : behindInMarks op b = false := by first | exact nobehind _ (by decide) (by decide) | rfl) : JE cl Wx X (.Compare a [op] [b] pos) (eBin f ea eb) :=
  PE.weaken (pe_cmpR hf ha hb hm) fun σ H Q h => tOp_of ho h
theorem tTest_of {t : TE} (hw : ∀ σ H Q, Tof X.K cl (rrW X.K cl) Wx ea σ H Q → t σ H Q) {σ : L2.St} {H : Hp} {Q : Bool → Hp → Prop} (h : Tof X.K cl rrB Wx (eTest ea) σ H Q) : tTest t σ H Q := by
  obtain ⟨H0, m, ow, s, ρ, cx, h⟩ := h
  refine hw σ H _ ⟨H0, m, ow, s, ρ, cx, RunE.bind h fun x s1 v H1 H1' m1 g st rr h2 => ?_⟩
  have h2 : RunE X.K cl rrB Wx H1 H1' m1 σ Q (match asBool x with | some b => .ok b s1 | none => .no) := h2
  cases e : asBool x with
  | none => rw [e] at h2; exact h2.elim
  | some k =>
    rw [e] at h2
    exact ⟨k, asBool_ok rr e, h2.done st rfl⟩
theorem jt_cmp {op : CmpOp} {r : R2} {f : W → W → S → Res W} (hf : OpR X (compareOp op) r) (ho : OpS X.K cl r f) (ha : JE cl Wx X a ea) (hb : JE cl Wx X b eb) (hm : behindInMarks op b = false := by first | exact nobehind _ (by decide) (by decide) | rfl) : JT cl Wx X (.Compare a [op] [b] pos) (eTest (eBin f ea eb)) :=
  PT.weaken (pt_cmpR hf ha hb hm) fun σ H Q h => tTest_of (fun σ H Q h => tOp_of ho h) h
theorem jt_val (ha : JE cl Wx X a ea) (he : ∀ whole, isTrue a X.env whole = (do let v ← whole; standAt a.pos; holding [v] (truthy v)) := by intro _; rfl) : JT cl Wx X a (eTest ea) :=
  PT.weaken (pt_val ha he) fun σ H Q h => tTest_of (fun σ H Q h => h) h
theorem tChain_of {r r' : R2} {f f' : W → W → S → Res W} (ho : OpS X.K cl r f) (ho' : OpS X.K cl r' f') {σ : L2.St} {H : Hp} {Q : VK} (h : Tof X.K cl (rrW X.K cl) Wx (eChain f f' ea eb ec) σ H Q) :
    tChain r r' (Tof X.K cl (rrW X.K cl) Wx ea) (Tof X.K cl (rrW X.K cl) Wx eb) (Tof X.K cl (rrW X.K cl) Wx ec) σ H Q := by
  obtain ⟨H0, m, ow, s, ρ, cx, h⟩ := h
  refine ⟨H0, m, ow, s, ρ, cx, RunE.bind h fun x s1 v H1 H1' m1 g st rr h2 => ⟨H1, m1, ow, s1, ρ, cx.go g st, RunE.bind h2 fun y s2 u H2 H2' m2 g' st' rr' h3 => ?_⟩⟩
  have rr := RepW.mono g'.s0 g'.pre rr
  refine ho Wx σ H2 H2' m2 s2 v u x y _ st' rr rr' (RunE.bind h3 fun z s3 uz H3 H3' m3 g3 st3 rz h4 => ?_)
  have h4 : RunE X.K cl (rrW X.K cl) Wx H3 H3' m3 σ Q (match asBool z with | some true => (ec ρ s3).bind fun w s4 => f' y w s4 | some false => .ok (.d (.bl false)) s3 | none => .no) := h4
  cases e : asBool z with
  | none => rw [e] at h4; exact h4.elim
  | some k =>
    rw [e] at h4
    refine ⟨k, asBool_ok rz e, ?_⟩
    cases k with
    | true =>
      refine iteT ⟨H3, m3, ow, s3, ρ, ((cx.go g st).go g' st').go g3 st3, RunE.bind h4 fun w s4 uw H4 H4' m4 g4 st4 rw' h5 => ?_⟩
      exact ho' Wx σ H4 H4' m4 s4 u uw y w Q st4 (RepW.mono (g3.trans g4).s0 (g3.trans g4).pre rr') rw' h5
    | false => exact iteF (h4.done st3 .bl)
theorem je_chain {op op' : CmpOp} {r r' : R2} {f f' : W → W → S → Res W} (hf : OpR X (compareOp op) r) (hf' : OpR X (compareOp op') r') (ho : OpS X.K cl r f) (ho' : OpS X.K cl r' f') (ha : JE cl Wx X a ea) (hb : JE cl Wx X b eb) (hc : JE cl Wx X c ec)
    (hm : lastMarks [op, op'] [b, c] = false := by rfl) : JE cl Wx X (.Compare a [op, op'] [b, c] pos) (eChain f f' ea eb ec) := PE.weaken (pe_chain hf hf' ha hb hc hm) fun σ H Q h => tChain_of ho ho' h
theorem je_un {op : UnaryOp} {r : V → Hp → VK → Prop} {f : W → S → Res W} (hf : UnR X (unaryOp op) r) (ho : UnS X.K cl r f) (ha : JE cl Wx X a ea) : JE cl Wx X (.UnaryOp op a pos) (eUn f ea) :=
  PE.weaken (pe_un hf ha) fun σ H Q ⟨H0, m, ow, s, ρ, cx, h⟩ => ⟨H0, m, ow, s, ρ, cx, RunE.bind h fun x s1 v H1 H1' m1 g st rr h2 => ho Wx σ H1 H1' m1 s1 v x Q st rr h2⟩
noncomputable def fIsN (neg : Bool) : W → S → Res W := fun x s => .ok (.d (.bl (match x with | .d .non => !neg | _ => neg))) s
theorem isN_ok {K : PySem.W.Frag} {H0 : Hp} {m : List Addr} {v : V} {w : W} (h : RepW K cl H0 m v w) : decide (v = .non) = (match w with | .d .non => true | _ => false) := by
  cases w with
  | r n => obtain ⟨a, _, rfl⟩ := h; simp
  | d x => cases h <;> simp
theorem je_notN {j p'} (ha : JE cl Wx X a ea) : JE cl Wx X (.Compare a [.IsNot] [.Constant .none j p'] pos) (eUn (fIsN true) ea) :=
  PE.weaken (pe_cmp (pc_notN ha)) fun σ H Q ⟨H0, m, ow, s, ρ, cx, h⟩ => ⟨H0, m, ow, s, ρ, cx, RunE.bind h fun x s1 v H1 H1' m1 g st rr h2 => by
    rw [isN_ok rr]
    refine RunE.done (RR := rrW X.K cl) h2 st ?_
    cases x with
    | r n => exact Rep.bl
    | d x => cases x <;> exact Rep.bl⟩
variable {rest : List Expr}
theorem jw_and1 (ha : JT cl Wx X a et) : JW cl Wx X (.BoolOp .And [a] pos) et := pw_and1 ha
theorem jw_or1 (ha : JT cl Wx X a et) : JW cl Wx X (.BoolOp .Or [a] pos) et := pw_or1 ha
theorem jw_and (ha : JT cl Wx X a et) (hb : JW cl Wx X (.BoolOp .And (b :: rest) pos) eu) : JW cl Wx X (.BoolOp .And (a :: b :: rest) pos) (eAndT et eu) :=
  PW.weaken (pw_and ha hb) fun σ H Q ⟨H0, m, ow, s, ρ, cx, h⟩ => ⟨H0, m, ow, s, ρ, cx, RunE.bind (RR := rrB) h fun x s1 v H1 H1' m1 g st rr h2 => by
    cases rr
    cases x with
    | true => exact iteT ⟨H1, m1, ow, s1, ρ, cx.go g st, h2⟩
    | false => exact iteF (RunE.done (RR := rrB) h2 st rfl)⟩
theorem jw_or (ha : JT cl Wx X a et) (hb : JW cl Wx X (.BoolOp .Or (b :: rest) pos) eu) : JW cl Wx X (.BoolOp .Or (a :: b :: rest) pos) (eOrT et eu) :=
  PW.weaken (pw_or ha hb) fun σ H Q ⟨H0, m, ow, s, ρ, cx, h⟩ => ⟨H0, m, ow, s, ρ, cx, RunE.bind (RR := rrB) h fun x s1 v H1 H1' m1 g st rr h2 => by
    cases rr
    cases x with
    | true => exact iteT (RunE.done (RR := rrB) h2 st rfl)
    | false => exact iteF ⟨H1, m1, ow, s1, ρ, cx.go g st, h2⟩⟩
theorem jt_w (h : JW cl Wx X a et) : JT cl Wx X a et := PW.pt h
theorem jt_not (ha : JT cl Wx X a et) : JT cl Wx X (.UnaryOp .Not a pos) (eNotT et) :=
  PT.weaken (pt_not ha) fun σ H Q ⟨H0, m, ow, s, ρ, cx, h⟩ => ⟨H0, m, ow, s, ρ, cx, RunE.bind (RR := rrB) h fun x s1 v H1 H1' m1 g st rr h2 => by
    cases rr
    exact RunE.done (RR := rrB) h2 st rfl⟩
theorem je_one {op} (h : JE cl Wx X a ea) : JE cl Wx X (.BoolOp op [a] pos) ea := pe_one h
theorem je_and (ha : JE cl Wx X a ea) (hb : JE cl Wx X (.BoolOp .And (b :: rest) pos) eb) : JE cl Wx X (.BoolOp .And (a :: b :: rest) pos) (eAndV ea eb) :=
  PE.weaken (pe_and ha hb) fun σ H Q ⟨H0, m, ow, s, ρ, cx, h⟩ => ⟨H0, m, ow, s, ρ, cx, RunE.bind h fun x s1 v H1 H1' m1 g st rr h2 => by
    have h2 : RunE X.K cl (rrW X.K cl) Wx H1 H1' m1 σ Q (match asBool x with | some true => eb ρ s1 | some false => .ok (.d (.bl false)) s1 | none => .no) := h2
    cases e : asBool x with
    | none => rw [e] at h2; exact h2.elim
    | some k =>
      rw [e] at h2
      refine ⟨k, asBool_ok rr e, ?_⟩
      cases k with
      | true => exact iteT ⟨H1, m1, ow, s1, ρ, cx.go g st, h2⟩
      | false => exact iteF (h2.done st .bl)⟩
theorem ja_nil : JA cl Wx X [] eNil := PA.weaken pa_nil fun σ H Q ⟨H0, m, ow, s, ρ, cx, h⟩ => RunE.done (RR := rrA X.K cl) h cx.st .nil
theorem ja_cons (ha : JE cl Wx X e ea) (hr : JA cl Wx X es el) (hs : starEach (e :: es) X.env = (false, eval e X.env) :: starEach es X.env := by rfl) : JA cl Wx X (e :: es) (eCons ea el) :=
  PA.weaken (pa_cons ha hr hs) fun σ H Q ⟨H0, m, ow, s, ρ, cx, h⟩ => ⟨H0, m, ow, s, ρ, cx, RunE.bind h fun x s1 v H1 H1' m1 g st rr h2 => ⟨H1, m1, ow, s1, ρ, cx.go g st, RunE.bind h2 fun y s2 u H2 H2' m2 g' st' rr' h3 =>
    RunE.done (RR := rrA X.K cl) h3 st' (.cons (RepW.mono g'.s0 g'.pre rr) rr')⟩⟩
theorem size_of {n : Nat} (h : n ≤ 16777216) : n ≤ sizeLine := by rw [sizeLine_eq]; exact h
theorem je_tup {x1} (h : JA cl Wx X es el) : JE cl Wx X (.Tuple es x1 pos) (eTup el) :=
  PE.weaken (pe_tup h) fun σ H Q ⟨H0, m, ow, s, ρ, cx, h⟩ => ⟨H0, m, ow, s, ρ, cx, RunE.bind h fun x s1 v H1 H1' m1 g st rr h2 => by
    unfold mkTup at h2
    cases e : allData x with
    | none => rw [e] at h2; exact h2.elim
    | some ds =>
      rw [e] at h2
      have rd := RepWs.ds rr e
      by_cases hl : ds.length ≤ 16777216
      · have h2 : RunE X.K cl (rrW X.K cl) Wx H1 H1' m1 σ Q (if ds.length ≤ 16777216 then .ok (.d (.tup ds)) s1 else .no) := h2
        rw [if_pos hl] at h2
        refine ⟨size_of (by rw [rd.length]; exact hl), fun p hp => ?_⟩
        exact h2 _ _ _ _ (Go.alloc st hp) (st.alloc hp) (Rep.tup upd_same (rd.mono (same_upd (st.h0 hp))))
      · have h2 : RunE X.K cl (rrW X.K cl) Wx H1 H1' m1 σ Q (if ds.length ≤ 16777216 then .ok (.d (.tup ds)) s1 else .no) := h2
        rw [if_neg hl] at h2
        exact h2.elim⟩
theorem jl_lst (h : JA cl Wx X es el) : JL cl Wx X (.List es pos) (eLst el) :=
  PE.weaken (pe_lst h) fun σ H Q ⟨H0, m, ow, s, ρ, cx, h⟩ => ⟨H0, m, ow, s, ρ, cx, RunE.bind h fun x s1 v H1 H1' m1 g st rr h2 => by
    have h2 : RunE X.K cl (rrL X.K cl) Wx H1 H1' m1 σ Q (if x.length ≤ 16777216 then .ok x s1 else .no) := h2
    by_cases hl : x.length ≤ 16777216
    · rw [if_pos hl] at h2
      refine ⟨size_of (by rw [RepWs.length rr]; exact hl), fun p hp => ?_⟩
      exact h2 _ _ _ _ (Go.fresh hp) (st.fresh hp) ⟨p, v, rfl, hp, upd_same, st.h0 hp, st.notM hp, rr⟩
    · rw [if_neg hl] at h2
      exact h2.elim⟩
theorem frz_tof {K : PySem.W.Frag} {σ : L2.St} {H : Hp} {Q : VK} : Tof K cl (rrW K cl) Wx (eFrz el) σ H Q → Tof K cl (rrL K cl) Wx el σ H Q :=
  fun ⟨H0, m, ow, s, ρ, cx, h⟩ => ⟨H0, m, ow, s, ρ, cx, by
    have h : RunE K cl (rrW K cl) Wx H0 H m σ Q ((el ρ s).bind frzL) := h
    cases e1 : el ρ s with
    | no => rw [e1] at h; exact h.elim
    | exc c x s' => rw [e1] at h; exact h
    | ok l s' =>
      rw [e1] at h
      have h : RunE K cl (rrW K cl) Wx H0 H m σ Q (frzL l s') := h
      unfold frzL at h
      cases e2 : allData l with
      | none => rw [e2] at h; exact h.elim
      | some ds =>
        rw [e2] at h
        intro v H0' H' m' g st ⟨p, vs, h1, h2, h3, h4, h5, h6⟩
        exact h v (upd H0' p (.lst vs)) H' m' (g.freeze cx.st h2) (st.freeze h4 h3 h5) (by
          subst h1
          exact Rep.lst upd_same ((h6.ds e2).mono (same_upd h4)))⟩
theorem je_frz (h : JL cl Wx X e el) : JE cl Wx X e (eFrz el) := PE.weaken h fun σ H Q => frz_tof
theorem je_cell (h : JL cl Wx X e el) : JE cl Wx X e (eCell el) :=
  PE.weaken h fun σ H Q ⟨H0, m, ow, s, ρ, cx, h⟩ => ⟨H0, m, ow, s, ρ, cx, by
    have h : RunE X.K cl (rrW X.K cl) Wx H0 H m σ Q ((el ρ s).bind fun l s1 => .ok (.r s1.length) (s1 ++ [.lst l])) := h
    cases e1 : el ρ s with
    | no => rw [e1] at h; exact h.elim
    | exc c x s' => rw [e1] at h; exact h
    | ok l s' =>
      rw [e1] at h
      have h : RunE X.K cl (rrW X.K cl) Wx H0 H m σ Q (.ok (.r s'.length) (s' ++ [.lst l])) := h
      intro v H0' H' m' g st ⟨p, vs, h1, h2, h3, h4, h5, h6⟩
      refine h v H0' H' (m' ++ [p]) ⟨g.s0, g.pre.trans (List.prefix_append _ _), g.fr, g.dom, g.n0, fun a ha => ?_, g.nw⟩ ⟨st.sub, by simp [st.len], ?_, fun n a c q1 q2 => ?_⟩ ?_
      · rcases List.mem_append.mp ha with ha | ha
        · exact g.nm a ha
        · rw [List.mem_singleton] at ha; subst ha; exact .inr (.inr h2)
      · rw [List.nodup_append]
        exact ⟨st.nd, by simp, fun a ha b hb => by rw [List.mem_singleton] at hb; subst hb; intro z; subst z; exact h5 ha⟩
      · by_cases hn : n < m'.length
        · rw [List.getElem?_append_left hn] at q1
          rw [List.getElem?_append_left (by rw [← st.len]; exact hn)] at q2
          obtain ⟨r1, r2⟩ := st.cell n a c q1 q2
          exact ⟨r1, r2.mono (Same.refl _) (List.prefix_append _ _) fun _ z => z⟩
        · have hn' : n = m'.length := by
            have := (List.getElem?_eq_some_iff.mp q1).1
            rw [List.length_append] at this
            simp at this
            omega
          subst hn'
          rw [List.getElem?_append_right (Nat.le_refl _)] at q1
          rw [st.len, List.getElem?_append_right (Nat.le_refl _)] at q2
          simp at q1 q2
          subst q1
          subst q2
          exact ⟨h4, vs, h3, h6.mono (Same.refl _) (List.prefix_append _ _)⟩
      · refine ⟨p, ?_, h1⟩
        rw [← st.len, List.getElem?_append_right (Nat.le_refl _)]
        simp⟩
theorem je_ix {r : R2} {f : W → W → S → Res W} (hf : IxR X r) (ho : OpS X.K cl r f) (ha : JE cl Wx X a ea) (hb : JE cl Wx X b eb) (hs : PlainIx b := by exact fun _ _ => rfl) : JE cl Wx X (.Subscript a b pos) (eBin f ea eb) :=
  PE.weaken (pe_ix hf ha hb hs) fun σ H Q h => tOp_of ho h
variable {lo hi : Option Expr} {p2 : Pos} {elo ehi : Cmp (Option Int)}
theorem jo_none : JO cl Wx X none eNoPart := PO.weaken po_none fun σ H Q ⟨H0, m, ow, s, ρ, cx, h⟩ => RunE.done (RR := rrO) h cx.st rfl
theorem jo_some (ha : JE cl Wx X a ea) : JO cl Wx X (some a) (ePart ea) := PO.weaken (po_some ha) fun σ H Q ⟨H0, m, ow, s, ρ, cx, h⟩ => ⟨H0, m, ow, s, ρ, cx, RunE.bind h fun x s1 v H1 H1' m1 g st rr h2 => by
    have h2 : RunE X.K cl rrO Wx H1 H1' m1 σ Q (match asInt x with | some i => .ok (some i) s1 | none => .no) := h2
    cases e : asInt x with
    | none => rw [e] at h2; exact h2.elim
    | some k =>
      rw [e] at h2
      exact ⟨k, asInt_ok rr e, h2.done st rfl⟩⟩
theorem je_slice {r : V → Option Int → Option Int → Hp → VK → Prop} {f : W → Option Int → Option Int → S → Res W} (hf : SlR X r) (ho : SlS X.K cl r f) (ha : JE cl Wx X a ea) (hl : JO cl Wx X lo elo) (hh : JO cl Wx X hi ehi) :
    JE cl Wx X (.Subscript a (.Slice lo hi none p2) pos) (eSl f ea elo ehi) :=
  PE.weaken (pe_slice hf ha hl hh) fun σ H Q ⟨H0, m, ow, s, ρ, cx, h⟩ => ⟨H0, m, ow, s, ρ, cx, RunE.bind h fun x s1 v H1 H1' m1 g st rr h2 => ⟨H1, m1, ow, s1, ρ, cx.go g st, RunE.bind h2 fun y s2 u H2 H2' m2 g' st' rr' h3 =>
    ⟨H2, m2, ow, s2, ρ, (cx.go g st).go g' st', RunE.bind h3 fun z s3 uz H3 H3' m3 g3 st3 r3 h4 => by
      cases rr'; cases r3
      exact ho Wx σ H3 H3' m3 s3 v y z x Q st3 (RepW.mono (g'.trans g3).s0 (g'.trans g3).pre rr) h4⟩⟩⟩
theorem tCB_of {r : List V → Hp → VK → Prop} {f : List W → S → Res W} (ho : CallS X.K cl r f) {σ : L2.St} {H : Hp} {Q : VK} (h : Tof X.K cl (rrW X.K cl) Wx (eArgs f el) σ H Q) : tCB r (Tof X.K cl (rrA X.K cl) Wx el) σ H Q := by
  obtain ⟨H0, m, ow, s, ρ, cx, h⟩ := h
  exact ⟨H0, m, ow, s, ρ, cx, RunE.bind h fun x s1 v H1 H1' m1 g st rr h2 => ho Wx σ H1 H1' m1 s1 v x Q st rr h2⟩
theorem je_callB {x : Str} {p : Pos} {id : String} {r : List V → Hp → VK → Prop} {f : List W → S → Res W} (hf : CallR X (.builtin id) r) (ho : CallS X.K cl r f) (hg : Gl X x) (hm : X.mg x = none) (hv : bootBuiltins x = some (.builtin id)) (ha : JA cl Wx X (e :: es) el)
    (h1 : x ≠ Str.ofString "__name__" := by decide) (h2 : (x == Str.ofString "__debug__") = false := by decide) (h3 : starEach (e :: es) X.env = (false, eval e X.env) :: starEach es X.env := by rfl) (h4 : ((backTo pos (starEach es X.env)).any fun x => x.fst) = false := by rfl) :
    JE cl Wx X (.Call (.Name x p) (e :: es) [] pos) (eArgs f el) := PE.weaken (pe_callB hf hg hm hv ha h1 h2 h3 h4) fun σ H Q h => tCB_of ho h
theorem je_callTy {x : Str} {p : Pos} {T : String} {r : List V → Hp → VK → Prop} {f : List W → S → Res W} (hf : CallR X (.type T) r) (ho : CallS X.K cl r f) (hg : Gl X x) (hm : X.mg x = none) (hv : bootBuiltins x = some (.type T)) (ha : JA cl Wx X (e :: es) el)
    (h1 : x ≠ Str.ofString "__name__" := by decide) (h2 : (x == Str.ofString "__debug__") = false := by decide) (h3 : starEach (e :: es) X.env = (false, eval e X.env) :: starEach es X.env := by rfl) (h4 : ((backTo pos (starEach es X.env)).any fun x => x.fst) = false := by rfl) :
    JE cl Wx X (.Call (.Name x p) (e :: es) [] pos) (eArgs f el) := PE.weaken (pe_callTy hf hg hm hv ha h1 h2 h3 h4) fun σ H Q h => tCB_of ho h
end
end TG

set_option Elab.async false
set_option linter.all false
set_option maxRecDepth 100000
set_option maxHeartbeats 2000000
namespace TG
open PySem L2 PyProof.Rows

noncomputable def fI2 (g : Int → Int → D) : W → W → S → Res W := fun x y s => match asInt x, asInt y with | some i, some j => .ok (.d (g i j)) s | _, _ => .no
noncomputable def fI2c (c : Int → Int → Bool) (g : Int → Int → D) : W → W → S → Res W := fun x y s => match asInt x, asInt y with | some i, some j => if c i j = true then .ok (.d (g i j)) s else .no | _, _ => .no
noncomputable def kMul (i j : Int) : Bool := decide (i.natAbs < 18446744073709551616 ∨ j.natAbs < 18446744073709551616)
noncomputable def kMod (i j : Int) : Bool := decide (j ≠ 0)
noncomputable def kDiv (i j : Int) : Bool := decide (j ≠ 0 ∧ j.natAbs < 1073741824)
noncomputable def kPow (i j : Int) : Bool := decide (0 ≤ j ∧ j ≤ 1000000 ∧ i.natAbs < 18446744073709551616)
noncomputable def catT (x y : List D) (s : S) : Res W := if x.length + y.length ≤ 16777216 then .ok (.d (.tup (x ++ y))) s else .no
noncomputable def catL (x y : List W) (s : S) : Res W := if x.length + y.length ≤ 16777216 then (match allData (x ++ y) with | some ds => .ok (.d (.lst ds)) s | none => .no) else .no
noncomputable def fAdd : W → W → S → Res W := fun x y s =>
  match asInt x, asInt y with
  | some i, some j => .ok (.d (.int (i + j))) s
  | _, _ => match asStr x, asStr y with
    | some i, some j => if i.length + j.length ≤ 16777216 then .ok (.d (.str (i ++ j))) s else .no
    | _, _ => match asTup x, asTup y with
      | some i, some j => catT i j s
      | _, _ => match asLst x s, asLst y s with
        | some i, some j => catL i j s
        | _, _ => .no
noncomputable def fMul : W → W → S → Res W := fun x y s =>
  match asInt x, asInt y with
  | some i, some j => if kMul i j = true then .ok (.d (.int (i * j))) s else .no
  | _, _ => match asTup x, asInt y with
    | some l, some k => if l ≠ [] ∧ 2 ≤ k ∧ k ≤ 1000 ∧ l.length ≤ 1000 then .ok (.d (.tup (List.replicate k.toNat l).flatten)) s else .no
    | _, _ => .no

section
variable {X : Cx} {K : PySem.W.Frag} {cl : Str → Option Addr}
theorem ops_I2 {g : Int → Int → D} {gv : Int → Int → V} (hg : ∀ H0 i j, Rep K cl H0 (gv i j) (g i j)) : OpS K cl (rI0 gv) (fI2 g) := fun Wx σ H0 H m s x y wx wy Q st rx ry h => by
  unfold fI2 at h
  split at h
  · rename_i i j e1 e2
    exact ⟨i, j, asInt_ok rx e1, asInt_ok ry e2, RunE.done (RR := rrW K cl) h st (hg _ _ _)⟩
  · exact h.elim
theorem ops_I2c {g : Int → Int → D} {gv : Int → Int → V} {c : Int → Int → Bool} {C : Int → Int → Prop} (hc : ∀ i j, c i j = true → C i j) (hg : ∀ H0 i j, Rep K cl H0 (gv i j) (g i j)) : OpS K cl (rI C gv) (fI2c c g) := fun Wx σ H0 H m s x y wx wy Q st rx ry h => by
  unfold fI2c at h
  split at h
  · rename_i i j e1 e2
    split at h
    · exact ⟨i, j, asInt_ok rx e1, asInt_ok ry e2, hc _ _ ‹_›, RunE.done (RR := rrW K cl) h st (hg _ _ _)⟩
    · exact h.elim
  · exact h.elim
noncomputable abbrev fSub := fI2 fun i j => .int (i - j)
noncomputable abbrev fMod := fI2c kMod fun i j => .int (i.fmod j)
noncomputable abbrev fDiv := fI2c kDiv fun i j => .int (i.fdiv j)
noncomputable abbrev fPow := fI2c kPow fun i j => .int (i ^ j.toNat)
noncomputable abbrev fLt := fI2 fun i j => .bl (decide (i < j))
noncomputable abbrev fLe := fI2 fun i j => .bl (decide (i ≤ j))
noncomputable abbrev fGt := fI2 fun i j => .bl (decide (j < i))
noncomputable abbrev fGe := fI2 fun i j => .bl (decide (j ≤ i))
theorem ops_sub : OpS K cl (rI0 fun i j => .int (i - j)) fSub := ops_I2 fun _ _ _ => .int
theorem ops_mod : OpS K cl (rI (fun _ j => j ≠ 0) fun i j => .int (i.fmod j)) fMod := ops_I2c (fun i j h => of_decide_eq_true h) fun _ _ _ => .int
theorem ops_div : OpS K cl (rI CDivN fun i j => .int (i.fdiv j)) fDiv := ops_I2c (fun i j h => by have q : j ≠ 0 ∧ j.natAbs < 1073741824 := of_decide_eq_true h; exact q) fun _ _ _ => .int
theorem ops_pow : OpS K cl (rI CPow fun i j => .int (i ^ j.toNat)) fPow := ops_I2c (fun i j h => by have q : 0 ≤ j ∧ j ≤ 1000000 ∧ i.natAbs < 18446744073709551616 := of_decide_eq_true h; exact ⟨q.1, q.2.1, by rw [show (2 : Nat) ^ 64 = 18446744073709551616 by decide]; exact q.2.2⟩) fun _ _ _ => .int
theorem ops_lt : OpS K cl (rI0 fun i j => .bl (decide (i < j))) fLt := ops_I2 fun _ _ _ => .bl
theorem ops_le : OpS K cl (rI0 fun i j => .bl (decide (i ≤ j))) fLe := ops_I2 fun _ _ _ => .bl
theorem ops_gt : OpS K cl (rI0 fun i j => .bl (decide (j < i))) fGt := ops_I2 fun _ _ _ => .bl
theorem ops_ge : OpS K cl (rI0 fun i j => .bl (decide (j ≤ i))) fGe := ops_I2 fun _ _ _ => .bl
theorem Reps.append {H0 : Hp} {vs us : List V} {l k : List D} (h : Reps K cl H0 vs l) (h' : Reps K cl H0 us k) : Reps K cl H0 (vs ++ us) (l ++ k) := by
  induction l generalizing vs with
  | nil => cases h; exact h'
  | cons a l ih => cases h with | cons h1 h2 => exact .cons h1 (ih h2)
theorem sqL_of {H : Hp} {a : Addr} {xs : List V} (h : H a = some (.lst xs)) : SqL K H a xs := .inl (.inl h)
theorem sqT_of {H : Hp} {a : Addr} {xs : List V} (h : H a = some (.tup xs)) : SqT K H a xs := .inl (.inl h)

noncomputable def rAddAll (K : PySem.W.Frag) : R2 := fun x y H Q => (rI0 (fun i j => .int (i + j)) x y H Q ∨ (∃ i j, x = .str i ∧ y = .str j ∧ i.length + j.length ≤ sizeLine ∧ Q (.str (i ++ j)) H)) ∨ rCatA K x y H Q ∨ rCat x y H Q
theorem op_addAll : OpR X (binaryOp .Add) (rAddAll X.K) := (op_add.or op_add_str).or (op_catA.or op_cat)
theorem ops_add : OpS K cl (rAddAll K) fAdd := fun Wx σ H0 H m s x y wx wy Q st rx ry h => by
  unfold fAdd at h
  split at h
  · rename_i i j e1 e2
    exact .inl (.inl ⟨i, j, asInt_ok rx e1, asInt_ok ry e2, RunE.done (RR := rrW K cl) h st .int⟩)
  split at h
  · rename_i i j e1 e2
    split at h
    · exact .inl (.inr ⟨i, j, asStr_ok rx e1, asStr_ok ry e2, size_of ‹_›, RunE.done (RR := rrW K cl) h st .str⟩)
    · exact h.elim
  split at h
  · rename_i i j e1 e2
    unfold catT at h
    split at h
    · rename_i hl
      obtain ⟨p, vs, h1, h2, h3⟩ := asTup_ok rx e1
      obtain ⟨q, us, k1, k2, k3⟩ := asTup_ok ry e2
      refine .inr (.inl ⟨p, q, vs, us, h1, k1, sqT_of (st.sub _ _ h2), sqT_of (st.sub _ _ k2), size_of (by rw [h3.length, k3.length]; exact hl), fun e => ?_, fun e e' => ?_, fun e e' l hl => ?_⟩)
      · subst e
        have : i = [] := List.eq_nil_of_length_eq_zero (by rw [← h3.length]; rfl)
        subst this
        exact RunE.done (RR := rrW K cl) h st (.tup k2 k3)
      · subst e'
        have : j = [] := List.eq_nil_of_length_eq_zero (by rw [← k3.length]; rfl)
        subst this
        rw [List.append_nil] at h
        exact RunE.done (RR := rrW K cl) h st (.tup h2 h3)
      · exact h _ _ _ _ (Go.alloc st hl) (st.alloc hl) (Rep.tup upd_same ((h3.append k3).mono (same_upd (st.h0 hl))))
    · exact h.elim
  split at h
  · rename_i i j e1 e2
    unfold catL at h
    split at h
    · rename_i hl
      split at h
      · rename_i ds e3
        obtain ⟨p, vs, h1, h2, h3⟩ := asLst_ok st rx e1
        obtain ⟨q, us, k1, k2, k3⟩ := asLst_ok st ry e2
        refine .inr (.inr ⟨p, q, vs, us, h1, k1, h2, k2, size_of (by rw [h3.length, k3.length]; exact hl), fun l hl => ?_⟩)
        exact h _ _ _ _ (Go.alloc st hl) (st.alloc hl) (Rep.lst upd_same (((h3.append k3).ds e3).mono (same_upd (st.h0 hl))))
      · exact h.elim
    · exact h.elim
  · exact h.elim
noncomputable def rMulAll (K : PySem.W.Frag) : R2 := fun x y H Q => rI CMul (fun i j => .int (i * j)) x y H Q ∨ rRepT K x y H Q
theorem op_mulAll : OpR X (binaryOp .Mult) (rMulAll X.K) := op_mul.or op_repT
theorem Reps.rep {H0 : Hp} {vs : List V} {l : List D} (h : Reps K cl H0 vs l) : ∀ k, Reps K cl H0 (List.replicate k vs).flatten (List.replicate k l).flatten
  | 0 => .nil
  | k + 1 => by
    rw [List.replicate_succ, List.replicate_succ, List.flatten_cons, List.flatten_cons]
    exact h.append (h.rep k)
theorem ops_mul : OpS K cl (rMulAll K) fMul := fun Wx σ H0 H m s x y wx wy Q st rx ry h => by
  unfold fMul at h
  split at h
  · rename_i i j e1 e2
    split at h
    · rename_i hc
      refine .inl ⟨i, j, asInt_ok rx e1, asInt_ok ry e2, ?_, RunE.done (RR := rrW K cl) h st .int⟩
      have hc := of_decide_eq_true hc
      unfold CMul
      rw [show ((2 : Int) ^ 64) = 18446744073709551616 by decide]
      omega
    · exact h.elim
  split at h
  · rename_i l k e1 e2
    split at h
    · rename_i hc
      obtain ⟨h0, h1, h2, h3⟩ := hc
      obtain ⟨p, vs, q1, q2, q3⟩ := asTup_ok rx e1
      refine .inr ⟨p, k, vs, q1, asInt_ok ry e2, sqT_of (st.sub _ _ q2), fun z => h0 ?_, h1, h2, by rw [q3.length]; exact h3, fun t ht => ?_⟩
      · subst z
        exact List.eq_nil_of_length_eq_zero (by rw [← q3.length]; rfl)
      · exact h _ _ _ _ (Go.alloc st ht) (st.alloc ht) (Rep.tup upd_same ((q3.rep _).mono (same_upd (st.h0 ht))))
    · exact h.elim
  · exact h.elim

mutual
noncomputable def D.py : D → PyData
  | .non => .none
  | .bl b => .bool b
  | .int i => .int i
  | .str x => .str x
  | .tup l => .tuple (D.pys l)
  | .lst l => .list (D.pys l)
  | .dic _ => .dict []
  | .ins _ _ => .dict []
  | .scr _ => .dict []
noncomputable def D.pys : List D → List PyData
  | [] => []
  | x :: r => D.py x :: D.pys r
end
mutual
theorem Rep.dp {H0 H : Hp} (e : Same H0 H) : ∀ {d : D} {v : V}, Rep K cl H0 v d → d.py.canLay0 = true → Dp K H v d.py
  | .non, _, h, _ => by cases h; exact .non
  | .bl b, _, h, _ => by cases h; exact .bl b
  | .int i, _, h, _ => by cases h; exact .int i
  | .str x, _, h, _ => by cases h; exact .str x
  | .tup l, _, h, c => by
    cases h with
    | tup h1 h2 =>
      unfold D.py at c ⊢
      exact .tup (sqT_of (e _ _ h1)) (Reps.dp e h2 (by rw [PyData.canLay0] at c; exact c))
  | .lst l, _, h, c => by
    cases h with
    | lst h1 h2 =>
      unfold D.py at c ⊢
      exact .lst (sqL_of (e _ _ h1)) (Reps.dp e h2 (by rw [PyData.canLay0] at c; exact c))
  | .dic l, _, h, c => by unfold D.py at c; cases c
  | .ins a l, _, h, c => by unfold D.py at c; cases c
  | .scr l, _, h, c => by unfold D.py at c; cases c
theorem Reps.dp {H0 H : Hp} (e : Same H0 H) : ∀ {l : List D} {vs : List V}, Reps K cl H0 vs l → PyData.canLayAll0 (D.pys l) = true → DpAll K H vs (D.pys l)
  | [], _, h, _ => by cases h; exact .nil
  | x :: r, _, h, c => by
    cases h with
    | cons h1 h2 =>
      unfold D.pys at c ⊢
      rw [PyData.canLayAll0, Bool.and_eq_true] at c
      exact .cons (h1.dp e c.1) (h2.dp e c.2)
end
noncomputable def eqD (a b : D) : Option Bool := if SeqAt.shaped a.py = true ∧ SeqAt.shaped b.py = true then some (PyData.eqv a.py b.py) else none
noncomputable def fEq (neg : Bool) : W → W → S → Res W := fun x y s => match asData x, asData y with
  | some a, some b => match eqD a b with | some k => .ok (.d (.bl (if neg then !k else k))) s | none => .no
  | _, _ => .no
theorem asData_ok {H0 : Hp} {m : List Addr} {v : V} {w : W} {x : D} (h : RepW K cl H0 m v w) (e : asData w = some x) : Rep K cl H0 v x := by
  cases w with
  | d y => cases e; exact h
  | r n => cases e
theorem eqD_ok {a b : D} {k : Bool} (h : eqD a b = some k) : SeqAt.shaped a.py = true ∧ SeqAt.shaped b.py = true ∧ k = PyData.eqv a.py b.py := by
  unfold eqD at h
  split at h
  · rename_i q; cases h; exact ⟨q.1, q.2, rfl⟩
  · cases h
theorem ops_eq : OpS K cl (rEqD K) (fEq false) := fun Wx σ H0 H m s x y wx wy Q st rx ry h => by
  unfold fEq at h
  split at h
  · rename_i a b e1 e2
    split at h
    · rename_i k e3
      obtain ⟨h1, h2, rfl⟩ := eqD_ok e3
      exact ⟨a.py, b.py, (asData_ok rx e1).dp st.sub (SeqAt.canLay_of_shaped h1), (asData_ok ry e2).dp st.sub (SeqAt.canLay_of_shaped h2), h1, h2, RunE.done (RR := rrW K cl) h st .bl⟩
    · exact h.elim
  · exact h.elim
theorem ops_ne : OpS K cl (rNeD K) (fEq true) := fun Wx σ H0 H m s x y wx wy Q st rx ry h => by
  unfold fEq at h
  split at h
  · rename_i a b e1 e2
    split at h
    · rename_i k e3
      obtain ⟨h1, h2, rfl⟩ := eqD_ok e3
      exact ⟨a.py, b.py, (asData_ok rx e1).dp st.sub (SeqAt.canLay_of_shaped h1), (asData_ok ry e2).dp st.sub (SeqAt.canLay_of_shaped h2), h1, h2, RunE.done (RR := rrW K cl) h st .bl⟩
    · exact h.elim
  · exact h.elim

noncomputable def flatD : D → Bool | .non => true | .bl _ => true | .int _ => true | .str _ => true | _ => false
noncomputable def eqF : D → D → Bool
  | .non, .non => true
  | .bl a, .bl b => a == b
  | .bl a, .int b => (if a then 1 else 0) == b
  | .int a, .bl b => a == (if b then 1 else 0)
  | .int a, .int b => a == b
  | .str a, .str b => a == b
  | _, _ => false
noncomputable def inD (x : D) (l : List D) : Bool := l.any fun y => eqF y x
noncomputable def keyD : D → Option Key | .int i => some (.inl i) | .str x => some (.inr x) | _ => none
noncomputable def getK {α : Type} : List (Key × α) → Key → Option α
  | [], _ => none
  | (k, v) :: r, x => if k = x then some v else getK r x
noncomputable def wK (l : List (Key × D)) : List (Key × W) := l.map fun p => (p.1, W.d p.2)
noncomputable def asDic : W → S → Option (List (Key × W))
  | .d (.dic l), _ => some (wK l)
  | .d _, _ => none
  | .r n, s => match s[n]? with | some (.dic l) => some l | _ => none
noncomputable def fIn (neg : Bool) : W → W → S → Res W := fun x y s => match asData x with
  | none => .no
  | some a => match asSeq y s with
    | some l => (match allData l with
      | some ds => if flatD a = true ∧ ds.all flatD = true then .ok (.d (.bl (if neg then !inD a ds else inD a ds))) s else .no
      | none => .no)
    | none => match asDic y s with
      | some kvs => (match keyD a with | some k => .ok (.d (.bl (if neg then !(getK kvs k).isSome else (getK kvs k).isSome))) s | none => .no)
      | none => match a, asStr y with
        | .str z, some t => .ok (.d (.bl (if neg then !!(Builtin.Str.occurrences t z 0 t.length 1).isEmpty else !(Builtin.Str.occurrences t z 0 t.length 1).isEmpty))) s
        | _, _ => .no
theorem flat_ok {H0 : Hp} {v : V} {d : D} (h : Rep K cl H0 v d) (f : flatD d = true) : flatV v = true := by
  cases h <;> first | rfl | cases f
theorem eqF_ok {H0 : Hp} {v u : V} {d e : D} (h : Rep K cl H0 v d) (h' : Rep K cl H0 u e) (f : flatD d = true) (f' : flatD e = true) : eqV v u = eqF d e := by
  cases h <;> first | (cases f; done) | (cases h' <;> first | (cases f'; done) | rfl)
theorem flats_ok {H0 : Hp} {vs : List V} {l : List D} (h : Reps K cl H0 vs l) (f : l.all flatD = true) : vs.all flatV = true := by
  induction l generalizing vs with
  | nil => cases h; rfl
  | cons a l ih =>
    cases h with
    | cons h1 h2 =>
      rw [List.all_cons, Bool.and_eq_true] at f
      rw [List.all_cons, flat_ok h1 f.1, ih h2 f.2]
      rfl
theorem in_ok {H0 : Hp} {v : V} {d : D} (hv : Rep K cl H0 v d) (fv : flatD d = true) {vs : List V} {l : List D} (h : Reps K cl H0 vs l) (f : l.all flatD = true) : inV v vs = inD d l := by
  induction l generalizing vs with
  | nil => cases h; rfl
  | cons a l ih =>
    cases h with
    | cons h1 h2 =>
      rw [List.all_cons, Bool.and_eq_true] at f
      show (eqV _ _ || inV v _) = (eqF _ _ || inD d l)
      rw [eqF_ok h1 hv f.1 fv, ih h2 f.2]
theorem key_ok {H0 : Hp} {v : V} {d : D} {k : Key} (h : Rep K cl H0 v d) (e : keyD d = some k) : v = kV k := by
  cases h <;> first | (cases e; rfl) | cases e
theorem RepK.wk {H0 : Hp} {m : List Addr} {vs : List (Key × V)} {l : List (Key × D)} (h : RepK K cl H0 vs l) : RepWK K cl H0 m vs (wK l) := by
  induction l generalizing vs with
  | nil => cases h; exact .nil
  | cons a l ih => cases h with | cons h1 h2 => exact .cons h1 (ih h2)
theorem asDic_ok {H0 H : Hp} {m : List Addr} {s : S} {v : V} {w : W} {l : List (Key × W)} (st : Stt K cl H0 H m s) (h : RepW K cl H0 m v w) (e : asDic w s = some l) : ∃ p vs, v = .ref p ∧ H p = some (.dK vs) ∧ RepWK K cl H0 m vs l := by
  unfold asDic at e
  split at e
  · cases e
    cases h
    exact ⟨_, _, rfl, st.sub _ _ ‹_›, RepK.wk ‹_›⟩
  · cases e
  · obtain ⟨a, h1, h2⟩ := h
    split at e
    · cases e
      obtain ⟨_, vs, h3, h4⟩ := st.cell _ a _ h1 ‹_›
      exact ⟨a, vs, h2, h3, h4⟩
    · cases e
theorem getK_ok {H0 : Hp} {m : List Addr} {kvs : List (Key × V)} {l : List (Key × W)} (h : RepWK K cl H0 m kvs l) (k : Key) : (∃ v x, valV kvs k = some v ∧ getK l k = some x ∧ RepW K cl H0 m v x) ∨ (valV kvs k = none ∧ getK l k = none) := by
  induction h with
  | nil => exact .inr ⟨rfl, rfl⟩
  | @cons k' v d vs ds h1 h2 ih =>
    by_cases e : k' = k
    · subst e
      exact .inl ⟨v, d, by simp [valV], by simp [getK], h1⟩
    · rcases ih with ⟨u, x, q1, q2, q3⟩ | ⟨q1, q2⟩
      · refine .inl ⟨u, x, ?_, ?_, q3⟩
        · rw [← q1]; simp [valV, e]
        · rw [← q2]; simp [getK, e]
      · refine .inr ⟨?_, ?_⟩
        · rw [← q1]; simp [valV, e]
        · rw [← q2]; simp [getK, e]
end
end TG

set_option Elab.async false
set_option linter.all false
set_option maxRecDepth 100000
set_option maxHeartbeats 2000000
namespace TG
open PySem L2 PyProof.Rows

section
variable {X : Cx} {K : PySem.W.Frag} {cl : Str → Option Addr}
noncomputable def fIx : W → W → S → Res W := fun x y s => match asSeq x s, asInt y with
  | some l, some k => (match atI l k with | some w => .ok w s | none => .no)
  | _, _ => match asStr x, asInt y with
    | some z, some k => if z.length ≤ 16777216 then (match atI z.cps.toList k with | some c => .ok (.d (.str ⟨#[c]⟩)) s | none => .no) else .no
    | _, _ => match asDic x s, y with
      | some kvs, .d a => (match keyD a with | some k => (match getK kvs k with | some w => .ok w s | none => .no) | none => .no)
      | _, _ => .no
noncomputable def rDIx : R2 := fun x y H Q => ∃ a v, x = .ref a ∧ DGet H a y (some v) ∧ Q v H
noncomputable def rIxAll (K : PySem.W.Frag) : R2 := fun x y H Q => rIx K x y H Q ∨ rDIx x y H Q
theorem ix_dict (hu : X.A.units + 1 < cLine) : IxR X rDIx := fun va sl pins s σ H x y v u Q I rx ry ⟨a, w, ex, g, q⟩ hs => by
  subst ex
  obtain rfl : v = Value.ref a := rx
  exact tail_any (dict_typeIs I g) PySem.F.slot_dict_getitem.lookup (d_getItem hu I g ry fun w' s3 I3 rw' => ⟨w, H, I3, rw', q⟩) hs
theorem ix_all (hu : X.A.units + 1 < cLine) : IxR X (rIxAll X.K) := ix_seq.or (ix_dict hu)
theorem atI_ok {H0 : Hp} {m : List Addr} {vs : List V} {l : List W} {k : Int} {w : W} (h : RepWs K cl H0 m vs l) (e : atI l k = some w) : ∃ v, atI vs k = some v ∧ RepW K cl H0 m v w := by
  unfold atI at e ⊢
  rw [h.length]
  cases q : ixN l.length k with
  | none => rw [q] at e; cases e
  | some j => rw [q] at e; exact h.get e
theorem ops_ix : OpS K cl (rIxAll K) fIx := fun Wx σ H0 H m s x y wx wy Q st rx ry h => by
  unfold fIx at h
  split at h
  · rename_i l k e1 e2
    split at h
    · rename_i w e3
      obtain ⟨p, vs, q1, q2, q3⟩ := asSeq_ok st rx e1
      obtain ⟨v, r1, r2⟩ := atI_ok q3 e3
      have d := RunE.done (RR := rrW K cl) h st r2
      rcases q2 with q2 | q2
      · exact .inl (.inl ⟨p, vs, k, v, q1, asInt_ok ry e2, sqL_of q2, r1, d⟩)
      · exact .inl (.inr (.inl ⟨p, vs, k, v, q1, asInt_ok ry e2, sqT_of q2, r1, d⟩))
    · exact h.elim
  split at h
  · rename_i z k e1 e2
    split at h
    · rename_i hl
      split at h
      · rename_i c e3
        exact .inl (.inr (.inr ⟨z, k, c, asStr_ok rx e1, asInt_ok ry e2, size_of hl, e3, RunE.done (RR := rrW K cl) h st .str⟩))
      · exact h.elim
    · exact h.elim
  split at h
  · rename_i kvs a e1 _ _
    split at h
    · rename_i k e2
      split at h
      · rename_i w e3
        obtain ⟨p, vs, q1, q2, q3⟩ := asDic_ok st rx e1
        have q := key_ok ry e2
        subst q
        rcases getK_ok q3 k with ⟨v, x, z1, z2, z3⟩ | ⟨z1, z2⟩
        · rw [z2] at e3
          cases e3
          refine .inr ⟨p, v, q1, ?_, RunE.done (RR := rrW K cl) h st z3⟩
          rw [← z1]
          exact DGet.k q2
        · rw [z2] at e3; cases e3
      · exact h.elim
    · exact h.elim
  · exact h.elim
noncomputable def cut {α : Type} (xs : List α) (lo hi : Option Int) : List α := (xs.drop (HT.sIx xs.length 0 lo)).take (HT.sIx xs.length xs.length hi - HT.sIx xs.length 0 lo)
noncomputable def asScr : W → Option (List D) | .d (.scr l) => some l | _ => none
noncomputable def fSl : W → Option Int → Option Int → S → Res W := fun x i j s => match asTup x with
  | some l => .ok (.d (.tup (cut l i j))) s
  | none => match asLst x s with
    | some l => (match allData (cut l i j) with | some ds => .ok (.d (.lst ds)) s | none => .no)
    | none => match asScr x with
      | some l => .ok (.d (.lst (cut l i j))) s
      | none => match asStr x with
        | some z => if z.length ≤ 16777216 then .ok (.d (.str (cutS z i j))) s else .no
        | none => .no
noncomputable def rSlAll (K : PySem.W.Frag) : V → Option Int → Option Int → Hp → VK → Prop := fun x i j H Q => (rSlA K x i j H Q ∨ rSlL K x i j H Q) ∨ rSlS x i j H Q
theorem sl_all : SlR X (rSlAll X.K) := (sl_tupA.or sl_list).or sl_str
theorem Reps.take {H0 : Hp} {vs : List V} {l : List D} (h : Reps K cl H0 vs l) : ∀ n, Reps K cl H0 (vs.take n) (l.take n) := by
  induction l generalizing vs with
  | nil => intro n; cases h; simpa using Reps.nil
  | cons a l ih =>
    intro n
    cases h with
    | cons h1 h2 =>
      cases n with
      | zero => exact .nil
      | succ n => exact .cons h1 (ih h2 n)
theorem Reps.drop {H0 : Hp} {vs : List V} {l : List D} (h : Reps K cl H0 vs l) : ∀ n, Reps K cl H0 (vs.drop n) (l.drop n) := by
  induction l generalizing vs with
  | nil => intro n; cases h; simpa using Reps.nil
  | cons a l ih =>
    intro n
    cases h with
    | cons h1 h2 =>
      cases n with
      | zero => exact .cons h1 h2
      | succ n => exact ih h2 n
theorem Reps.cut {H0 : Hp} {vs : List V} {l : List D} (h : Reps K cl H0 vs l) (i j : Option Int) : Reps K cl H0 (cutV vs i j) (TG.cut l i j) := by
  unfold cutV TG.cut
  rw [h.length]
  exact (h.drop _).take _
theorem RepWs.cut {H0 : Hp} {m : List Addr} {vs : List V} {l : List W} (h : RepWs K cl H0 m vs l) (i j : Option Int) : RepWs K cl H0 m (cutV vs i j) (TG.cut l i j) := by
  unfold cutV TG.cut
  rw [h.length]
  exact (h.drop _).take _
theorem cut_whole {α : Type} {xs : List α} {i j : Option Int} (h1 : HT.sIx xs.length 0 i = 0) (h2 : HT.sIx xs.length xs.length j = xs.length) : cut xs i j = xs := by
  unfold cut
  rw [h1, h2, List.drop_zero, Nat.sub_zero, List.take_length]
theorem sls_all : SlS K cl (rSlAll K) fSl := fun Wx σ H0 H m s x i j wx Q st rx h => by
  unfold fSl at h
  split at h
  · rename_i l e1
    obtain ⟨p, vs, q1, q2, q3⟩ := asTup_ok rx e1
    refine .inl (.inl ⟨p, vs, q1, sqT_of (st.sub _ _ q2), fun ⟨z1, z2⟩ => ?_, fun _ t ht => ?_⟩)
    · rw [q3.length] at z1 z2
      rw [cut_whole z1 z2] at h
      subst q1
      exact RunE.done (RR := rrW K cl) h st (.tup q2 q3)
    · exact h _ _ _ _ (Go.alloc st ht) (st.alloc ht) (Rep.tup upd_same ((q3.cut i j).mono (same_upd (st.h0 ht))))
  split at h
  · rename_i l e1
    split at h
    · rename_i ds e2
      obtain ⟨p, vs, q1, q2, q3⟩ := asLst_ok st rx e1
      refine .inl (.inr ⟨p, vs, q1, sqL_of q2, fun t ht => ?_⟩)
      exact h _ _ _ _ (Go.alloc st ht) (st.alloc ht) (Rep.lst upd_same (((q3.cut i j).ds e2).mono (same_upd (st.h0 ht))))
    · exact h.elim
  split at h
  · rename_i l e1
    cases wx with
    | r n => cases e1
    | d y =>
      cases y <;> first | (cases e1; done) | skip
      cases e1
      cases rx with
      | scr q2 q3 =>
        refine .inl (.inr ⟨_, _, rfl, same_l st.sub q2, fun t ht => ?_⟩)
        exact h _ _ _ _ (Go.alloc st ht) (st.alloc ht) (Rep.lst upd_same ((q3.cut i j).mono (same_upd (st.h0 ht))))
  split at h
  · rename_i z e1
    split at h
    · exact .inr ⟨z, asStr_ok rx e1, size_of ‹_›, RunE.done (RR := rrW K cl) h st .str⟩
    · exact h.elim
  · exact h.elim
noncomputable def fNeg : W → S → Res W := fun x s => match asInt x with | some i => .ok (.d (.int (-i))) s | none => .no
theorem uns_neg : UnS K cl (rU fun i => .int (-i)) fNeg := fun Wx σ H0 H m s x wx Q st rx h => by
  unfold fNeg at h
  split at h
  · rename_i i e; exact ⟨i, asInt_ok rx e, RunE.done (RR := rrW K cl) h st .int⟩
  · exact h.elim
noncomputable def c1 (f : W → S → Res W) : List W → S → Res W | [x], s => f x s | _, _ => .no
noncomputable def c2 (f : W → W → S → Res W) : List W → S → Res W | [x, y], s => f x y s | _, _ => .no
theorem calls1 {r : List V → Hp → VK → Prop} {f : W → S → Res W} (h : UnS K cl (fun x H Q => r [x] H Q) f) : CallS K cl r (c1 f) := fun Wx σ H0 H m s xs ws Q st rx q => by
  cases rx with
  | nil => exact q.elim
  | cons h1 h2 =>
    cases h2 with
    | nil => exact h Wx σ H0 H m s _ _ Q st h1 q
    | cons _ _ => exact q.elim
noncomputable def fLen : W → S → Res W := fun x s => match asSeq x s with
  | some l => .ok (.d (.int l.length)) s
  | none => match asStr x with
    | some z => if z.length ≤ 16777216 then .ok (.d (.int z.length)) s else .no
    | none => .no
theorem calls_len : CallS K cl (fun xs H Q => ∃ x n, xs = [x] ∧ LenV K x H n ∧ Q (V.int ↑n) H) (c1 fLen) := calls1 fun Wx σ H0 H m s x wx Q st rx h => by
  unfold fLen at h
  split at h
  · rename_i l e1
    obtain ⟨p, vs, q1, q2, q3⟩ := asSeq_ok st rx e1
    subst q1
    refine ⟨_, l.length, rfl, ?_, RunE.done (RR := rrW K cl) h st .int⟩
    rcases q2 with q2 | q2
    · exact .inl ⟨vs, sqL_of q2, q3.length.symm⟩
    · exact .inr ⟨vs, sqT_of q2, q3.length.symm⟩
  split at h
  · rename_i z e1
    split at h
    · have q := asStr_ok rx e1
      subst q
      exact ⟨_, z.length, rfl, ⟨size_of ‹_›, rfl⟩, RunE.done (RR := rrW K cl) h st .int⟩
    · exact h.elim
  · exact h.elim
noncomputable def fAbs : W → S → Res W := fun x s => match asInt x with | some i => .ok (.d (.int (if i < 0 then -i else i))) s | none => .no
noncomputable abbrev fMin2 := fI2 fun i j => .int (if j < i then j else i)
noncomputable abbrev fMax2 := fI2 fun i j => .int (if j > i then j else i)
noncomputable def asIntsL (x : W) (s : S) : Option (List Int) := (asLst x s).bind allInts
noncomputable def fMaxL : W → S → Res W := fun x s => match asIntsL x s with | some l => (match l.max? with | some i => .ok (.d (.int i)) s | none => .no) | none => .no
noncomputable def fMinL : W → S → Res W := fun x s => match asIntsL x s with | some l => (match l.min? with | some i => .ok (.d (.int i)) s | none => .no) | none => .no
noncomputable def fSum : W → S → Res W := fun x s => match asIntsL x s with | some l => .ok (.d (.int l.sum)) s | none => .no
noncomputable def fAll : W → S → Res W := fun x s => match (asLst x s).bind allBools with | some l => .ok (.d (.bl (l.all id))) s | none => .no
noncomputable def fAny : W → S → Res W := fun x s => match (asLst x s).bind allBools with | some l => .ok (.d (.bl (l.any id))) s | none => .no
theorem asBoolsL_ok {H0 H : Hp} {m : List Addr} {s : S} {v : V} {w : W} {l : List Bool} (st : Stt K cl H0 H m s) (h : RepW K cl H0 m v w) (e : (asLst w s).bind allBools = some l) : ∃ p, v = .ref p ∧ H p = some (.lst (l.map V.bl)) := by
  cases q : asLst w s with
  | none => rw [q] at e; cases e
  | some z =>
    rw [q] at e
    obtain ⟨p, vs, q1, q2, q3⟩ := asLst_ok st h q
    have := q3.bools e
    subst this
    exact ⟨p, q1, q2⟩
theorem calls_all : CallS K cl (rAll K) (c1 fAll) := calls1 fun Wx σ H0 H m s x wx Q st rx h => by
  unfold fAll at h
  split at h
  · rename_i l e
    obtain ⟨p, q1, q2⟩ := asBoolsL_ok st rx e
    exact ⟨p, l, by rw [q1], sqL_of q2, RunE.done (RR := rrW K cl) h st .bl⟩
  · exact h.elim
noncomputable def fTuple : W → S → Res W := fun x s => match asTup x with
  | some l => .ok (.d (.tup l)) s
  | none => match (asLst x s).bind allData with | some ds => .ok (.d (.tup ds)) s | none => .no
theorem asDataL_ok {H0 H : Hp} {m : List Addr} {s : S} {v : V} {w : W} {l : List D} (st : Stt K cl H0 H m s) (h : RepW K cl H0 m v w) (e : (asLst w s).bind allData = some l) : ∃ p vs, v = .ref p ∧ H p = some (.lst vs) ∧ Reps K cl H0 vs l := by
  cases q : asLst w s with
  | none => rw [q] at e; cases e
  | some z =>
    rw [q] at e
    obtain ⟨p, vs, q1, q2, q3⟩ := asLst_ok st h q
    exact ⟨p, vs, q1, q2, q3.ds e⟩
theorem calls_tuple : CallS K cl (fun xs H Q => ∃ p ys, xs = [V.ref p] ∧ ((SqL K H p ys ∧ ∀ (l : Addr), H l = none → Q (V.ref l) (upd H l (HO.tup ys))) ∨ SqT K H p ys ∧ Q (V.ref p) H)) (c1 fTuple) := calls1 fun Wx σ H0 H m s x wx Q st rx h => by
  unfold fTuple at h
  split at h
  · rename_i l e
    obtain ⟨p, vs, q1, q2, q3⟩ := asTup_ok rx e
    subst q1
    exact ⟨p, vs, rfl, .inr ⟨sqT_of (st.sub _ _ q2), RunE.done (RR := rrW K cl) h st (.tup q2 q3)⟩⟩
  split at h
  · rename_i l e
    obtain ⟨p, vs, q1, q2, q3⟩ := asDataL_ok st rx e
    refine ⟨p, vs, by rw [q1], .inl ⟨sqL_of q2, fun t ht => ?_⟩⟩
    exact h _ _ _ _ (Go.alloc st ht) (st.alloc ht) (Rep.tup upd_same (q3.mono (same_upd (st.h0 ht))))
  · exact h.elim
noncomputable def fInt : W → S → Res W := fun x s => match asInt x with
  | some i => .ok (.d (.int i)) s
  | none => match asBool x with | some b => .ok (.d (.int (if b = true then 1 else 0))) s | none => .no
noncomputable def fStr : W → S → Res W := fun x s => match asInt x with | some i => if i.natAbs.log2 < 1920 then .ok (.d (.str (Str.ofString (toString i)))) s else .no | none => .no
theorem calls_str : CallS K cl (fun xs H Q => ∃ i, xs = [V.int i] ∧ i.natAbs.log2 < 1920 ∧ Q (V.str (Str.ofString (toString i))) H) (c1 fStr) := calls1 fun Wx σ H0 H m s x wx Q st rx h => by
  unfold fStr at h
  split at h
  · rename_i i e
    split at h
    · exact ⟨i, by rw [asInt_ok rx e], ‹_›, RunE.done (RR := rrW K cl) h st .str⟩
    · exact h.elim
  · exact h.elim
theorem Reps.ints {H0 : Hp} : ∀ l : List Int, Reps K cl H0 (l.map V.int) (l.map D.int)
  | [] => .nil
  | _ :: r => .cons .int (Reps.ints r)
end
end TG

set_option Elab.async false
set_option linter.all false
set_option maxRecDepth 100000
set_option maxHeartbeats 2000000
namespace TG
open PySem L2 PyProof.Rows

inductive RV where
  | w (x : W) | own (l : List W) | ownD (l : List (Key × W))
inductive RS where
  | nx (ρ : Rho) (s : S) | ret (v : RV) (s : S) | brk (ρ : Rho) (s : S) | cnt (ρ : Rho) (s : S) | exc (c : Str) (x : Option D) (ρ : Rho) (s : S) | no
noncomputable abbrev Stm := Rho → S → RS
noncomputable def RS.bind : RS → Stm → RS
  | .nx ρ s, k => k ρ s
  | .ret v s, _ => .ret v s
  | .brk ρ s, _ => .brk ρ s
  | .cnt ρ s, _ => .cnt ρ s
  | .exc c x ρ s, _ => .exc c x ρ s
  | .no, _ => .no
noncomputable def ebS {α : Type} (r : Res α) (ρ : Rho) (k : α → Stm) : RS := match r with
  | .ok a s => k a ρ s
  | .exc c x s => .exc c x ρ s
  | .no => .no

noncomputable def retR (K : PySem.W.Frag) (cl : Str → Option Addr) (H : Hp) (ow : List Addr) (H0' H' : Hp) (m' : List Addr) (v : V) : RV → Prop
  | .w x => RepW K cl H0' m' v x
  | .own l => ∃ p vs, v = .ref p ∧ (p ∈ ow ∨ H p = none) ∧ H' p = some (.lst vs) ∧ H0' p = none ∧ p ∉ m' ∧ RepWs K cl H0' m' vs l
  | .ownD l => ∃ p vs, v = .ref p ∧ (p ∈ ow ∨ H p = none) ∧ H' p = some (.dK vs) ∧ H0' p = none ∧ p ∉ m' ∧ RepWK K cl H0' m' vs l
noncomputable def RunS (K : PySem.W.Frag) (cl : Str → Option Addr) (Wx : WX) (H0 H : Hp) (m ow : List Addr) (E : Ends) : RS → Prop
  | .nx ρ s => ∀ σ' H0' H' m' ow', Go H0 H m ow H0' H' m' ow' → Ctx K cl H0' H' m' ow' s σ' ρ → E.nx σ' H'
  | .brk ρ s => ∀ σ' H0' H' m' ow', Go H0 H m ow H0' H' m' ow' → Ctx K cl H0' H' m' ow' s σ' ρ → E.bk σ' H'
  | .cnt ρ s => ∀ σ' H0' H' m' ow', Go H0 H m ow H0' H' m' ow' → Ctx K cl H0' H' m' ow' s σ' ρ → E.ct σ' H'
  | .ret v s => ∀ u H0' H' m' ow', Go H0 H m ow H0' H' m' ow' → Stt K cl H0' H' m' s → retR K cl H ow H0' H' m' u v → E.rt u H'
  | .exc c x ρ s => ∀ cv dd σ' H0' H' m' ow', Go H0 H m ow H0' H' m' ow' → Ctx K cl H0' H' m' ow' s σ' ρ → ExcR K cl H0' H' cv dd c x → Wx cv dd σ' H'
  | .no => False
noncomputable def Sof (K : PySem.W.Frag) (cl : Str → Option Addr) (Wx : WX) (b : Stm) : TS := fun E σ H => ∃ H0 m ow s ρ, Ctx K cl H0 H m ow s σ ρ ∧ RunS K cl Wx H0 H m ow E (b ρ s)
noncomputable def JS (cl : Str → Option Addr) (Wx : WX) (X : Cx) (st : Stmt) (b : Stm) : Prop := PS X st (Sof X.K cl Wx b)
noncomputable def JB (cl : Str → Option Addr) (Wx : WX) (X : Cx) (st : List Stmt) (b : Stm) : Prop := PSs X st (Sof X.K cl Wx b)

section
variable {K : PySem.W.Frag} {cl : Str → Option Addr} {H0 H H1 H1' H0' H' : Hp} {m m1 m' ow ow1 : List Addr} {s s1 : S} {σ : L2.St} {ρ : Rho} {Wx : WX} {α β γ δ : Type} {E : Ends}
theorem RunS.shift {r : RS} (h : RunS K cl Wx H0 H m ow E r) (g : Go H0 H m ow H1 H1' m1 ow1) : RunS K cl Wx H1 H1' m1 ow1 E r := by
  cases r with
  | nx ρ s => exact fun σ' H0' H' m' ow' g' c => h _ _ _ _ _ (g.trans g') c
  | brk ρ s => exact fun σ' H0' H' m' ow' g' c => h _ _ _ _ _ (g.trans g') c
  | cnt ρ s => exact fun σ' H0' H' m' ow' g' c => h _ _ _ _ _ (g.trans g') c
  | exc c x ρ s => exact fun cv dd σ' H0' H' m' ow' g' c e => h _ _ _ _ _ _ _ (g.trans g') c e
  | no => exact h
  | ret v s =>
    intro u H0' H' m' ow' g' st r
    refine h u H0' H' m' ow' (g.trans g') st ?_
    have fr : ∀ p, (p ∈ ow1 ∨ H1' p = none) → p ∈ ow ∨ H p = none := fun p q => by
      rcases q with q | q
      · exact g.nw p q
      · exact .inr (dom_none g.dom q)
    cases v with
    | w x => exact r
    | own l => obtain ⟨p, vs, a, b, c⟩ := r; exact ⟨p, vs, a, fr p b, c⟩
    | ownD l => obtain ⟨p, vs, a, b, c⟩ := r; exact ⟨p, vs, a, fr p b, c⟩
theorem RunS.ofE {RR : RRT β α} {Q1 : β → Hp → Prop} {r : Res α} {k : α → Stm} (cx : Ctx K cl H0 H m ow s σ ρ) (h : RunS K cl Wx H0 H m ow E (ebS r ρ k))
    (q : ∀ a s1 v H1 H1' m1, GoE H0 H m H1 H1' m1 → Ctx K cl H1 H1' m1 ow s1 σ ρ → RR H H1 H1' m1 v a → RunS K cl Wx H1 H1' m1 ow E (k a ρ s1) → Q1 v H1') : RunE K cl RR Wx H0 H m σ Q1 r := by
  cases r with
  | ok a s' =>
    have h : RunS K cl Wx H0 H m ow E (k a ρ s') := h
    exact fun v H0' H' m' g st rr => q a s' v H0' H' m' g (cx.go g st) rr (h.shift g.lift)
  | exc c x s' => exact fun cv dd H0' H' m' g st e => h cv dd σ H0' H' m' ow g.lift (cx.go g st) e
  | no => exact h
theorem RunS.nxt (h : RunS K cl Wx H0 H m ow E (.nx ρ s)) (cx : Ctx K cl H0 H m ow s σ ρ) : E.nx σ H := h _ _ _ _ _ Go.refl cx
theorem RunS.seq {r : RS} {k : Stm} {N : L2.St → Hp → Prop} (h : RunS K cl Wx H0 H m ow E (r.bind k))
    (q : ∀ ρ s σ' H0' H' m' ow', Go H0 H m ow H0' H' m' ow' → Ctx K cl H0' H' m' ow' s σ' ρ → RunS K cl Wx H0' H' m' ow' E (k ρ s) → N σ' H') : RunS K cl Wx H0 H m ow { E with nx := N } r := by
  cases r with
  | nx ρ s =>
    have h : RunS K cl Wx H0 H m ow E (k ρ s) := h
    exact fun σ' H0' H' m' ow' g c => q ρ s σ' H0' H' m' ow' g c (h.shift g)
  | brk ρ s => exact h
  | cnt ρ s => exact h
  | exc c x ρ s => exact h
  | ret v s => exact h
  | no => exact h

theorem EnvR.setW (e : EnvR K cl H0 H m ow σ ρ) {v : V} {x : W} (r : RepW K cl H0 m v x) (i : Nat) : EnvR K cl H0 H m ow (σ.set i (some v)) (ρ.set i (.w x)) := by
  refine ⟨by simp [e.len], fun j y h => ?_, fun j k y z p h1 h2 h3 h4 h5 h6 => ?_, e.owns⟩
  · by_cases hj : i = j
    · subst hj
      have hl : i < ρ.length := by
        have := (List.getElem?_eq_some_iff.mp h).1
        simpa using this
      rw [List.getElem?_set_self hl] at h
      cases h
      rw [List.getElem?_set_self (by rw [e.len]; exact hl)]
      exact ⟨v, rfl, r⟩
    · rw [List.getElem?_set_ne hj] at h
      rw [List.getElem?_set_ne hj]
      exact e.slot j y h
  · have nj : i ≠ j := fun z => by
      subst z
      have hl : i < ρ.length := by
        have := (List.getElem?_eq_some_iff.mp h1).1
        simpa using this
      rw [List.getElem?_set_self hl] at h1
      cases h1; cases h3
    have nk : i ≠ k := fun z => by
      subst z
      have hl : i < ρ.length := by
        have := (List.getElem?_eq_some_iff.mp h2).1
        simpa using this
      rw [List.getElem?_set_self hl] at h2
      cases h2; cases h4
    rw [List.getElem?_set_ne nj] at h1 h5
    rw [List.getElem?_set_ne nk] at h2 h6
    exact e.apart j k y z p h1 h2 h3 h4 h5 h6
theorem Ctx.setW (c : Ctx K cl H0 H m ow s σ ρ) {v : V} {x : W} (r : RepW K cl H0 m v x) (i : Nat) : Ctx K cl H0 H m ow s (σ.set i (some v)) (ρ.set i (.w x)) := ⟨c.st, c.en.setW r i⟩
theorem EnvR.setOwn (e : EnvR K cl H0 H m ow σ ρ) {p : Addr} {x : EV} (hx : x.isOwn = true) (hp : H p ≠ none) (h0 : H0 p = none) (hm : p ∉ m) (hf : p ∉ ow) (i : Nat) (r : SlotR K cl H0 H m (p :: ow) (some (some (.ref p))) x) :
    EnvR K cl H0 H m (p :: ow) (σ.set i (some (.ref p))) (ρ.set i x) := by
  have more : ∀ {v : Option (Option V)} {y : EV}, SlotR K cl H0 H m ow v y → SlotR K cl H0 H m (p :: ow) v y := fun {v y} h => by
    cases y with
    | no => trivial
    | w x => exact h
    | own l => obtain ⟨p, vs, a, b, c⟩ := h; exact ⟨p, vs, a, List.mem_cons_of_mem _ b, c⟩
    | ownD l => obtain ⟨p, vs, a, b, c⟩ := h; exact ⟨p, vs, a, List.mem_cons_of_mem _ b, c⟩
    | ownI n l => obtain ⟨p, C, dx, fs, a, b, c⟩ := h; exact ⟨p, C, dx, fs, a, List.mem_cons_of_mem _ b, c⟩
  have inow : ∀ {v : Option (Option V)} {y : EV} {q : Addr}, SlotR K cl H0 H m ow v y → y.isOwn = true → v = some (some (.ref q)) → q ∈ ow := fun {v y q} h hy hv => by
    cases y with
    | no => cases hy
    | w x => cases hy
    | own l => obtain ⟨p, vs, a, b, c⟩ := h; rw [a] at hv; cases hv; exact b
    | ownD l => obtain ⟨p, vs, a, b, c⟩ := h; rw [a] at hv; cases hv; exact b
    | ownI n l => obtain ⟨p, C, dx, fs, a, b, c⟩ := h; rw [a] at hv; cases hv; exact b
  have inr : ∀ {j : Nat} {y : EV}, (ρ.set i x)[j]? = some y → i = j → i < ρ.length ∧ y = x := fun {j y} h hj => by
    subst hj
    have hl : i < ρ.length := by
      have := (List.getElem?_eq_some_iff.mp h).1
      simpa using this
    rw [List.getElem?_set_self hl] at h
    cases h
    exact ⟨hl, rfl⟩
  refine ⟨by simp [e.len], fun j y h => ?_, fun j k y z q h1 h2 h3 h4 h5 h6 => ?_, fun q hq => ?_⟩
  · by_cases hj : i = j
    · obtain ⟨hl, rfl⟩ := inr h hj
      subst hj
      rw [List.getElem?_set_self (by rw [e.len]; exact hl)]
      exact r
    · rw [List.getElem?_set_ne hj] at h ⊢
      exact more (e.slot j y h)
  · by_cases hj : i = j <;> by_cases hk : i = k
    · omega
    · obtain ⟨hl, rfl⟩ := inr h1 hj
      subst hj
      rw [List.getElem?_set_self (by rw [e.len]; exact hl)] at h5
      cases h5
      rw [List.getElem?_set_ne hk] at h2 h6
      exact absurd (inow (e.slot k z h2) h4 h6) hf
    · obtain ⟨hl, rfl⟩ := inr h2 hk
      subst hk
      rw [List.getElem?_set_self (by rw [e.len]; exact hl)] at h6
      cases h6
      rw [List.getElem?_set_ne hj] at h1 h5
      exact absurd (inow (e.slot j y h1) h3 h5) hf
    · rw [List.getElem?_set_ne hj] at h1 h5
      rw [List.getElem?_set_ne hk] at h2 h6
      exact e.apart j k y z q h1 h2 h3 h4 h5 h6
  · rcases List.mem_cons.mp hq with rfl | hq
    · exact ⟨hp, h0, hm⟩
    · exact e.owns q hq
theorem SlotR.upd {v : Option (Option V)} {y : EV} {p : Addr} {o : HO} (h : SlotR K cl H0 H m ow v y) (k : y.isOwn = true → v ≠ some (some (.ref p))) : SlotR K cl H0 (upd H p o) m ow v y := by
  cases y with
  | no => trivial
  | w x => exact h
  | own l => obtain ⟨q, vs, a, b, c, d⟩ := h; exact ⟨q, vs, a, b, by rw [upd_ne (fun z => k rfl (by rw [a, z]))]; exact c, d⟩
  | ownD l => obtain ⟨q, vs, a, b, c, d⟩ := h; exact ⟨q, vs, a, b, by rw [upd_ne (fun z => k rfl (by rw [a, z]))]; exact c, d⟩
  | ownI n l => obtain ⟨q, C, dx, fs, a, b, c, d⟩ := h; exact ⟨q, C, dx, fs, a, b, by rw [upd_ne (fun z => k rfl (by rw [a, z]))]; exact c, d⟩
theorem Stt.updOwn (st : Stt K cl H0 H m s) {p : Addr} {o : HO} (h0 : H0 p = none) (hm : p ∉ m) : Stt K cl H0 (upd H p o) m s := by
  refine ⟨fun b x e => ?_, st.len, st.nd, fun n a c h1 h2 => ?_⟩
  · have : b ≠ p := fun z => by subst z; rw [h0] at e; cases e
    rw [upd_ne this]; exact st.sub _ _ e
  · obtain ⟨q1, q2⟩ := st.cell n a c h1 h2
    have ne : a ≠ p := fun z => hm (z ▸ List.mem_of_getElem? h1)
    exact ⟨q1, q2.mono (Same.refl _) List.prefix_rfl fun o z => by rw [upd_ne ne]; exact z⟩
theorem Go.updOwn {p : Addr} {o : HO} (hp : p ∈ ow) : Go H0 H m ow H0 (upd H p o) m ow :=
  ⟨Same.refl _, List.prefix_rfl, fun a x h _ h2 => by
    have : a ≠ p := fun z => h2 (z ▸ hp)
    rw [upd_ne this]; exact h, fun a h => by
    unfold upd; split
    · simp
    · exact h, fun _ _ _ _ h => h, fun _ h => .inl h, fun _ h => .inl h⟩
theorem Ctx.updOwn (c : Ctx K cl H0 H m ow s σ ρ) {p : Addr} {o : HO} {i : Nat} {y x : EV} (hi : ρ[i]? = some y) (hy : y.isOwn = true) (hv : σ[i]? = some (some (.ref p))) (hp : p ∈ ow) (hx : x.isOwn = true) (r : SlotR K cl H0 (upd H p o) m ow (some (some (.ref p))) x) :
    Ctx K cl H0 (upd H p o) m ow s σ (ρ.set i x) := by
  obtain ⟨o1, o2, o3⟩ := c.en.owns p hp
  have hl : i < ρ.length := (List.getElem?_eq_some_iff.mp hi).1
  refine ⟨c.st.updOwn o2 o3, by simp [c.en.len], fun j z h => ?_, fun j k z z' q h1 h2 h3 h4 h5 h6 => ?_, fun q hq => ?_⟩
  · by_cases hj : i = j
    · subst hj
      rw [List.getElem?_set_self hl] at h
      cases h
      rw [hv]
      exact r
    · rw [List.getElem?_set_ne hj] at h
      exact (c.en.slot j z h).upd fun hz e => hj (c.en.apart i j y z p hi h hy hz hv e)
  · have g : ∀ {j : Nat} {z : EV}, (ρ.set i x)[j]? = some z → z.isOwn = true → ∃ z', ρ[j]? = some z' ∧ z'.isOwn = true := fun {j z} h hz => by
      by_cases hj : i = j
      · subst hj; exact ⟨y, hi, hy⟩
      · rw [List.getElem?_set_ne hj] at h; exact ⟨z, h, hz⟩
    obtain ⟨a, a1, a2⟩ := g h1 h3
    obtain ⟨b, b1, b2⟩ := g h2 h4
    exact c.en.apart j k a b q a1 b1 a2 b2 h5 h6
  · obtain ⟨q1, q2, q3⟩ := c.en.owns q hq
    refine ⟨?_, q2, q3⟩
    unfold L2.upd
    split
    · simp
    · exact q1
end

noncomputable def sNext : Stm := fun ρ s => .nx ρ s
noncomputable def sSeq (a b : Stm) : Stm := fun ρ s => (a ρ s).bind b
noncomputable def sExpr (e : Cmp W) : Stm := fun ρ s => ebS (e ρ s) ρ fun _ ρ s => .nx ρ s
noncomputable def sSet (i : Nat) (e : Cmp W) : Stm := fun ρ s => ebS (e ρ s) ρ fun x ρ s => .nx (ρ.set i (.w x)) s
noncomputable def sSetO (i : Nat) (e : Cmp (List W)) : Stm := fun ρ s => ebS (e ρ s) ρ fun x ρ s => .nx (ρ.set i (.own x)) s
noncomputable def sSetD (i : Nat) (e : Cmp (List (Key × W))) : Stm := fun ρ s => ebS (e ρ s) ρ fun x ρ s => .nx (ρ.set i (.ownD x)) s
noncomputable def sIf (t : Cmp Bool) (a b : Stm) : Stm := fun ρ s => ebS (t ρ s) ρ fun x ρ s => if x = true then a ρ s else b ρ s
noncomputable def sRet (e : Cmp W) : Stm := fun ρ s => ebS (e ρ s) ρ fun x _ s => .ret (.w x) s
noncomputable def sRetL (e : Cmp (List W)) : Stm := fun ρ s => ebS (e ρ s) ρ fun x _ s => .ret (.own x) s
noncomputable def sRetN : Stm := fun _ s => .ret (.w (.d .non)) s
noncomputable def sRetO (i : Nat) : Stm := fun ρ s => match ρ[i]? with | some (.own l) => .ret (.own l) s | some (.ownD l) => .ret (.ownD l) s | _ => .no
noncomputable def sBreak : Stm := fun ρ s => .brk ρ s
noncomputable def sApp (i : Nat) (e : Cmp W) : Stm := fun ρ s => match ρ[i]? with
  | some (.own l) => ebS (e ρ s) ρ fun x ρ s => if l.length < 16777216 then .nx (ρ.set i (.own (l ++ [x]))) s else .no
  | _ => .no
noncomputable def sFrz (i : Nat) (b : Stm) : Stm := fun ρ s => match ρ[i]? with
  | some (.own l) => (match allData l with | some ds => b (ρ.set i (.w (.d (.lst ds)))) s | none => .no)
  | _ => .no
noncomputable abbrev Tgt := W → Rho → Option Rho
noncomputable def tgName (i : Nat) : Tgt := fun x ρ => some (ρ.set i (.w x))
noncomputable def tgNil : List W → Rho → Option Rho | [], ρ => some ρ | _ :: _, _ => none
noncomputable def tgCons (t : Tgt) (u : List W → Rho → Option Rho) : List W → Rho → Option Rho | x :: r, ρ => (t x ρ).bind (u r) | [], _ => none
noncomputable def tgTup (n : Nat) (u : List W → Rho → Option Rho) : Tgt := fun x ρ => match asTup x with | some l => if l.length = n then u (wD l) ρ else none | none => none
noncomputable def sSetT (t : Tgt) (e : Cmp W) : Stm := fun ρ s => ebS (e ρ s) ρ fun x ρ s => match t x ρ with | some ρ' => .nx ρ' s | none => .no
noncomputable def forK (k : Stm) : RS → RS
  | .nx ρ s => k ρ s
  | .cnt ρ s => k ρ s
  | .brk ρ s => .nx ρ s
  | .ret v s => .ret v s
  | .exc c x ρ s => .exc c x ρ s
  | .no => .no
noncomputable def forE (t : Tgt) (b : Stm) : List W → Stm
  | [], ρ, s => .nx ρ s
  | x :: r, ρ, s => match t x ρ with
    | none => .no
    | some ρ1 => forK (forE t b r) (b ρ1 s)
noncomputable def sFor (c : Cmp (List W)) (t : Tgt) (b : Stm) : Stm := fun ρ s => ebS (c ρ s) ρ fun l ρ s => forE t b l ρ s

structure XOk (X : Cx) (Wx : WX) : Prop where
  tk : Takes X Wx
  po : PassesOwn (model X.prog X.w) X.A X.env X.xe
  nd : X.N.Nodup

noncomputable def Gof (K : PySem.W.Frag) (cl : Str → Option Addr) (t : Tgt) (sl : List Nat) : TG := fun v σ H Q => ∃ H0 m ow s ρ w ρ', Ctx K cl H0 H m ow s σ ρ ∧ RepW K cl H0 m v w ∧ t w ρ = some ρ' ∧
  ∀ σ', Ctx K cl H0 H m ow s σ' ρ' → σ'.length = σ.length → (∀ j, j ∉ sl → σ'[j]? = σ[j]?) → Q σ' H
noncomputable def Gsof (K : PySem.W.Frag) (cl : Str → Option Addr) (t : List W → Rho → Option Rho) (sl : List Nat) : TGs := fun v σ H Q => ∃ H0 m ow s ρ w ρ', Ctx K cl H0 H m ow s σ ρ ∧ RepWs K cl H0 m v w ∧ t w ρ = some ρ' ∧
  ∀ σ', Ctx K cl H0 H m ow s σ' ρ' → σ'.length = σ.length → (∀ j, j ∉ sl → σ'[j]? = σ[j]?) → Q σ' H
noncomputable def JG (cl : Str → Option Addr) (X : Cx) (tg : Expr) (t : Tgt) (sl : List Nat) : Prop := PG X tg (Gof X.K cl t sl)
noncomputable def JGs (cl : Str → Option Addr) (X : Cx) (tg : List Expr) (t : List W → Rho → Option Rho) (sl : List Nat) : Prop := PGs X tg (Gsof X.K cl t sl)
theorem PG.weaken {X : Cx} {e : Expr} {t t' : TG} (h : PG X e t) (w : ∀ v σ H Q, t' v σ H Q → t v σ H Q) : PG X e t' := ⟨fun pins s σ H v u Q I r q => h.run pins s σ H v u Q I r (w v σ H Q q)⟩
theorem PGs.weaken {X : Cx} {e : List Expr} {t t' : TGs} (h : PGs X e t) (w : ∀ v σ H Q, t' v σ H Q → t v σ H Q) : PGs X e t' := ⟨fun pins s σ H v u Q I r q => h.run pins s σ H v u Q I r (w v σ H Q q)⟩
section
variable {X : Cx} {cl : Str → Option Addr} {Wx : WX} {e c : Expr} {es : List Expr} {st : Stmt} {sts sts' : List Stmt} {pos : Pos} {ea : Cmp W} {el : Cmp (List W)} {ed : Cmp (List (Key × W))} {et : Cmp Bool} {a b : Stm} {t : Tgt} {u : List W → Rho → Option Rho} {sl sl' : List Nat}
theorem jg_name (i : Nat) {x : Str} (nd : X.N.Nodup) (hN : X.N[i]? = some x := by rfl) (hl : L2.Loc X.env.scope x := by first | exact Or.inl rfl | exact Or.inr rfl) (hf : X.fn x = true ∨ List.lookup x X.env.scope.names = some NameKind.local := by first | exact Or.inl rfl | exact Or.inr rfl) :
    JG cl X (.Name x pos) (tgName i) [i] := PG.weaken (pg_name nd hN hl hf) fun v σ H Q ⟨H0, m, ow, s, ρ, w, ρ', cx, r, q, k⟩ => by
  cases q
  exact k _ (cx.setW r i) (List.length_set ..) fun j hj => by rw [List.getElem?_set_ne (fun z => hj (by rw [z]; exact List.mem_singleton.mpr rfl))]
theorem jgs_nil : JGs cl X [] tgNil [] := PGs.weaken pgs_nil fun v σ H Q ⟨H0, m, ow, s, ρ, w, ρ', cx, r, q, k⟩ => by
  cases r with
  | nil => cases q; exact ⟨rfl, k σ cx rfl fun _ _ => rfl⟩
  | cons _ _ => cases q
theorem jgs_cons (h : JG cl X e t sl) (h' : JGs cl X es u sl') (hs : List.map (fun x => x.snd) (assignEach (e :: es) X.env) = assign e X.env :: List.map (fun x => x.snd) (assignEach es X.env) := by rfl) : JGs cl X (e :: es) (tgCons t u) (sl ++ sl') :=
  PGs.weaken (pgs_cons h h' hs) fun v σ H Q ⟨H0, m, ow, s, ρ, w, ρ', cx, r, q, k⟩ => by
    cases r with
    | nil => cases q
    | @cons v x vs xs r1 r2 =>
      have q : (t x ρ).bind (u xs) = some ρ' := q
      cases q1 : t x ρ with
      | none => rw [q1] at q; cases q
      | some ρ1 =>
        rw [q1] at q
        refine ⟨v, vs, rfl, H0, m, ow, s, ρ, x, ρ1, cx, r1, q1, fun σ1 c1 l1 k1 => ⟨H0, m, ow, s, ρ1, xs, ρ', c1, r2, q, fun σ2 c2 l2 k2 => k σ2 c2 (l2.trans l1) fun j hj => ?_⟩⟩
        rw [List.mem_append, not_or] at hj
        rw [k2 j hj.2, k1 j hj.1]
theorem jg_tup {kk : Nat} (n : Nat) (hc : X.calm = true) (h : JGs cl X es u sl) (h1 : (assignEach es X.env).length = n := by rfl) (h2 : List.findIdx? (fun x => x.fst) (assignEach es X.env) = none := by rfl) : JG cl X (.Tuple es kk pos) (tgTup n u) sl :=
  PG.weaken (pg_tup hc h h1 h2) fun v σ H Q ⟨H0, m, ow, s, ρ, w, ρ', cx, r, q, k⟩ => by
    unfold tgTup at q
    cases q1 : asTup w with
    | none => rw [q1] at q; cases q
    | some l =>
      rw [q1] at q
      have q : (if l.length = n then u (wD l) ρ else none) = some ρ' := q
      by_cases hl : l.length = n
      · rw [if_pos hl] at q
        obtain ⟨p, vs, e1, e2, e3⟩ := asTup_ok r q1
        exact ⟨p, vs, e1, sqT_of (cx.st.sub _ _ e2), by rw [e3.length]; exact hl, H0, m, ow, s, ρ, wD l, ρ', cx, e3.ws, q, k⟩
      · rw [if_neg hl] at q; cases q

theorem jb_nil : JB cl Wx X [] sNext := PSs.weaken pss_nil fun E σ H ⟨H0, m, ow, s, ρ, cx, h⟩ => RunS.nxt h cx
theorem jb_cons (h : JS cl Wx X st a) (h' : JB cl Wx X sts b) : JB cl Wx X (st :: sts) (sSeq a b) :=
  PSs.weaken (pss_cons h h') fun E σ H ⟨H0, m, ow, s, ρ, cx, h⟩ => ⟨H0, m, ow, s, ρ, cx, RunS.seq h fun ρ' s' σ' H0' H' m' ow' g c h2 => ⟨H0', m', ow', s', ρ', c, h2⟩⟩
theorem jb_one (h : JS cl Wx X st a) : JB cl Wx X [st] a :=
  PSs.weaken (pss_cons h pss_nil) fun E σ H ⟨H0, m, ow, s, ρ, cx, h⟩ => ⟨H0, m, ow, s, ρ, cx, h⟩
theorem js_set (i : Nat) {x : Str} {pos' : Pos} (nd : X.N.Nodup) (h : JE cl Wx X e ea) (hN : X.N[i]? = some x := by rfl) (hl : L2.Loc X.env.scope x := by first | exact Or.inl rfl | exact Or.inr rfl)
    (hs : swapsWith e (some (.Name x pos')) pos.line X.env = pure false := by rfl) (hf : X.fn x = true ∨ List.lookup x X.env.scope.names = some NameKind.local := by first | exact Or.inl rfl | exact Or.inr rfl) :
    JS cl Wx X (.Assign [.Name x pos'] e pos) (sSet i ea) :=
  PS.weaken (ps_set nd hN hl h hs hf) fun E σ H ⟨H0, m, ow, s, ρ, cx, h⟩ => ⟨H0, m, ow, s, ρ, cx, RunS.ofE cx h fun x s1 v H1 H1' m1 g c rr h2 => RunS.nxt h2 (c.setW rr i)⟩
theorem ctx_own {K : PySem.W.Frag} {H0 H H1 H1' : Hp} {m m1 ow : List Addr} {s s1 : S} {σ : L2.St} {ρ : Rho} {p : Addr} {x : EV} (cx : Ctx K cl H0 H m ow s σ ρ) (c : Ctx K cl H1 H1' m1 ow s1 σ ρ) (hx : x.isOwn = true) (hn : H p = none) (h1 : H1' p ≠ none) (h0 : H1 p = none) (hm : p ∉ m1) (i : Nat)
    (r : SlotR K cl H1 H1' m1 (p :: ow) (some (some (.ref p))) x) : Ctx K cl H1 H1' m1 (p :: ow) s1 (σ.set i (some (.ref p))) (ρ.set i x) :=
  ⟨c.st, c.en.setOwn hx h1 h0 hm (fun z => (cx.en.owns p z).1 hn) i r⟩
theorem go_own {H0 H H1 H1' : Hp} {m m1 ow : List Addr} {p : Addr} (g : GoE H0 H m H1 H1' m1) (hn : H p = none) : Go H0 H m ow H1 H1' m1 (p :: ow) :=
  ⟨g.s0, g.pre, fun a o h h1 _ => g.fr a o h h1 (by simp), g.dom, fun a h h1 _ h3 => g.n0 a h h1 (by simp) h3, fun a h => by
    rcases g.nm a h with q | q | q
    · exact .inl q
    · cases q
    · exact .inr (.inr q), fun a h => by
    rcases List.mem_cons.mp h with rfl | h
    · exact .inr hn
    · exact .inl h⟩
theorem asg_own {t : TE} {i : Nat} {σ : L2.St} {H : Hp} {E : Ends} (ht : t = Tof X.K cl (rrL X.K cl) Wx el) (h : Sof X.K cl Wx (sSetO i el) E σ H) : tAsg t (gName i) E σ H := by
  subst ht
  obtain ⟨H0, m, ow, s, ρ, cx, h⟩ := h
  refine ⟨H0, m, ow, s, ρ, cx, ?_⟩
  have h : RunS X.K cl Wx H0 H m ow E (ebS (el ρ s) ρ fun x ρ s => .nx (ρ.set i (.own x)) s) := h
  cases e1 : el ρ s with
  | no => rw [e1] at h; exact h
  | exc c x s' =>
    rw [e1] at h
    exact fun cv dd H0' H' m' g st e => h cv dd σ H0' H' m' ow g.lift (cx.go g st) e
  | ok l s' =>
    rw [e1] at h
    intro v H0' H' m' g st ⟨p, vs, h1, h2, h3, h4, h5, h6⟩
    subst h1
    exact h _ _ _ _ _ (go_own g h2) (ctx_own cx (cx.go g st) rfl h2 (by rw [h3]; simp) h4 h5 i ⟨p, vs, rfl, List.mem_cons_self, h3, h6⟩)
theorem js_setT {tg : Expr} (hg : JG cl X tg t sl) (h : JE cl Wx X e ea) (h1 : swapsWithSole [tg] e pos.line X.env = pure false := by rfl) (h2 : swappedStores [tg] e X.env = pure none := by rfl) (h3 : List.map (fun x => x.snd) (assignEach [tg] X.env) = [assign tg X.env] := by rfl) :
    JS cl Wx X (.Assign [tg] e pos) (sSetT t ea) :=
  PS.weaken (ps_asg h hg h1 h2 h3) fun E σ H ⟨H0, m, ow, s, ρ, cx, h⟩ => ⟨H0, m, ow, s, ρ, cx, RunS.ofE cx h fun x s1 v H1 H1' m1 g c rr h2 => by
    have h2 : RunS X.K cl Wx H1 H1' m1 ow E (match t x ρ with | some ρ' => .nx ρ' s1 | none => .no) := h2
    cases q : t x ρ with
    | none => rw [q] at h2; exact h2.elim
    | some ρ' =>
      rw [q] at h2
      exact ⟨H1, m1, ow, s1, ρ, x, ρ', c, rr, q, fun σ' c' _ _ => RunS.nxt h2 c'⟩⟩
theorem js_if (ht : JT cl Wx X c et) (ha : JB cl Wx X sts a) (hb : JB cl Wx X sts' b) : JS cl Wx X (.If c sts sts' pos) (sIf et a b) :=
  PS.weaken (ps_if ht ha hb) fun E σ H ⟨H0, m, ow, s, ρ, cx, h⟩ => ⟨H0, m, ow, s, ρ, cx, RunS.ofE cx h fun x s1 v H1 H1' m1 g c rr h2 => by
    have rr : v = x := rr
    subst rr
    cases v with
    | true => exact iteT ⟨H1, m1, ow, s1, ρ, c, h2⟩
    | false => exact iteF ⟨H1, m1, ow, s1, ρ, c, h2⟩⟩
theorem js_ret (h : JE cl Wx X e ea) : JS cl Wx X (.Return (some e) pos) (sRet ea) :=
  PS.weaken (ps_ret h) fun E σ H ⟨H0, m, ow, s, ρ, cx, h⟩ => ⟨H0, m, ow, s, ρ, cx, RunS.ofE cx h fun x s1 v H1 H1' m1 g c rr h2 => h2 _ _ _ _ _ Go.refl c.st rr⟩
theorem js_retL (h : JL cl Wx X e el) : JS cl Wx X (.Return (some e) pos) (sRetL el) :=
  PS.weaken (ps_ret h) fun E σ H ⟨H0, m, ow, s, ρ, cx, h⟩ => ⟨H0, m, ow, s, ρ, cx, by
    have h : RunS X.K cl Wx H0 H m ow E (ebS (el ρ s) ρ fun x _ s => .ret (.own x) s) := h
    cases e1 : el ρ s with
    | no => rw [e1] at h; exact h
    | exc c x s' =>
      rw [e1] at h
      exact fun cv dd H0' H' m' g st e => h cv dd σ H0' H' m' ow g.lift (cx.go g st) e
    | ok l s' =>
      rw [e1] at h
      intro v H0' H' m' g st ⟨p, vs, h1, h2, h3⟩
      exact h v H0' H' m' ow g.lift st ⟨p, vs, h1, .inr h2, h3⟩⟩
theorem js_retO (i : Nat) {x : Str} {pos' : Pos} (hN : X.N[i]? = some x := by rfl) (hv : Vis X.env.scope x := by first | exact Or.inl rfl | exact Or.inr (Or.inl rfl) | exact Or.inr (Or.inr rfl)) (hd : (x == ("__debug__" : Str)) = false := by decide)
    (hcd : (x == ("__classdict__" : Str)) = false := by decide) : JS cl Wx X (.Return (some (.Name x pos')) pos) (sRetO i) :=
  PS.weaken (ps_ret (pe_var hN hv hd hcd)) fun E σ H ⟨H0, m, ow, s, ρ, cx, h⟩ => by
    unfold sRetO at h
    split at h
    · rename_i l e
      obtain ⟨p, vs, h1, h2, h3, h4⟩ := cx.en.slot i _ e
      obtain ⟨o1, o2, o3⟩ := cx.en.owns p h2
      exact ⟨.ref p, h1, h _ _ _ _ _ Go.refl cx.st ⟨p, vs, rfl, .inl h2, h3, o2, o3, h4⟩⟩
    · rename_i l e
      obtain ⟨p, vs, h1, h2, h3, h4⟩ := cx.en.slot i _ e
      obtain ⟨o1, o2, o3⟩ := cx.en.owns p h2
      exact ⟨.ref p, h1, h _ _ _ _ _ Go.refl cx.st ⟨p, vs, rfl, .inl h2, h3, o2, o3, h4⟩⟩
    · exact h.elim
theorem size_lt {n : Nat} (h : n < 16777216) : n < sizeLine := by rw [sizeLine_eq]; exact h
end
end TG

set_option Elab.async false
set_option linter.all false
set_option maxRecDepth 100000
set_option maxHeartbeats 2000000
namespace TG
open PySem L2 PyProof.Rows

structure Walks (K : PySem.W.Frag) (cl : Str → Option Addr) (J : It) (l : List W) (Ha : Hp) (ma : List Addr) : Prop where
  stop : ∀ (i : Nat) H0 H m s, Same Ha H0 → ma <+: m → Stt K cl H0 H m s → l.length ≤ i → J.stop i H
  go : ∀ (i : Nat) H0 H m s, Same Ha H0 → ma <+: m → Stt K cl H0 H m s → i < l.length → J.go i H
  yld : ∀ (i : Nat) H0 H m s x H', Same Ha H0 → ma <+: m → Stt K cl H0 H m s → i < l.length → J.yld i H x H' → ∃ H0', GoE H0 H m H0' H' m ∧ Stt K cl H0' H' m s ∧ ∃ w, l[i]? = some w ∧ RepW K cl H0' m x w
noncomputable def rrI (K : PySem.W.Frag) (cl : Str → Option Addr) : RRT It (List W) := fun _ H0 _ m J l => Walks K cl J l H0 m
instance {K cl} : Early (rrI K cl) := ⟨fun _ h => h⟩
noncomputable def JI (cl : Str → Option Addr) (Wx : WX) (X : Cx) (tg it : Expr) (c : Cmp (List W)) : Prop := PI X tg it (Tof X.K cl (rrI X.K cl) Wx c)
theorem PI.weaken {X : Cx} {tg it : Expr} {w w' : TI} (h : PI X tg it w) (q : ∀ σ H R, w' σ H R → w σ H R) : PI X tg it w' := ⟨fun pins s σ H R I z => h.run pins s σ H R I (q σ H R z)⟩
theorem PI.or {X : Cx} {tg it : Expr} {w w' : TI} (h : PI X tg it w) (h' : PI X tg it w') : PI X tg it (fun σ H R => w σ H R ∨ w' σ H R) := ⟨fun pins s σ H R I z => by
  rcases z with z | z
  · exact h.run pins s σ H R I z
  · exact h'.run pins s σ H R I z⟩
noncomputable def seqD : W → Option (List D) | .d (.lst l) => some l | .d (.tup l) => some l | _ => none
noncomputable def eSeq (e : Cmp W) : Cmp (List W) := fun ρ s => (e ρ s).bind fun x s1 => match seqD x with | some l => .ok (wD l) s1 | none => .no
noncomputable def rng1 (x : List W) (s1 : S) : Res (List W) := match x with
  | [x] => (match asInt x with | some n => if n < 1000000000 ∧ -1000000000 < n then .ok ((List.range n.toNat).map fun i : Nat => W.d (.int (i : Int))) s1 else .no | none => .no)
  | _ => .no
noncomputable def rng2 (x : List W) (s1 : S) : Res (List W) := match x with
  | [x, y] => (match asInt x, asInt y with | some lo, some n => if lo < 1000000000 ∧ -1000000000 < lo ∧ n < 1000000000 ∧ -1000000000 < n then .ok ((List.range (n - lo).toNat).map fun i : Nat => W.d (.int (lo + (i : Int)))) s1 else .no | _, _ => .no)
  | _ => .no
noncomputable def eRng1 (a : Cmp (List W)) : Cmp (List W) := fun ρ s => (a ρ s).bind rng1
noncomputable def eRng2 (a : Cmp (List W)) : Cmp (List W) := fun ρ s => (a ρ s).bind rng2

section
variable {K : PySem.W.Frag} {cl : Str → Option Addr} {H0 H H1 H1' H0' H' : Hp} {m m1 m' ow ow1 : List Addr} {s s1 : S} {σ : L2.St} {ρ : Rho} {Wx : WX}
theorem walk_list {p : Addr} {vs : List V} {l : List D} (h : H0 p = some (.lst vs)) (r : Reps K cl H0 vs l) : Walks K cl (Itl K p) (wD l) H0 m := by
  have at' : ∀ {H1 H2 : Hp} {m2 : List Addr} {s2 : S}, Same H0 H1 → Stt K cl H1 H2 m2 s2 → H2 p = some (.lst vs) := fun e st => st.sub _ _ (e _ _ h)
  have hl : (wD l).length = vs.length := by rw [r.length]; simp [wD]
  refine ⟨fun i H1 H2 m2 s2 e _ st hi => ⟨vs, sqL_of (at' e st), by omega⟩, fun i H1 H2 m2 s2 e _ st hi => ⟨vs, vs[i], sqL_of (at' e st), by simp [show i < vs.length by omega]⟩, fun i H1 H2 m2 s2 x H3 e _ st hi y => ?_⟩
  obtain ⟨rfl, y⟩ := y
  have q := y vs (sqL_of (at' e st))
  refine ⟨H1, Go.refl, st, ?_⟩
  have rw' := (r.mono e).ws (m := m2)
  have : i < (wD l).length := hi
  obtain ⟨v, e1, e2⟩ := rw'.get (i := i) (x := (wD l)[i]) (by simp [this])
  rw [q] at e1
  cases e1
  exact ⟨_, by simp [this], e2⟩
theorem walk_tup {p : Addr} {vs : List V} {l : List D} (h : H0 p = some (.tup vs)) (r : Reps K cl H0 vs l) : Walks K cl (Itt K p) (wD l) H0 m := by
  have at' : ∀ {H1 H2 : Hp} {m2 : List Addr} {s2 : S}, Same H0 H1 → Stt K cl H1 H2 m2 s2 → H2 p = some (.tup vs) := fun e st => st.sub _ _ (e _ _ h)
  have hl : (wD l).length = vs.length := by rw [r.length]; simp [wD]
  refine ⟨fun i H1 H2 m2 s2 e _ st hi => ⟨vs, sqT_of (at' e st), by omega⟩, fun i H1 H2 m2 s2 e _ st hi => ⟨vs, vs[i], sqT_of (at' e st), by simp [show i < vs.length by omega]⟩, fun i H1 H2 m2 s2 x H3 e _ st hi y => ?_⟩
  obtain ⟨rfl, y⟩ := y
  have q := y vs (sqT_of (at' e st))
  refine ⟨H1, Go.refl, st, ?_⟩
  have rw' := (r.mono e).ws (m := m2)
  have : i < (wD l).length := hi
  obtain ⟨v, e1, e2⟩ := rw'.get (i := i) (x := (wD l)[i]) (by simp [this])
  rw [q] at e1
  cases e1
  exact ⟨_, by simp [this], e2⟩
theorem walk_rng (lo : Int) (n : Nat) : Walks K cl (Itr lo n) ((List.range n).map fun i : Nat => W.d (.int (lo + (i : Int)))) H0 m := by
  refine ⟨fun i H1 H2 m2 s2 e _ st hi => by (show n ≤ i); simpa using hi, fun i H1 H2 m2 s2 e _ st hi => by (show i < n); simpa using hi, fun i H1 H2 m2 s2 x H3 e _ st hi y => ?_⟩
  obtain ⟨rfl, rfl⟩ := y
  have hi : i < n := by simpa using hi
  exact ⟨H1, Go.refl, st, W.d (.int (lo + (i : Int))), by simp [hi], Rep.int⟩
theorem Tof.none {β α : Type} {RR : RRT β α} {e : Cmp α} {Q : β → Hp → Prop} (cx : Ctx K cl H0 H m ow s σ ρ) (h : RunE K cl RR Wx H0 H m σ Q (e ρ s)) : Tof K cl RR Wx e σ H Q := ⟨H0, m, ow, s, ρ, cx, h⟩
end
section
variable {X : Cx} {cl : Str → Option Addr} {Wx : WX} {tg e c elt : Expr} {es : List Expr} {st : Stmt} {sts sts' : List Stmt} {pos : Pos} {ea : Cmp W} {el ec : Cmp (List W)} {et : Cmp Bool} {a b : Stm} {t : Tgt} {sl sl' : List Nat}
theorem ji_seq (h : JE cl Wx X e ea) : JI cl Wx X tg e (eSeq ea) :=
  PI.weaken (PI.or (pi_list h) (pi_tup h)) fun σ H R ⟨H0, m, ow, s, ρ, cx, q⟩ => by
    have q : RunE X.K cl (rrI X.K cl) Wx H0 H m σ R ((ea ρ s).bind fun x s1 => match seqD x with | some l => .ok (wD l) s1 | none => .no) := q
    cases e0 : ea ρ s with
    | no => rw [e0] at q; exact q.elim
    | exc c x s' => exact .inl ⟨H0, m, ow, s, ρ, cx, by rw [e0] at q ⊢; exact q⟩
    | ok w s' =>
      rw [e0] at q
      have q : RunE X.K cl (rrI X.K cl) Wx H0 H m σ R (match seqD w with | some l => .ok (wD l) s' | none => .no) := q
      unfold seqD at q
      split at q
      · rename_i l e1
        split at e1
        · cases e1
          refine .inl ⟨H0, m, ow, s, ρ, cx, ?_⟩
          rw [e0]
          intro v H0' H' m' g st rr
          cases rr with
          | lst h1 h2 => exact ⟨_, rfl, ⟨_, sqL_of (st.sub _ _ h1)⟩, q _ H0' H' m' g st (walk_list h1 h2)⟩
        · cases e1
          refine .inr ⟨H0, m, ow, s, ρ, cx, ?_⟩
          rw [e0]
          intro v H0' H' m' g st rr
          cases rr with
          | tup h1 h2 => exact ⟨_, rfl, ⟨_, sqT_of (st.sub _ _ h1)⟩, q _ H0' H' m' g st (walk_tup h1 h2)⟩
        · cases e1
      · exact q.elim
theorem ji_rng1 {p : Pos} (hg : Gl X (Str.ofString "range")) (hm : X.mg (Str.ofString "range") = none) (h : JA cl Wx X [e] el) (hs : starEach [e] X.env = [(false, eval e X.env)] := by rfl) : JI cl Wx X tg (.Call (.Name (Str.ofString "range") p) [e] [] pos) (eRng1 el) :=
  PI.weaken (pi_range1 hg hm h hs) fun σ H R ⟨H0, m, ow, s, ρ, cx, q⟩ => ⟨H0, m, ow, s, ρ, cx, RunE.bind q fun x s1 v H1 H1' m1 g st rr h2 => by
    unfold rng1 at h2
    split at h2
    · split at h2
      · rename_i n e1
        split at h2
        · rename_i hn
          cases rr with
          | cons r1 r2 =>
            cases r2
            refine ⟨n, by rw [asInt_ok r1 e1], by rw [show ((2 : Int) ^ 62) = 4611686018427387904 by decide]; omega, by rw [show ((2 : Int) ^ 62) = 4611686018427387904 by decide]; omega, ?_⟩
            have := walk_rng (K := X.K) (cl := cl) (H0 := H1) (m := m1) 0 n.toNat
            simp only [Int.zero_add] at this
            exact h2 _ _ _ _ Go.refl st this
        · exact h2.elim
      · exact h2.elim
    · exact h2.elim⟩
theorem js_for (ok : XOk X Wx) (hc : X.calm = true) (hi : JI cl Wx X tg e ec) (hg : JG cl X tg t sl) (hb : JB cl Wx X sts b) (hs : ∀ x, foldedSetIterable e X.env x = pure x := by exact fun _ => rfl) : JS cl Wx X (.For tg e sts [] pos) (sFor ec t b) :=
  PS.weaken (ps_for ok.po hc hi hg hb hs) fun E σ H ⟨H0, m, ow, s, ρ, cx, h⟩ => ⟨H0, m, ow, s, ρ, cx, RunS.ofE cx h fun l s1 J H1 H1' m1 g c wk h2 => by
    have h2 : RunS X.K cl Wx H1 H1' m1 ow E (forE t b l ρ s1) := h2
    refine ⟨fun i k σ' H' => k = l.length - i ∧ i ≤ l.length ∧ ∃ H0' m' ow' s' ρ', Same H1 H0' ∧ m1 <+: m' ∧ Ctx X.K cl H0' H' m' ow' s' σ' ρ' ∧ RunS X.K cl Wx H0' H' m' ow' E (forE t b (l.drop i) ρ' s'),
      ⟨l.length, by simp, Nat.zero_le _, H1, m1, ow, s1, ρ, Same.refl _, List.prefix_rfl, c, h2⟩, fun i k σ' H' hW => ?_⟩
    obtain ⟨rfl, hi, H0', m', ow', s', ρ', e1, e2, c', h3⟩ := hW
    by_cases hl : i < l.length
    · refine .inr ⟨wk.go i _ _ _ _ e1 e2 c'.st hl, fun σ2 H2 => i + 1 ≤ l.length ∧ ∃ H0' m' ow' s' ρ', Same H1 H0' ∧ m1 <+: m' ∧ Ctx X.K cl H0' H2 m' ow' s' σ2 ρ' ∧ RunS X.K cl Wx H0' H2 m' ow' E (forE t b (l.drop (i + 1)) ρ' s'), fun σ2 H2 q => ⟨l.length - (i + 1), by omega, rfl, q⟩, fun x H3 hy => ?_⟩
      obtain ⟨H0'', g3, st3, w, e3, r3⟩ := wk.yld i _ _ _ _ x H3 e1 e2 c'.st hl hy
      have ed : l.drop i = w :: l.drop (i + 1) := by
        rw [List.drop_eq_getElem_cons hl]
        have : l[i] = w := by rw [List.getElem?_eq_getElem hl] at e3; exact Option.some.inj e3
        rw [this]
      rw [ed] at h3
      have h4 := h3.shift (g3.lift (ow := ow'))
      have h4 : RunS X.K cl Wx H0'' H3 m' ow' E (match t w ρ' with
        | none => .no
        | some ρ1 => forK (forE t b (l.drop (i + 1))) (b ρ1 s')) := h4
      cases e5 : t w ρ' with
      | none => rw [e5] at h4; exact h4.elim
      | some ρ1 =>
        rw [e5] at h4
        refine ⟨H0'', m', ow', s', ρ', w, ρ1, c'.go g3 st3, r3, e5, fun σ2 c2 _ _ => ⟨H0'', m', ow', s', ρ1, c2, ?_⟩⟩
        have e1' : Same H1 H0'' := e1.trans g3.s0
        have h4 : RunS X.K cl Wx H0'' H3 m' ow' E (forK (forE t b (l.drop (i + 1))) (b ρ1 s')) := h4
        cases e6 : b ρ1 s' with
        | nx ρ2 s2 =>
          rw [e6] at h4
          have h4 : RunS X.K cl Wx H0'' H3 m' ow' E (forE t b (l.drop (i + 1)) ρ2 s2) := h4
          exact fun σ' H0' H' m' ow' g' c' => ⟨hl, H0', m', ow', s2, ρ2, e1'.trans g'.s0, e2.trans g'.pre, c', h4.shift g'⟩
        | cnt ρ2 s2 =>
          rw [e6] at h4
          have h4 : RunS X.K cl Wx H0'' H3 m' ow' E (forE t b (l.drop (i + 1)) ρ2 s2) := h4
          exact fun σ' H0' H' m' ow' g' c' => ⟨hl, H0', m', ow', s2, ρ2, e1'.trans g'.s0, e2.trans g'.pre, c', h4.shift g'⟩
        | brk ρ2 s2 => rw [e6] at h4; exact h4
        | ret v s2 => rw [e6] at h4; exact h4
        | exc c x ρ2 s2 => rw [e6] at h4; exact h4
        | no => rw [e6] at h4; exact h4
    · refine .inl ⟨wk.stop i _ _ _ _ e1 e2 c'.st (by omega), ?_⟩
      rw [List.drop_eq_nil_of_le (by omega)] at h3
      exact RunS.nxt h3 c'⟩

noncomputable def wipeR (ρ : Rho) : List Nat → Rho
  | [] => ρ
  | v :: vs => (wipeR ρ vs).set v .no
noncomputable def lcM (t : Tgt) (tst : Cmp Bool) (e : Cmp W) (ρ : Rho) : List W → S → Res (List W)
  | [], s => .ok [] s
  | x :: r, s => match t x ρ with
    | none => .no
    | some ρ1 => match tst ρ1 s with
      | .ok true s1 => (match e ρ1 s1 with
        | .ok y s2 => (match lcM t tst e ρ r s2 with
          | .ok ys s3 => .ok (y :: ys) s3
          | _ => .no)
        | _ => .no)
      | .ok false s1 => lcM t tst e ρ r s1
      | _ => .no
noncomputable def eLc (vs : List Nat) (c : Cmp (List W)) (t : Tgt) (tst : Cmp Bool) (e : Cmp W) : Cmp (List W) := fun ρ s => (c ρ s).bind fun l s1 => if l.length ≤ 16777216 then lcM t tst e (wipeR ρ vs) l s1 else .no
noncomputable def eYes : Cmp Bool := fun _ s => .ok true s
noncomputable def lcA (t : Tgt) (tst : Cmp Bool) (e : Cmp W) (ρ : Rho) : List W → List W → S → Res (List W)
  | acc, [], s => .ok acc s
  | acc, x :: r, s => match t x ρ with
    | none => .no
    | some ρ1 => match tst ρ1 s with
      | .ok true s1 => (match e ρ1 s1 with
        | .ok y s2 => lcA t tst e ρ (acc ++ [y]) r s2
        | _ => .no)
      | .ok false s1 => lcA t tst e ρ acc r s1
      | _ => .no
theorem lcA_eq (t : Tgt) (tst : Cmp Bool) (e : Cmp W) (ρ : Rho) : ∀ (l acc : List W) (s : S), lcA t tst e ρ acc l s = match lcM t tst e ρ l s with | .ok ys s' => .ok (acc ++ ys) s' | _ => .no
  | [], acc, s => by simp [lcA, lcM]
  | x :: r, acc, s => by
    unfold lcA lcM
    cases t x ρ with
    | none => rfl
    | some ρ1 =>
      dsimp only
      cases tst ρ1 s with
      | no => rfl
      | exc c x s => rfl
      | ok b s1 =>
        cases b with
        | false => exact lcA_eq t tst e ρ r acc s1
        | true =>
          dsimp only
          cases e ρ1 s1 with
          | no => rfl
          | exc c x s => rfl
          | ok y s2 =>
            dsimp only
            rw [lcA_eq t tst e ρ r (acc ++ [y]) s2]
            cases lcM t tst e ρ r s2 with
            | no => rfl
            | exc c x s => rfl
            | ok ys s3 => simp
end
section
variable {K : PySem.W.Frag} {cl : Str → Option Addr} {H0 H H1 H1' H0' H' : Hp} {m m1 m' ow ow1 : List Addr} {s s1 : S} {σ : L2.St} {ρ : Rho} {Wx : WX}
theorem EnvR.wipe (e : EnvR K cl H0 H m ow σ ρ) : ∀ vs, EnvR K cl H0 H m ow (wipe σ vs) (wipeR ρ vs)
  | [] => e
  | v :: vs => by
    have ih := e.wipe vs
    unfold L2.wipe wipeR
    refine ⟨by simp [ih.len], fun j y h => ?_, fun j k y z p h1 h2 h3 h4 h5 h6 => ?_, e.owns⟩
    · by_cases hj : v = j
      · subst hj
        have hl : v < (wipeR ρ vs).length := by
          have := (List.getElem?_eq_some_iff.mp h).1
          simpa using this
        rw [List.getElem?_set_self hl] at h
        cases h
        trivial
      · rw [List.getElem?_set_ne hj] at h ⊢
        exact ih.slot j y h
    · have nn : ∀ {j : Nat} {y : EV}, ((wipeR ρ vs).set v .no)[j]? = some y → y.isOwn = true → v ≠ j := fun {j y} h hy z => by
        subst z
        have hl : v < (wipeR ρ vs).length := by
          have := (List.getElem?_eq_some_iff.mp h).1
          simpa using this
        rw [List.getElem?_set_self hl] at h
        cases h; cases hy
      have nj := nn h1 h3
      have nk := nn h2 h4
      rw [List.getElem?_set_ne nj] at h1 h5
      rw [List.getElem?_set_ne nk] at h2 h6
      exact ih.apart j k y z p h1 h2 h3 h4 h5 h6
theorem Ctx.wipe (c : Ctx K cl H0 H m ow s σ ρ) (vs : List Nat) : Ctx K cl H0 H m ow s (wipe σ vs) (wipeR ρ vs) := ⟨c.st, c.en.wipe vs⟩
theorem Go.updNew (g : GoE H0 H m H0' H' m') {p : Addr} {o : HO} (hp : H p = none) : GoE H0 H m H0' (upd H' p o) m' :=
  ⟨g.s0, g.pre, fun a x h h1 h2 => by
    have : a ≠ p := fun z => by subst z; rw [hp] at h; cases h
    rw [upd_ne this]; exact g.fr a x h h1 h2, fun a h => by
    unfold upd; split
    · simp
    · exact g.dom a h, g.n0, g.nm, g.nw⟩
end
noncomputable def W0 : WX := fun _ _ _ _ => False
section
variable {X : Cx} {cl : Str → Option Addr} {Wx : WX} {tg e c elt iter : Expr} {ifs : List Expr} {es : List Expr} {pos : Pos} {ee : Cmp W} {ec : Cmp (List W)} {et : Cmp Bool} {t : Tgt} {sl : List Nat} {own : List (Str × Nat)} {scope : Scope}
noncomputable def JTs (cl : Str → Option Addr) (X : Cx) (ifs : List Expr) (c : Cmp Bool) : Prop := PTs X ifs (Tof X.K cl rrB W0 c)
theorem jts_nil : JTs cl X [] eYes := ⟨fun pins s σ H Q I ⟨H0, m, ow, s', ρ, cx, h⟩ => pts_nil.run pins s σ H Q I (RunE.done (RR := rrB) h cx.st rfl)⟩
theorem wipe_same {σ σ' : L2.St} {vs : List Nat} (hl : σ'.length = σ.length) (h : ∀ j : Nat, j ∉ vs → σ'[j]? = σ[j]?) : wipe σ' vs = wipe σ vs := by
  apply List.ext_getElem?
  intro j
  by_cases hj : j ∈ vs
  · have g : ∀ (τ : L2.St) (us : List Nat), j ∈ us → (wipe τ us)[j]? = if j < τ.length then some none else none := by
      intro τ us
      induction us with
      | nil => intro h; cases h
      | cons v us ih =>
        intro h
        unfold L2.wipe
        by_cases e : v = j
        · subst e
          by_cases hl : v < τ.length
          · rw [if_pos hl, List.getElem?_set_self (by rw [wipe_length]; exact hl)]
          · rw [if_neg hl, List.getElem?_eq_none]; rw [List.length_set, wipe_length]; omega
        · rw [List.getElem?_set_ne e]
          rcases List.mem_cons.mp h with q | q
          · exact absurd q.symm e
          · exact ih q
    rw [g _ _ hj, g _ _ hj, hl]
  · rw [wipe_out hj, wipe_out hj, h j hj]
theorem lc_tof {K : PySem.W.Frag} (hsub : ∀ j ∈ sl, j ∈ own.map (·.2)) : ∀ σ H Q, Tof K cl (rrL K cl) Wx (eLc (own.map (·.2)) ec t et ee) σ H Q → tLc (Tof K cl (rrI K cl) Wx ec) (Gof K cl t sl) (Tof K cl rrB W0 et) (Tof K cl (rrW K cl) W0 ee) (own.map (·.2)) σ H Q := by
  refine fun σ H Q ⟨H0, m, ow, s, ρ, cx, h⟩ => ⟨H0, m, ow, s, ρ, cx, RunE.bind h fun l s1 J H1 H1' m1 g st wk h2 D hD => ?_⟩
  have c1 : Ctx K cl H1 H1' m1 ow s1 σ ρ := cx.go g st
  by_cases hl : l.length ≤ 16777216
  case neg =>
    have h2 : RunE K cl (rrL K cl) Wx H1 H1' m1 σ Q (if l.length ≤ 16777216 then lcM t et ee (wipeR ρ (own.map (·.2))) l s1 else .no) := h2
    rw [if_neg hl] at h2
    exact h2.elim
  have h2 : RunE K cl (rrL K cl) Wx H1 H1' m1 σ Q (lcA t et ee (wipeR ρ (own.map (·.2))) [] l s1) := by
    have h2 : RunE K cl (rrL K cl) Wx H1 H1' m1 σ Q (if l.length ≤ 16777216 then lcM t et ee (wipeR ρ (own.map (·.2))) l s1 else .no) := h2
    rw [if_pos hl] at h2
    rw [lcA_eq]
    cases e1 : lcM t et ee (wipeR ρ (own.map (·.2))) l s1 with
    | no => rw [e1] at h2; exact h2.elim
    | exc c x s => 
      rw [e1] at h2
      exfalso
      have : ∀ (l : List W) (s0 : S), lcM t et ee (wipeR ρ (own.map (·.2))) l s0 ≠ .exc c x s := by
        intro l
        induction l with
        | nil => intro s0 z; cases z
        | cons y r ih =>
          intro s0 z
          unfold lcM at z
          split at z
          · cases z
          · split at z
            · split at z
              · split at z <;> cases z
              · cases z
            · exact ih _ z
            · cases z
      exact this _ _ e1
    | ok ys s' => rw [e1] at h2; exact h2
  clear h
  refine ⟨fun i k H' => k = l.length - i ∧ i ≤ l.length ∧ ∃ H0' m' s' acc accv, GoE H1 H1' m1 H0' H' m' ∧ Stt K cl H0' H' m' s' ∧ H' D = some (.lst accv) ∧ RepWs K cl H0' m' accv acc ∧ acc.length ≤ i ∧ H0' D = none ∧ D ∉ m' ∧
      RunE K cl (rrL K cl) Wx H1 H1' m1 σ Q (lcA t et ee (wipeR ρ (own.map (·.2))) acc (l.drop i) s'),
    ⟨l.length, by simp, Nat.zero_le _, H1, m1, s1, [], [], Go.fresh hD, st.fresh hD, upd_same, .nil, Nat.le_refl _, st.h0 hD, st.notM hD, h2⟩, fun i k H' hW => ?_⟩
  obtain ⟨rfl, hi', H0', m', s', acc, accv, g', st', hD', ra, hla, h0, hm, h3⟩ := hW
  by_cases hlt : i < l.length
  · refine .inr ⟨wk.go i _ _ _ _ g'.s0 g'.pre st' hlt, fun H2 => i + 1 ≤ l.length ∧ ∃ H0' m' s' acc accv, GoE H1 H1' m1 H0' H2 m' ∧ Stt K cl H0' H2 m' s' ∧ H2 D = some (.lst accv) ∧ RepWs K cl H0' m' accv acc ∧ acc.length ≤ i + 1 ∧ H0' D = none ∧ D ∉ m' ∧
        RunE K cl (rrL K cl) Wx H1 H1' m1 σ Q (lcA t et ee (wipeR ρ (own.map (·.2))) acc (l.drop (i + 1)) s'), fun H2 q => ⟨l.length - (i + 1), by omega, rfl, q⟩, fun x H3 hy => ?_⟩
    obtain ⟨H0'', g3, st3, w, e3, r3⟩ := wk.yld i _ _ _ _ x H3 g'.s0 g'.pre st' hlt hy
    have ed : l.drop i = w :: l.drop (i + 1) := by
      rw [List.drop_eq_getElem_cons hlt]
      have : l[i] = w := by rw [List.getElem?_eq_getElem hlt] at e3; exact Option.some.inj e3
      rw [this]
    rw [ed] at h3
    have h3 : RunE K cl (rrL K cl) Wx H1 H1' m1 σ Q (match t w (wipeR ρ (own.map (·.2))) with
      | none => .no
      | some ρ1 => match et ρ1 s' with
        | .ok true s1 => (match ee ρ1 s1 with
          | .ok y s2 => lcA t et ee (wipeR ρ (own.map (·.2))) (acc ++ [y]) (l.drop (i + 1)) s2
          | _ => .no)
        | .ok false s1 => lcA t et ee (wipeR ρ (own.map (·.2))) acc (l.drop (i + 1)) s1
        | _ => .no) := h3
    cases e5 : t w (wipeR ρ (own.map (·.2))) with
    | none => rw [e5] at h3; exact h3.elim
    | some ρ1 =>
      rw [e5] at h3
      dsimp only at h3
      have gD : ∀ {H0a Ha Hb : Hp} {ma mb : List Addr} {H0b : Hp}, GoE H0a Ha ma H0b Hb mb → Ha D = some (.lst accv) → H0a D = none → D ∉ ma → Hb D = some (.lst accv) ∧ H0b D = none ∧ D ∉ mb := fun {H0a Ha Hb ma mb H0b} g a b c =>
        ⟨g.fr D _ a c (by simp), g.n0 D (by rw [a]; simp) c (by simp) b, fun z => by
          rcases g.nm D z with q | q | q
          · exact c q
          · cases q
          · rw [q] at a; cases a⟩
      have g13 : GoE H1 H1' m1 H0'' H3 m' := g'.trans g3
      obtain ⟨d1, d2, d3⟩ := gD g3 hD' h0 hm
      have cb : Ctx K cl H0'' H3 m' ow s' (wipe σ (own.map (·.2))) (wipeR ρ (own.map (·.2))) := (c1.go g13 st3).wipe _
      refine ⟨H0'', m', ow, s', _, w, ρ1, cb, r3, e5, fun σ2 c2 l2 k2 => ⟨(wipe_same l2 fun j hj => k2 j fun z => hj (hsub j z)).trans (wipe_same (wipe_length _ _) fun j hj => wipe_out hj), ?_⟩⟩
      refine ⟨H0'', m', ow, s', ρ1, c2, ?_⟩
      cases e6 : et ρ1 s' with
      | no => rw [e6] at h3; exact h3.elim
      | exc c x s2 => rw [e6] at h3; exact h3.elim
      | ok bb s2 =>
        rw [e6] at h3
        intro bv H4 H4' m4 g4 st4 rb
        have rb : bv = bb := rb
        subst rb
        obtain ⟨f1, f2, f3⟩ := gD g4 d1 d2 d3
        cases bv with
        | false =>
          dsimp only at h3
          refine iteF ⟨hlt, H4, m4, s2, acc, accv, g13.trans g4, st4, f1, ra.mono (g3.trans g4).s0 (g3.trans g4).pre, by omega, f2, f3, h3⟩
        | true =>
          dsimp only at h3
          refine iteT ⟨H4, m4, ow, s2, ρ1, c2.go g4 st4, ?_⟩
          cases e7 : ee ρ1 s2 with
          | no => rw [e7] at h3; exact h3.elim
          | exc c x s3 => rw [e7] at h3; exact h3.elim
          | ok y s3 =>
            rw [e7] at h3
            dsimp only at h3
            intro yv H5 H5' m5 g5 st5 ry
            obtain ⟨k1, k2', k3⟩ := gD g5 f1 f2 f3
            refine ⟨accv, k1, ?_, hlt, H5, m5, s3, acc ++ [y], accv ++ [yv], ((g13.trans g4).trans g5).updNew hD, st5.updOwn k2' k3, upd_same, (ra.mono ((g3.trans g4).trans g5).s0 ((g3.trans g4).trans g5).pre).append (.cons ry .nil), by simp; omega, k2', k3, h3⟩
            have := ra.length
            exact size_lt (by omega)
  · refine .inl ⟨wk.stop i _ _ _ _ g'.s0 g'.pre st' (by omega), ?_⟩
    rw [List.drop_eq_nil_of_le (by omega)] at h3
    exact h3 _ _ _ _ g' st' ⟨D, accv, rfl, hD, hD', h0, hm, ra⟩
theorem jl_lc (hc : X.calm = true) (nd : X.N.Nodup) (hi : JI cl Wx X tg iter ec) (ok : BlkOk X.N X.env.scope scope own)
    (hg : ∀ (s : Shared) (H : Hp) (C : Addr) (cc : List (Str × Addr)) (fp : List Addr), JG cl (X.blk s H scope (compEnvC scope cc C X.env) fp) tg t sl)
    (ht : ∀ (s : Shared) (H : Hp) (C : Addr) (cc : List (Str × Addr)) (fp : List Addr), JTs cl (X.blk s H scope (compEnvC scope cc C X.env) fp) ifs et)
    (he : ∀ (s : Shared) (H : Hp) (C : Addr) (cc : List (Str × Addr)) (fp : List Addr), JE cl W0 (X.blk s H scope (compEnvC scope cc C X.env) fp) elt ee)
    (hsub : ∀ j ∈ sl, j ∈ own.map (·.2) := by decide) (hs : ∀ x, foldedSetIterable iter X.env x = pure x := by exact fun _ => rfl) :
    JL cl Wx X (.ListComp elt [⟨tg, iter, ifs, 0⟩] scope pos) (eLc (own.map (·.2)) ec t et ee) :=
  PE.weaken (pe_lc (g := Gof X.K cl t sl) (tt := Tof X.K cl rrB W0 et) (te := Tof X.K cl (rrW X.K cl) W0 ee) hc nd hi ok hg ht he hs) (lc_tof hsub)
end
end TG

set_option Elab.async false
set_option linter.all false
set_option maxRecDepth 100000
set_option maxHeartbeats 2000000
namespace TG
open PySem L2 PyProof.Rows

noncomputable abbrev Sem1 := List W → S → Res RV
noncomputable def rrV (K : PySem.W.Frag) (cl : Str → Option Addr) : RRT V RV := fun H H0' H' m' v rv => retR K cl H [] H0' H' m' v rv
instance {K cl} : Early (rrV K cl) := ⟨fun {H H1 H0 H' m v x} d h => by
  cases x with
  | w x => exact h
  | own l => obtain ⟨p, vs, a, b, c⟩ := h; exact ⟨p, vs, a, b.imp id (dom_none d), c⟩
  | ownD l => obtain ⟨p, vs, a, b, c⟩ := h; exact ⟨p, vs, a, b.imp id (dom_none d), c⟩⟩
noncomputable def wxE (E : XK) : WX := fun c d _ H => E c d H
noncomputable def spOf (K : PySem.W.Frag) (cl : Str → Option Addr) (f : Sem1) : Sp := fun vs H Q E => ∃ H0 m s ws, Stt K cl H0 H m s ∧ RepWs K cl H0 m vs ws ∧ RunE K cl (rrV K cl) (wxE E) H0 H m [] Q (f ws s)
noncomputable def runF (np nl : Nat) (b : Stm) : Sem1 := fun ws s => if ws.length = np then (match b (ws.map .w ++ List.replicate (nl - np) .no) s with
    | .nx _ s' => .ok (.w (.d .non)) s'
    | .ret v s' => .ok v s'
    | .exc c x _ s' => .exc c x s'
    | _ => .no)
  else .no
section
variable {K : PySem.W.Frag} {cl : Str → Option Addr} {H0 H : Hp} {m : List Addr} {s : S}
theorem RepWs.slot {vs : List V} {ws : List W} (h : RepWs K cl H0 m vs ws) (k : Nat) : EnvR K cl H0 H m [] (vs.map some ++ List.replicate k none) (ws.map .w ++ List.replicate k .no) := by
  refine ⟨by simp [h.length], fun i e hi => ?_, fun i j e e' p h1 h2 h3 => ?_, fun p hp => by cases hp⟩
  · by_cases hl : i < ws.length
    · rw [List.getElem?_append_left (by simpa using hl), List.getElem?_map] at hi
      rw [List.getElem?_append_left (by simpa [h.length] using hl), List.getElem?_map]
      cases q : ws[i]? with
      | none => rw [q] at hi; cases hi
      | some w =>
        rw [q] at hi
        cases hi
        obtain ⟨v, h1, h2⟩ := h.get q
        rw [h1]
        exact ⟨v, rfl, h2⟩
    · rw [List.getElem?_append_right (by simp; omega), List.getElem?_replicate] at hi
      split at hi
      · cases hi; trivial
      · cases hi
  · exfalso
    by_cases hl : i < ws.length
    · rw [List.getElem?_append_left (by simpa using hl), List.getElem?_map] at h1
      cases q : ws[i]? with
      | none => rw [q] at h1; cases h1
      | some w => rw [q] at h1; cases h1; cases h3
    · rw [List.getElem?_append_right (by simp; omega), List.getElem?_replicate] at h1
      split at h1
      · cases h1; cases h3
      · cases h1
end
section
variable {P : Program} {w : World} {K : PySem.W.Frag} {mg : Str → Option Value} {base : Heap} {cl : Str → Option Addr}
theorem fn_ok {x qual : Str} {st : Stmt} {f : Addr} {fd : FuncData} {N ps : List Str} {k : Nat} {b : Stm} (F : Fun K x qual st f fd) (S : FnScope N ps (defScope st))
    (h : ∀ (cdv : Value) (A : Around) (outer : List Env) (s : Shared) (H : Hp) (E : XK), Room k (A.deeper (envOfC qual (defScope st) s.heap.objs.size f cdv)) →
      XOk (cxOf (L2.CX P w) P w K mg base N qual (defScope st) f cdv A outer s H E) (wxE E) → JB cl (wxE E) (cxOf (L2.CX P w) P w K mg base N qual (defScope st) f cdv A outer s H E) (defBody st) b) :
    FnOk P w K mg base (L2.CX P w) (k + 1) f fd ps (spOf K cl (runF ps.length N.length b)) := by
  have len : ∀ {vs : List V} {H : Hp} {Q : VK} {E : XK}, spOf K cl (runF ps.length N.length b) vs H Q E → vs.length = ps.length := fun {vs H Q E} ⟨H0, m, s, ws, _, r, q⟩ => by
    by_cases hl : ws.length = ps.length
    · rw [r.length, hl]
    · unfold runF at q
      rw [if_neg hl] at q
      exact q.elim
  refine F.okX S (fun vs H Q E h => len h) fun cdv A outer s H vs Q E hr hsp => ?_
  have hl := len hsp
  refine ⟨_, h cdv A outer s H E hr ⟨takes_of rfl rfl rfl rfl, passes_of rfl, S.nd⟩, ?_⟩
  obtain ⟨H0, m, s', ws, st', rw', q⟩ := hsp
  have hlw : ws.length = ps.length := by rw [← rw'.length]; exact hl
  unfold runF at q
  rw [if_pos hlw] at q
  refine ⟨H0, m, [], s', ws.map .w ++ List.replicate (N.length - ps.length) .no, ⟨st', ?_⟩, ?_⟩
  · show EnvR K cl H0 H m [] (vs.map some ++ List.replicate (N.length - vs.length) none) _
    rw [hl]
    exact rw'.slot _
  · have g0 : ∀ {H0' H' : Hp} {m' ow' : List Addr}, Go H0 H m [] H0' H' m' ow' → GoE H0 H m H0' H' m' := fun g => ⟨g.s0, g.pre, g.fr, g.dom, g.n0, g.nm, fun a z => by cases z⟩
    cases e1 : b (ws.map .w ++ List.replicate (N.length - ps.length) .no) s' with
    | nx ρ s2 => rw [e1] at q; exact fun σ' H0' H' m' ow' g c => q _ _ _ _ (g0 g) c.st Rep.non
    | ret v s2 => rw [e1] at q; exact fun u H0' H' m' ow' g st r => q u _ _ _ (g0 g) st r
    | exc c x ρ s2 => rw [e1] at q; exact fun cv dd σ' H0' H' m' ow' g c e => q _ _ _ _ _ (g0 g) c.st e
    | brk ρ s2 => rw [e1] at q; exact q.elim
    | cnt ρ s2 => rw [e1] at q; exact q.elim
    | no => rw [e1] at q; exact q.elim
end

noncomputable def allDataK : List (Key × W) → Option (List (Key × D))
  | [] => some []
  | (k, .d x) :: r => (allDataK r).map ((k, x) :: ·)
  | (_, .r _) :: _ => none
noncomputable def frzV : RV → S → Res W
  | .w x, s => .ok x s
  | .own l, s => frzL l s
  | .ownD l, s => match allDataK l with | some ds => .ok (.d (.dic ds)) s | none => .no
noncomputable def eCall (f : Sem1) (a : Cmp (List W)) : Cmp W := fun ρ s => (a ρ s).bind fun ws s1 => (f ws s1).bind frzV
noncomputable def eCallL (f : Sem1) (a : Cmp (List W)) : Cmp (List W) := fun ρ s => (a ρ s).bind fun ws s1 => (f ws s1).bind fun rv s2 => match rv with | .own l => .ok l s2 | _ => .no
section
variable {K : PySem.W.Frag} {cl : Str → Option Addr} {H0 H H0' H' : Hp} {m m' : List Addr} {s s' : S} {σ : L2.St} {Wx : WX} {Q : VK}
theorem RepWK.data {vs : List (Key × V)} {l : List (Key × W)} {ds : List (Key × D)} (h : RepWK K cl H0 m vs l) (e : allDataK l = some ds) : RepK K cl H0 vs ds := by
  induction h generalizing ds with
  | nil => cases e; exact .nil
  | @cons k v d vs l h1 h2 ih =>
    cases d with
    | r n => cases e
    | d x =>
      unfold allDataK at e
      cases q : allDataK l with
      | none => rw [q] at e; cases e
      | some z => rw [q] at e; cases e; exact .cons h1 (ih q)
theorem frz_ok {rv : RV} {v : V} (st : Stt K cl H0 H m s) (h : RunE K cl (rrW K cl) Wx H0 H m σ Q (frzV rv s')) (g : GoE H0 H m H0' H' m') (st' : Stt K cl H0' H' m' s') (r : retR K cl H [] H0' H' m' v rv) : Q v H' := by
  cases rv with
  | w x => exact h v H0' H' m' g st' r
  | own l =>
    have h : RunE K cl (rrW K cl) Wx H0 H m σ Q (frzL l s') := h
    unfold frzL at h
    cases e2 : allData l with
    | none => rw [e2] at h; exact h.elim
    | some ds =>
      rw [e2] at h
      obtain ⟨p, vs, h1, h2, h3, h4, h5, h6⟩ := r
      have h2 : H p = none := by rcases h2 with z | z <;> first | (cases z; done) | exact z
      exact h v (upd H0' p (.lst vs)) H' m' (g.freeze st h2) (st'.freeze h4 h3 h5) (by
        subst h1
        exact Rep.lst upd_same ((h6.ds e2).mono (same_upd h4)))
  | ownD l =>
    have h : RunE K cl (rrW K cl) Wx H0 H m σ Q (match allDataK l with | some ds => .ok (.d (.dic ds)) s' | none => .no) := h
    cases e2 : allDataK l with
    | none => rw [e2] at h; exact h.elim
    | some ds =>
      rw [e2] at h
      obtain ⟨p, vs, h1, h2, h3, h4, h5, h6⟩ := r
      have h2 : H p = none := by rcases h2 with z | z <;> first | (cases z; done) | exact z
      exact h v (upd H0' p (.dK vs)) H' m' (g.freeze st h2) (st'.freeze h4 h3 h5) (by
        subst h1
        exact Rep.dic upd_same ((h6.data e2).mono (same_upd h4)))
theorem call_run {f : Sem1} {vs : List V} {ws : List W} {Q : VK} {E : XK} (st : Stt K cl H0 H m s) (rw' : RepWs K cl H0 m vs ws)
    (h : RunE K cl (rrV K cl) (wxE E) H0 H m [] Q (f ws s))   : spOf K cl f vs H Q E := ⟨H0, m, s, ws, st, rw', h⟩
theorem call_frz {f : Sem1} {ws : List W} (st : Stt K cl H0 H m s) (h : RunE K cl (rrW K cl) Wx H0 H m σ Q ((f ws s).bind frzV)) : RunE K cl (rrV K cl) (wxE (WE Wx σ)) H0 H m [] Q (f ws s) := by
  cases e : f ws s with
  | no => rw [e] at h; exact h
  | exc c x s' => rw [e] at h; exact h
  | ok rv s' =>
    rw [e] at h
    exact fun v H0' H' m' g st' r => frz_ok st h g st' r
theorem call_new {f : Sem1} {ws : List W} (st : Stt K cl H0 H m s) (h : RunE K cl (rrL K cl) Wx H0 H m σ Q ((f ws s).bind fun rv s2 => match rv with | .own l => .ok l s2 | _ => .no)) : RunE K cl (rrV K cl) (wxE (WE Wx σ)) H0 H m [] Q (f ws s) := by
  cases e : f ws s with
  | no => rw [e] at h; exact h
  | exc c x s' => rw [e] at h; exact h
  | ok rv s' =>
    rw [e] at h
    intro v H0' H' m' g st' r
    cases rv with
    | w x => exact h.elim
    | ownD l => exact h.elim
    | own l =>
      obtain ⟨p, vs, h1, h2, h3⟩ := r
      have h2 : H p = none := by rcases h2 with z | z <;> first | (cases z; done) | exact z
      exact h v H0' H' m' g st' ⟨p, vs, h1, h2, h3⟩
end
structure FnAt (P : Program) (w : World) (K : PySem.W.Frag) (mg : Str → Option Value) (base : Heap) (cl : Str → Option Addr) (k : Nat) (x : Str) (ps : List Str) (f : Sem1) : Prop where
  ex : ∃ (a : Addr) (fd : FuncData), mg x = some (.ref a) ∧ PySem.W.keepIn K (.ref a) = true ∧ Binds K fd ps [] ∧ FnOk P w K mg base (L2.CX P w) k a fd ps (spOf K cl f)
theorem FnAt.mono {P : Program} {w : World} {K : PySem.W.Frag} {mg : Str → Option Value} {base : Heap} {cl : Str → Option Addr} {j k : Nat} {x : Str} {ps : List Str} {f : Sem1} (F : FnAt P w K mg base cl j x ps f) (h : j ≤ k) : FnAt P w K mg base cl k x ps f := by
  obtain ⟨a, fd, h1, h2, h3, h4⟩ := F.ex
  exact ⟨a, fd, h1, h2, h3, h4.mono h⟩
section
variable {X : Cx} {cl : Str → Option Addr} {Wx : WX} {e : Expr} {es : List Expr} {pos p : Pos} {el : Cmp (List W)} {k : Nat} {x : Str} {ps : List Str} {f : Sem1}
theorem je_call (ok : XOk X Wx) (hr : Room k X.A) (F : FnAt X.prog X.w X.K X.mg X.base cl k x ps f) (ha : JA cl Wx X (e :: es) el) (hg : Gl X x := by rfl)
    (h1 : (x == Str.ofString "__debug__") = false := by decide) (h2 : starEach (e :: es) X.env = (false, eval e X.env) :: starEach es X.env := by rfl) (h3 : ((backTo pos (starEach es X.env)).any fun x => x.fst) = false := by rfl) :
    JE cl Wx X (.Call (.Name x p) (e :: es) [] pos) (eCall f el) := by
  obtain ⟨a, fd, q1, q2, q3, q4⟩ := F.ex
  refine PE.weaken (pe_callS q4 hr hg q1 q2 q3 (fun σ => passAt ok.tk σ) ha h1 h2 h3) fun σ H Q ⟨H0, m, ow, s, ρ, cx, h⟩ => ⟨H0, m, ow, s, ρ, cx, ?_⟩
  have h : RunE X.K cl (rrW X.K cl) Wx H0 H m σ Q ((el ρ s).bind fun ws s1 => (f ws s1).bind frzV) := h
  revert h
  generalize el ρ s = r
  intro h
  cases r with
  | no => exact h
  | exc c x s' => exact h
  | ok ws s1 =>
    have h : RunE X.K cl (rrW X.K cl) Wx H0 H m σ Q ((f ws s1).bind frzV) := h
    intro vs H1 H1' m1 g st rr
    exact call_run st rr (call_frz st (h.shift g))
theorem jl_call (ok : XOk X Wx) (hr : Room k X.A) (F : FnAt X.prog X.w X.K X.mg X.base cl k x ps f) (ha : JA cl Wx X (e :: es) el) (hg : Gl X x := by rfl)
    (h1 : (x == Str.ofString "__debug__") = false := by decide) (h2 : starEach (e :: es) X.env = (false, eval e X.env) :: starEach es X.env := by rfl) (h3 : ((backTo pos (starEach es X.env)).any fun x => x.fst) = false := by rfl) :
    JL cl Wx X (.Call (.Name x p) (e :: es) [] pos) (eCallL f el) := by
  obtain ⟨a, fd, q1, q2, q3, q4⟩ := F.ex
  refine PE.weaken (pe_callS q4 hr hg q1 q2 q3 (fun σ => passAt ok.tk σ) ha h1 h2 h3) fun σ H Q ⟨H0, m, ow, s, ρ, cx, h⟩ => ⟨H0, m, ow, s, ρ, cx, ?_⟩
  have h : RunE X.K cl (rrL X.K cl) Wx H0 H m σ Q ((el ρ s).bind fun ws s1 => (f ws s1).bind fun rv s2 => match rv with | .own l => .ok l s2 | _ => .no) := h
  revert h
  generalize el ρ s = r
  intro h
  cases r with
  | no => exact h
  | exc c x s' => exact h
  | ok ws s1 =>
    intro vs H1 H1' m1 g st rr
    exact call_run st rr (call_new st (RunE.shift (r := (f ws s1).bind fun rv s2 => match rv with | .own l => .ok l s2 | _ => .no) h g))
end
end TG

set_option Elab.async false
set_option linter.all false
set_option maxRecDepth 100000
set_option maxHeartbeats 4000000
namespace PySem
open Sem (wp)
theorem tg_meets_enum1 {v : Value} {o : Obj} {H : Heap → Prop} (B : Begins v o H) :
    Meets (Builtin.«enumerate.__new__» ⟨[.type "enumerate", v], []⟩) (fun _ R s => H s.heap ∧
      R (.ok (.ret (.ref (s.heap.push o).objs.size))) { s with heap := (s.heap.push o).push { cls := .type "enumerate", data := .fields #[.none, .bool false, .ref s.heap.objs.size, rawInt 0, .none, .none] } }) := by
  refine .of_wp fun prog w A R s h => ?_
  obtain ⟨hp, g, d, tk, os⟩ := s
  obtain ⟨h1, h⟩ := h
  have hsub := sub_enumerate
  have q1 : ∀ {A' : Around} {E : Value → Shared → Prop} {Q : Value → Shared → Prop}, Q (.ref hp.objs.size) ⟨hp.push o, g, d, tk, os⟩ → wpAny (model prog w) A' (pyIter v) Q E ⟨hp, g, d, tk, os⟩ := fun q => B.iter prog w _ _ ⟨hp, g, d, tk, os⟩ _ h1 q
  wp_walk using q1
  refine wpAny_stack_any fun st => wpAny_pure ?_
  split
  · rename_i c _ _ _ _ _
    cases (c == Value.type "enumerate") <;> (wp_walk using q1; exact ⟨_, rfl, h⟩)
  · wp_walk using q1
    exact ⟨_, rfl, h⟩
section
variable {prog : Program} {w : World} {A : Around} {E : Value → Shared → Prop} {s : Shared}
theorem tg_call_enum1 {v : Value} {o : Obj} {H : Heap → Prop} {Q : Value → Shared → Prop} (B : Begins v o H) (h1 : H s.heap)
    (h : ∀ h', IsEnum h' (s.heap.objs.size + 1) s.heap.objs.size 0 .none → h'.get? s.heap.objs.size = some o → (∀ b x, s.heap.get? b = some x → h'.get? b = some x) → Q (.ref (s.heap.objs.size + 1)) { s with heap := h' }) :
    wpAny (model prog w) A (call (.type "enumerate") [v]) Q E s := by
  refine callType_new F.called_enumerate (by decide) (F.typeCall_enumerate_1 _) (F.newCall_enumerate_1 _) (fun obj => F.args_object_init_2 obj _) F.entry_enumerate_new (tg_meets_enum1 B) ⟨h1, ?_⟩
  have hz : (s.heap.push o).objs.size = s.heap.objs.size + 1 := Heap.size_push ..
  show _ ∧ _
  rw [hz]
  have he := Heap.get?_push_size (s.heap.push o) (o := { cls := .type "enumerate", data := .fields #[.none, .bool false, .ref s.heap.objs.size, rawInt 0, .none, .none] }) rfl
  rw [hz] at he
  exact ⟨⟨_, he, rfl⟩, h _ he (Heap.get?_push_of_some _ (Heap.get?_push_size _ B.free)) fun b x q => Heap.get?_push_of_some _ (Heap.get?_push_of_some _ q)⟩
end
end PySem
namespace TG
open PySem L2 PyProof.Rows
noncomputable def enumD (l : List D) : List W := l.mapIdx fun i x => W.d (.tup [.int (i : Nat), x])
noncomputable def eEnum (a : Cmp (List W)) : Cmp (List W) := fun ρ s => (a ρ s).bind fun x s1 => match x with
  | [x] => (match seqD x with | some l => .ok (enumD l) s1 | none => .no)
  | _ => .no
section
variable {X : Cx} {cl : Str → Option Addr} {Wx : WX} {e : Expr} {elts : List Expr} {kk : Nat} {tpos pos p : Pos} {el : Cmp (List W)}
end
end TG

set_option Elab.async false
set_option linter.all false
set_option maxRecDepth 100000
set_option maxHeartbeats 2000000
namespace TG
open PySem L2 PyProof.Rows

theorem XOk.blk {X : Cx} {Wx : WX} (ok : XOk X Wx) {s : Shared} {H : Hp} {scope : Scope} {ce : Env} {fp : List Addr} : XOk (X.blk s H scope ce fp) W0 :=
  ⟨fun u s' ⟨a, B, sI, pins, σ, H, cls, d, e, I, nb, up, sky, na, os, ag, z⟩ => z.elim, PassesOwn.never, ok.nd⟩

noncomputable def fListOf (x : W) (s : S) : Res (List W) := match asSeq x s with | some l => .ok l s | none => .no
noncomputable def eListOf (a : Cmp (List W)) : Cmp (List W) := fun ρ s => (a ρ s).bind fun ws s1 => match ws with | [x] => fListOf x s1 | _ => .no
section
variable {X : Cx} {cl : Str → Option Addr} {Wx : WX} {e o i c : Expr} {es : List Expr} {pos p p' : Pos} {el : Cmp (List W)} {ea eo ei ev : Cmp W} {et : Cmp Bool} {b : Stm} {sts : List Stmt}
theorem jl_listof (hg : Gl X "list") (hm : X.mg "list" = none) (ha : JA cl Wx X [e] el) (h3 : starEach (e :: []) X.env = (false, eval e X.env) :: starEach [] X.env := by rfl) (h4 : ((backTo pos (starEach [] X.env)).any fun x => x.fst) = false := by rfl) :
    JL cl Wx X (.Call (.Name "list" p) [e] [] pos) (eListOf el) :=
  PE.weaken (pe_callTy call_list_of hg hm (by decide +kernel) ha (by decide) (by decide) h3 h4) fun σ H Q ⟨H0, m, ow, s, ρ, cx, h⟩ => ⟨H0, m, ow, s, ρ, cx, RunE.bind h fun ws s1 v H1 H1' m1 g st rr h2 => by
    cases rr with
    | nil => exact h2.elim
    | @cons v w vs ws r1 r2 =>
      cases r2 with
      | cons _ _ => exact h2.elim
      | nil =>
        have h2 : RunE X.K cl (rrL X.K cl) Wx H1 H1' m1 σ Q (fListOf w s1) := h2
        unfold fListOf at h2
        split at h2
        · rename_i l q
          obtain ⟨p, us, q1, q2, q3⟩ := asSeq_ok st r1 q
          refine ⟨p, us, by rw [q1], ?_, fun t ht => ?_⟩
          · rcases q2 with q2 | q2
            · exact .inl (sqL_of q2)
            · exact .inr (sqT_of q2)
          · exact h2 _ _ _ _ (Go.fresh ht) (st.fresh ht) ⟨t, us, rfl, ht, upd_same, st.h0 ht, st.notM ht, q3⟩
        · exact h2.elim⟩

noncomputable def setL (x i v : W) (s : S) : Option S := match x, asInt i with
  | .r n, some k => (match s[n]? with
    | some (.lst l) => (ixN l.length k).map fun j => s.set n (.lst (l.set j v))
    | _ => none)
  | _, _ => none
noncomputable def sSetI (o i v : Cmp W) : Stm := fun ρ s => ebS (v ρ s) ρ fun x ρ s => ebS (o ρ s) ρ fun y ρ s => ebS (i ρ s) ρ fun z ρ s => match setL y z x s with | some s' => .nx ρ s' | none => .no
theorem nodup_inj {m : List Addr} (nd : m.Nodup) {i j : Nat} {a : Addr} (h1 : m[i]? = some a) (h2 : m[j]? = some a) : i = j := by
  obtain ⟨i1, j1⟩ := List.getElem?_eq_some_iff.mp h1
  obtain ⟨i2, j2⟩ := List.getElem?_eq_some_iff.mp h2
  have q := List.pairwise_iff_getElem.mp nd
  rcases Nat.lt_trichotomy i j with z | z | z
  · exact absurd (j1.trans j2.symm) (q i j i1 i2 z)
  · exact z
  · exact absurd (j2.trans j1.symm) (q j i i2 i1 z)
theorem Stt.updCell {K : PySem.W.Frag} {H0 H : Hp} {m : List Addr} {s : S} {n : Nat} {a : Addr} {ho : HO} {c : Cell} (st : Stt K cl H0 H m s) (h1 : m[n]? = some a) (h2 : n < s.length) (r : CellR K cl H0 (upd H a ho) m a c) : Stt K cl H0 (upd H a ho) m (s.set n c) := by
  obtain ⟨z1, _⟩ := st.cell n a s[n] h1 (by simp [h2])
  refine ⟨fun b x e => ?_, by simp [st.len], st.nd, fun k q d e1 e2 => ?_⟩
  · have : b ≠ a := fun z => by subst z; rw [z1] at e; cases e
    rw [upd_ne this]; exact st.sub _ _ e
  · by_cases hk : n = k
    · subst hk
      rw [h1] at e1
      cases e1
      rw [List.getElem?_set_self h2] at e2
      cases e2
      exact ⟨z1, r⟩
    · rw [List.getElem?_set_ne hk] at e2
      obtain ⟨y1, y2⟩ := st.cell k q d e1 e2
      have ne : q ≠ a := fun z => by
        subst z
        exact hk (nodup_inj st.nd h1 e1)
      exact ⟨y1, y2.mono (Same.refl _) List.prefix_rfl fun o z => by rw [upd_ne ne]; exact z⟩
theorem Go.updCell {H0 H : Hp} {m : List Addr} {a : Addr} {ho : HO} (h : a ∈ m) : GoE H0 H m H0 (upd H a ho) m :=
  ⟨Same.refl _, List.prefix_rfl, fun b x e h1 _ => by
    have : b ≠ a := fun z => h1 (z ▸ h)
    rw [upd_ne this]; exact e, fun b e => by
    unfold upd; split
    · simp
    · exact e, fun _ _ _ _ e => e, fun _ e => .inl e, fun _ e => .inl e⟩
theorem js_setI (ho : JE cl Wx X o eo) (hi : JE cl Wx X i ei) (hv : JE cl Wx X e ev)
    (ha : ∀ v : Value, assign (.Subscript o i p) X.env v = (do let ov ← holding [v] (eval o X.env); let iv ← holding [v, ov] (eval i X.env); standAt p; holding [v, ov, iv] (setItem ov iv v); release [v, ov, iv] []) := by exact fun _ => rfl)
    (h1 : swapsWithSole [.Subscript o i p] e pos.line X.env = pure false := by rfl) (h2 : swappedStores [.Subscript o i p] e X.env = pure none := by rfl) (h3 : List.map (fun x => x.snd) (assignEach [.Subscript o i p] X.env) = [assign (.Subscript o i p) X.env] := by rfl) :
    JS cl Wx X (.Assign [.Subscript o i p] e pos) (sSetI eo ei ev) :=
  PS.weaken (ps_asg hv (pg_sub ho hi set_list ha) h1 h2 h3) fun E σ H ⟨H0, m, ow, s, ρ, cx, h⟩ => ⟨H0, m, ow, s, ρ, cx, RunS.ofE cx h fun x s1 v H1 H1' m1 g c rr q1 => ⟨H1, m1, ow, s1, ρ, c, RunS.ofE c q1 fun y s2 u H2 H2' m2 g2 c2 r2 q2 => ⟨H2, m2, ow, s2, ρ, c2, RunS.ofE c2 q2 fun z s3 uz H3 H3' m3 g3 c3 r3 q3 => by
    have q3 : RunS X.K cl Wx H3 H3' m3 ow E (match setL y z x s3 with | some s' => .nx ρ s' | none => .no) := q3
    have r2 := RepW.mono g3.s0 g3.pre r2
    have rr := RepW.mono (g2.trans g3).s0 (g2.trans g3).pre rr
    cases e1 : setL y z x s3 with
    | none => rw [e1] at q3; exact q3.elim
    | some s' =>
      rw [e1] at q3
      unfold setL at e1
      split at e1
      · rename_i n k e2 _
        obtain ⟨a, a1, a2⟩ := r2
        split at e1
        · rename_i l e3
          cases e4 : ixN l.length k with
          | none => rw [e4] at e1; cases e1
          | some j =>
            rw [e4] at e1
            cases e1
            obtain ⟨z1, vs, z2, z3⟩ := c3.st.cell n a _ a1 e3
            have hn : n < s3.length := (List.getElem?_eq_some_iff.mp e3).1
            have am : a ∈ m3 := List.mem_of_getElem? a1
            have gg : GoE H3 H3' m3 H3 (upd H3' a (.lst (vs.set j v))) m3 := Go.updCell am
            refine ⟨a, vs, k, j, a2, asInt_ok r3 e2, z2, by rw [z3.length]; exact e4, ?_⟩
            exact q3 σ _ _ _ _ gg.lift (c3.go gg (c3.st.updCell a1 hn ⟨_, upd_same, z3.set rr j⟩))
        · cases e1
      · cases e1⟩⟩⟩

noncomputable def whileE (t : Cmp Bool) (b : Stm) : Nat → Stm
  | 0 => fun _ _ => .no
  | n + 1 => fun ρ s => ebS (t ρ s) ρ fun x ρ s => if x = true then forK (whileE t b n) (b ρ s) else .nx ρ s
noncomputable def sWhile (f : Rho → Nat) (t : Cmp Bool) (b : Stm) : Stm := fun ρ s => whileE t b (f ρ) ρ s
noncomputable def sNo : Stm := fun _ _ => .no
noncomputable def sAug (i : Nat) (f : W → W → S → Res W) (e : Cmp W) : Stm := fun ρ s => match ρ[i]? with
  | some (.w x) => ebS (e ρ s) ρ fun y ρ s => ebS (f x y s) ρ fun z ρ s => .nx (ρ.set i (.w z)) s
  | _ => .no
noncomputable abbrev fMulI := fI2c kMul fun i j => .int (i * j)
noncomputable def sPar (i j : Nat) (a : Cmp (List W)) : Stm := fun ρ s => ebS (a ρ s) ρ fun ws ρ s => match ws with | [x, y] => .nx ((ρ.set i (.w x)).set j (.w y)) s | _ => .no
end
end TG

set_option Elab.async false
set_option linter.all false
set_option maxRecDepth 100000
set_option maxHeartbeats 2000000
namespace TG
open PySem L2 PyProof.Rows

noncomputable def fldOf (c f : Str) (x : W) (s : S) : Option W := match x with
  | .d (.ins c' l) => if c' = c then (l.lookup f).map W.d else none
  | .r n => (match s[n]? with | some (.ins c' l) => if c' = c then l.lookup f else none | _ => none)
  | _ => none
noncomputable def eFld (c f : Str) (a : Cmp W) : Cmp W := fun ρ s => (a ρ s).bind fun x s1 => match fldOf c f x s1 with | some w => .ok w s1 | none => .no
structure ClsF (K : PySem.W.Frag) (cl : Str → Option Addr) (c f : Str) : Prop where
  at_ : ∀ C, cl c = some C → Cls K C ∧ NoAttr K C f
noncomputable def putW (f : Str) (v : W) : List (Str × W) → List (Str × W)
  | [] => [(f, v)]
  | (g, x) :: r => if g = f then (g, v) :: r else (g, x) :: putW f v r
section
variable {K : PySem.W.Frag} {cl : Str → Option Addr} {H0 : Hp} {m : List Addr}
theorem RepF.look {fs : List (Str × V)} {l : List (Str × D)} {f : Str} {x : D} (h : RepF K cl H0 fs l) (e : l.lookup f = some x) : ∃ v, fs.lookup f = some v ∧ Rep K cl H0 v x := by
  induction l generalizing fs with
  | nil => cases e
  | cons a l ih =>
    obtain ⟨g, y⟩ := a
    cases h with
    | @cons _ v _ vs _ h1 h2 =>
      by_cases q : f = g
      · subst q
        simp [List.lookup] at e ⊢
        subst e
        exact h1
      · have q' : (f == g) = false := by simpa using q
        simp only [List.lookup, q'] at e ⊢
        exact ih h2 e
theorem RepWK.look {fs : List (Str × V)} {l : List (Str × W)} {f : Str} {x : W} (h : RepWK K cl H0 m fs l) (e : l.lookup f = some x) : ∃ v, fs.lookup f = some v ∧ RepW K cl H0 m v x := by
  induction h with
  | nil => cases e
  | @cons g v d vs ds h1 h2 ih =>
    by_cases q : f = g
    · subst q
      simp [List.lookup] at e ⊢
      subst e
      exact h1
    · have q' : (f == g) = false := by simpa using q
      simp only [List.lookup, q'] at e ⊢
      exact ih e
theorem RepWK.put {fs : List (Str × V)} {l : List (Str × W)} (h : RepWK K cl H0 m fs l) (f : Str) {v : V} {x : W} (r : RepW K cl H0 m v x) : RepWK K cl H0 m (putF f v fs) (putW f x l) := by
  induction h with
  | nil => exact .cons r .nil
  | @cons g u d vs ds h1 h2 ih =>
    unfold putF putW
    by_cases q : g = f
    · rw [if_pos q, if_pos q]; exact .cons r h2
    · rw [if_neg q, if_neg q]; exact .cons h1 ih
theorem RepWK.length {κ : Type} {fs : List (κ × V)} {l : List (κ × W)} (h : RepWK K cl H0 m fs l) : fs.length = l.length := by
  induction h with
  | nil => rfl
  | cons _ _ ih => rw [List.length_cons, List.length_cons, ih]
theorem fldOf_ok {H : Hp} {s : S} {c f : Str} {v : V} {x y : W} (F : ClsF K cl c f) (st : Stt K cl H0 H m s) (r : RepW K cl H0 m v x) (e : fldOf c f x s = some y) :
    ∃ a C dx fs u, v = .ref a ∧ H a = some (.ins C dx fs) ∧ Cls K C ∧ NoAttr K C f ∧ fs.lookup f = some u ∧ RepW K cl H0 m u y := by
  unfold fldOf at e
  split at e
  · rename_i c' l
    split at e
    · rename_i hc
      subst hc
      cases r with
      | ins h1 h2 h3 =>
        cases q : l.lookup f with
        | none => rw [q] at e; cases e
        | some z =>
          rw [q] at e
          cases e
          obtain ⟨u, k1, k2⟩ := h3.look q
          exact ⟨_, _, _, _, u, rfl, st.sub _ _ h1, (F.at_ _ h2).1, (F.at_ _ h2).2, k1, k2⟩
    · cases e
  · obtain ⟨a, a1, a2⟩ := r
    split at e
    · rename_i c' l q
      split at e
      · rename_i hc
        subst hc
        obtain ⟨_, C, dx, fs, k1, k2, k3⟩ := st.cell _ a _ a1 q
        obtain ⟨u, j1, j2⟩ := k3.look e
        exact ⟨a, C, dx, fs, u, a2, k1, (F.at_ _ k2).1, (F.at_ _ k2).2, j1, j2⟩
      · cases e
    · cases e
  · cases e
end
section
variable {X : Cx} {cl : Str → Option Addr} {Wx : WX} {e o : Expr} {es : List Expr} {pos p p' : Pos} {ea eo : Cmp W} {el : Cmp (List W)} {c f : Str}
theorem je_fld (F : ClsF X.K cl c f) (h : JE cl Wx X e ea) (hb : attributeBase e f X.env (eval e X.env) = eval e X.env := by rfl) : JE cl Wx X (.Attribute e f pos) (eFld c f ea) :=
  PE.weaken (pe_fld h hb) fun σ H Q ⟨H0, m, ow, s, ρ, cx, h⟩ => ⟨H0, m, ow, s, ρ, cx, RunE.bind h fun x s1 v H1 H1' m1 g st rr h2 => by
    have h2 : RunE X.K cl (rrW X.K cl) Wx H1 H1' m1 σ Q (match fldOf c f x s1 with | some w => .ok w s1 | none => .no) := h2
    cases q : fldOf c f x s1 with
    | none => rw [q] at h2; exact h2.elim
    | some y =>
      rw [q] at h2
      obtain ⟨a, C, dx, fs, u, k1, k2, k3, k4, k5, k6⟩ := fldOf_ok F st rr q
      exact ⟨a, C, dx, fs, u, k1, k2, k3, k4, k5, h2.done st k6⟩⟩
noncomputable def setF (c f : Str) (x v : W) (s : S) : Option S := match x with
  | .r n => (match s[n]? with
    | some (.ins c' l) => if c' = c ∧ l.length < 1000 then some (s.set n (.ins c (putW f v l))) else none
    | _ => none)
  | _ => none
noncomputable def sFld (c f : Str) (o v : Cmp W) : Stm := fun ρ s => ebS (v ρ s) ρ fun x ρ s => ebS (o ρ s) ρ fun y ρ s => match setF c f y x s with | some s' => .nx ρ s' | none => .no
theorem js_fld (F : ClsF X.K cl c f) (ho : JE cl Wx X o eo) (h : JE cl Wx X e ea) (hs : swapsWith e (some (.Attribute o f p')) pos.line X.env = pure false := by rfl) : JS cl Wx X (.Assign [.Attribute o f p'] e pos) (sFld c f eo ea) :=
  PS.weaken (ps_fld ho h hs) fun E σ H ⟨H0, m, ow, s, ρ, cx, h⟩ => ⟨H0, m, ow, s, ρ, cx, RunS.ofE cx h fun x s1 v H1 H1' m1 g ct rr h2 => ⟨H1, m1, ow, s1, ρ, ct, RunS.ofE ct h2 fun y s2 u H2 H2' m2 g2 c2 r2 h3 => by
    have h3 : RunS X.K cl Wx H2 H2' m2 ow E (match setF c f y x s2 with | some s' => .nx ρ s' | none => .no) := h3
    have rr := RepW.mono g2.s0 g2.pre rr
    cases e1 : setF c f y x s2 with
    | none => rw [e1] at h3; exact h3.elim
    | some s' =>
      rw [e1] at h3
      unfold setF at e1
      split at e1
      · obtain ⟨a, a1, a2⟩ := r2
        split at e1
        · rename_i c' l e3
          split at e1
          · rename_i hc
            obtain ⟨rfl, hl⟩ := hc
            cases e1
            obtain ⟨z1, C, dx, fs, k1, k2, k3⟩ := c2.st.cell _ a _ a1 e3
            have hn := (List.getElem?_eq_some_iff.mp e3).1
            have gg : GoE H2 H2' m2 H2 (upd H2' a (.ins C dx (putF f v fs))) m2 := Go.updCell (List.mem_of_getElem? a1)
            refine ⟨a, C, dx, fs, a2, k1, (F.at_ _ k2).1, (F.at_ _ k2).2, by rw [k3.length]; exact hl, ?_⟩
            exact h3 σ _ _ _ _ gg.lift (c2.go gg (c2.st.updCell a1 hn ⟨C, dx, _, upd_same, k2, k3.put f rr⟩))
          · cases e1
        · cases e1
      · cases e1⟩⟩
end

section
variable {K : PySem.W.Frag} {cl : Str → Option Addr} {H0 H H0' H' : Hp} {m m' : List Addr} {s s1 s2 : S} {p : Addr}
theorem Stt.push {c : Cell} (st : Stt K cl H0 H m s) (h0 : H0 p = none) (hm : p ∉ m) (r : CellR K cl H0 H m p c) : Stt K cl H0 H (m ++ [p]) (s ++ [c]) := by
  refine ⟨st.sub, by simp [st.len], ?_, fun n a d q1 q2 => ?_⟩
  · rw [List.nodup_append]
    exact ⟨st.nd, by simp, fun a ha b hb => by rw [List.mem_singleton] at hb; subst hb; intro z; subst z; exact hm ha⟩
  · by_cases hn : n < m.length
    · rw [List.getElem?_append_left hn] at q1
      rw [List.getElem?_append_left (by rw [← st.len]; exact hn)] at q2
      obtain ⟨r1, r2⟩ := st.cell n a d q1 q2
      exact ⟨r1, r2.mono (Same.refl _) (List.prefix_append _ _) fun _ z => z⟩
    · have hn' : n = m.length := by
        have := (List.getElem?_eq_some_iff.mp q1).1
        rw [List.length_append] at this
        simp at this
        omega
      subst hn'
      rw [List.getElem?_append_right (Nat.le_refl _)] at q1
      rw [st.len, List.getElem?_append_right (Nat.le_refl _)] at q2
      simp at q1 q2
      subst q1
      subst q2
      exact ⟨h0, r.mono (Same.refl _) (List.prefix_append _ _) fun _ z => z⟩
theorem Go.push (g : GoE H0 H m H0' H' m') (hp : H p = none) : GoE H0 H m H0' H' (m' ++ [p]) :=
  ⟨g.s0, g.pre.trans (List.prefix_append _ _), g.fr, g.dom, g.n0, fun a ha => by
    rcases List.mem_append.mp ha with ha | ha
    · exact g.nm a ha
    · rw [List.mem_singleton] at ha; subst ha; exact .inr (.inr hp), g.nw⟩
theorem RepWs.back {vs us : List V} {l : List W} (h : RepWs K cl H0 m vs l) (h' : RepWs K cl H0' m' us l) (p : m <+: m') : RepWs K cl H0' m us l := by
  induction h generalizing us with
  | nil => cases h'; exact .nil
  | @cons v d vs l h1 h2 ih =>
    cases h' with
    | cons k1 k2 =>
      refine .cons ?_ (ih k2)
      cases d with
      | d x => exact k1
      | r n =>
        obtain ⟨a, a1, _⟩ := h1
        obtain ⟨b, b1, b2⟩ := k1
        exact ⟨b, by
          obtain ⟨t, rfl⟩ := p
          rw [List.getElem?_append_left (List.getElem?_eq_some_iff.mp a1).1] at b1
          exact b1, b2⟩
theorem RepWK.back {κ : Type} {vs us : List (κ × V)} {l : List (κ × W)} (h : RepWK K cl H0 m vs l) (h' : RepWK K cl H0' m' us l) (p : m <+: m') : RepWK K cl H0' m us l := by
  induction h generalizing us with
  | nil => cases h'; exact .nil
  | @cons k v d vs l h1 h2 ih =>
    cases h' with
    | cons k1 k2 =>
      refine .cons ?_ (ih k2)
      cases d with
      | d x => exact k1
      | r n =>
        obtain ⟨a, a1, _⟩ := h1
        obtain ⟨b, b1, b2⟩ := k1
        exact ⟨b, by
          obtain ⟨t, rfl⟩ := p
          rw [List.getElem?_append_left (List.getElem?_eq_some_iff.mp a1).1] at b1
          exact b1, b2⟩
theorem Stt.trunc (st1 : Stt K cl H0 H m s1) (g : GoE H0 H m H0' H' m') (st2 : Stt K cl H0' H' m' s2) (h : s2.take s1.length = s1) : Stt K cl H0' H' m s1 := by
  refine ⟨st2.sub, st1.len, st1.nd, fun n a c e1 e2 => ?_⟩
  have hn : n < s1.length := (List.getElem?_eq_some_iff.mp e2).1
  have e1' : m'[n]? = some a := by
    obtain ⟨t, rfl⟩ := g.pre
    rw [List.getElem?_append_left (List.getElem?_eq_some_iff.mp e1).1]; exact e1
  have e2' : s2[n]? = some c := by
    rw [← h, List.getElem?_take_of_lt hn] at e2; exact e2
  obtain ⟨q1, q2⟩ := st2.cell n a c e1' e2'
  obtain ⟨_, r2⟩ := st1.cell n a c e1 e2
  refine ⟨q1, ?_⟩
  cases c with
  | lst l =>
    obtain ⟨vs, x1, x2⟩ := q2
    obtain ⟨us, y1, y2⟩ := r2
    exact ⟨vs, x1, y2.back x2 g.pre⟩
  | dic l =>
    obtain ⟨vs, x1, x2⟩ := q2
    obtain ⟨us, y1, y2⟩ := r2
    exact ⟨vs, x1, y2.back x2 g.pre⟩
  | ins c l =>
    obtain ⟨C, dx, vs, x1, x2, x3⟩ := q2
    obtain ⟨_, _, us, y1, _, y2⟩ := r2
    exact ⟨C, dx, vs, x1, x2, y2.back x3 g.pre⟩
  | tup l =>
    obtain ⟨vs, x1, x2⟩ := q2
    obtain ⟨us, y1, y2⟩ := r2
    exact ⟨vs, x1, y2.back x2 g.pre⟩
theorem Go.trunc (g : GoE H0 H m H0' H' m') : GoE H0 H m H0' H' m := ⟨g.s0, List.prefix_rfl, g.fr, g.dom, g.n0, fun _ h => .inl h, fun _ h => by cases h⟩
end

noncomputable def allDataF : List (Str × W) → Option (List (Str × D))
  | [] => some []
  | (k, .d x) :: r => (allDataF r).map ((k, x) :: ·)
  | (_, .r _) :: _ => none
theorem RepWK.dataF {K : PySem.W.Frag} {cl : Str → Option Addr} {H0 : Hp} {m : List Addr} {vs : List (Str × V)} {l : List (Str × W)} {ds : List (Str × D)} (h : RepWK K cl H0 m vs l) (e : allDataF l = some ds) : RepF K cl H0 vs ds := by
  induction h generalizing ds with
  | nil => cases e; exact .nil
  | @cons k v d vs l h1 h2 ih =>
    cases d with
    | r n => cases e
    | d x =>
      unfold allDataF at e
      cases q : allDataF l with
      | none => rw [q] at e; cases e
      | some z => rw [q] at e; cases e; exact .cons h1 (ih q)
open Classical in
noncomputable def madeD (c : Str) (s1 : S) : Res RV → Res W
  | .ok (.w (.d .non)) s2 => (match s2[s1.length]? with
    | some (.ins c' l) => if c' = c ∧ s2.take s1.length = s1 then (match allDataF l with | some ds => .ok (.d (.ins c ds)) s1 | none => .no) else .no
    | _ => .no)
  | .ok _ _ => .no
  | .exc d x s2 => if s2.take s1.length = s1 then .exc d x s1 else .no
  | .no => .no
noncomputable def eMake (c : Str) (f : Sem1) (a : Cmp (List W)) : Cmp W := fun ρ s => (a ρ s).bind fun ws s1 => madeD c s1 (f (.r s1.length :: ws) (s1 ++ [.ins c []]))
noncomputable def madeC (s1 : S) : Res RV → Res W
  | .ok (.w (.d .non)) s2 => .ok (.r s1.length) s2
  | .ok _ _ => .no
  | .exc d x s2 => .exc d x s2
  | .no => .no
noncomputable def eMakeC (c : Str) (f : Sem1) (a : Cmp (List W)) : Cmp W := fun ρ s => (a ρ s).bind fun ws s1 => madeC s1 (f (.r s1.length :: ws) (s1 ++ [.ins c []]))
structure ClsAt (P : Program) (w : World) (K : PySem.W.Frag) (mg : Str → Option Value) (base : Heap) (cl : Str → Option Addr) (k : Nat) (c : Str) (ps : List Str) (f : Sem1) : Prop where
  ex : ∃ (C a : Addr) (fd : FuncData), cl c = some C ∧ mg c = some (.ref C) ∧ Mk K C a ∧ Binds K fd ps [] ∧ FnOk P w K mg base (L2.CX P w) k a fd ps (spOf K cl f)
theorem ClsAt.mono {P : Program} {w : World} {K : PySem.W.Frag} {mg : Str → Option Value} {base : Heap} {cl : Str → Option Addr} {j k : Nat} {c : Str} {ps : List Str} {f : Sem1} (F : ClsAt P w K mg base cl j c ps f) (h : j ≤ k) : ClsAt P w K mg base cl k c ps f := by
  obtain ⟨C, a, fd, h0, h1, h2, h3, h4⟩ := F.ex
  exact ⟨C, a, fd, h0, h1, h2, h3, h4.mono h⟩
section
variable {X : Cx} {cl : Str → Option Addr} {E : XK} {e : Expr} {es : List Expr} {pos p : Pos} {el : Cmp (List W)} {k : Nat} {c : Str} {ps : List Str} {f : Sem1}
theorem passE (ok : XOk X (wxE E)) : Passes (L2.CX X.prog X.w) X E := passes_call ok.tk fun _ _ _ _ h => h
theorem made_start {K : PySem.W.Frag} {H0 H : Hp} {m : List Addr} {s : S} {C x dx : Addr} (st : Stt K cl H0 H m s) (hC : cl c = some C) (hx : H x = none) (hdx : H dx = none) (hn : dx ≠ x) :
    Stt K cl H0 (upd (upd H dx (.own x)) x (.ins C dx [])) (m ++ [x]) (s ++ [.ins c []]) ∧ GoE H0 H m H0 (upd (upd H dx (.own x)) x (.ins C dx [])) (m ++ [x]) := by
  have hx' : (upd H dx (.own x)) x = none := by rw [upd_ne hn.symm]; exact hx
  have st' := (st.fresh (o := .own x) hdx).fresh (o := .ins C dx []) hx'
  exact ⟨st'.push (st.h0 hx) (st.notM hx) ⟨C, dx, [], upd_same, hC, .nil⟩, ((Go.fresh hdx).trans (Go.fresh hx')).push hx⟩
theorem je_make (ok : XOk X (wxE E)) (hr : Room (k + 1) X.A) (F : ClsAt X.prog X.w X.K X.mg X.base cl k c ps f) (ha : JA cl (wxE E) X (e :: es) el) (hg : Gl X c := by rfl)
    (h1 : (c == Str.ofString "__debug__") = false := by decide) (h2 : starEach (e :: es) X.env = (false, eval e X.env) :: starEach es X.env := by rfl) (h3 : ((backTo pos (starEach es X.env)).any fun x => x.fst) = false := by rfl) :
    JE cl (wxE E) X (.Call (.Name c p) (e :: es) [] pos) (eMake c f el) := by
  obtain ⟨C, a, fd, q0, q1, q2, q3, q4⟩ := F.ex
  refine PE.weaken (pe_make q2 q4 hr hg q1 q3 .nil (passE ok) ha h1 h2 h3) fun σ H Q ⟨H0, m, ow, s, ρ, cx, h⟩ => ⟨H0, m, ow, s, ρ, cx, RunE.bind h fun ws s1 vs H1 H1' m1 g st rr h4 x dx hx hdx hn => ?_⟩
  obtain ⟨st1, g1⟩ := made_start (c := c) st q0 hx hdx hn
  refine ⟨H1, m1 ++ [x], _, .r s1.length :: ws, st1, ?_, ?_⟩
  · rw [List.append_nil]
    exact .cons ⟨x, by rw [← st.len]; simp, rfl⟩ (rr.mono (Same.refl _) (List.prefix_append _ _))
  · cases e1 : f (.r s1.length :: ws) (s1 ++ [.ins c []]) with
    | no => rw [e1] at h4; exact h4
    | exc d z s2 =>
      rw [e1] at h4
      unfold madeD at h4
      dsimp only at h4
      split at h4
      · rename_i hs
        exact fun cv dd H0' H' m' g' st' r' => h4 cv dd H0' H' m1 (g1.trans g').trunc (st.trunc (g1.trans g') st' hs) r'
      · exact h4.elim
    | ok rv s2 =>
      rw [e1] at h4
      unfold madeD at h4
      intro v H0' H' m' g' st' r'
      split at h4
      · rename_i s3 e2
        cases e2
        have hv : v = .non := by cases r'; rfl
        subst hv
        refine ⟨rfl, ?_⟩
        split at h4
        · rename_i c' l e3
          split at h4
          · rename_i hc
            obtain ⟨rfl, ht⟩ := hc
            split at h4
            · rename_i ds e4
              have gg := g1.trans g'
              have hm' : m'[s1.length]? = some x := by
                obtain ⟨t, rfl⟩ := g'.pre
                rw [List.append_assoc, ← st.len, List.getElem?_append_right (Nat.le_refl _)]
                simp
              obtain ⟨z1, C', dx', fs, z2, z3, z4⟩ := st'.cell _ x _ hm' e3
              have stT := st.trunc gg st' ht
              have rF := z4.dataF e4
              refine h4 _ (upd H0' x (.ins C' dx' fs)) H' m1 (gg.trunc.freeze st hx) (stT.freeze z1 z2 (st.notM hx)) (Rep.ins upd_same z3 (rF.mono (same_upd z1)))
            · exact h4.elim
          · exact h4.elim
        · exact h4.elim
      · exact h4.elim
      · rename_i e2; cases e2
      · rename_i e2; cases e2
end
end TG

set_option Elab.async false
set_option linter.all false
set_option maxRecDepth 100000
set_option maxHeartbeats 2000000
namespace TG
open PySem L2 PyProof.Rows

section
variable {P : Program} {w : World} {K : PySem.W.Frag} {mg : Str → Option Value} {base : Heap} {cl : Str → Option Addr}
theorem fn_okD {x qual : Str} {params : Arguments} {body : List Stmt} {scope : Scope} {dvs : List V} {f : Addr} {fd : FuncData} {N ps : List Str} {k : Nat} {b : Stm} (F : FunD K x qual params body scope dvs [] f fd) (S : FnScope N ps scope)
    (h : ∀ (cdv : Value) (A : Around) (outer : List Env) (s : Shared) (H : Hp) (E : XK), Room k (A.deeper (envOfC qual scope s.heap.objs.size f cdv)) →
      XOk (cxOf (L2.CX P w) P w K mg base N qual scope f cdv A outer s H E) (wxE E) → JB cl (wxE E) (cxOf (L2.CX P w) P w K mg base N qual scope f cdv A outer s H E) body b) :
    FnOk P w K mg base (L2.CX P w) (k + 1) f fd ps (spOf K cl (runF ps.length N.length b)) := by
  have len : ∀ {vs : List V} {H : Hp} {Q : VK} {E : XK}, spOf K cl (runF ps.length N.length b) vs H Q E → vs.length = ps.length := fun {vs H Q E} ⟨H0, m, s, ws, _, r, q⟩ => by
    by_cases hl : ws.length = ps.length
    · rw [r.length, hl]
    · unfold runF at q
      rw [if_neg hl] at q
      exact q.elim
  refine F.ok S (fun vs H Q E h => len h) fun cdv A outer s H vs Q E hr hsp => ?_
  have hl := len hsp
  refine ⟨_, h cdv A outer s H E hr ⟨takes_of rfl rfl rfl rfl, passes_of rfl, S.nd⟩, ?_⟩
  obtain ⟨H0, m, s', ws, st', rw', q⟩ := hsp
  have hlw : ws.length = ps.length := by rw [← rw'.length]; exact hl
  unfold runF at q
  rw [if_pos hlw] at q
  refine ⟨H0, m, [], s', ws.map .w ++ List.replicate (N.length - ps.length) .no, ⟨st', ?_⟩, ?_⟩
  · show EnvR K cl H0 H m [] (vs.map some ++ List.replicate (N.length - vs.length) none) _
    rw [hl]
    exact rw'.slot _
  · have g0 : ∀ {H0' H' : Hp} {m' ow' : List Addr}, Go H0 H m [] H0' H' m' ow' → GoE H0 H m H0' H' m' := fun g => ⟨g.s0, g.pre, g.fr, g.dom, g.n0, g.nm, fun a z => by cases z⟩
    cases e1 : b (ws.map .w ++ List.replicate (N.length - ps.length) .no) s' with
    | nx ρ s2 => rw [e1] at q; exact fun σ' H0' H' m' ow' g c => q _ _ _ _ (g0 g) c.st Rep.non
    | ret v s2 => rw [e1] at q; exact fun u H0' H' m' ow' g st r => q u _ _ _ (g0 g) st r
    | exc c x ρ s2 => rw [e1] at q; exact fun cv dd σ' H0' H' m' ow' g c e => q _ _ _ _ _ (g0 g) c.st e
    | brk ρ s2 => rw [e1] at q; exact q.elim
    | cnt ρ s2 => rw [e1] at q; exact q.elim
    | no => rw [e1] at q; exact q.elim
theorem fund_mk {x qual : Str} {st : Stmt} {f T : Addr} {oc : Value} {od an : Option Addr} {osl : Array (Option Value)} {kV doc pm cdv ct : Value} {dvs : List V} {its : List Value} {cT : Value} {dT : Option Addr} {n : Nat} {sT : Array (Option Value)}
    (l : K.lookup f = some ⟨oc, od, .func (PySem.W.fnOf x qual (defArgs st) (defBody st) (defScope st) (.ref T) kV doc pm an cdv ct), osl⟩) (c : PySem.W.codeIn K cdv qual = true) (k : PySem.W.keepIn K (.ref f) = true)
    (lT : K.lookup T = some ⟨cT, dT, .seq its.toArray n, sT⟩) (ne : dvs ≠ []) (r : Vals dvs its) :
    FunD K x qual (defArgs st) (defBody st) (defScope st) dvs [] f (PySem.W.fnOf x qual (defArgs st) (defBody st) (defScope st) (.ref T) kV doc pm an cdv ct) :=
  ⟨⟨oc, od, .ref T, kV, doc, pm, an, cdv, ct, osl, rfl, l, c, .inr ⟨ne, T, _, its, n, rfl, lT, rfl, r⟩, .inl rfl⟩, k⟩
theorem bindsD {x qual : Str} {params : Arguments} {body : List Stmt} {scope : Scope} {dvs : List V} {f : Addr} {fd : FuncData} {ps : List Str} (F : FunD K x qual params body scope dvs [] f fd) (hd : dvs ≠ [])
    (h : ∀ (T : Addr) (kV doc pm : Value) (an : Option Addr) (cdv ct : Value) (us its : List Value), us.length = ps.length → its.length = dvs.length →
      ∃ k, bindArgs (PySem.W.fnOf x qual params body scope (.ref T) kV doc pm an cdv ct) ⟨us, []⟩ = seqItems? (.ref T) >>= k ∧ k (some its.toArray) = pure (ps.zip us)) : Binds K fd ps [] := by
  obtain ⟨ds, r, b⟩ := F.binds1 (ps := ps) ps.length dvs.length hd (by simp) fun T kV doc pm an cdv ct us its h1 h2 => by
    obtain ⟨k, e1, e2⟩ := h T kV doc pm an cdv ct us its h1 h2
    refine ⟨k, e1, ?_⟩
    rw [e2, ← h2, List.drop_length, List.append_nil]
  rw [List.drop_length] at r
  cases r
  exact b
noncomputable def spLaw (K : PySem.W.Frag) : Sp := fun vs H Q _ => ∃ (a : Addr) (ns : List Int), vs = [.ref a] ∧ SqL K H a (ns.map V.int) ∧ ns.length ≤ 63 ∧ ∀ H', Q (.bl true) H'
theorem cx_false {P : Program} {w : World} (H : Hp) (s : Shared) (e : Value) (s' : Shared) : L2.CX P w [] H s (fun _ _ _ => False) e s' → False := fun ⟨_, _, _, _, _, _, _, _, _, _, _, _, z⟩ => z
end
section
variable {X : Cx} {cl : Str → Option Addr} {Wx : WX} {a e elt tg iter : Expr} {ifs : List Expr} {es : List Expr} {pos p py spos : Pos} {ea ee : Cmp W} {el ec : Cmp (List W)} {et : Cmp Bool} {t : Tgt} {sl : List Nat} {own : List (Str × Nat)} {scope : Scope}
theorem je_globI' {x : Str} {i : Int} (hg : Gl X x) (hm : ∃ t, X.mg x = some (.int i t)) (hd : (x == ("__debug__" : Str)) = false := by decide) : JE cl Wx X (.Name x pos) (eC (.int i)) := by
  obtain ⟨t, h⟩ := hm
  exact je_globI hg h hd
theorem asg_lc {i : Nat} {E : Ends} {σ : L2.St} {H : Hp} {tt : TE} (h : Sof X.K cl Wx (sSetO i el) E σ H) (q : ∀ σ H Q, Tof X.K cl (rrL X.K cl) Wx el σ H Q → tt σ H Q) : tAsg tt (gName i) E σ H := q _ _ _ (asg_own rfl h)
theorem js_setLcO (i : Nat) {y : Str} (hc : X.calm = true) (nd : X.N.Nodup) (hN : X.N[i]? = some y) (hi : JI cl Wx X tg iter ec) (ok : BlkOk X.N X.env.scope scope own)
    (hg : ∀ (s : Shared) (H : Hp) (C : Addr) (cc : List (Str × Addr)) (fp : List Addr), JG cl (X.blk s H scope (compEnvC scope cc C X.env) fp) tg t sl)
    (ht : ∀ (s : Shared) (H : Hp) (C : Addr) (cc : List (Str × Addr)) (fp : List Addr), JTs cl (X.blk s H scope (compEnvC scope cc C X.env) fp) ifs et)
    (he : ∀ (s : Shared) (H : Hp) (C : Addr) (cc : List (Str × Addr)) (fp : List Addr), JE cl W0 (X.blk s H scope (compEnvC scope cc C X.env) fp) elt ee)
    (hl : List.lookup y X.env.scope.names = some NameKind.local := by rfl) (hw : swapsWith (.ListComp elt [⟨tg, iter, ifs, 0⟩] scope pos) (some (.Name y py)) spos.line X.env = pure true := by exact sw_true rfl rfl rfl (by decide +kernel))
    (hsub : ∀ j ∈ sl, j ∈ own.map (·.2) := by decide) (hs : ∀ x, foldedSetIterable iter X.env x = pure x := by exact fun _ => rfl) :
    JS cl Wx X (.Assign [.Name y py] (.ListComp elt [⟨tg, iter, ifs, 0⟩] scope pos) spos) (sSetO i (eLc (own.map (·.2)) ec t et ee)) :=
  PS.weaken (ps_setLc (g := Gof X.K cl t sl) (tt := Tof X.K cl rrB W0 et) (te := Tof X.K cl (rrW X.K cl) W0 ee) hc nd hN hl hw hi ok hg ht he hs) fun E σ H h => asg_lc h fun σ H Q q => lc_tof hsub σ H Q q
theorem js_setLc (i : Nat) {y : Str} (hc : X.calm = true) (nd : X.N.Nodup) (hN : X.N[i]? = some y) (hi : JI cl Wx X tg iter ec) (ok : BlkOk X.N X.env.scope scope own)
    (hg : ∀ (s : Shared) (H : Hp) (C : Addr) (cc : List (Str × Addr)) (fp : List Addr), JG cl (X.blk s H scope (compEnvC scope cc C X.env) fp) tg t sl)
    (ht : ∀ (s : Shared) (H : Hp) (C : Addr) (cc : List (Str × Addr)) (fp : List Addr), JTs cl (X.blk s H scope (compEnvC scope cc C X.env) fp) ifs et)
    (he : ∀ (s : Shared) (H : Hp) (C : Addr) (cc : List (Str × Addr)) (fp : List Addr), JE cl W0 (X.blk s H scope (compEnvC scope cc C X.env) fp) elt ee)
    (hl : List.lookup y X.env.scope.names = some NameKind.local := by rfl) (hw : swapsWith (.ListComp elt [⟨tg, iter, ifs, 0⟩] scope pos) (some (.Name y py)) spos.line X.env = pure true := by exact sw_true rfl rfl rfl (by decide +kernel))
    (hsub : ∀ j ∈ sl, j ∈ own.map (·.2) := by decide) (hs : ∀ x, foldedSetIterable iter X.env x = pure x := by exact fun _ => rfl) :
    JS cl Wx X (.Assign [.Name y py] (.ListComp elt [⟨tg, iter, ifs, 0⟩] scope pos) spos) (sSet i (eFrz (eLc (own.map (·.2)) ec t et ee))) :=
  PS.weaken (ps_setLc (g := Gof X.K cl t sl) (tt := Tof X.K cl rrB W0 et) (te := Tof X.K cl (rrW X.K cl) W0 ee) hc nd hN hl hw hi ok hg ht he hs) fun E σ H ⟨H0, m, ow, s, ρ, cx, h⟩ =>
    lc_tof hsub σ H _ (frz_tof ⟨H0, m, ow, s, ρ, cx, RunS.ofE cx h fun x s1 v H1 H1' m1 g c rr h2 => RunS.nxt h2 (c.setW rr i)⟩)
end
end TG

set_option linter.all false
set_option maxRecDepth 100000
namespace TG
open PySem L2
@[simp] theorem bind_ok {α β : Type} (a : α) (s : S) (k : α → S → Res β) : (Res.ok a s).bind k = k a s := (rfl)
@[simp] theorem bind_exc {α β : Type} (c : Str) (x : Option D) (s : S) (k : α → S → Res β) : (Res.exc c x s).bind k = .exc c x s := (rfl)
@[simp] theorem bind_no {α β : Type} (k : α → S → Res β) : (Res.no).bind k = .no := (rfl)
@[simp] theorem ebS_ok {α : Type} (a : α) (s : S) (ρ : Rho) (k : α → Stm) : ebS (.ok a s) ρ k = k a ρ s := (rfl)
@[simp] theorem ebS_exc {α : Type} (c : Str) (x : Option D) (s : S) (ρ : Rho) (k : α → Stm) : ebS (.exc c x s) ρ k = .exc c x ρ s := (rfl)
@[simp] theorem sbind_nx (ρ : Rho) (s : S) (k : Stm) : (RS.nx ρ s).bind k = k ρ s := (rfl)
@[simp] theorem sbind_ret (v : RV) (s : S) (k : Stm) : (RS.ret v s).bind k = .ret v s := (rfl)
@[simp] theorem sbind_brk (ρ : Rho) (s : S) (k : Stm) : (RS.brk ρ s).bind k = .brk ρ s := (rfl)
@[simp] theorem sbind_cnt (ρ : Rho) (s : S) (k : Stm) : (RS.cnt ρ s).bind k = .cnt ρ s := (rfl)
@[simp] theorem sbind_exc (c : Str) (x : Option D) (ρ : Rho) (s : S) (k : Stm) : (RS.exc c x ρ s).bind k = .exc c x ρ s := (rfl)
@[simp] theorem forK_nx (k : Stm) (ρ : Rho) (s : S) : forK k (.nx ρ s) = k ρ s := (rfl)
@[simp] theorem forK_cnt (k : Stm) (ρ : Rho) (s : S) : forK k (.cnt ρ s) = k ρ s := (rfl)
@[simp] theorem forK_brk (k : Stm) (ρ : Rho) (s : S) : forK k (.brk ρ s) = .nx ρ s := (rfl)
@[simp] theorem forK_ret (k : Stm) (v : RV) (s : S) : forK k (.ret v s) = .ret v s := (rfl)

section
noncomputable def kBin (f : W → W → S → Res W) (b : Cmp W) (ρ : Rho) : W → S → Res W := fun x s => (b ρ s).bind (f x)
noncomputable def kTest : W → S → Res Bool := fun x s => match asBool x with | some b => .ok b s | none => .no
noncomputable def kCons2 (x : W) : List W → S → Res (List W) := fun y s => .ok (x :: y) s
noncomputable def kCons (l : Cmp (List W)) (ρ : Rho) : W → S → Res (List W) := fun x s => (l ρ s).bind (kCons2 x)
noncomputable def kPart : W → S → Res (Option Int) := fun x s => match asInt x with | some i => .ok (some i) s | none => .no
noncomputable def kSl2 (f : W → Option Int → Option Int → S → Res W) (q : Cmp (Option Int)) (ρ : Rho) (x : W) : Option Int → S → Res W := fun i s => (q ρ s).bind (f x i)
noncomputable def kSl (f : W → Option Int → Option Int → S → Res W) (p q : Cmp (Option Int)) (ρ : Rho) : W → S → Res W := fun x s => (p ρ s).bind (kSl2 f q ρ x)
noncomputable def kAndT (u : Cmp Bool) (ρ : Rho) : Bool → S → Res Bool := fun x s => if x = true then u ρ s else .ok false s
noncomputable def kOrT (u : Cmp Bool) (ρ : Rho) : Bool → S → Res Bool := fun x s => if x = true then .ok true s else u ρ s
noncomputable def kNotT : Bool → S → Res Bool := fun x s => .ok (!x) s
noncomputable def kAndV (b : Cmp W) (ρ : Rho) : W → S → Res W := fun x s => match asBool x with | some true => b ρ s | some false => .ok (.d (.bl false)) s | none => .no
noncomputable def kOrV (b : Cmp W) (ρ : Rho) : W → S → Res W := fun x s => match asBool x with | some false => b ρ s | some true => .ok (.d (.bl true)) s | none => .no
noncomputable def kNotV : W → S → Res W := fun x s => match asBool x with | some b => .ok (.d (.bl (!b))) s | none => .no
noncomputable def kIf (a b : Cmp W) (ρ : Rho) : Bool → S → Res W := fun x s => if x = true then a ρ s else b ρ s
noncomputable def kCh3 (g : W → W → S → Res W) (d : Cmp W) (ρ : Rho) (y : W) : W → S → Res W := fun z s => match asBool z with | some true => (d ρ s).bind (g y) | some false => .ok (.d (.bl false)) s | none => .no
noncomputable def kCh2 (f g : W → W → S → Res W) (d : Cmp W) (ρ : Rho) (x : W) : W → S → Res W := fun y s => (f x y s).bind (kCh3 g d ρ y)
noncomputable def kCh1 (f g : W → W → S → Res W) (b d : Cmp W) (ρ : Rho) : W → S → Res W := fun x s => (b ρ s).bind (kCh2 f g d ρ x)
noncomputable def kLst : List W → S → Res (List W) := fun z s => if z.length ≤ 16777216 then .ok z s else .no
noncomputable def kCell : List W → S → Res W := fun z s => .ok (.r s.length) (s ++ [.lst z])
noncomputable def kSeq : W → S → Res (List W) := fun x s => match seqD x with | some l => .ok (wD l) s | none => .no
noncomputable def kEnum : List W → S → Res (List W) := fun x s => match x with | [x] => (match seqD x with | some l => .ok (enumD l) s | none => .no) | _ => .no
noncomputable def kListOf : List W → S → Res (List W) := fun ws s => match ws with | [x] => fListOf x s | _ => .no
noncomputable def kLc (vs : List Nat) (tg : Tgt) (t : Cmp Bool) (a : Cmp W) (ρ : Rho) : List W → S → Res (List W) := fun z s => if z.length ≤ 16777216 then lcM tg t a (wipeR ρ vs) z s else .no
noncomputable def kCall (f : Sem1) : List W → S → Res W := fun ws s => (f ws s).bind frzV
noncomputable def kOwn : RV → S → Res (List W) := fun rv s => match rv with | .own l => .ok l s | _ => .no
noncomputable def kCallL (f : Sem1) : List W → S → Res (List W) := fun ws s => (f ws s).bind kOwn
noncomputable def kFld (c f : Str) : W → S → Res W := fun x s => match fldOf c f x s with | some w => .ok w s | none => .no
noncomputable def kMake (c : Str) (f : Sem1) : List W → S → Res W := fun ws s => madeD c s (f (.r s.length :: ws) (s ++ [.ins c []]))
noncomputable def kMakeC (c : Str) (f : Sem1) : List W → S → Res W := fun ws s => madeC s (f (.r s.length :: ws) (s ++ [.ins c []]))
noncomputable def kExpr : W → Stm := fun _ ρ s => .nx ρ s
noncomputable def kSet (i : Nat) : W → Stm := fun x ρ s => .nx (ρ.set i (.w x)) s
noncomputable def kSetO (i : Nat) : List W → Stm := fun x ρ s => .nx (ρ.set i (.own x)) s
noncomputable def kSIf (x y : Stm) : Bool → Stm := fun z ρ s => if z = true then x ρ s else y ρ s
noncomputable def kRet : W → Stm := fun x _ s => .ret (.w x) s
noncomputable def kRetL : List W → Stm := fun x _ s => .ret (.own x) s
noncomputable def kApp (i : Nat) (l : List W) : W → Stm := fun x ρ s => if l.length < 16777216 then .nx (ρ.set i (.own (l ++ [x]))) s else .no
noncomputable def kSetT (tg : Tgt) : W → Stm := fun x ρ s => match tg x ρ with | some ρ' => .nx ρ' s | none => .no
noncomputable def kSetI3 (x y : W) : W → Stm := fun z ρ s => match setL y z x s with | some s' => .nx ρ s' | none => .no
noncomputable def kSetI2 (b : Cmp W) (x : W) : W → Stm := fun y ρ s => ebS (b ρ s) ρ (kSetI3 x y)
noncomputable def kSetI (a b : Cmp W) : W → Stm := fun x ρ s => ebS (a ρ s) ρ (kSetI2 b x)
noncomputable def kSFld2 (c f : Str) (x : W) : W → Stm := fun y ρ s => match setF c f y x s with | some s' => .nx ρ s' | none => .no
noncomputable def kSFld (c f : Str) (a : Cmp W) : W → Stm := fun x ρ s => ebS (a ρ s) ρ (kSFld2 c f x)
noncomputable def kAug (f : W → W → S → Res W) (i : Nat) (x : W) : W → Stm := fun y ρ s => ebS (f x y s) ρ (kSet i)
noncomputable def kPar (i j : Nat) : List W → Stm := fun ws ρ s => match ws with | [x, y] => .nx ((ρ.set i (.w x)).set j (.w y)) s | _ => .no
noncomputable def kWh (t : Cmp Bool) (x : Stm) (n : Nat) : Bool → Stm := fun z ρ s => if z = true then forK (whileE t x n) (x ρ s) else .nx ρ s
@[simp] theorem kBin_eq (f : W → W → S → Res W) (b : Cmp W) (ρ : Rho) (x : W) (s : S) : kBin f b ρ x s = (b ρ s).bind (f x) := (rfl)
@[simp] theorem kTest_eq (x : W) (s : S) : kTest x s = match asBool x with | some b => .ok b s | none => .no := (rfl)
@[simp] theorem kCons2_eq (x : W) (y : List W) (s : S) : kCons2 x y s = .ok (x :: y) s := (rfl)
@[simp] theorem kCons_eq (l : Cmp (List W)) (ρ : Rho) (x : W) (s : S) : kCons l ρ x s = (l ρ s).bind (kCons2 x) := (rfl)
@[simp] theorem kPart_eq (x : W) (s : S) : kPart x s = match asInt x with | some i => .ok (some i) s | none => .no := (rfl)
@[simp] theorem kSl2_eq (f : W → Option Int → Option Int → S → Res W) (q : Cmp (Option Int)) (ρ : Rho) (x : W) (i : Option Int) (s : S) : kSl2 f q ρ x i s = (q ρ s).bind (f x i) := (rfl)
@[simp] theorem kSl_eq (f : W → Option Int → Option Int → S → Res W) (p q : Cmp (Option Int)) (ρ : Rho) (x : W) (s : S) : kSl f p q ρ x s = (p ρ s).bind (kSl2 f q ρ x) := (rfl)
@[simp] theorem kAndT_eq (u : Cmp Bool) (ρ : Rho) (x : Bool) (s : S) : kAndT u ρ x s = if x = true then u ρ s else .ok false s := (rfl)
@[simp] theorem kOrT_eq (u : Cmp Bool) (ρ : Rho) (x : Bool) (s : S) : kOrT u ρ x s = if x = true then .ok true s else u ρ s := (rfl)
@[simp] theorem kNotT_eq (x : Bool) (s : S) : kNotT x s = .ok (!x) s := (rfl)
@[simp] theorem kAndV_eq (b : Cmp W) (ρ : Rho) (x : W) (s : S) : kAndV b ρ x s = match asBool x with | some true => b ρ s | some false => .ok (.d (.bl false)) s | none => .no := (rfl)
@[simp] theorem kOrV_eq (b : Cmp W) (ρ : Rho) (x : W) (s : S) : kOrV b ρ x s = match asBool x with | some false => b ρ s | some true => .ok (.d (.bl true)) s | none => .no := (rfl)
@[simp] theorem kNotV_eq (x : W) (s : S) : kNotV x s = match asBool x with | some b => .ok (.d (.bl (!b))) s | none => .no := (rfl)
@[simp] theorem kIf_eq (a b : Cmp W) (ρ : Rho) (x : Bool) (s : S) : kIf a b ρ x s = if x = true then a ρ s else b ρ s := (rfl)
@[simp] theorem kCh3_eq (g : W → W → S → Res W) (d : Cmp W) (ρ : Rho) (y : W) (z : W) (s : S) : kCh3 g d ρ y z s = match asBool z with | some true => (d ρ s).bind (g y) | some false => .ok (.d (.bl false)) s | none => .no := (rfl)
@[simp] theorem kCh2_eq (f g : W → W → S → Res W) (d : Cmp W) (ρ : Rho) (x : W) (y : W) (s : S) : kCh2 f g d ρ x y s = (f x y s).bind (kCh3 g d ρ y) := (rfl)
@[simp] theorem kCh1_eq (f g : W → W → S → Res W) (b d : Cmp W) (ρ : Rho) (x : W) (s : S) : kCh1 f g b d ρ x s = (b ρ s).bind (kCh2 f g d ρ x) := (rfl)
@[simp] theorem kLst_eq (z : List W) (s : S) : kLst z s = if z.length ≤ 16777216 then .ok z s else .no := (rfl)
@[simp] theorem kCell_eq (z : List W) (s : S) : kCell z s = .ok (.r s.length) (s ++ [.lst z]) := (rfl)
@[simp] theorem kSeq_eq (x : W) (s : S) : kSeq x s = match seqD x with | some l => .ok (wD l) s | none => .no := (rfl)
@[simp] theorem kEnum_eq (x : List W) (s : S) : kEnum x s = match x with | [x] => (match seqD x with | some l => .ok (enumD l) s | none => .no) | _ => .no := (rfl)
@[simp] theorem kListOf_eq (ws : List W) (s : S) : kListOf ws s = match ws with | [x] => fListOf x s | _ => .no := (rfl)
@[simp] theorem kLc_eq (vs : List Nat) (tg : Tgt) (t : Cmp Bool) (a : Cmp W) (ρ : Rho) (z : List W) (s : S) : kLc vs tg t a ρ z s = if z.length ≤ 16777216 then lcM tg t a (wipeR ρ vs) z s else .no := (rfl)
@[simp] theorem kCall_eq (f : Sem1) (ws : List W) (s : S) : kCall f ws s = (f ws s).bind frzV := (rfl)
@[simp] theorem kOwn_eq (rv : RV) (s : S) : kOwn rv s = match rv with | .own l => .ok l s | _ => .no := (rfl)
@[simp] theorem kCallL_eq (f : Sem1) (ws : List W) (s : S) : kCallL f ws s = (f ws s).bind kOwn := (rfl)
@[simp] theorem kFld_eq (c f : Str) (x : W) (s : S) : kFld c f x s = match fldOf c f x s with | some w => .ok w s | none => .no := (rfl)
@[simp] theorem kMake_eq (c : Str) (f : Sem1) (ws : List W) (s : S) : kMake c f ws s = madeD c s (f (.r s.length :: ws) (s ++ [.ins c []])) := (rfl)
@[simp] theorem kMakeC_eq (c : Str) (f : Sem1) (ws : List W) (s : S) : kMakeC c f ws s = madeC s (f (.r s.length :: ws) (s ++ [.ins c []])) := (rfl)
@[simp] theorem kExpr_eq (u_0 : W) (ρ : Rho) (s : S) : kExpr u_0 ρ s = .nx ρ s := (rfl)
@[simp] theorem kSet_eq (i : Nat) (x : W) (ρ : Rho) (s : S) : kSet i x ρ s = .nx (ρ.set i (.w x)) s := (rfl)
@[simp] theorem kSetO_eq (i : Nat) (x : List W) (ρ : Rho) (s : S) : kSetO i x ρ s = .nx (ρ.set i (.own x)) s := (rfl)
@[simp] theorem kSIf_eq (x y : Stm) (z : Bool) (ρ : Rho) (s : S) : kSIf x y z ρ s = if z = true then x ρ s else y ρ s := (rfl)
@[simp] theorem kRet_eq (x : W) (u_1 : Rho) (s : S) : kRet x u_1 s = .ret (.w x) s := (rfl)
@[simp] theorem kRetL_eq (x : List W) (u_1 : Rho) (s : S) : kRetL x u_1 s = .ret (.own x) s := (rfl)
@[simp] theorem kApp_eq (i : Nat) (l : List W) (x : W) (ρ : Rho) (s : S) : kApp i l x ρ s = if l.length < 16777216 then .nx (ρ.set i (.own (l ++ [x]))) s else .no := (rfl)
@[simp] theorem kSetT_eq (tg : Tgt) (x : W) (ρ : Rho) (s : S) : kSetT tg x ρ s = match tg x ρ with | some ρ' => .nx ρ' s | none => .no := (rfl)
@[simp] theorem kSetI3_eq (x y : W) (z : W) (ρ : Rho) (s : S) : kSetI3 x y z ρ s = match setL y z x s with | some s' => .nx ρ s' | none => .no := (rfl)
@[simp] theorem kSetI2_eq (b : Cmp W) (x : W) (y : W) (ρ : Rho) (s : S) : kSetI2 b x y ρ s = ebS (b ρ s) ρ (kSetI3 x y) := (rfl)
@[simp] theorem kSetI_eq (a b : Cmp W) (x : W) (ρ : Rho) (s : S) : kSetI a b x ρ s = ebS (a ρ s) ρ (kSetI2 b x) := (rfl)
@[simp] theorem kSFld2_eq (c f : Str) (x : W) (y : W) (ρ : Rho) (s : S) : kSFld2 c f x y ρ s = match setF c f y x s with | some s' => .nx ρ s' | none => .no := (rfl)
@[simp] theorem kSFld_eq (c f : Str) (a : Cmp W) (x : W) (ρ : Rho) (s : S) : kSFld c f a x ρ s = ebS (a ρ s) ρ (kSFld2 c f x) := (rfl)
@[simp] theorem kAug_eq (f : W → W → S → Res W) (i : Nat) (x : W) (y : W) (ρ : Rho) (s : S) : kAug f i x y ρ s = ebS (f x y s) ρ (kSet i) := (rfl)
@[simp] theorem kPar_eq (i j : Nat) (ws : List W) (ρ : Rho) (s : S) : kPar i j ws ρ s = match ws with | [x, y] => .nx ((ρ.set i (.w x)).set j (.w y)) s | _ => .no := (rfl)
@[simp] theorem kWh_eq (t : Cmp Bool) (x : Stm) (n : Nat) (z : Bool) (ρ : Rho) (s : S) : kWh t x n z ρ s = if z = true then forK (whileE t x n) (x ρ s) else .nx ρ s := (rfl)
end
section
variable (ρ : Rho) (s : S) (a b d : Cmp W) (t u : Cmp Bool) (l : Cmp (List W)) (p q : Cmp (Option Int)) (x y : Stm)
@[simp] theorem eC_eq (v : D) : eC v ρ s = .ok (.d v) s := (rfl)
@[simp] theorem eVar_eq (i : Nat) : eVar i ρ s = match (ρ[i]? : Option EV) with | some (.w x) => .ok x s | _ => .no := (rfl)
@[simp] theorem eBin_eq (f : W → W → S → Res W) : eBin f a b ρ s = (a ρ s).bind (kBin f b ρ) := (rfl)
@[simp] theorem eUn_eq (f : W → S → Res W) : eUn f a ρ s = (a ρ s).bind f := (rfl)
@[simp] theorem eTest_eq : eTest a ρ s = (a ρ s).bind kTest := (rfl)
@[simp] theorem eNil_eq : eNil ρ s = .ok [] s := (rfl)
@[simp] theorem eCons_eq : eCons a l ρ s = (a ρ s).bind (kCons l ρ) := (rfl)
@[simp] theorem eArgs_eq (f : List W → S → Res W) : eArgs f l ρ s = (l ρ s).bind f := (rfl)
@[simp] theorem eNoPart_eq : eNoPart ρ s = .ok none s := (rfl)
@[simp] theorem ePart_eq : ePart a ρ s = (a ρ s).bind kPart := (rfl)
@[simp] theorem eSl_eq (f : W → Option Int → Option Int → S → Res W) : eSl f a p q ρ s = (a ρ s).bind (kSl f p q ρ) := (rfl)
@[simp] theorem eAndT_eq : eAndT t u ρ s = (t ρ s).bind (kAndT u ρ) := (rfl)
@[simp] theorem eOrT_eq : eOrT t u ρ s = (t ρ s).bind (kOrT u ρ) := (rfl)
@[simp] theorem eNotT_eq : eNotT t ρ s = (t ρ s).bind kNotT := (rfl)
@[simp] theorem eAndV_eq : eAndV a b ρ s = (a ρ s).bind (kAndV b ρ) := (rfl)
@[simp] theorem eOrV_eq : eOrV a b ρ s = (a ρ s).bind (kOrV b ρ) := (rfl)
@[simp] theorem eNotV_eq : eNotV a ρ s = (a ρ s).bind kNotV := (rfl)
@[simp] theorem eIf_eq : eIf t a b ρ s = (t ρ s).bind (kIf a b ρ) := (rfl)
@[simp] theorem eChain_eq (f g : W → W → S → Res W) : eChain f g a b d ρ s = (a ρ s).bind (kCh1 f g b d ρ) := (rfl)
@[simp] theorem eTup_eq : eTup l ρ s = (l ρ s).bind mkTup := (rfl)
@[simp] theorem eLst_eq : eLst l ρ s = (l ρ s).bind kLst := (rfl)
@[simp] theorem eFrz_eq (l : Cmp (List W)) : eFrz l ρ s = (l ρ s).bind frzL := (rfl)
@[simp] theorem eCell_eq (l : Cmp (List W)) : eCell l ρ s = (l ρ s).bind kCell := (rfl)
@[simp] theorem eSeq_eq : eSeq a ρ s = (a ρ s).bind kSeq := (rfl)
@[simp] theorem eRng1_eq : eRng1 l ρ s = (l ρ s).bind rng1 := (rfl)
@[simp] theorem eRng2_eq : eRng2 l ρ s = (l ρ s).bind rng2 := (rfl)
@[simp] theorem eEnum_eq : eEnum l ρ s = (l ρ s).bind kEnum := (rfl)
@[simp] theorem eListOf_eq : eListOf l ρ s = (l ρ s).bind kListOf := (rfl)
@[simp] theorem eLc_eq (vs : List Nat) (tg : Tgt) : eLc vs l tg t a ρ s = (l ρ s).bind (kLc vs tg t a ρ) := (rfl)
@[simp] theorem eYes_eq : eYes ρ s = .ok true s := (rfl)
@[simp] theorem eCall_eq (f : Sem1) : eCall f l ρ s = (l ρ s).bind (kCall f) := (rfl)
@[simp] theorem eCallL_eq (f : Sem1) : eCallL f l ρ s = (l ρ s).bind (kCallL f) := (rfl)
@[simp] theorem eFld_eq (c f : Str) : eFld c f a ρ s = (a ρ s).bind (kFld c f) := (rfl)
@[simp] theorem eMake_eq (c : Str) (f : Sem1) : eMake c f l ρ s = (l ρ s).bind (kMake c f) := (rfl)
@[simp] theorem eMakeC_eq (c : Str) (f : Sem1) : eMakeC c f l ρ s = (l ρ s).bind (kMakeC c f) := (rfl)
@[simp] theorem sNext_eq : sNext ρ s = .nx ρ s := (rfl)
@[simp] theorem sSeq_eq : sSeq x y ρ s = (x ρ s).bind y := (rfl)
@[simp] theorem sExpr_eq : sExpr a ρ s = ebS (a ρ s) ρ kExpr := (rfl)
@[simp] theorem sSet_eq (i : Nat) : sSet i a ρ s = ebS (a ρ s) ρ (kSet i) := (rfl)
@[simp] theorem sSetO_eq (i : Nat) : sSetO i l ρ s = ebS (l ρ s) ρ (kSetO i) := (rfl)
@[simp] theorem sIf_eq : sIf t x y ρ s = ebS (t ρ s) ρ (kSIf x y) := (rfl)
@[simp] theorem sRet_eq : sRet a ρ s = ebS (a ρ s) ρ kRet := (rfl)
@[simp] theorem sRetL_eq : sRetL l ρ s = ebS (l ρ s) ρ kRetL := (rfl)
@[simp] theorem sRetN_eq : sRetN ρ s = .ret (.w (.d .non)) s := (rfl)
@[simp] theorem sRetO_eq (i : Nat) : sRetO i ρ s = match (ρ[i]? : Option EV) with | some (.own l) => .ret (.own l) s | some (.ownD l) => .ret (.ownD l) s | _ => .no := (rfl)
@[simp] theorem sBreak_eq : sBreak ρ s = .brk ρ s := (rfl)
@[simp] theorem sApp_eq (i : Nat) : sApp i a ρ s = match (ρ[i]? : Option EV) with | some (.own l) => ebS (a ρ s) ρ (kApp i l) | _ => .no := (rfl)
@[simp] theorem sFrz_eq (i : Nat) : sFrz i x ρ s = match (ρ[i]? : Option EV) with | some (.own l) => (match allData l with | some ds => x (ρ.set i (.w (.d (.lst ds)))) s | none => .no) | _ => .no := (rfl)
@[simp] theorem sSetT_eq (tg : Tgt) : sSetT tg a ρ s = ebS (a ρ s) ρ (kSetT tg) := (rfl)
@[simp] theorem sFor_eq (tg : Tgt) : sFor l tg x ρ s = ebS (l ρ s) ρ (forE tg x) := (rfl)
@[simp] theorem sSetI_eq : sSetI a b d ρ s = ebS (d ρ s) ρ (kSetI a b) := (rfl)
@[simp] theorem sFld_eq (c f : Str) : sFld c f a b ρ s = ebS (b ρ s) ρ (kSFld c f a) := (rfl)
@[simp] theorem sWhile_eq (f : Rho → Nat) : sWhile f t x ρ s = whileE t x (f ρ) ρ s := (rfl)
@[simp] theorem sNo_eq : sNo ρ s = .no := (rfl)
@[simp] theorem sAug_eq (i : Nat) (f : W → W → S → Res W) : sAug i f a ρ s = match (ρ[i]? : Option EV) with | some (.w x) => ebS (a ρ s) ρ (kAug f i x) | _ => .no := (rfl)
@[simp] theorem sPar_eq (i j : Nat) : sPar i j l ρ s = ebS (l ρ s) ρ (kPar i j) := (rfl)
@[simp] theorem tgName_eq (i : Nat) (w : W) : tgName i w ρ = some (ρ.set i (.w w)) := (rfl)
@[simp] theorem tgTup_eq (n : Nat) (u : List W → Rho → Option Rho) (w : W) : tgTup n u w ρ = match asTup w with | some l => if l.length = n then u (wD l) ρ else none | none => none := (rfl)
@[simp] theorem tgNil_eq : tgNil [] ρ = some ρ := (rfl)
@[simp] theorem tgCons_eq (t : Tgt) (u : List W → Rho → Option Rho) (w : W) (r : List W) : tgCons t u (w :: r) ρ = (t w ρ).bind (u r) := (rfl)
@[simp] theorem forE_nil (tg : Tgt) : forE tg x [] ρ s = .nx ρ s := (rfl)
theorem forE_cons (tg : Tgt) (w : W) (r : List W) : forE tg x (w :: r) ρ s = match tg w ρ with | none => .no | some ρ1 => forK (forE tg x r) (x ρ1 s) := (rfl)
@[simp] theorem whileE_succ (n : Nat) : whileE t x (n + 1) ρ s = ebS (t ρ s) ρ (kWh t x n) := (rfl)
end
@[simp] theorem asInt_int (i : Int) : asInt (.d (.int i)) = some i := (rfl)
@[simp] theorem asInt_bl (i : Bool) : asInt (.d (.bl i)) = none := (rfl)
@[simp] theorem asInt_tup (l : List D) : asInt (.d (.tup l)) = none := (rfl)
@[simp] theorem asInt_lst (l : List D) : asInt (.d (.lst l)) = none := (rfl)
@[simp] theorem asInt_str (l : Str) : asInt (.d (.str l)) = none := (rfl)
@[simp] theorem asInt_non : asInt (.d .non) = none := (rfl)
@[simp] theorem asInt_r (n : Nat) : asInt (.r n) = none := (rfl)
@[simp] theorem asBool_bl (i : Bool) : asBool (.d (.bl i)) = some i := (rfl)
@[simp] theorem asBool_int (i : Int) : asBool (.d (.int i)) = none := (rfl)
@[simp] theorem asTup_tup (l : List D) : asTup (.d (.tup l)) = some l := (rfl)
@[simp] theorem asTup_lst (l : List D) : asTup (.d (.lst l)) = none := (rfl)
@[simp] theorem asTup_r (n : Nat) : asTup (.r n) = none := (rfl)
@[simp] theorem asTup_int (n : Int) : asTup (.d (.int n)) = none := (rfl)
@[simp] theorem asTup_str (n : Str) : asTup (.d (.str n)) = none := (rfl)
@[simp] theorem asStr_str (x : Str) : asStr (.d (.str x)) = some x := (rfl)
@[simp] theorem asStr_lst (l : List D) : asStr (.d (.lst l)) = none := (rfl)
@[simp] theorem asStr_tup (l : List D) : asStr (.d (.tup l)) = none := (rfl)
@[simp] theorem asStr_int (i : Int) : asStr (.d (.int i)) = none := (rfl)
@[simp] theorem asStr_r (n : Nat) : asStr (.r n) = none := (rfl)
@[simp] theorem asLst_lst (l : List D) (s : S) : asLst (.d (.lst l)) s = some (wD l) := (rfl)
@[simp] theorem asLst_r (n : Nat) (s : S) : asLst (.r n) s = match s[n]? with | some (.lst l) => some l | _ => none := (rfl)
@[simp] theorem asLst_tup (l : List D) (s : S) : asLst (.d (.tup l)) s = none := (rfl)
@[simp] theorem asLst_scr (l : List D) (s : S) : asLst (.d (.scr l)) s = none := (rfl)
@[simp] theorem asTup_scr (l : List D) : asTup (.d (.scr l)) = none := (rfl)
@[simp] theorem asLst_int (l : Int) (s : S) : asLst (.d (.int l)) s = none := (rfl)
@[simp] theorem asLst_str (l : Str) (s : S) : asLst (.d (.str l)) s = none := (rfl)
@[simp] theorem asSeq_tup (l : List D) (s : S) : asSeq (.d (.tup l)) s = some (wD l) := (rfl)
@[simp] theorem asSeq_lst (l : List D) (s : S) : asSeq (.d (.lst l)) s = some (wD l) := (rfl)
@[simp] theorem asSeq_str (l : Str) (s : S) : asSeq (.d (.str l)) s = none := (rfl)
@[simp] theorem asSeq_r (n : Nat) (s : S) : asSeq (.r n) s = match s[n]? with | some (.lst l) => some l | some (.tup l) => some l | _ => none := by
  show (match (match s[n]? with | some (.lst l) => some l | _ => none) with | some l => some l | none => (match s[n]? with | some (.tup l) => some l | _ => none)) = _
  cases s[n]? with
  | none => rfl
  | some c => cases c <;> rfl
@[simp] theorem seqD_lst (l : List D) : seqD (.d (.lst l)) = some l := (rfl)
@[simp] theorem seqD_tup (l : List D) : seqD (.d (.tup l)) = some l := (rfl)
@[simp] theorem allData_nil : allData [] = some [] := (rfl)
@[simp] theorem allData_d (x : D) (r : List W) : allData (.d x :: r) = (allData r).map (x :: ·) := (rfl)
@[simp] theorem allData_w (l : List D) : allData (wD l) = some l := allData_wD l
@[simp] theorem allInts_w (l : List Int) : allInts (wD (l.map D.int)) = some l := allInts_wD l
@[simp] theorem allBools_w (l : List Bool) : allBools (wD (l.map D.bl)) = some l := allBools_wD l
@[simp] theorem wD_nil : wD [] = [] := (rfl)
@[simp] theorem wD_cons (x : D) (l : List D) : wD (x :: l) = .d x :: wD l := (rfl)
@[simp] theorem wD_len (l : List D) : (wD l).length = l.length := by simp [wD]
@[simp] theorem frzL_w (l : List D) (s : S) : frzL (wD l) s = .ok (.d (.lst l)) s := by unfold frzL; rw [allData_wD]
@[simp] theorem frzL_nil (s : S) : frzL [] s = .ok (.d (.lst [])) s := (rfl)
@[simp] theorem frzL_cons (x : D) (l : List W) (s : S) : frzL (.d x :: l) s = match allData (.d x :: l) with | some ds => .ok (.d (.lst ds)) s | none => .no := (rfl)
@[simp] theorem frzV_w (x : W) (s : S) : frzV (.w x) s = .ok x s := (rfl)
@[simp] theorem frzV_own (l : List W) (s : S) : frzV (.own l) s = frzL l s := (rfl)
@[simp] theorem mkTup_eq (l : List W) (s : S) : mkTup l s = match allData l with | some ds => if ds.length ≤ 16777216 then .ok (.d (.tup ds)) s else .no | none => .no := (rfl)
@[simp] theorem fAdd_int (i j : Int) (s : S) : fAdd (.d (.int i)) (.d (.int j)) s = .ok (.d (.int (i + j))) s := (rfl)
@[simp] theorem fSub_int (i j : Int) (s : S) : fSub (.d (.int i)) (.d (.int j)) s = .ok (.d (.int (i - j))) s := (rfl)
@[simp] theorem fAdd_tup (i j : List D) (s : S) : fAdd (.d (.tup i)) (.d (.tup j)) s = if i.length + j.length ≤ 16777216 then .ok (.d (.tup (i ++ j))) s else .no := (rfl)
@[simp] theorem fMul_int (i j : Int) (s : S) : fMul (.d (.int i)) (.d (.int j)) s = if kMul i j = true then .ok (.d (.int (i * j))) s else .no := (rfl)
@[simp] theorem fMulI_int (i j : Int) (s : S) : fMulI (.d (.int i)) (.d (.int j)) s = if kMul i j = true then .ok (.d (.int (i * j))) s else .no := (rfl)
@[simp] theorem fMod_int (i j : Int) (s : S) : fMod (.d (.int i)) (.d (.int j)) s = if kMod i j = true then .ok (.d (.int (i.fmod j))) s else .no := (rfl)
@[simp] theorem fDiv_int (i j : Int) (s : S) : fDiv (.d (.int i)) (.d (.int j)) s = if kDiv i j = true then .ok (.d (.int (i.fdiv j))) s else .no := (rfl)
@[simp] theorem fPow_int (i j : Int) (s : S) : fPow (.d (.int i)) (.d (.int j)) s = if kPow i j = true then .ok (.d (.int (i ^ j.toNat))) s else .no := (rfl)
@[simp] theorem fLt_int (i j : Int) (s : S) : fLt (.d (.int i)) (.d (.int j)) s = .ok (.d (.bl (decide (i < j)))) s := (rfl)
@[simp] theorem fLe_int (i j : Int) (s : S) : fLe (.d (.int i)) (.d (.int j)) s = .ok (.d (.bl (decide (i ≤ j)))) s := (rfl)
@[simp] theorem fGt_int (i j : Int) (s : S) : fGt (.d (.int i)) (.d (.int j)) s = .ok (.d (.bl (decide (j < i)))) s := (rfl)
@[simp] theorem fGe_int (i j : Int) (s : S) : fGe (.d (.int i)) (.d (.int j)) s = .ok (.d (.bl (decide (j ≤ i)))) s := (rfl)
@[simp] theorem fNeg_int (i : Int) (s : S) : fNeg (.d (.int i)) s = .ok (.d (.int (-i))) s := (rfl)
@[simp] theorem fEq_int (neg : Bool) (i j : Int) (s : S) : fEq neg (.d (.int i)) (.d (.int j)) s = .ok (.d (.bl (if neg then !(i == j) else i == j))) s := by
  simp [fEq, asData, eqD, D.py, SeqAt.shaped, PyData.canLay0, PyData.depth, PyData.eqv]
@[simp] theorem fIx_eq (x y : W) (s : S) : fIx x y s = match asSeq x s, asInt y with
  | some l, some k => (match atI l k with | some w => .ok w s | none => .no)
  | _, _ => match asStr x, asInt y with
    | some z, some k => if z.length ≤ 16777216 then (match atI z.cps.toList k with | some c => .ok (.d (.str ⟨#[c]⟩)) s | none => .no) else .no
    | _, _ => match asDic x s, y with
      | some kvs, .d a => (match keyD a with | some k => (match getK kvs k with | some w => .ok w s | none => .no) | none => .no)
      | _, _ => .no := (rfl)
@[simp] theorem c1_eq (f : W → S → Res W) (x : W) (s : S) : c1 f [x] s = f x s := (rfl)
@[simp] theorem c2_eq (f : W → W → S → Res W) (x y : W) (s : S) : c2 f [x, y] s = f x y s := (rfl)
@[simp] theorem fLen_eq (x : W) (s : S) : fLen x s = match asSeq x s with | some l => .ok (.d (.int l.length)) s | none => match asStr x with | some z => if z.length ≤ 16777216 then .ok (.d (.int z.length)) s else .no | none => .no := (rfl)
@[simp] theorem fAbs_int (i : Int) (s : S) : fAbs (.d (.int i)) s = .ok (.d (.int (if i < 0 then -i else i))) s := (rfl)
@[simp] theorem fMin2_int (i j : Int) (s : S) : fMin2 (.d (.int i)) (.d (.int j)) s = .ok (.d (.int (if j < i then j else i))) s := (rfl)
@[simp] theorem fMax2_int (i j : Int) (s : S) : fMax2 (.d (.int i)) (.d (.int j)) s = .ok (.d (.int (if j > i then j else i))) s := (rfl)
@[simp] theorem fInt_int (i : Int) (s : S) : fInt (.d (.int i)) s = .ok (.d (.int i)) s := (rfl)
@[simp] theorem fInt_bl (i : Bool) (s : S) : fInt (.d (.bl i)) s = .ok (.d (.int (if i = true then 1 else 0))) s := (rfl)
@[simp] theorem fTuple_lst (l : List D) (s : S) : fTuple (.d (.lst l)) s = .ok (.d (.tup l)) s := by
  show (match (asLst (.d (.lst l)) s).bind allData with | some ds => Res.ok (W.d (.tup ds)) s | none => .no) = _
  rw [asLst_lst, Option.bind_some, allData_wD]
@[simp] theorem fTuple_tup (l : List D) (s : S) : fTuple (.d (.tup l)) s = .ok (.d (.tup l)) s := (rfl)
@[simp] theorem fSl_tup (l : List D) (i j : Option Int) (s : S) : fSl (.d (.tup l)) i j s = .ok (.d (.tup (cut l i j))) s := (rfl)
@[simp] theorem fSl_scr (l : List D) (i j : Option Int) (s : S) : fSl (.d (.scr l)) i j s = .ok (.d (.lst (cut l i j))) s := (rfl)
@[simp] theorem fListOf_eq (x : W) (s : S) : fListOf x s = match asSeq x s with | some l => .ok l s | none => .no := (rfl)
@[simp] theorem fAll_bls (l : List Bool) (s : S) : fAll (.d (.lst (l.map D.bl))) s = .ok (.d (.bl (l.all id))) s := by
  show (match (asLst (.d (.lst (l.map D.bl))) s).bind allBools with | some l => Res.ok (W.d (.bl (l.all id))) s | none => .no) = _
  rw [asLst_lst, Option.bind_some, allBools_wD]
@[simp] theorem fAny_bls (l : List Bool) (s : S) : fAny (.d (.lst (l.map D.bl))) s = .ok (.d (.bl (l.any id))) s := by
  show (match (asLst (.d (.lst (l.map D.bl))) s).bind allBools with | some l => Res.ok (W.d (.bl (l.any id))) s | none => .no) = _
  rw [asLst_lst, Option.bind_some, allBools_wD]
@[simp] theorem asIntsL_ints (l : List Int) (s : S) : asIntsL (.d (.lst (l.map D.int))) s = some l := by
  unfold asIntsL; rw [asLst_lst, Option.bind_some, allInts_wD]
@[simp] theorem fMaxL_ints (l : List Int) (s : S) : fMaxL (.d (.lst (l.map D.int))) s = match l.max? with | some i => .ok (.d (.int i)) s | none => .no := by unfold fMaxL; rw [asIntsL_ints] <;> rfl
@[simp] theorem fMinL_ints (l : List Int) (s : S) : fMinL (.d (.lst (l.map D.int))) s = match l.min? with | some i => .ok (.d (.int i)) s | none => .no := by unfold fMinL; rw [asIntsL_ints] <;> rfl
@[simp] theorem setL_eq (n : Nat) (i : Int) (v : W) (s : S) : setL (.r n) (.d (.int i)) v s = match s[n]? with | some (.lst l) => (ixN l.length i).map fun j => s.set n (.lst (l.set j v)) | _ => none := (rfl)
@[simp] theorem rng1_eq (n : Int) (s : S) : rng1 [.d (.int n)] s = if n < 1000000000 ∧ -1000000000 < n then .ok ((List.range n.toNat).map fun i : Nat => W.d (.int (i : Int))) s else .no := (rfl)
theorem kMod_ne {i j : Int} (h : j ≠ 0) : kMod i j = true := decide_eq_true h
theorem kDiv_ok {i j : Int} (h : j ≠ 0) (h' : j.natAbs < 1073741824) : kDiv i j = true := decide_eq_true ⟨h, h'⟩
theorem atI_nat {α : Type} (l : List α) (i : Int) (h0 : 0 ≤ i) (h : i < l.length) : atI l i = l[i.toNat]? := by
  unfold atI ixN
  rw [if_pos h0, if_pos h]
  rfl
@[simp] theorem ixN_nat (n : Nat) (i : Nat) : ixN n (i : Int) = if i < n then some i else none := by
  unfold ixN
  rw [if_pos (Int.natCast_nonneg i)]
  by_cases h : i < n
  · rw [if_pos h, if_pos (Int.ofNat_lt.mpr h)]; rfl
  · rw [if_neg h, if_neg (fun z => h (Int.ofNat_lt.mp z))]
@[simp] theorem ixN_0 (n : Nat) : ixN n 0 = if 0 < n then some 0 else none := ixN_nat n 0
@[simp] theorem ixN_1 (n : Nat) : ixN n 1 = if 1 < n then some 1 else none := ixN_nat n 1
@[simp] theorem ixN_2 (n : Nat) : ixN n 2 = if 2 < n then some 2 else none := ixN_nat n 2
@[simp] theorem ixN_3 (n : Nat) : ixN n 3 = if 3 < n then some 3 else none := ixN_nat n 3
@[simp] theorem atI_nat' {α : Type} (l : List α) (i : Nat) : atI l (i : Int) = l[i]? := by
  unfold atI; rw [ixN_nat]; by_cases h : i < l.length
  · rw [if_pos h]; rfl
  · rw [if_neg h]; rw [List.getElem?_eq_none (by omega)]; rfl
@[simp] theorem atI_0 {α : Type} (l : List α) : atI l 0 = l[0]? := atI_nat' l 0
@[simp] theorem atI_1 {α : Type} (l : List α) : atI l 1 = l[1]? := atI_nat' l 1
@[simp] theorem atI_2 {α : Type} (l : List α) : atI l 2 = l[2]? := atI_nat' l 2
@[simp] theorem atI_3 {α : Type} (l : List α) : atI l 3 = l[3]? := atI_nat' l 3
end TG

set_option Elab.async false
set_option linter.all false
set_option maxRecDepth 100000
set_option maxHeartbeats 2000000
namespace TG
open PySem L2 PyProof.Rows

theorem PK.weaken {X : Cx} {e : List Keyword} {t t' : TA} (h : L2.PK X e t) (w : ∀ σ H Q, t' σ H Q → t σ H Q) : L2.PK X e t' := ⟨fun pos pins s σ H Q I q => h.run pos pins s σ H Q I (w σ H Q q)⟩
inductive Pk where
  | p (i : Nat) | k (j : Nat) | c (i : Nat)
noncomputable def Pk.get {α : Type} (d : α) (ds us ws : List α) : Pk → α
  | .p i => us.getD i d
  | .k j => ws.getD j d
  | .c i => ds.getD i d
noncomputable def pkV (l : List Pk) (ds us ws : List V) : List V := l.map (Pk.get .non ds us ws)
noncomputable def pkU (l : List Pk) (ds us ws : List Value) : List Value := l.map (Pk.get .none ds us ws)
noncomputable def pkW (l : List Pk) (ds us ws : List W) : List W := l.map (Pk.get (.d .non) ds us ws)
section
variable {K : PySem.W.Frag} {cl : Str → Option Addr} {H : Hp} {m : List Addr}
end
structure FnAtK (P : Program) (w : World) (K : PySem.W.Frag) (mg : Str → Option Value) (base : Heap) (cl : Str → Option Addr) (k : Nat) (x : Str) (ps : List Str) (f : Sem1) (n : Nat) (ks : List Str) (pk : List Pk) (ds : List Int) : Prop where
  ex : ∃ (a : Addr) (fd : FuncData) (its : List Value), mg x = some (.ref a) ∧ PySem.W.keepIn K (.ref a) = true ∧ KBn K fd ps n ks (fun us ws => pkU pk its us ws) (fun vs zs => pkV pk (ds.map V.int) vs zs) ∧ FnOk P w K mg base (L2.CX P w) k a fd ps (spOf K cl f)
theorem FnAtK.mono {P : Program} {w : World} {K : PySem.W.Frag} {mg : Str → Option Value} {base : Heap} {cl : Str → Option Addr} {j k : Nat} {x : Str} {ps : List Str} {f : Sem1} {n : Nat} {ks : List Str} {pk : List Pk} {ds : List Int} (F : FnAtK P w K mg base cl j x ps f n ks pk ds) (h : j ≤ k) : FnAtK P w K mg base cl k x ps f n ks pk ds := by
  obtain ⟨a, fd, its, h1, h2, h3, h4⟩ := F.ex
  exact ⟨a, fd, its, h1, h2, h3, h4.mono h⟩
section
variable {K : PySem.W.Frag} {x qual : Str} {params : Arguments} {body : List Stmt} {scope : Scope} {f : Addr} {fd : FuncData} {ps : List Str}
end
section
variable {X : Cx} {k : Nat} {a : Addr} {fd : FuncData} {ps ks : List Str} {sp : Sp} {E : XK} {x : Str} {p pos : Pos} {kws : List Keyword} {tk : TA} {g : List Value → List Value → List Value} {gV : List V → List V → List V}
end
noncomputable def eCallK (f : Sem1) (n m : Nat) (pk : List Pk) (ds : List Int) (a b : Cmp (List W)) : Cmp W := fun ρ s => (a ρ s).bind fun us s1 => (b ρ s1).bind fun ws s2 => if us.length = n ∧ ws.length = m then (f (pkW pk (ds.map fun i => W.d (.int i)) us ws) s2).bind frzV else .no
section
variable {X : Cx} {cl : Str → Option Addr} {Wx : WX} {e : Expr} {es : List Expr} {nm : Option Str} {kpos pos p : Pos} {ea : Cmp W} {el ek : Cmp (List W)} {k n : Nat} {x : Str} {ps ks : List Str} {f : Sem1} {kws : List Keyword} {pk : List Pk} {ds : List Int}
end
end TG

set_option Elab.async false
set_option linter.all false
set_option maxRecDepth 100000
set_option maxHeartbeats 2000000
namespace TG
open PySem L2 PyProof.Rows

noncomputable def tyD : D → Option String
  | .non => some "NoneType" | .bl _ => some "bool" | .int _ => some "int" | .str _ => some "str" | .tup _ => some "tuple" | .lst _ => some "list" | .dic _ => some "dict" | _ => none
noncomputable def tyW : W → S → Option String
  | .d x, _ => tyD x
  | .r n, s => match s[n]? with | some (.lst _) => some "list" | some (.dic _) => some "dict" | some (.tup _) => some "tuple" | _ => none
theorem tyW_ok {K : PySem.W.Frag} {cl : Str → Option Addr} {H0 H : Hp} {m : List Addr} {s : S} {v : V} {w : W} {t : String} (st : Stt K cl H0 H m s) (r : RepW K cl H0 m v w) (e : tyW w s = some t) : TyX K H v (.type t) := by
  cases w with
  | d x =>
    have r : Rep K cl H0 v x := r
    have e : tyD x = some t := e
    cases r <;> cases e
    · exact .base .non
    · exact .base (.bl _)
    · exact .base (.int _)
    · exact .base (.str _)
    · exact .base (.tup (st.sub _ _ (by assumption)))
    · exact .base (.lst (st.sub _ _ (by assumption)))
    · exact .base (.dK (st.sub _ _ (by assumption)))
  | r n =>
    obtain ⟨a, h1, rfl⟩ := r
    have e : (match s[n]? with | some (.lst _) => some "list" | some (.dic _) => some "dict" | some (.tup _) => some "tuple" | _ => none) = some t := e
    cases q : s[n]? with
    | none => rw [q] at e; cases e
    | some c =>
      have h2 := (st.cell n a c h1 q).2
      rw [q] at e
      cases c with
      | lst l =>
        cases e
        obtain ⟨vs, h3, _⟩ := h2
        exact .base (.lst h3)
      | dic l =>
        cases e
        obtain ⟨vs, h3, _⟩ := h2
        exact .base (.dK h3)
      | ins c l => cases e
      | tup l =>
        cases e
        obtain ⟨vs, h3, _⟩ := h2
        exact .base (.tup h3)
noncomputable def fIsi (t : String) : W → S → Res W := fun x s => match tyW x s with | some a => (match kitB a t with | some b => .ok (.d (.bl b)) s | none => .no) | none => .no
noncomputable def fIsi2 (t u : String) : W → S → Res W := fun x s => match tyW x s with
  | some a => (match kitB a t, kitB a u with | some b, some c => .ok (.d (.bl (b || c))) s | _, _ => .no)
  | none => .no
section
variable {X : Cx} {cl : Str → Option Addr} {Wx : WX} {e : Expr} {pos p q p2 pt : Pos} {ea : Cmp W} {x y z : Str} {k2 : Nat}
theorem je_isi (t : String) (hg : Gl X x) (hm : X.mg x = none) (hv : bootBuiltins x = some (.builtin "isinstance")) (hg2 : Gl X y) (hm2 : X.mg y = none) (hv2 : bootBuiltins y = some (.type t)) (ha : JE cl Wx X e ea)
    (n1 : x ≠ "__name__" := by decide) (n2 : (x == ("__debug__" : Str)) = false := by decide) (n3 : y ≠ "__name__" := by decide) (n4 : (y == ("__debug__" : Str)) = false := by decide)
    (hs : starEach [e, .Name y q] X.env = (false, eval e X.env) :: starEach [.Name y q] X.env := by rfl) (hs2 : starEach [.Name y q] X.env = (false, eval (.Name y q) X.env) :: starEach [] X.env := by rfl) (h4 : ((backTo pos (starEach [.Name y q] X.env)).any fun x => x.fst) = false := by rfl) :
    JE cl Wx X (.Call (.Name x p) [e, .Name y q] [] pos) (eUn (fIsi t) ea) :=
  PE.weaken (pe_callB call_isi hg hm hv (pa_cons ha (pa_cons (pe_bltn hg2 hm2 hv2 (v := .ty t) rfl n3 n4) pa_nil hs2) hs) n1 n2 hs h4) fun σ H Q ⟨H0, m, ow, s, ρ, cx, h⟩ => ⟨H0, m, ow, s, ρ, cx, RunE.bind h fun a s1 v H1 H1' m1 g st rr h2 => by
    have h2 : RunE X.K cl (rrW X.K cl) Wx H1 H1' m1 σ Q (match tyW a s1 with | some a => (match kitB a t with | some b => .ok (.d (.bl b)) s1 | none => .no) | none => .no) := h2
    cases e1 : tyW a s1 with
    | none => rw [e1] at h2; exact h2.elim
    | some ty =>
      rw [e1] at h2
      have h2 : RunE X.K cl (rrW X.K cl) Wx H1 H1' m1 σ Q (match kitB ty t with | some b => .ok (.d (.bl b)) s1 | none => .no) := h2
      cases e2 : kitB ty t with
      | none => rw [e2] at h2; exact h2.elim
      | some b =>
        rw [e2] at h2
        exact ⟨v, .ty t, _, _, b, rfl, .ty t, tyW_ok st rr e1, kit_ty e2, RunE.done (RR := rrW X.K cl) h2 st (Rep.bl : Rep X.K cl H1 (.bl b) (.bl b))⟩⟩
theorem je_isi2 (t u : String) (hg : Gl X x) (hm : X.mg x = none) (hv : bootBuiltins x = some (.builtin "isinstance")) (hg2 : Gl X y) (hm2 : X.mg y = none) (hv2 : bootBuiltins y = some (.type t)) (hg3 : Gl X z) (hm3 : X.mg z = none) (hv3 : bootBuiltins z = some (.type u)) (ha : JE cl Wx X e ea)
    (n1 : x ≠ "__name__" := by decide) (n2 : (x == ("__debug__" : Str)) = false := by decide) (n3 : y ≠ "__name__" := by decide) (n4 : (y == ("__debug__" : Str)) = false := by decide) (n5 : z ≠ "__name__" := by decide) (n6 : (z == ("__debug__" : Str)) = false := by decide)
    (hs : starEach [e, .Tuple [.Name y q, .Name z p2] k2 pt] X.env = (false, eval e X.env) :: starEach [.Tuple [.Name y q, .Name z p2] k2 pt] X.env := by rfl)
    (hs2 : starEach [.Tuple [.Name y q, .Name z p2] k2 pt] X.env = (false, eval (.Tuple [.Name y q, .Name z p2] k2 pt) X.env) :: starEach [] X.env := by rfl)
    (hs3 : starEach [.Name y q, .Name z p2] X.env = (false, eval (.Name y q) X.env) :: starEach [.Name z p2] X.env := by rfl) (hs4 : starEach [.Name z p2] X.env = (false, eval (.Name z p2) X.env) :: starEach [] X.env := by rfl)
    (h4 : ((backTo pos (starEach [.Tuple [.Name y q, .Name z p2] k2 pt] X.env)).any fun x => x.fst) = false := by rfl) :
    JE cl Wx X (.Call (.Name x p) [e, .Tuple [.Name y q, .Name z p2] k2 pt] [] pos) (eUn (fIsi2 t u) ea) :=
  PE.weaken (pe_callB call_isiT hg hm hv (pa_cons ha (pa_cons (pe_tup (pa_cons (pe_bltn hg2 hm2 hv2 (v := .ty t) rfl n3 n4) (pa_cons (pe_bltn hg3 hm3 hv3 (v := .ty u) rfl n5 n6) pa_nil hs4) hs3)) pa_nil hs2) hs) n1 n2 hs h4) fun σ H Q ⟨H0, m, ow, s, ρ, cx, h⟩ => ⟨H0, m, ow, s, ρ, cx, RunE.bind h fun a s1 v H1 H1' m1 g st rr h2 => by
    have h2 : RunE X.K cl (rrW X.K cl) Wx H1 H1' m1 σ Q (match tyW a s1 with | some a => (match kitB a t, kitB a u with | some b, some c => .ok (.d (.bl (b || c))) s1 | _, _ => .no) | none => .no) := h2
    cases e1 : tyW a s1 with
    | none => rw [e1] at h2; exact h2.elim
    | some ty =>
      rw [e1] at h2
      have h2 : RunE X.K cl (rrW X.K cl) Wx H1 H1' m1 σ Q (match kitB ty t, kitB ty u with | some b, some c => .ok (.d (.bl (b || c))) s1 | _, _ => .no) := h2
      cases e2 : kitB ty t with
      | none => rw [e2] at h2; exact h2.elim
      | some b =>
        cases e3 : kitB ty u with
        | none => rw [e2, e3] at h2; exact h2.elim
        | some c =>
          rw [e2, e3] at h2
          have h2 : RunE X.K cl (rrW X.K cl) Wx H1 H1' m1 σ Q (.ok (.d (.bl (b || c))) s1) := h2
          refine ⟨size_of (by simp), fun r hr => ?_⟩
          have ka : PySem.W.kitAny X.K (.type ty) [.type t, .type u] = some (b || c) := by
            refine kitAny_cons (kit_ty e2) (fun hb => ?_) (fun hb => by rw [hb]; rfl)
            rw [hb]
            refine kitAny_cons (kit_ty e3) (fun hc => ?_) (fun hc => by rw [hc]; rfl)
            rw [hc]
            exact kitAny_nil
          have st2 := st.alloc hr (o := .tup [.ty t, .ty u])
          exact ⟨v, r, [.ty t, .ty u], _, [.type t, .type u], b || c, rfl, upd_same, .cons (.ty t) (.cons (.ty u) .nil), tyW_ok st2 (RepW.mono (same_upd (st.h0 hr)) List.prefix_rfl rr) e1, ka,
            h2 _ _ _ _ (Go.alloc st hr) st2 (Rep.bl : Rep X.K cl _ (.bl (b || c)) (.bl (b || c)))⟩⟩
end
end TG
namespace TG
open PySem L2 PyProof.Rows
theorem fnok_no {P : Program} {w : World} {K : PySem.W.Frag} {mg : Str → Option Value} {base : Heap} {cl : Str → Option Addr} {CX : CXT} {k : Nat} {f : Addr} {fd : FuncData} {ps : List Str} : FnOk P w K mg base CX k f fd ps (spOf K cl fun _ _ => .no) :=
  ⟨fun _ _ _ _ ⟨_, _, _, _, _, _, h⟩ => h.elim, fun _ _ _ _ _ _ _ _ _ _ _ _ _ ⟨_, _, _, _, _, _, h⟩ => h.elim⟩
end TG

set_option linter.all false
set_option maxRecDepth 100000
namespace TG
open PySem L2
theorem lcM_map (tg : Tgt) (tst : Cmp Bool) (e : Cmp W) (ρ : Rho) (g : W → W) (s : S) : ∀ (z : List W),
    (∀ w ∈ z, ∃ ρ1, tg w ρ = some ρ1 ∧ tst ρ1 s = .ok true s ∧ e ρ1 s = .ok (g w) s) → lcM tg tst e ρ z s = .ok (z.map g) s
  | [], _ => rfl
  | w :: r, h => by
    obtain ⟨ρ1, e1, e2, e3⟩ := h w (.head _)
    simp [lcM, e1, e2, e3, lcM_map tg tst e ρ g s r (fun w hw => h w (.tail _ hw))]
theorem ints_of (R : Int → Prop) : ∀ (vs : List W), (∀ v ∈ vs, ∃ i, v = .d (.int i) ∧ R i) → ∃ l : List Int, vs = wD (l.map D.int) ∧ l.length = vs.length ∧ ∀ i ∈ l, R i
  | [], _ => ⟨[], rfl, rfl, by simp⟩
  | v :: r, h => by
    obtain ⟨i, rfl, hi⟩ := h v (.head _)
    obtain ⟨l, rfl, hl, hr⟩ := ints_of R r (fun w hw => h w (.tail _ hw))
    refine ⟨i :: l, rfl, by simp [wD], ?_⟩
    intro x hx
    cases hx with
    | head => exact hi
    | tail _ hx => exact hr x hx
theorem ints_map (l : List Int) : l.map (fun i => W.d (.int i)) = wD (l.map D.int) := by simp [wD]
theorem quarter (x : Int) (h0 : 0 ≤ x) (h1 : x < 4) : x = 0 ∨ x = 1 ∨ x = 2 ∨ x = 3 := by omega
theorem fifth (x : Int) (h0 : 0 ≤ x) (h1 : x < 5) : x = 0 ∨ x = 1 ∨ x = 2 ∨ x = 3 ∨ x = 4 := by omega
theorem wide_spec (x : Int) (h0 : 0 ≤ x) (h1 : x < 4) (p q r u : Int) (P : Int → Prop) (hp : P p) (hq : P q) (hr : P r) (hu : P u) : ∃ y, P y ∧ atI (wD [.int p, .int q, .int r, .int u]) x = some (.d (.int y)) := by
  rcases quarter x h0 h1 with rfl | rfl | rfl | rfl
  · exact ⟨p, hp, rfl⟩
  · exact ⟨q, hq, rfl⟩
  · exact ⟨r, hr, rfl⟩
  · exact ⟨u, hu, rfl⟩
theorem forE_pre' (tg : Tgt) (x : Stm) (z0 : List W) (I : List W → Rho → S → Prop)
    (hh : ∀ pre w r, z0 = pre ++ w :: r → ∀ ρ s, I pre ρ s → ∃ ρ1, tg w ρ = some ρ1 ∧ ∃ ρ2 s2, x ρ1 s = .nx ρ2 s2 ∧ I (pre ++ [w]) ρ2 s2) : ∀ (z pre : List W) (ρ : Rho) (s : S), z0 = pre ++ z → I pre ρ s →
    ∃ ρ2 s2, forE tg x z ρ s = .nx ρ2 s2 ∧ I z0 ρ2 s2
  | [], pre, ρ, s, e, h => ⟨ρ, s, rfl, by rw [e, List.append_nil]; exact h⟩
  | w :: r, pre, ρ, s, e, h => by
    obtain ⟨ρ1, e1, ρ2, s2, e2, h2⟩ := hh pre w r e ρ s h
    obtain ⟨ρ3, s3, e3, h3⟩ := forE_pre' tg x z0 I hh r (pre ++ [w]) ρ2 s2 (by rw [e]; simp) h2
    exact ⟨ρ3, s3, by rw [forE_cons]; simp [e1, e2, e3], h3⟩
theorem forE_pre (tg : Tgt) (x : Stm) (z0 : List W) (I : List W → Rho → S → Prop)
    (hh : ∀ pre w r, z0 = pre ++ w :: r → ∀ ρ s, I pre ρ s → ∃ ρ1, tg w ρ = some ρ1 ∧ ∃ ρ2 s2, x ρ1 s = .nx ρ2 s2 ∧ I (pre ++ [w]) ρ2 s2) (ρ : Rho) (s : S) (h : I [] ρ s) :
    ∃ ρ2 s2, forE tg x z0 ρ s = .nx ρ2 s2 ∧ I z0 ρ2 s2 := forE_pre' tg x z0 I hh z0 [] ρ s rfl h
theorem rng1_nat (n : Nat) (s : S) (h : n ≤ 1000) : rng1 [.d (.int (n : Nat))] s = .ok ((List.range n).map fun i : Nat => W.d (.int (i : Int))) s := by
  rw [rng1_eq, if_pos (by omega)]
  rfl
theorem cut_all (l : List D) (h : l.length ≤ 63) : cut l none (some 63) = l := by
  have h1 : HT.sIx l.length 0 none = 0 := rfl
  have h2 : HT.sIx l.length l.length (some 63) = l.length := by
    unfold HT.sIx
    simp
    omega
  unfold cut
  rw [h1, h2]
  simp
noncomputable def kCK2 (f : Sem1) (n m : Nat) (pk : List Pk) (ds : List Int) (us : List W) : List W → S → Res W := fun ws s => if us.length = n ∧ ws.length = m then (f (pkW pk (ds.map fun i => W.d (.int i)) us ws) s).bind frzV else .no
noncomputable def kCK1 (f : Sem1) (n m : Nat) (pk : List Pk) (ds : List Int) (b : Cmp (List W)) (ρ : Rho) : List W → S → Res W := fun us s => (b ρ s).bind (kCK2 f n m pk ds us)
@[simp] theorem kCK2_eq (f : Sem1) (n m : Nat) (pk : List Pk) (ds : List Int) (us ws : List W) (s : S) : kCK2 f n m pk ds us ws s = if us.length = n ∧ ws.length = m then (f (pkW pk (ds.map fun i => W.d (.int i)) us ws) s).bind frzV else .no := (rfl)
@[simp] theorem kCK1_eq (f : Sem1) (n m : Nat) (pk : List Pk) (ds : List Int) (b : Cmp (List W)) (ρ : Rho) (us : List W) (s : S) : kCK1 f n m pk ds b ρ us s = (b ρ s).bind (kCK2 f n m pk ds us) := (rfl)
@[simp] theorem eCallK_eq (f : Sem1) (n m : Nat) (pk : List Pk) (ds : List Int) (a b : Cmp (List W)) (ρ : Rho) (s : S) : eCallK f n m pk ds a b ρ s = (a ρ s).bind (kCK1 f n m pk ds b ρ) := (rfl)
@[simp] theorem pkW_eq (l : List Pk) (ds us ws : List W) : pkW l ds us ws = l.map (Pk.get (.d .non) ds us ws) := (rfl)
@[simp] theorem pk_p (d : W) (ds us ws : List W) (i : Nat) : Pk.get d ds us ws (.p i) = us.getD i d := (rfl)
@[simp] theorem pk_k (d : W) (ds us ws : List W) (i : Nat) : Pk.get d ds us ws (.k i) = ws.getD i d := (rfl)
@[simp] theorem pk_c (d : W) (ds us ws : List W) (i : Nat) : Pk.get d ds us ws (.c i) = ds.getD i d := (rfl)
theorem third (x : Int) (h0 : 0 ≤ x) (h1 : x < 3) : x = 0 ∨ x = 1 ∨ x = 2 := by omega
end TG

set_option Elab.async false
set_option linter.all false
set_option maxRecDepth 100000
set_option maxHeartbeats 2000000
namespace TG
open PySem L2 PyProof.Rows

structure ExcAt (K : PySem.W.Frag) (mg : Str → Option Value) (cl : Str → Option Addr) (c : Str) : Prop where
  ex : ∃ (C : Addr) (B newId initId : String) (bm : List Value), cl c = some C ∧ mg c = some (.ref C) ∧ ExcBaseFacts B newId initId bm ∧ PySem.W.excIn K C bm newId = true ∧ PySem.W.keepIn K (.ref C) = true ∧
    PySem.W.subIn K (.ref C) (.type "BaseException") = some true ∧ PySem.W.typeIn K (.ref C) = some (.type "type")
section
variable {X : Cx} {C : Addr} {bm : List Value} {B newId initId : String} {x : Str} {p pos : Pos}
theorem pmk_bare (facts : ExcBaseFacts B newId initId bm) (exc : PySem.W.excIn X.K C bm newId = true) (glob : X.mg x = some (.ref C)) (kept : PySem.W.keepIn X.K (.ref C) = true) (rs : Raises X (.ref C)) (hg : Gl X x)
    (nd : (x == Str.ofString "__debug__") = false := by decide) : PMk X (.Call (.Name x p) [] [] pos) (fun _ H Q => Q (.ref C) none H) := fun pins s σ H Q inv q => by
  obtain ⟨_, _, _, _, _, _, _, _, _, _, _, _, _, _, _, _, _, at_, ns, no, tail⟩ := exc_obj inv.kIn exc
  exact wpAny_Call_Name_kw (ld_glob inv hg glob (PySem.W.callWith_K0 inv.kIn kept (wpAny_call_exc_subT facts tail at_ ns no (fun _ _ made => mk_of inv made rs q (inv.hok.gone made.new)) (Nat.zero_le _))) nd)
end
noncomputable def sRaise0 (c : Str) : Stm := fun ρ s => .exc c none ρ s
noncomputable def hdF (sub : Str → Str → Option Bool) (c : Str) : List (Str × Stm) → Option (Option Stm)
  | [] => some none
  | (h, b) :: r => match sub c h with
    | some true => some (some b)
    | some false => hdF sub c r
    | none => none
noncomputable def noExc : RS → RS
  | .exc _ _ _ _ => .no
  | r => r
noncomputable def sTry (sub : Str → Str → Option Bool) (b : Stm) (hs : List (Str × Stm)) : Stm := fun ρ s => match b ρ s with
  | .exc c x ρ' s' => (match hdF sub c hs with | some (some k) => noExc (k ρ' s') | some none => .exc c x ρ' s' | none => .no)
  | r => r
noncomputable def SubOk (K : PySem.W.Frag) (cl : Str → Option Addr) (sub : Str → Str → Option Bool) : Prop := ∀ c h b C C', sub c h = some b → cl c = some C → cl h = some C' → PySem.W.exmOne K (.ref C) (.ref C') = some b
section
variable {X : Cx} {cl : Str → Option Addr} {Wx : WX} {c : Str} {p p2 pos : Pos} {body : List Stmt} {b : Stm}
theorem js_raise0 (ok : XOk X Wx) (hc : X.calm = true) (F : ExcAt X.K X.mg cl c) (hg : Gl X c := by rfl) (nd : (c == Str.ofString "__debug__") = false := by decide) :
    JS cl Wx X (.Raise (some (.Call (.Name c p) [] [] p2)) none pos) (sRaise0 c) := by
  obtain ⟨C, B, ni, ii, bm, h1, h2, h3, h4, h5, h6, h7⟩ := F.ex
  refine PS.weaken (ps_raise hc ok.tk (pmk_bare h3 h4 h2 h5 (raises_own h6 h7) hg nd)) fun E σ H ⟨H0, m, ow, s, ρ, cx, h⟩ => ?_
  exact h _ _ _ _ _ _ _ Go.refl cx ⟨C, h1, rfl⟩
inductive HdJ (cl : Str → Option Addr) (X : Cx) : List ExceptHandler → List (Str × Stm) → Prop
  | nil : HdJ cl X [] []
  | cons {x : Str} {b₀ : Stmt} {suite : List Stmt} {np pos' : Pos} {hds : List ExceptHandler} {k : Stm} {l : List (Str × Stm)} (hx : ∃ C, cl x = some C ∧ X.mg x = some (.ref C)) (hg : Gl X x) (nd : (x == Str.ofString "__debug__") = false)
      (hs : ∀ (a : Addr) (oe : Obj) (pn : List (Addr × Obj)), XOk (X.suite a ((a, oe) :: pn)) W0 → JB cl W0 (X.suite a ((a, oe) :: pn)) (b₀ :: suite) k) (r : HdJ cl X hds l) :
      HdJ cl X (.ExceptHandler (some (.Name x np)) none (b₀ :: suite) pos' :: hds) ((x, k) :: l)
inductive HdR (K : PySem.W.Frag) (cl : Str → Option Addr) : List (Str × Stm) → List (Value × (Addr → Value → Option Addr → TS)) → Prop
  | nil : HdR K cl [] []
  | cons {x : Str} {k : Stm} {C : Addr} {l r} (h : cl x = some C) (q : HdR K cl l r) : HdR K cl ((x, k) :: l) ((.ref C, fun _ _ _ => Sof K cl W0 k) :: r)
theorem HdJ.ok (nd : X.N.Nodup) : ∀ {hds l}, HdJ cl X hds l → ∃ r, HdsOk X hds r ∧ HdR X.K cl l r
  | _, _, .nil => ⟨[], .nil, .nil⟩
  | _, _, .cons hx hg n hs q => by
    obtain ⟨C, h1, h2⟩ := hx
    obtain ⟨r, h3, h4⟩ := q.ok nd
    exact ⟨_, .cons (ts := fun _ _ _ => Sof X.K cl W0 _) ⟨hg, n, .inl h2⟩ (fun a oe cls d pn _ _ => hs a oe pn ⟨fun u s' ⟨a, B, sI, pins, σ, H, cls, d, e, I, nb, up, sky, na, os, ag, z⟩ => z.elim, PassesOwn.never, nd⟩) h3, .cons h1 h4⟩
theorem RunS.noExc {K : PySem.W.Frag} {H0 H : Hp} {m ow : List Addr} {E : Ends} {r : RS} (h : RunS K cl Wx H0 H m ow E (noExc r)) : RunS K cl W0 H0 H m ow E r := by
  cases r with
  | exc c x ρ s => exact h.elim
  | _ => exact h
theorem many_of {K : PySem.W.Frag} {sub : Str → Str → Option Bool} (hsub : SubOk K cl sub) {E : Ends} {c : Str} {x : Option D} {ρ : Rho} {s : S} {cv : Value} {dd : Option Addr} {σ : L2.St} {H0 H : Hp} {m ow : List Addr} {C : Addr} (hC : cl c = some C) (hcv : cv = .ref C) (cx : Ctx K cl H0 H m ow s σ ρ) (ex : ExcR K cl H0 H cv dd c x) :
    ∀ {l r}, HdR K cl l r → RunS K cl Wx H0 H m ow E (match hdF sub c l with | some (some k) => TG.noExc (k ρ s) | some none => .exc c x ρ s | none => .no) → wMany K Wx E r cv dd σ H
  | _, _, .nil, h => h _ _ _ _ _ _ _ Go.refl cx ex
  | _, _, .cons (x := y) (k := k) (C := C') (l := l) hy q, h => by
    subst hcv
    unfold hdF at h
    cases e : sub c y with
    | none => rw [e] at h; exact h.elim
    | some b =>
      rw [e] at h
      refine ⟨b, hsub c y b C C' e hC hy, fun hb a _ => ?_, fun hb => ?_⟩
      · subst hb
        exact ⟨H0, m, ow, s, ρ, cx, RunS.noExc h⟩
      · subst hb
        exact many_of hsub hC rfl cx ex q h
theorem js_try {h₀ : ExceptHandler} {hds : List ExceptHandler} {l : List (Str × Stm)} {sub : Str → Str → Option Bool} (ok : XOk X Wx) (hs : X.stack = X.env :: X.outer) (hf : X.env.frame = some X.env.locals) (hsub : SubOk X.K cl sub)
    (hb : ∀ (W : WX) (pn : List (Addr × Obj)) (xe : Value → Shared → Prop), XOk (X.tr pn xe) W → JB cl W (X.tr pn xe) body b) (hh : HdJ cl X (h₀ :: hds) l) : JS cl Wx X (.Try body (h₀ :: hds) [] [] pos) (sTry sub b l) := by
  obtain ⟨r, h1, h2⟩ := hh.ok ok.nd
  refine PS.weaken (ps_try_many hs hf ok.tk (tb := fun W => Sof X.K cl W b) (fun W pn xe tk po => hb W pn xe ⟨tk, po, ok.nd⟩) h1) fun E σ H ⟨H0, m, ow, s, ρ, cx, h⟩ => ⟨H0, m, ow, s, ρ, cx, ?_⟩
  unfold sTry at h
  cases e : b ρ s with
  | exc c x ρ' s' =>
    rw [e] at h
    intro cv dd σ' H0' H' m' ow' g cx' ex
    have h : RunS X.K cl Wx H0 H m ow E (match hdF sub c l with | some (some k) => TG.noExc (k ρ' s') | some none => .exc c x ρ' s' | none => .no) := h
    have hC : ∃ C, cl c = some C ∧ cv = .ref C := by
      cases x with
      | none => exact ex
      | some y => obtain ⟨C, _, _, q1, q2, _⟩ := ex; exact ⟨C, q1, q2⟩
    obtain ⟨C, q1, q2⟩ := hC
    exact many_of hsub q1 q2 cx' ex h2 (h.shift g)
  | nx ρ' s' => rw [e] at h; exact h
  | ret v s' => rw [e] at h; exact h
  | brk ρ' s' => rw [e] at h; exact h
  | cnt ρ' s' => rw [e] at h; exact h
  | no => rw [e] at h; exact h
end
end TG
namespace TG
open PySem L2 PyProof.Rows
noncomputable def subT : List (Str × Str × Bool) → Str → Str → Option Bool
  | [], _, _ => none
  | (c, h, b) :: r, x, y => if c = x ∧ h = y then some b else subT r x y
theorem subT_ok {K : PySem.W.Frag} {cl : Str → Option Addr} : ∀ {l : List (Str × Str × Bool)}, (∀ q ∈ l, ∃ C C', cl q.1 = some C ∧ cl q.2.1 = some C' ∧ PySem.W.exmOne K (.ref C) (.ref C') = some q.2.2) → SubOk K cl (subT l)
  | [], _, _, _, _, _, _, e, _, _ => nomatch e
  | (c, h, b) :: r, hl, x, y, d, C, C', e, h1, h2 => by
    unfold subT at e
    split at e
    · rename_i q
      obtain ⟨rfl, rfl⟩ := q
      cases e
      obtain ⟨D, D', e1, e2, e3⟩ := hl _ (.head _)
      cases e1.symm.trans h1
      cases e2.symm.trans h2
      exact e3
    · exact subT_ok (fun q hq => hl q (.tail _ hq)) x y d C C' e h1 h2
end TG
namespace TG
open PySem L2 PyProof.Rows
theorem exm_pair {K : PySem.W.Frag} {C C' : Addr} {b : Bool} (b1 : PySem.W.subIn K (.ref C') (.type "BaseException") = some true) (i1 : PySem.W.isClsIn K C' = true) (t1 : PySem.W.typeIn K (.ref C') = some (.type "type")) (s1 : PySem.W.subIn K (.ref C) (.ref C') = some b) :
    PySem.W.exmOne K (.ref C) (.ref C') = some b := by
  have i2 : (PySem.W.clsIn K C').isSome = true := i1
  unfold PySem.W.exmOne PySem.W.kitCls
  simp only [b1, t1, s1, i2]
  rfl
end TG

set_option Elab.async false
set_option linter.all false
set_option maxRecDepth 100000
set_option maxHeartbeats 4000000
namespace L2
open PySem PySem.Spec PyProof.Rows
noncomputable abbrev tgSet0 (w : World) : Obj := { cls := .type "set", dict := none, data := .set #[] 0 (.fresh 0 0 (!w.params.followText "set-order")) }
section
variable {P : Program} {w : World} {A : Around} {E : Value → Shared → Prop} {s : Shared}
noncomputable def TgSetMade (w : World) (s : Shared) (ns : List Int) (s2 : Shared) : Prop :=
  ∃ h' tk c, s2 = { s with heap := h', toks := tk } ∧ SetR w h' s.heap.objs.size (fun j => decide (j ∈ ns)) c ∧ c ≤ ns.length ∧ ∀ b o, s.heap.get? b = some o → h'.get? b = some o
theorem tg_set_init {l : Addr} {items : Array Value} (ns : List Int) {R : Result → Shared → Prop} (hh : A.handled = none) (hl : s.heap.IsList l items) (hit : IntsAre items.toList ns) (hb : ns.length + 1 < scanBound)
    (hR : ∀ s2, TgSetMade w s ns s2 → R (.ok (.ret .none)) s2) :
    wpAny (model P w) A.in1 (Builtin.«set.__init__» ⟨[.ref s.heap.objs.size, .ref l], []⟩) (fun fin s' => match fin with
      | .done f => R (.ok f) s'
      | .again c' => c'.quiet = true ∧ codeAny (model P w) A c' R s') (fun e s' => R (.error e) s') { s with heap := s.heap.push (tgSet0 w) } := by
  have hsize : items.size = ns.length := by rw [← Array.length_toList]; exact hit.length
  have hS : (s.heap.push (tgSet0 w)).get? s.heap.objs.size = some (tgSet0 w) := Heap.get?_push_size _ rfl
  obtain ⟨⟨ocls, odict, odata, oslots⟩, hol, hcl, nl, hdl⟩ := hl
  simp only at hcl hdl
  subst hcl; subst hdl
  have hol' : (s.heap.push (tgSet0 w)).get? l = some { cls := .type "list", dict := odict, data := .seq items nl, slots := oslots } := Heap.get?_push_of_some _ hol
  have hl1 : (s.heap.push (tgSet0 w)).IsList l items := ⟨_, hol', rfl, nl, rfl⟩
  have f1 := F.sub_list_set
  have f2 := F.sub_list_frozenset
  have f3 : (Value.type "list" == Value.type "dict") = false := by decide
  unfold Builtin.«set.__init__» noKeywords Builtin.Frozenset.updateFrom
  generalize hPI : pyIter = PI
  wp_walk
  subst hPI
  refine wpAny_pyIter_list hl1 ?_
  refine wpAny_bind (wpAny_runValue ?_)
  have hlS : l < s.heap.objs.size := Heap.lt_size hol
  have hz : (s.heap.push (tgSet0 w)).objs.size = s.heap.objs.size + 1 := Heap.size_push ..
  have hne0 : l ≠ s.heap.objs.size := Nat.ne_of_lt hlS
  have hneI : l ≠ (s.heap.push (tgSet0 w)).objs.size := by rw [hz]; exact Nat.ne_of_lt (Nat.lt_succ_of_lt hlS)
  have hSf : s.heap.objs.size ∉ [(s.heap.push (tgSet0 w)).objs.size, l] := by
    rw [hz]
    intro q
    rcases List.mem_cons.mp q with q | q
    · exact absurd q (Nat.ne_of_lt (Nat.lt_succ_self _))
    · exact hne0 (List.mem_singleton.mp q).symm
  have hval : ∀ (i : Nat) (v : Value), items[i]? = some v → ∃ k t, ns[i]? = some k ∧ v = .int k t := fun i v hv => by
    have hi : i < ns.length := by rw [← hsize]; exact (Array.getElem?_eq_some_iff.mp hv).1
    obtain ⟨t, e⟩ := PyProof.Rows.IntsAre.int_at hit i v (by rw [Array.getElem?_toList]; exact hv)
    exact ⟨ns[i], t, by simp [hi], by rw [e]; simp [List.getD_eq_getElem?_getD, hi]⟩
  have hh3 : A.in1.in1.handled = none := hh
  refine set_update_ints ((Walks.list hh3 _ l hneI items).toS) s.heap.objs.size hSf ns hsize hb hval (items.size - 0) 0 _ (by omega) (Nat.zero_le _) ?_ ?_ ?_
  · exact ⟨⟨_, Heap.get?_push_size _ rfl, rfl, rfl⟩, hl1.push _⟩
  · exact ⟨0, Nat.le_refl 0, setR_new_at (Heap.get?_push_of_some _ hS)⟩
  · rintro ⟨h', g2, d', tk', os'⟩ c' hm hc' hS'
    have eg : g2 = s.gens := hm.gens
    have ed : d' = s.drawn := hm.drawn
    have eo : os' = s.os := hm.os
    subst eg; subst ed; subst eo
    show wpAny _ _ _ _ _ _
    refine wpAny_pure ?_
    show wpAny _ _ (ret Value.none) _ _ _
    refine wpAny_pure (hR _ ⟨h', tk', c', rfl, hS', by omega, fun b o e => ?_⟩)
    have hb0 : b < s.heap.objs.size := Heap.lt_size e
    refine hm.heap b o ?_ (Heap.get?_push_of_some _ (Heap.get?_push_of_some _ e))
    intro q
    rcases List.mem_cons.mp q with q | q
    · exact absurd q (Nat.ne_of_lt hb0)
    · have q := List.mem_singleton.mp q
      rw [hz] at q
      exact absurd q (Nat.ne_of_lt (Nat.lt_succ_of_lt hb0))
theorem tg_call_set {l : Addr} {items : Array Value} (ns : List Int) {Q : Value → Shared → Prop} (hh : A.handled = none) (hl : s.heap.IsList l items) (hit : IntsAre items.toList ns) (hb : ns.length + 1 < scanBound)
    (h : ∀ s2, TgSetMade w s ns s2 → Q (.ref s.heap.objs.size) s2) : wpAny (model P w) A (call (.type "set") [.ref l]) Q E s := by
  obtain ⟨c, tl, hmro⟩ := F.called_set.mro
  have hmade := F.called_set.made
  have hsub := F.called_set.sub
  have h1 := F.called_set.notType
  have h2 := F.called_set.canCreate
  have hct := F.typeCall_set_1 (.ref l)
  refine wpAny_call (codeAny_of_tree ?_)
  show wpAny _ _ (callAny (.type "set") _) _ _ _
  refine wpAny_pure ⟨Code.quiet_builtin _ (by decide +kernel), codeAny_builtin F.entry_type_call ?_⟩
  rw [Around.under_plain (weight_type_call_type "set" [.ref l] []) rfl]
  repeat (any_goals (first | assumption | wp_step))
  refine codeAny_mono (code_set_led1 (.ref l) (E := E) (Q₁ := fun obj s₁ => obj = .ref s.heap.objs.size ∧ s₁ = { s with heap := s.heap.push (tgSet0 w) }) ⟨rfl, rfl⟩) fun r s₁ hr => ?_
  cases r with
  | error e => exact hr
  | ok fl =>
    cases fl with
    | ret obj =>
      obtain ⟨rfl, rfl⟩ := hr
      have hS : (s.heap.push (tgSet0 w)).get? s.heap.objs.size = some (tgSet0 w) := Heap.get?_push_size _ rfl
      have hT : Shared.TypeIs { s with heap := s.heap.push (tgSet0 w) } (.ref s.heap.objs.size) "set" := ⟨_, hS, rfl⟩
      have hli := F.called_set.init.lookup
      have hbi := F.called_set.init.bind (.ref s.heap.objs.size)
      repeat (any_goals (first | assumption | wp_step))
      refine codeAny_mono (codeAny_call_builtin (R := wants (fun r s₂ => r = .none ∧ TgSetMade w s ns s₂) E) F.called_set.init.plain F.entry_set_init (check_set_init_1 hT (tg_set_init ns (by exact hh) hl hit hb fun s2 q => ⟨rfl, q⟩))) fun r₂ s₂ hr₂ => ?_
      cases r₂ with
      | error e => exact hr₂
      | ok fl₂ =>
        cases fl₂ with
        | ret v =>
          obtain ⟨rfl, q⟩ := hr₂
          repeat (any_goals (first | assumption | wp_step))
          exact h _ q
        | _ => exact hr₂.elim
    | _ => exact hr.elim
end
noncomputable def rTgSetL (K : PySem.W.Frag) (w : World) : List V → Hp → VK → Prop := fun xs H Q => ∃ (a : Addr) (ns : List Int), xs = [.ref a] ∧ SqL K H a (ns.map V.int) ∧ ns.length ≤ 1000 ∧
  ∀ p c, H p = none → c ≤ ns.length → Q (.ref p) (upd H p (SetO w p (fun j => decide (j ∈ ns)) c))
theorem cr_tgSetL {X : Cx} (hc : X.calm = true) : CallR X (.type "set") (rTgSetL X.K X.w) := by
  intro pins s σ H vs us Q I r h
  obtain ⟨a, ns, rfl, hq, hl, q⟩ := h
  rw [Vals.ref1 r]
  obtain ⟨its, rv, ⟨⟨cls, dd, data, sl⟩, n, ho, hcl, hdn, hd⟩, hlen⟩ := I.list hq
  simp only at hcl hd
  subst hcl hd
  have hi : IntsAre its.toArray.toList ns := ints_of_vals rv
  refine tg_call_set ns (I.ok.hd hc) (items := its.toArray) ⟨_, ho, rfl, n, rfl⟩ hi (by unfold scanBound; omega) fun s2 ⟨h', tk, c, e, R, hc', k⟩ => ?_
  subst e
  exact ⟨.ref _, upd H s.heap.objs.size (SetO X.w s.heap.objs.size (fun j => decide (j ∈ ns)) c), I.laid (t' := tk) k (Nat.le_refl _) (setO_new R), rfl, q _ _ (I.hok.fresh (Nat.le_refl _)) hc'⟩
end L2
namespace TG
open PySem L2 PyProof.Rows
noncomputable def dedupI : List Int → List Int
  | [] => []
  | a :: r => if a ∈ r then dedupI r else a :: dedupI r
theorem dedupI_mem : ∀ {l : List Int} {x : Int}, x ∈ dedupI l ↔ x ∈ l
  | [], x => Iff.rfl
  | a :: r, x => by
    unfold dedupI
    split
    · rename_i h
      rw [dedupI_mem, List.mem_cons]
      exact ⟨.inr, fun z => z.elim (fun z => z ▸ h) id⟩
    · rw [List.mem_cons, List.mem_cons, dedupI_mem]
theorem dedupI_nodup : ∀ (l : List Int), (dedupI l).Nodup
  | [] => List.nodup_nil
  | a :: r => by
    unfold dedupI
    split
    · exact dedupI_nodup r
    · rename_i h
      exact List.nodup_cons.mpr ⟨fun z => h (dedupI_mem.mp z), dedupI_nodup r⟩
noncomputable def sortD (l : List Int) : List Int := (dedupI l).mergeSort
theorem sortD_mem {l : List Int} {x : Int} : x ∈ sortD l ↔ x ∈ l := by
  unfold sortD
  rw [(List.mergeSort_perm _ _).mem_iff, dedupI_mem]
theorem sortD_lt (l : List Int) : (sortD l).Pairwise (· < ·) := by
  have h1 : (sortD l).Pairwise (· ≤ ·) := by
    have := List.pairwise_mergeSort (le := fun a b : Int => decide (a ≤ b)) (fun a b c h h' => by simp at *; omega) (fun a b => by simp; omega) (dedupI l)
    exact this.imp fun h => of_decide_eq_true h
  have h2 : (sortD l).Nodup := (List.mergeSort_perm _ _).nodup_iff.mpr (dedupI_nodup l)
  exact (h1.and h2).imp fun ⟨a, b⟩ => by omega
noncomputable def kSortSet : List W → S → Res (List W) := fun ws s1 => match ws with
  | [x] => (match asIntsL x s1 with | some l => if l.length < 64 then .ok (wD ((sortD l).map D.int)) s1 else .no | none => .no)
  | _ => .no
noncomputable def eSortSet (a : Cmp (List W)) : Cmp (List W) := fun ρ s => (a ρ s).bind kSortSet
section
variable {X : Cx} {cl : Str → Option Addr} {Wx : WX} {e : Expr} {el : Cmp (List W)} {p p2 pos pos2 : Pos}
end
end TG

set_option Elab.async false
set_option linter.all false
set_option maxRecDepth 100000
set_option maxHeartbeats 4000000
namespace TG
open PySem L2 PyProof.Rows
noncomputable def kIxO (l : List W) : W → S → Res W := fun y s => match asInt y with | some k => (match atI l k with | some w => .ok w s | none => .no) | none => .no
noncomputable def eIxO (i : Nat) (e : Cmp W) : Cmp W := fun ρ s => match (ρ[i]? : Option EV) with | some (.own l) => (e ρ s).bind (kIxO l) | _ => .no
noncomputable def eLenO (i : Nat) : Cmp W := fun ρ s => match (ρ[i]? : Option EV) with | some (.own l) => .ok (.d (.int l.length)) s | _ => .no
noncomputable def kSetIO2 (i : Nat) (l : List W) (x : W) : W → Stm := fun z ρ s => match asInt z with | some k => (match ixN l.length k with | some j => .nx (ρ.set i (.own (l.set j x))) s | none => .no) | none => .no
noncomputable def kSetIO (i : Nat) (k : Cmp W) : W → Stm := fun x ρ s => match (ρ[i]? : Option EV) with | some (.own l) => ebS (k ρ s) ρ (kSetIO2 i l x) | _ => .no
noncomputable def sSetIO (i : Nat) (k v : Cmp W) : Stm := fun ρ s => ebS (v ρ s) ρ (kSetIO i k)
noncomputable def kExt (i : Nat) (l : List W) : W → Stm := fun y ρ s => match asLst y s with | some zs => if l.length + zs.length ≤ 16777216 then .nx (ρ.set i (.own (l ++ zs))) s else .no | none => .no
noncomputable def sExt (i : Nat) (e : Cmp W) : Stm := fun ρ s => match (ρ[i]? : Option EV) with | some (.own l) => ebS (e ρ s) ρ (kExt i l) | _ => .no
noncomputable def appC : W → W → S → Option S := fun x v s => match x with
  | .r n => (match s[n]? with | some (.lst l) => if l.length < 16777216 then some (s.set n (.lst (l ++ [v]))) else none | _ => none)
  | _ => none
noncomputable def isCL : W → S → Bool := fun x s => match x with
  | .r n => (match s[n]? with | some (.lst _) => true | _ => false)
  | _ => false
noncomputable def kAppC2 (x : W) : W → Stm := fun y ρ s => match appC x y s with | some s' => .nx ρ s' | none => .no
noncomputable def kAppC (e : Cmp W) : W → Stm := fun x ρ s => if isCL x s = true then ebS (e ρ s) ρ (kAppC2 x) else .no
noncomputable def sAppC (o e : Cmp W) : Stm := fun ρ s => ebS (o ρ s) ρ (kAppC e)
noncomputable def kProm : RV → S → Res W := fun rv s => match rv with
  | .w x => .ok x s
  | .own l => .ok (.r s.length) (s ++ [.lst l])
  | .ownD l => .ok (.r s.length) (s ++ [.dic l])
noncomputable def kCallC (f : Sem1) : List W → S → Res W := fun ws s => (f ws s).bind kProm
noncomputable def eCallC (f : Sem1) (a : Cmp (List W)) : Cmp W := fun ρ s => (a ρ s).bind (kCallC f)
noncomputable def kRetC (f : Sem1) : List W → Stm := fun ws ρ s => match f ws s with
  | .ok rv s' => .ret rv s'
  | .exc c x s' => .exc c x ρ s'
  | .no => .no
noncomputable def sRetC (f : Sem1) (a : Cmp (List W)) : Stm := fun ρ s => ebS (a ρ s) ρ (kRetC f)
section
variable {X : Cx} {cl : Str → Option Addr} {Wx : WX} {e i o : Expr} {es : List Expr} {pos p1 p2 p3 p : Pos} {ea ei eo : Cmp W} {el : Cmp (List W)} {k : Nat} {x : Str} {ps : List Str} {f : Sem1}
theorem je_ixO (n : Nat) (hi : JE cl Wx X e ei) (hN : X.N[n]? = some x := by rfl) (hv : Vis X.env.scope x := by first | exact Or.inl rfl | exact Or.inr (Or.inl rfl) | exact Or.inr (Or.inr rfl)) (hd : (x == ("__debug__" : Str)) = false := by decide)
    (hcd : (x == ("__classdict__" : Str)) = false := by decide) (hs : PlainIx e := by exact fun _ _ => rfl) : JE cl Wx X (.Subscript (.Name x p1) e pos) (eIxO n ei) :=
  PE.weaken (pe_ix ix_list (pe_var hN hv hd hcd) hi hs) fun σ H Q ⟨H0, m, ow, s, ρ, cx, h⟩ => by
    unfold eIxO at h
    split at h
    · rename_i l e0
      obtain ⟨p, vs, h1, h2, h3, h4⟩ := cx.en.slot n _ e0
      refine ⟨.ref p, h1, H0, m, ow, s, ρ, cx, RunE.bind h fun y s1 v H1 H1' m1 g st rr q => ?_⟩
      have q : RunE X.K cl (rrW X.K cl) Wx H1 H1' m1 σ Q (kIxO l y s1) := q
      obtain ⟨p', us, k1, k2, k3, k4⟩ := (cx.go g st).en.slot n _ e0
      rw [h1] at k1
      cases k1
      unfold kIxO at q
      split at q
      · rename_i kk e1
        split at q
        · rename_i w e2
          obtain ⟨u, r1, r2⟩ := atI_ok k4 e2
          exact ⟨p, us, kk, u, rfl, asInt_ok rr e1, sqL_of k3, r1, RunE.done (RR := rrW X.K cl) q st r2⟩
        · exact q.elim
      · exact q.elim
    · exact h.elim
theorem js_setIO (n : Nat) (hi : JE cl Wx X i ei) (h : JE cl Wx X e ea) (hN : X.N[n]? = some x := by rfl) (hv : Vis X.env.scope x := by first | exact Or.inl rfl | exact Or.inr (Or.inl rfl) | exact Or.inr (Or.inr rfl)) (hd : (x == ("__debug__" : Str)) = false := by decide)
    (hcd : (x == ("__classdict__" : Str)) = false := by decide)
    (ha : ∀ v : Value, assign (.Subscript (.Name x p1) i p2) X.env v = (do let ov ← holding [v] (eval (.Name x p1) X.env); let iv ← holding [v, ov] (eval i X.env); standAt p2; holding [v, ov, iv] (setItem ov iv v); release [v, ov, iv] []) := by exact fun _ => rfl)
    (h1 : swapsWithSole [.Subscript (.Name x p1) i p2] e pos.line X.env = pure false := by rfl) (h2 : swappedStores [.Subscript (.Name x p1) i p2] e X.env = pure none := by rfl) (h3 : List.map (fun x => x.snd) (assignEach [.Subscript (.Name x p1) i p2] X.env) = [assign (.Subscript (.Name x p1) i p2) X.env] := by rfl) :
    JS cl Wx X (.Assign [.Subscript (.Name x p1) i p2] e pos) (sSetIO n ei ea) :=
  PS.weaken (ps_asg h (pg_sub (pe_var hN hv hd hcd) hi set_list ha) h1 h2 h3) fun E σ H ⟨H0, m, ow, s, ρ, cx, h⟩ => ⟨H0, m, ow, s, ρ, cx, RunS.ofE cx h fun y s1 v H1 H1' m1 g c rr q1 => by
    have q1 : RunS X.K cl Wx H1 H1' m1 ow E (kSetIO n ei y ρ s1) := q1
    unfold kSetIO at q1
    split at q1
    · rename_i l e0
      obtain ⟨p, vs, h1, h2, h3, h4⟩ := c.en.slot n _ e0
      refine ⟨.ref p, h1, H1, m1, ow, s1, ρ, c, RunS.ofE c q1 fun z s2 uz H2 H2' m2 g2 c2 r2 q2 => ?_⟩
      have q2 : RunS X.K cl Wx H2 H2' m2 ow E (kSetIO2 n l y z ρ s2) := q2
      obtain ⟨p', us, k1, k2, k3, k4⟩ := c2.en.slot n _ e0
      rw [h1] at k1
      cases k1
      have rr := RepW.mono g2.s0 g2.pre rr
      unfold kSetIO2 at q2
      split at q2
      · rename_i kk e1
        split at q2
        · rename_i j e2
          refine ⟨p, us, kk, j, rfl, asInt_ok r2 e1, k3, by rw [k4.length]; exact e2, ?_⟩
          exact q2 _ _ _ _ _ (Go.updOwn k2) (c2.updOwn e0 rfl h1 k2 rfl ⟨p, _, rfl, k2, upd_same, k4.set rr j⟩)
        · exact q2.elim
      · exact q2.elim
    · exact q1.elim⟩
end
end TG

set_option Elab.async false
set_option linter.all false
set_option maxRecDepth 100000
set_option maxHeartbeats 4000000
namespace PySem
open Sem (wp)
noncomputable abbrev IsZipS (h : Heap) (z TI TO : Addr) (f0 : Value) : Prop :=
  h.get? z = some { cls := .type "zip", dict := none, data := .fields #[f0, .bool false, .bool true, .ref TI, .ref TO], slots := #[] }
section
variable {prog : Program} {w : World} {A : Around} {E : Value → Shared → Prop} {s : Shared}
theorem noe_item {it l : Addr} {i : Nat} {items} {x : Value} {Q : Option Value → Shared → Prop} (hit : s.heap.IsTupleIter it l i) (hl : s.heap.IsTuple l items) (hx : items[i]? = some x)
    (hQ : ∀ h', h'.IsTupleIter it l (i + 1) → Heap.SameBut it s.heap h' → Q (some x) { s with heap := h' }) : wpAny (model prog w) A (Builtin.SmallTypes.nextOrEnd (.ref it)) Q E s := by
  unfold Builtin.SmallTypes.nextOrEnd
  exact wpAny_bind (wpAny_attempt (RZ.nextOf_tuple_item hit hl hx fun h' a b => wpAny_pure (hQ h' a b)))
theorem noe_end {it l : Addr} {i : Nat} {items} {Q : Option Value → Shared → Prop} (hh : A.handled = none) (hit : s.heap.IsTupleIter it l i) (hl : s.heap.IsTuple l items) (hx : items[i]? = none)
    (hQ : ∀ h', Heap.ExtBut it s.heap h' → Q none { s with heap := h' }) : wpAny (model prog w) A (Builtin.SmallTypes.nextOrEnd (.ref it)) Q E s := by
  unfold Builtin.SmallTypes.nextOrEnd
  refine wpAny_bind (wpAny_attempt (RZ.nextOf_tuple_end hh hit hl hx fun h' e hk he => ?_))
  obtain ⟨o, ho, hc⟩ := he
  refine wpAny_bind (wpAny_isInstance (T := "StopIteration") (b := true) ⟨o, ho, hc⟩ isSubtype_stop ?_)
  exact wpAny_pure (hQ h' hk)
theorem stop_now {α : Type} {Q : α → Shared → Prop} (hh : A.in1.handled = none) (hE : ∀ h' e, (∀ c o, s.heap.get? c = some o → h'.get? c = some o) → (∃ o, h'.get? e = some o ∧ o.cls = .type "StopIteration") → E (.ref e) { s with heap := h' }) :
    wpAny (model prog w) A (Builtin.SmallTypes.stopIteration : Sem α) Q E s := by
  unfold Builtin.SmallTypes.stopIteration
  refine wpAny_bind ?_
  simp only [newExc, newTuple]
  refine wpAny_bind (wpAny_newObj_type ?_ (by size_fits))
  refine wpAny_bind (m := firstArgMember _ _) (wpAny_of_eq (a := Value.none) (by first | rfl | (simp only [firstArgMember]; rfl)) ?_)
  refine wpAny_newObj_type ?_ (by size_fits)
  simp only [raiseNew]
  refine wpAny_bind (wpAny_handled ?_)
  rw [show A.handled = none from hh]
  refine wpAny_bind (wpAny_pure (wpAny_throw ?_))
  exact hE _ _ (fun c o e => Heap.get?_push_of_some _ (Heap.get?_push_of_some _ e)) ⟨_, Heap.get?_push_size _ rfl, rfl⟩
theorem zipS_item {z TI TO i1 i2 l1 l2 : Addr} {k1 k2 : Nat} {xs ys : Array Value} {x y a b : Value} {Q : Value → Shared → Prop} (D : ZipApart z TI TO i1 i2 l1 l2)
    (hz : IsZipS s.heap z TI TO .none) (hTI : IsPair s.heap TI (.ref i1) (.ref i2)) (hTO : IsPair s.heap TO a b) (h1 : s.heap.IsTupleIter i1 l1 k1) (h2 : s.heap.IsTupleIter i2 l2 k2) (hl1 : s.heap.IsTuple l1 xs) (hl2 : s.heap.IsTuple l2 ys) (hx : xs[k1]? = some x) (hy : ys[k2]? = some y)
    (hQ : ∀ h', IsZipS h' z TI TO (rawInt s.heap.objs.size) → IsPair h' TO x y → h'.IsTupleIter i1 l1 (k1 + 1) → h'.IsTupleIter i2 l2 (k2 + 1) → IsPair h' s.heap.objs.size x y → h'.objs.size = s.heap.objs.size + 1 →
      (∀ c o, c ≠ z → c ≠ TO → c ≠ i1 → c ≠ i2 → s.heap.get? c = some o → h'.get? c = some o) → Q (.ref s.heap.objs.size) { s with heap := h' }) :
    wpAny (model prog w) A (Builtin.«zip.__next__» ⟨[.ref z], []⟩) (fun fin s' => ∃ v, fin = .done (.ret v) ∧ Q v s') E s := by
  show wpAny _ _ (field (.ref z) 2 >>= _) _ _ _
  refine wpAny_bind (wpAny_field hz rfl (x := .bool true) rfl ?_)
  show wpAny _ _ (field (.ref z) 3 >>= _) _ _ _
  refine wpAny_bind (wpAny_field hz rfl (x := .ref TI) rfl (wpAny_bind (wpAny_seqItems hTI rfl ?_)))
  show wpAny _ _ (Builtin.SmallTypes.ownedTupleIsFree (.ref z) >>= _) _ _ _
  refine wpAny_bind ?_
  unfold Builtin.SmallTypes.ownedTupleIsFree
  refine wpAny_bind (wpAny_field hz rfl (x := .none) rfl (wpAny_pure ?_))
  simp only [if_true]
  refine wpAny_bind (wpAny_rule (wpAny_bind (wpAny_field hz rfl (x := .ref TO) rfl (wpAny_bind (wpAny_setField_rec hz (by simp) fun h₁ hz₁ hs₁ => ?_)))))
  replace hz₁ : IsZipS h₁ z TI TO .ellipsis := hz₁
  refine wpAny_bind ?_
  simp only [List.zipIdx_cons, List.zipIdx_nil, List.forIn_cons, List.forIn_nil]
  refine wpAny_bind (wpAny_bind (wpAny_onRaise ?_))
  show wpAny _ _ (Builtin.SmallTypes.nextOrEnd (.ref i1)) _ _ _
  refine noe_item (h1.extBut hs₁.extBut D.i1z) (hl1.extBut hs₁.extBut D.l1z) hx fun h₂ h1₂ hs₂ => ?_
  have hTO₂ : IsPair h₂ TO a b := hs₂.extBut _ _ D.TOi1 (hs₁.extBut _ _ D.TOz hTO)
  refine wpAny_bind (wpAny_seqItems hTO₂ rfl (wpAny_bind (wpAny_updateSeq_pair hTO₂ fun h₃ hTO₃ hs₃ => ?_)))
  replace hTO₃ : IsPair h₃ TO x b := hTO₃
  refine wpAny_bind (wpAny_letGo (wpAny_pure ?_))
  refine wpAny_bind (wpAny_bind (wpAny_onRaise ?_))
  show wpAny _ _ (Builtin.SmallTypes.nextOrEnd (.ref i2)) _ _ _
  refine noe_item (((h2.extBut hs₁.extBut D.i2z).extBut hs₂.extBut D.i12.symm).extBut hs₃.extBut D.TOi2.symm) (((hl2.extBut hs₁.extBut D.l2z).extBut hs₂.extBut D.l2i1).extBut hs₃.extBut D.l2TO) hy fun h₄ h2₄ hs₄ => ?_
  have hTO₄ : IsPair h₄ TO x b := hs₄.extBut _ _ D.TOi2 hTO₃
  refine wpAny_bind (wpAny_seqItems hTO₄ rfl (wpAny_bind (wpAny_updateSeq_pair hTO₄ fun h₅ hTO₅ hs₅ => ?_)))
  replace hTO₅ : IsPair h₅ TO x y := hTO₅
  refine wpAny_bind (wpAny_letGo (wpAny_pure (wpAny_pure ?_)))
  refine wpAny_bind (wpAny_seqItems hTO₅ rfl (wpAny_bind (wpAny_newTuple ?_)))
  have hsz : h₅.objs.size = s.heap.objs.size := by rw [hs₅.1, hs₄.1, hs₃.1, hs₂.1, hs₁.1]
  have hz₅ : IsZipS h₅ z TI TO .ellipsis := hs₅.extBut _ _ D.TOz.symm (hs₄.extBut _ _ D.i2z.symm (hs₃.extBut _ _ D.TOz.symm (hs₂.extBut _ _ D.i1z.symm hz₁)))
  have hk₅ : ∀ c o, c ≠ z → c ≠ TO → c ≠ i1 → c ≠ i2 → s.heap.get? c = some o → h₅.get? c = some o := fun c o c1 c2 c3 c4 e =>
    hs₅.extBut _ _ c2 (hs₄.extBut _ _ c4 (hs₃.extBut _ _ c2 (hs₂.extBut _ _ c3 (hs₁.extBut _ _ c1 e))))
  have h1₅ : h₅.IsTupleIter i1 l1 (k1 + 1) := ((h1₂.extBut hs₃.extBut D.TOi1.symm).extBut hs₄.extBut D.i12).extBut hs₅.extBut D.TOi1.symm
  have h2₅ : h₅.IsTupleIter i2 l2 (k2 + 1) := h2₄.extBut hs₅.extBut D.TOi2.symm
  have hzlt : z < h₅.objs.size := Heap.lt_size hz₅
  show wpAny _ _ (Builtin.SmallTypes.ownedTupleHandOut (.ref z) (.ref h₅.objs.size) >>= _) _ _ _
  refine wpAny_bind ?_
  unfold Builtin.SmallTypes.ownedTupleHandOut
  have hz₆ : IsZipS (h₅.push { cls := .type "tuple", data := .seq #[x, y] }) z TI TO .ellipsis := Heap.get?_push_of_some _ hz₅
  refine wpAny_bind (wpAny_setField_rec hz₆ (by simp) fun h₇ hz₇ hs₇ => ?_)
  replace hz₇ : IsZipS h₇ z TI TO (rawInt h₅.objs.size) := hz₇
  refine wpAny_setField_rec hz₇ (by simp) fun h₈ hz₈ hs₈ => ?_
  replace hz₈ : IsZipS h₈ z TI TO (rawInt h₅.objs.size) := hz₈
  have up : ∀ c o, c ≠ z → h₅.get? c = some o → h₈.get? c = some o := fun c o c1 e => hs₈.extBut _ _ c1 (hs₇.extBut _ _ c1 (Heap.get?_push_of_some _ e))
  have hT₈ : IsPair h₈ h₅.objs.size x y := hs₈.extBut _ _ (Nat.ne_of_gt hzlt) (hs₇.extBut _ _ (Nat.ne_of_gt hzlt) (Heap.get?_push_size _ rfl))
  have hz8 : h₈.objs.size = h₅.objs.size + 1 := by rw [hs₈.1, hs₇.1, Heap.size_push]
  rw [hsz] at hz₈ hT₈ hz8
  refine wpAny_pure ⟨_, rfl, ?_⟩
  show Q (.ref h₅.objs.size) _
  rw [hsz]
  exact hQ h₈ hz₈ (up _ _ D.TOz hTO₅) (h1₅.at fun o e => up _ o D.i1z e) (h2₅.at fun o e => up _ o D.i2z e) hT₈ hz8 fun c o c1 c2 c3 c4 e => up c o c1 (hk₅ c o c1 c2 c3 c4 e)
theorem zipS_end {z TI TO i1 i2 l1 l2 : Addr} {k1 k2 : Nat} {xs ys : Array Value} {a b : Value} {Q : Fin → Shared → Prop} (hh : A.handled = none) (D : ZipApart z TI TO i1 i2 l1 l2)
    (hz : IsZipS s.heap z TI TO .none) (hTI : IsPair s.heap TI (.ref i1) (.ref i2)) (h1 : s.heap.IsTupleIter i1 l1 k1) (h2 : s.heap.IsTupleIter i2 l2 k2) (hl1 : s.heap.IsTuple l1 xs) (hl2 : s.heap.IsTuple l2 ys) (e1 : xs[k1]? = none) (e2 : ys[k2]? = none)
    (hTO : IsPair s.heap TO a b)
    (hE : ∀ h' e, (∀ c o, c ≠ z → c ≠ TO → c ≠ i1 → c ≠ i2 → s.heap.get? c = some o → h'.get? c = some o) → (∃ o, h'.get? e = some o ∧ o.cls = .type "StopIteration") → E (.ref e) { s with heap := h' }) :
    wpAny (model prog w) A (Builtin.«zip.__next__» ⟨[.ref z], []⟩) Q E s := by
  show wpAny _ _ (field (.ref z) 2 >>= _) _ _ _
  refine wpAny_bind (wpAny_field hz rfl (x := .bool true) rfl ?_)
  show wpAny _ _ (field (.ref z) 3 >>= _) _ _ _
  refine wpAny_bind (wpAny_field hz rfl (x := .ref TI) rfl (wpAny_bind (wpAny_seqItems hTI rfl ?_)))
  show wpAny _ _ (Builtin.SmallTypes.ownedTupleIsFree (.ref z) >>= _) _ _ _
  refine wpAny_bind ?_
  unfold Builtin.SmallTypes.ownedTupleIsFree
  refine wpAny_bind (wpAny_field hz rfl (x := .none) rfl (wpAny_pure ?_))
  simp only [if_true]
  refine wpAny_bind (wpAny_rule (wpAny_bind (wpAny_field hz rfl (x := .ref TO) rfl (wpAny_bind (wpAny_setField_rec hz (by simp) fun h₁ hz₁ hs₁ => ?_)))))
  replace hz₁ : IsZipS h₁ z TI TO .ellipsis := hz₁
  refine wpAny_bind ?_
  simp only [List.zipIdx_cons, List.zipIdx_nil, List.forIn_cons, List.forIn_nil]
  refine wpAny_bind (wpAny_bind (wpAny_onRaise ?_))
  show wpAny _ _ (Builtin.SmallTypes.nextOrEnd (.ref i1)) _ _ _
  refine noe_end hh (h1.extBut hs₁.extBut D.i1z) (hl1.extBut hs₁.extBut D.l1z) e1 fun h₂ hs₂ => ?_
  have hz₂ : IsZipS h₂ z TI TO .ellipsis := hs₂ _ _ D.i1z.symm hz₁
  refine wpAny_bind (wpAny_setField_rec hz₂ (by simp) fun h₃ hz₃ hs₃ => ?_)
  have it2 : h₃.IsTupleIter i2 l2 k2 := ((h2.extBut hs₁.extBut D.i2z).extBut hs₂ D.i12.symm).extBut hs₃.extBut D.i2z
  have ht2 : h₃.IsTuple l2 ys := ((hl2.extBut hs₁.extBut D.l2z).extBut hs₂ D.l2i1).extBut hs₃.extBut D.l2z
  have kk : ∀ c o, c ≠ z → c ≠ i1 → s.heap.get? c = some o → h₃.get? c = some o := fun c o c1 c3 e => hs₃.extBut _ _ c1 (hs₂ _ _ c3 (hs₁.extBut _ _ c1 e))
  refine wpAny_bind ?_
  show wpAny _ _ (forIn [((Value.ref i2, 1) : Value × Nat)] PUnit.unit _ >>= _) _ _ _
  simp only [List.forIn_cons, List.forIn_nil]
  refine wpAny_bind (wpAny_bind ?_)
  show wpAny _ _ (Builtin.SmallTypes.nextOrEnd (.ref i2) >>= _) _ _ _
  refine wpAny_bind (noe_end hh it2 ht2 e2 fun h₄ hs₄ => ?_)
  rw [if_neg (by simp)]
  refine wpAny_pure (wpAny_pure ?_)
  refine wpAny_bind (wpAny_rule (stop_now hh fun h₅ e hk he => ?_))
  exact hE h₅ e (fun c o c1 c2 c3 c4 q => hk _ _ (hs₄ _ _ c4 (kk c o c1 c3 q))) he
theorem pyNext_zipS_item {z TI TO i1 i2 l1 l2 : Addr} {k1 k2 : Nat} {xs ys : Array Value} {x y a b : Value} {Q : Option Value → Shared → Prop} (D : ZipApart z TI TO i1 i2 l1 l2)
    (hz : IsZipS s.heap z TI TO .none) (hTI : IsPair s.heap TI (.ref i1) (.ref i2)) (hTO : IsPair s.heap TO a b) (h1 : s.heap.IsTupleIter i1 l1 k1) (h2 : s.heap.IsTupleIter i2 l2 k2) (hl1 : s.heap.IsTuple l1 xs) (hl2 : s.heap.IsTuple l2 ys) (hx : xs[k1]? = some x) (hy : ys[k2]? = some y)
    (hQ : ∀ h', IsZipS h' z TI TO (rawInt s.heap.objs.size) → IsPair h' TO x y → h'.IsTupleIter i1 l1 (k1 + 1) → h'.IsTupleIter i2 l2 (k2 + 1) → IsPair h' s.heap.objs.size x y → h'.objs.size = s.heap.objs.size + 1 →
      (∀ c o, c ≠ z → c ≠ TO → c ≠ i1 → c ≠ i2 → s.heap.get? c = some o → h'.get? c = some o) → Q (some (.ref s.heap.objs.size)) { s with heap := h' }) : wpAny (model prog w) A (pyNext (.ref z)) Q E s := by
  have hT : s.TypeIs (.ref z) "zip" := ⟨_, hz, rfl⟩
  unfold pyNext
  exact wpAny_bind (wpAny_attempt (wpAny_callSpecial?_slot (name := Str.ofString "__next__") hT F.slot_zip_next (wpAny_call_entry F.slot_zip_next hT F.entry_zip_next
    (zipS_item D hz hTI hTO h1 h2 hl1 hl2 hx hy fun h' a1 a2 a3 a4 a5 a6 a7 => wpAny_pure (hQ h' a1 a2 a3 a4 a5 a6 a7)) (F.args_zip_next_1 _))))
theorem pyNext_zipS_end {z TI TO i1 i2 l1 l2 : Addr} {k1 k2 : Nat} {xs ys : Array Value} {a b : Value} {Q : Option Value → Shared → Prop} (hh : A.handled = none) (D : ZipApart z TI TO i1 i2 l1 l2)
    (hz : IsZipS s.heap z TI TO .none) (hTI : IsPair s.heap TI (.ref i1) (.ref i2)) (hTO : IsPair s.heap TO a b) (h1 : s.heap.IsTupleIter i1 l1 k1) (h2 : s.heap.IsTupleIter i2 l2 k2) (hl1 : s.heap.IsTuple l1 xs) (hl2 : s.heap.IsTuple l2 ys) (e1 : xs[k1]? = none) (e2 : ys[k2]? = none)
    (hQ : ∀ h', (∀ c o, c ≠ z → c ≠ TO → c ≠ i1 → c ≠ i2 → s.heap.get? c = some o → h'.get? c = some o) → Q none { s with heap := h' }) : wpAny (model prog w) A (pyNext (.ref z)) Q E s := by
  have hT : s.TypeIs (.ref z) "zip" := ⟨_, hz, rfl⟩
  unfold pyNext
  refine wpAny_bind (wpAny_attempt (wpAny_callSpecial?_slot (name := Str.ofString "__next__") hT F.slot_zip_next
    (wpAny_call_entry F.slot_zip_next hT F.entry_zip_next (zipS_end hh D hz hTI h1 h2 hl1 hl2 e1 e2 hTO fun h' e hk he => ?_) (F.args_zip_next_1 _))))
  obtain ⟨o, ho, hc⟩ := he
  exact wpAny_bind (wpAny_isInstance (T := "StopIteration") (b := true) ⟨o, ho, hc⟩ isSubtype_stop (wpAny_pure (hQ _ hk)))
theorem iter_zipS {z TI TO : Addr} {v : Value} {Q : Value → Shared → Prop} (hz : IsZipS s.heap z TI TO v) (h : Q (.ref z) s) : wpAny (model prog w) A (pyIter (.ref z)) Q E s := by
  have hT : s.TypeIs (.ref z) "zip" := ⟨_, hz, rfl⟩
  refine wpAny_pyIter_slot hT F.slot_zip_iter (wpAny_call_entry F.slot_zip_iter hT F.entry_zip_iter ?_ (F.args_zip_iter_1 _))
  show wpAny _ _ (ret (.ref z)) _ _ s
  exact wpAny_pure ⟨_, rfl, "zip", _, hT, F.slot_zip_next.lookup, h⟩
theorem owned_zipS {elts : List Expr} {x1} {pos : Pos} {z TI TO T : Addr} {Q : Unit → Shared → Prop} (hz : IsZipS s.heap z TI TO (rawInt T))
    (hQ : ∀ h', IsZipS h' z TI TO .none → Heap.SameBut z s.heap h' → Q () { s with heap := h' }) : wpAny (model prog w) A (letOwnedTupleGo (.Tuple elts x1 pos) (.ref z) (.ref T)) Q E s := by
  unfold letOwnedTupleGo
  refine wpAny_bind (wpAny_load hz ?_)
  show wpAny _ _ (if (_ && (#[rawInt T, .bool false, .bool true, .ref TI, .ref TO] : Array Value)[0]? == some (rawInt T)) = true then _ else _) Q E s
  rw [if_pos (by simp)]
  refine wpAny_bind (wpAny_rule ?_)
  show wpAny _ _ (setField (.ref z) 0 .none) Q E s
  exact wpAny_setField_rec hz (by simp) fun h' hz' hs' => hQ h' hz' hs'
end
namespace F
theorem typeCall_zip_strict (a b v : Value) : checkTypeCall "zip" ⟨[a, b], [(Str.ofString "strict", v)]⟩ = pure () := by kernel_rfl
theorem newCall_zip_strict (a b v : Value) : checkBuiltinCall "zip.__new__" ⟨[.type "zip", a, b], [(Str.ofString "strict", v)]⟩ = pure () := by kernel_rfl
theorem args_init_strict (obj a b v : Value) : argsOk "object.__init__" ⟨[obj, a, b], [(Str.ofString "strict", v)]⟩ := by unfold argsOk; kernel_rfl
end F
noncomputable abbrev zpS1 (h : Heap) (l1 : Addr) : Heap := h.push { cls := .type "tuple_iterator", data := .fields #[.ref l1, .int 0 0] }
noncomputable abbrev zpS2 (h : Heap) (l1 l2 : Addr) : Heap := (zpS1 h l1).push { cls := .type "tuple_iterator", data := .fields #[.ref l2, .int 0 0] }
noncomputable abbrev zpS3 (h : Heap) (l1 l2 : Addr) : Heap := (zpS2 h l1 l2).push { cls := .type "tuple", data := .seq #[.ref h.objs.size, .ref (zpS1 h l1).objs.size] }
noncomputable abbrev zpS4 (h : Heap) (l1 l2 : Addr) : Heap := (zpS3 h l1 l2).push { cls := .type "tuple", data := .seq #[.none, .none] }
noncomputable abbrev zpS5 (h : Heap) (l1 l2 : Addr) : Heap := (zpS4 h l1 l2).push { cls := .type "zip", data := .fields #[.none, .bool false, .bool true, .ref (zpS2 h l1 l2).objs.size, .ref (zpS3 h l1 l2).objs.size] }
theorem meets_zipS_new (l1 l2 : Addr) (xs ys : Array Value) :
    Meets (Builtin.«zip.__new__» ⟨[.type "zip", .ref l1, .ref l2], [(Str.ofString "strict", .bool true)]⟩) (fun _ R s => s.heap.IsTuple l1 xs ∧ s.heap.IsTuple l2 ys ∧
      R (.ok (.ret (.ref (zpS4 s.heap l1 l2).objs.size))) { s with heap := zpS5 s.heap l1 l2 }) :=
  .of_wp fun prog w A R s h => by
    obtain ⟨hp, g, d, tk, os⟩ := s; obtain ⟨hl1, hl2, h⟩ := h
    have hsub := sub_zip
    have hL1 : Heap.IsTuple (Shared.heap ⟨hp, g, d, tk, os⟩) l1 xs := hl1
    have hL2 : Heap.IsTuple (Shared.heap ⟨hp.push { cls := .type "tuple_iterator", data := .fields #[.ref l1, .int 0 0] }, g, d, tk, os⟩) l2 ys := Heap.IsTuple.push hl2 _
    have e2 : (Str.ofString "strict" != ("strict" : Str)) = false := by decide +kernel
    wp_walk using wpAny_pyIter_tuple hL1, wpAny_pyIter_tuple hL2
    exact ⟨_, rfl, h⟩
section
variable {prog : Program} {w : World} {A : Around} {E : Value → Shared → Prop} {s : Shared}
theorem call_zipS {l1 l2 : Addr} {xs ys : Array Value} {Q : Value → Shared → Prop} (hl1 : s.heap.IsTuple l1 xs) (hl2 : s.heap.IsTuple l2 ys)
    (h : ∀ h', IsZipS h' (s.heap.objs.size + 4) (s.heap.objs.size + 2) (s.heap.objs.size + 3) .none → IsPair h' (s.heap.objs.size + 2) (.ref s.heap.objs.size) (.ref (s.heap.objs.size + 1)) →
      IsPair h' (s.heap.objs.size + 3) .none .none → h'.IsTupleIter s.heap.objs.size l1 0 → h'.IsTupleIter (s.heap.objs.size + 1) l2 0 → (∀ c o, s.heap.get? c = some o → h'.get? c = some o) → Q (.ref (s.heap.objs.size + 4)) { s with heap := h' }) :
    wpAny (model prog w) A (call (.type "zip") [.ref l1, .ref l2] [(Str.ofString "strict", .bool true)]) Q E s := by
  refine callType_newKw F.called_zip (by decide) (F.typeCall_zip_strict _ _ _) (F.newCall_zip_strict _ _ _) (fun obj => F.args_init_strict obj _ _ _) F.entry_zip_new (meets_zipS_new l1 l2 xs ys) ⟨hl1, hl2, ?_⟩
  have z1 : (zpS1 s.heap l1).objs.size = s.heap.objs.size + 1 := Heap.size_push ..
  have z2 : (zpS2 s.heap l1 l2).objs.size = s.heap.objs.size + 2 := by rw [Heap.size_push, z1]
  have z3 : (zpS3 s.heap l1 l2).objs.size = s.heap.objs.size + 3 := by rw [Heap.size_push, z2]
  have z4 : (zpS4 s.heap l1 l2).objs.size = s.heap.objs.size + 4 := by rw [Heap.size_push, z3]
  have g5 : (zpS5 s.heap l1 l2).get? (zpS4 s.heap l1 l2).objs.size = some _ := Heap.get?_push_size _ rfl
  have g4 : (zpS5 s.heap l1 l2).get? (zpS3 s.heap l1 l2).objs.size = some _ := Heap.get?_push_of_some _ (Heap.get?_push_size _ rfl)
  have g3 : (zpS5 s.heap l1 l2).get? (zpS2 s.heap l1 l2).objs.size = some _ := Heap.get?_push_of_some _ (Heap.get?_push_of_some _ (Heap.get?_push_size _ rfl))
  have g2 : (zpS5 s.heap l1 l2).get? (zpS1 s.heap l1).objs.size = some _ := Heap.get?_push_of_some _ (Heap.get?_push_of_some _ (Heap.get?_push_of_some _ (Heap.get?_push_size _ rfl)))
  have g1 : (zpS5 s.heap l1 l2).get? s.heap.objs.size = some _ := Heap.get?_push_of_some _ (Heap.get?_push_of_some _ (Heap.get?_push_of_some _ (Heap.get?_push_of_some _ (Heap.get?_push_size _ rfl))))
  show _ ∧ _
  rw [z2, z3, z4] at g5
  rw [z1, z2] at g3
  rw [z3] at g4
  rw [z1] at g2
  rw [z4]
  exact ⟨⟨_, g5, rfl⟩, h _ g5 g3 g4 ⟨_, g1, rfl, rfl⟩ ⟨_, g2, rfl, rfl⟩ fun c o e => Heap.get?_push_of_some _ (Heap.get?_push_of_some _ (Heap.get?_push_of_some _ (Heap.get?_push_of_some _ (Heap.get?_push_of_some _ e))))⟩
end
end PySem

namespace PyProof.Rows
open PySem
section
variable {M : Model} {A : Around} {E : Value → Shared → Prop} {s : Shared} {env : Env}
theorem tg_callWith_typeKw {pos : Pos} {T : String} {e : Expr} {rest : List Expr} {kws : List Keyword} {Q : Value → Shared → Prop}
    (h : wpAny M A (spliced (backTo pos (starEach (e :: rest) env))) (fun vs s₁ => wpAny M A (evalAll ((backToKw pos (keywordEach kws env)).map (·.2)))
      (fun kvs s₂ => wpAny M A (call (.type T) vs (((backToKw pos (keywordEach kws env)).filterMap (·.1)).zip kvs)) Q E s₂) E s₁) E s)
    (he : backTo pos (starEach (e :: rest) env) = (false, eval e env) :: backTo pos (starEach rest env) := by rfl) (hp : (backTo pos (starEach (e :: rest) env)).any (·.1) = false := by rfl)
    (hall : (backToKw pos (keywordEach kws env)).all (·.1.isSome) = true := by rfl) (hkw : (backToKw pos (keywordEach kws env)).any (·.1.isNone) = false := by rfl) :
    wpAny M A (callWith pos (.type T) [] (backTo pos (starEach (e :: rest) env)) (backToKw pos (keywordEach kws env))) Q E s := by
  have g : wpAny M A (evalArgs (.type T) true (backTo pos (starEach (e :: rest) env)) (backToKw pos (keywordEach kws env))) (fun a s₁ => wpAny M A (call (.type T) ([] ++ a.pos) a.kw) Q E s₁) E s := by
    rw [he] at h ⊢
    exact evalArgs_kwB hall h
  unfold callWith
  refine wpAny_bind (wpAny_holding (wpAny_mono g (fun a s₁ h₁ => wpAny_bind (wpAny_standAt ?_)) fun _ _ x => x))
  simp only [hp, hkw, Bool.or_false]
  exact wpAny_bind (wpAny_pure (wpAny_bind (wpAny_mono h₁ (fun r s₂ hr => wpAny_bind (wpAny_holding (wpAny_point (wpAny_pure hr)))) fun _ _ x => x)))
end
end PyProof.Rows
namespace TG
open PySem L2 PyProof.Rows
noncomputable def zipD (l r : List D) : List W := (l.zip r).map fun p => W.d (.tup [p.1, p.2])
noncomputable def kZipS : List W → S → Res (List W) := fun ws s => match ws with
  | [.d (.tup l), .d (.tup r)] => if l.length = r.length then .ok (zipD l r) s else .no
  | _ => .no
noncomputable def eZipS (a : Cmp (List W)) : Cmp (List W) := fun ρ s => (a ρ s).bind kZipS
section
variable {X : Cx} {cl : Str → Option Addr} {Wx : WX} {e e2 : Expr} {elts : List Expr} {kk j : Nat} {tpos pos p kp cp : Pos} {el : Cmp (List W)}
end
end TG

set_option Elab.async false
set_option linter.all false
set_option maxRecDepth 100000
set_option maxHeartbeats 4000000
namespace GQ
open PySem PySem.SeqAt
open AutoSeq1 (wpAny_loadPart')
open MeetsSeq MeetsSeq2 MeetsSeq3 SeqRoads2
section
variable {prog : Program} {w : World} {A : Around} {R : Result → Shared → Prop}
theorem tg_ne_loop (l b : Addr) (N : Nat) (I : Nat → Shared → Prop) (hl : ListI prog w A (fun e s' => R (.error e) s') l b N I) (fin : ∀ s, I N s → R (.ok (.ret (.bool false))) s) (k : Nat) :
    ∀ i : Nat, N - i = k → i ≤ N → ∀ s, I i s → wpAny (model prog w) A.in1 (Builtin.«list.__eq__.loop» ⟨[.ref l, .ref b, rawInt i, rawInt 3], []⟩) (FinOf prog w A R) (fun e s' => R (.error e) s') s := by
  induction k with
  | zero =>
    intro i hk hi s h
    obtain ⟨items, items2, n, n2, hl1, hb1, hs1, hs2, _⟩ := hl _ _ h
    have hi' : i = N := by omega
    have hR : R (.ok (.ret (.bool false))) s := fin s (hi' ▸ h)
    obtain ⟨hp, g, d, tk, os⟩ := s
    wp_walk using wpAny_loadPart' hl1, wpAny_loadPart' hb1
    have hi1 : items[((i : Nat) : Int).toNat]? = none := by simp; omega
    have hi2 : items2[((i : Nat) : Int).toNat]? = none := by simp; omega
    rw [hi1, hi2]
    wp_walk using wpAny_loadPart' hl1, wpAny_loadPart' hb1
    show R (.ok (.ret (.bool (items.size != items2.size)))) _
    rw [hs1, hs2]
    simpa using hR
  | succ k ih =>
    intro i hk hi s h
    obtain ⟨items, items2, n, n2, hl1, hb1, hs1, hs2, turn⟩ := hl _ _ h
    have hlt : i < items.size := by omega
    have hlt2 : i < items2.size := by omega
    have ht := turn hlt hlt2
    obtain ⟨hp, g, d, tk, os⟩ := s
    wp_walk using wpAny_loadPart' hl1, wpAny_loadPart' hb1
    have hi1 : items[((i : Nat) : Int).toNat]? = some items[i] := by simp [hlt]
    have hi2 : items2[((i : Nat) : Int).toNat]? = some items2[i] := by simp [hlt2]
    have hc : ((i : Int) + 1) = ((i + 1 : Nat) : Int) := by omega
    rw [hi1, hi2]
    refine wpAny_bind (wpAny_mono ht (fun r s2 h2 => ?_) fun _ _ x => x)
    obtain ⟨hr, h2⟩ := h2
    subst hr
    have hrec := ih (i + 1) (by omega) (by omega) s2 h2
    obtain ⟨hp2, g2, d2, tk2, os2⟩ := s2
    wp_walk
    rw [hc]
    exact ⟨plainId_quiet plain_eq_loop _, codeAny_builtin entry_eq_loop (by
      rw [Around.under_plainId plain_eq_loop _]
      exact hrec)⟩
theorem tg_list_ne (l b : Addr) (N : Nat) (I : Nat → Shared → Prop) (hl : ListI prog w A (fun e s' => R (.error e) s') l b N I) (fin : ∀ s, I N s → R (.ok (.ret (.bool false))) s) {s : Shared} (h : I 0 s) :
    wpAny (model prog w) A.in1 (Builtin.«list.__ne__» ⟨[.ref l, .ref b], []⟩) (FinOf prog w A R) (fun e s' => R (.error e) s') s := by
  obtain ⟨items, items2, n, n2, hl1, hb1, hs1, hs2, _⟩ := hl _ _ h
  have hrec := tg_ne_loop (A := A) (R := R) l b N I hl fin _ 0 rfl (Nat.zero_le _) s h
  obtain ⟨hp, g, d, tk, os⟩ := s
  have f3 := AutoSeq1.sub_list_list
  have hne : ¬ (items.size != items2.size) = true := by simp [hs1, hs2]
  wp_walk using wpAny_loadPart' hl1, wpAny_loadPart' hb1
  exact ⟨plainId_quiet plain_eq_loop _, codeAny_builtin entry_eq_loop (by
    rw [Around.under_plainId plain_eq_loop _]
    exact hrec)⟩
end
section
variable {prog : Program} {w : World} {A : Around} {E : Value → Shared → Prop} {s : Shared}
theorem tg_rc_list_ne {l b : Addr} {N : Nat} {Q : Value → Shared → Prop} (hu : A.units < cLine) (I : Nat → Shared → Prop) (hl : ListI prog w A E l b N I)
    (fin : ∀ s, I N s → Q (.bool false) s) (h : I 0 s) : wpAny (model prog w) A (richCompare .NotEq (.ref l) (.ref b)) Q E s := by
  obtain ⟨items, items2, n, n2, hl1, hb1, _, _, _⟩ := hl _ _ h
  refine wpAny_richCompare_same_room (op := .NotEq) ⟨_, hl1, rfl⟩ ⟨_, hb1, rfl⟩ F.slot_list_ne (call_here F.slot_list_ne ⟨_, hl1, rfl⟩ F.entry_list_ne (F.args_list_ne_2 _ _) ?_) hu
  exact tg_list_ne (R := wants (fun v s' => v ≠ .notImplemented ∧ Q v s') E) l b N I hl (fun s' q => ⟨(fun x => nomatch x), fin s' q⟩) h
end
end GQ
namespace TG
open PySem L2 PyProof.Rows
noncomputable def isFootD : D → Bool
  | .ins c [(f, .tup l), (g, .int _)] => decide (c = "Foot") && decide (f = "drops") && decide (g = "middle") && l.all fun x => match x with | .int _ => true | _ => false
  | _ => false
mutual
noncomputable def D.eqk : D → Bool
  | .int _ => true | .non => true | .bl _ => true
  | .tup l => D.eqks l | .lst l => D.eqks l
  | .ins c l => isFootD (.ins c l)
  | _ => false
noncomputable def D.eqks : List D → Bool
  | [] => true
  | x :: r => D.eqk x && D.eqks r
end
mutual
noncomputable def D.lay : D → Nat
  | .tup l => D.lays l + 1 | .lst l => D.lays l + 1
  | _ => 0
noncomputable def D.lays : List D → Nat
  | [] => 0
  | x :: r => max (D.lay x) (D.lays r)
end
theorem eqks_mem : ∀ {l : List D}, D.eqks l = true → ∀ d ∈ l, d.eqk = true
  | a :: r, h, d, hd => by
    rw [D.eqks, Bool.and_eq_true] at h
    rcases List.mem_cons.mp hd with e | e
    · exact e ▸ h.1
    · exact eqks_mem h.2 d e
theorem lays_mem : ∀ {l : List D} {d : D}, d ∈ l → d.lay ≤ D.lays l
  | a :: r, d, h => by
    rw [D.lays]
    rcases List.mem_cons.mp h with e | e
    · exact e ▸ Nat.le_max_left _ _
    · exact Nat.le_trans (lays_mem e) (Nat.le_max_right _ _)
noncomputable def Two (K : PySem.W.Frag) (cl : Str → Option Addr) (d : D) : Eqv := fun x y H => ∃ H0, Same H0 H ∧ Rep K cl H0 x d ∧ Rep K cl H0 y d
theorem Two.mon {K : PySem.W.Frag} {cl : Str → Option Addr} {d : D} : Mon (Two K cl d) := fun x y H H' e ⟨H0, s, a, b⟩ => ⟨H0, s.trans e, a, b⟩
noncomputable def TwoOf (K : PySem.W.Frag) (cl : Str → Option Addr) (l : List D) : Eqv := fun x y H => ∃ d ∈ l, Two K cl d x y H
theorem TwoOf.mon {K : PySem.W.Frag} {cl : Str → Option Addr} {l : List D} : Mon (TwoOf K cl l) := fun x y H H' e ⟨d, hd, t⟩ => ⟨d, hd, Two.mon x y H H' e t⟩
theorem prs_two {K : PySem.W.Frag} {cl : Str → Option Addr} {H0 H : Hp} (s : Same H0 H) {vs us : List V} {l : List D} (a : Reps K cl H0 vs l) (b : Reps K cl H0 us l) : Prs (TwoOf K cl l) vs us H := by
  refine ⟨by rw [a.length, b.length], fun i x y h1 h2 => ?_⟩
  have hi : i < l.length := by rw [← a.length]; exact (List.getElem?_eq_some_iff.mp h1).1
  obtain ⟨u, e1, e2⟩ := (a.ws (m := [])).get (i := i) (x := W.d l[i]) (by simp [wD, hi])
  obtain ⟨u', e3, e4⟩ := (b.ws (m := [])).get (i := i) (x := W.d l[i]) (by simp [wD, hi])
  rw [h1] at e1
  rw [h2] at e3
  cases e1
  cases e3
  exact ⟨l[i], List.getElem_mem hi, H0, s, e2, e4⟩
structure EqFoot (P : Program) (w : World) (K : PySem.W.Frag) (mg : Str → Option Value) (base : Heap) (cl : Str → Option Addr) (k : Nat) (ps : List Str) (f : Sem1) : Prop where
  ex : ∃ (C a : Addr) (fd : FuncData), cl "Foot" = some C ∧ PySem.W.findIn K (.ref C) "__eq__" = some (some (.ref a)) ∧ PySem.W.isFn K (.ref a) = true ∧ Binds K fd ps [] ∧ FnOk P w K mg base (L2.CX P w) k a fd ps (spOf K cl f)
  self : ∀ d, isFootD d = true → f [.d d, .d d] [] = .ok (.w (.d (.bl true))) []
section
variable {X : Cx} {cl : Str → Option Addr} {k : Nat} {ps : List Str} {f : Sem1}
noncomputable def RFoot (K : PySem.W.Frag) (cl : Str → Option Addr) : Addr → Addr → Hp → Prop := fun a b H => ∃ d, isFootD d = true ∧ Two K cl d (.ref a) (.ref b) H
theorem noPass : Passes (L2.CX X.prog X.w) X E0 := fun _ _ _ _ _ _ _ ⟨_, _, _, _, _, _, _, _, _, _, _, _, z⟩ => z.elim
theorem eqG_foot (F : EqFoot X.prog X.w X.K X.mg X.base cl k ps f) {d : D} (hd : isFootD d = true) : EqG X k (Two X.K cl d) := by
  obtain ⟨C, a, fd, h1, h2, h3, h4, h5⟩ := F.ex
  have G : FnOk X.prog X.w X.K X.mg X.base (L2.CX X.prog X.w) k a fd ps (spEq (RFoot X.K cl)) := h5.imp fun vs H Q E ⟨x, y, e, ⟨d, hf, H0, s, r1, r2⟩, q⟩ => by
    subst e
    refine ⟨H0, [], [], [.d d, .d d], ⟨s, rfl, List.nodup_nil, fun n a c h => by simp at h⟩, .cons r1 (.cons r2 .nil), ?_⟩
    rw [F.self d hf]
    intro v H0' H' m' g st rr
    have e : v = .bl true := by
      have rr : RepW X.K cl H0' m' v (.d (.bl true)) := rr
      cases rr
      rfl
    subst e
    exact q H' fun a o h => g.fr a o h (by simp) (by simp)
  refine (eqG_ins G h2 h3 h4 noPass).imp fun x y H ⟨H0, s, r1, r2⟩ => ?_
  cases d with
  | ins c l =>
    cases r1 with
    | ins a1 a2 a3 =>
      cases r2 with
      | ins b1 b2 b3 =>
        have hc : c = "Foot" := by
          unfold isFootD at hd
          split at hd
          · rename_i e
            injection e with e1 e2
            simp only [Bool.and_eq_true, decide_eq_true_eq] at hd
            rw [e1]
            exact hd.1.1.1
          · cases hd
        subst hc
        rw [h1] at a2 b2
        cases a2
        cases b2
        exact ⟨_, _, _, _, _, _, rfl, rfl, s _ _ a1, s _ _ b1, .ins "Foot" l, hd, H0, s, .ins a1 h1 a3, .ins b1 h1 b3⟩
  | _ => cases hd
theorem eqG_two (F : EqFoot X.prog X.w X.K X.mg X.base cl k ps f) : ∀ (n : Nat) (d : D), d.eqk = true → d.lay ≤ n → EqG X (k + n) (Two X.K cl d)
  | n, .int i, _, _ => (eqG_flat.mono (Nat.zero_le _)).imp fun x y H ⟨H0, s, r1, r2⟩ => by cases r1; cases r2; exact ⟨rfl, rfl, by simp [eqV]⟩
  | n, .non, _, _ => (eqG_flat.mono (Nat.zero_le _)).imp fun x y H ⟨H0, s, r1, r2⟩ => by cases r1; cases r2; exact ⟨rfl, rfl, by simp [eqV]⟩
  | n, .bl b, _, _ => (eqG_flat.mono (Nat.zero_le _)).imp fun x y H ⟨H0, s, r1, r2⟩ => by cases r1; cases r2; exact ⟨rfl, rfl, by simp [eqV]⟩
  | n, .str _, h, _ => by simp [D.eqk] at h
  | n, .dic _, h, _ => by simp [D.eqk] at h
  | n, .scr _, h, _ => by simp [D.eqk] at h
  | n, .ins c l, h, _ => (eqG_foot F (by rw [D.eqk] at h; exact h)).mono (Nat.le_add_right _ _)
  | 0, .tup l, _, h => by rw [D.lay] at h; omega
  | 0, .lst l, _, h => by rw [D.lay] at h; omega
  | n + 1, .tup l, h, hn => by
    have ih : EqG X (k + n) (TwoOf X.K cl l) := fun A pins s σ H x y u v sb I rx ry ⟨d, hd, t⟩ =>
      eqG_two F n d (eqks_mem (by rw [D.eqk] at h; exact h) d hd) (by have := lays_mem hd; rw [D.lay] at hn; omega) A pins s σ H x y u v sb I rx ry t
    refine (eqG_tup TwoOf.mon ih).imp fun x y H ⟨H0, s, r1, r2⟩ => ?_
    cases r1 with
    | tup a1 a2 =>
      cases r2 with
      | tup b1 b2 => exact ⟨_, _, _, _, rfl, rfl, sqT_of (s _ _ a1), sqT_of (s _ _ b1), prs_two s a2 b2⟩
  | n + 1, .lst l, h, hn => by
    have ih : EqG X (k + n) (TwoOf X.K cl l) := fun A pins s σ H x y u v sb I rx ry ⟨d, hd, t⟩ =>
      eqG_two F n d (eqks_mem (by rw [D.eqk] at h; exact h) d hd) (by have := lays_mem hd; rw [D.lay] at hn; omega) A pins s σ H x y u v sb I rx ry t
    refine (eqG_list TwoOf.mon ih).imp fun x y H ⟨H0, s, r1, r2⟩ => ?_
    cases r1 with
    | lst a1 a2 =>
      cases r2 with
      | lst b1 b2 => exact ⟨_, _, _, _, rfl, rfl, s _ _ a1, s _ _ b1, prs_two s a2 b2⟩
noncomputable def rNeF (K : PySem.W.Frag) (cl : Str → Option Addr) : R2 := fun x y H Q => (∃ l : List D, D.eqks l = true ∧ D.lays l ≤ 4 ∧ Two K cl (.lst l) x y H) ∧ ∀ H', Ext H H' → Q (.bl false) H'
theorem op_neF (F : EqFoot X.prog X.w X.K X.mg X.base cl k ps f) (hr : Room (k + 5) X.A) : OpR X (compareOp .NotEq) (rNeF X.K cl) := by
  intro pins s σ H x y v u Q I rx ry hq
  obtain ⟨⟨l, h1, h2, H0, sm, r1, r2⟩, q⟩ := hq
  show wpAny (model X.prog X.w) X.A (richCompare .NotEq v u) (EP X pins σ Q) X.xe s
  have ih : EqG X (k + 4) (TwoOf X.K cl l) := fun A pins s σ H x y u v sb I rx ry ⟨d, hd, t⟩ =>
    eqG_two F 4 d (eqks_mem h1 d hd) (Nat.le_trans (lays_mem hd) h2) A pins s σ H x y u v sb I rx ry t
  cases r1 with
  | lst a1 a2 =>
    cases r2 with
    | lst b1 b2 =>
      rename_i pa vs pb us
      cases rx
      cases ry
      have p := prs_two sm a2 b2
      have sb : Sub X (k + 4 + 1) X.A := ⟨hr, rfl⟩
      refine GQ.tg_rc_list_ne (N := vs.length) sb.room.units0 (fun _ s' => LoopI X pins σ H s') (fun i s' qq => ?_) (fun s' ⟨H', I', e⟩ => ⟨.bl false, H', I', rfl, q H' e⟩) ⟨H, I, Ext.rfl'⟩
      obtain ⟨H1, I1, e1⟩ := id qq
      obtain ⟨z, its, kk, r, e⟩ := I1.hok pa _ (e1 _ _ (sm _ _ a1))
      obtain ⟨z2, its2, k2, r2, e2⟩ := I1.hok pb _ (e1 _ _ (sm _ _ b1))
      refine ⟨its.toArray, its2.toArray, kk, k2, e, e2, by rw [List.size_toArray, ← r.length], by rw [List.size_toArray, ← r2.length, ← p.1], fun h1 h2 => ?_⟩
      exact turnG TwoOf.mon ih sb p r r2 i h1 h2 s' qq
open Classical in
noncomputable def fNeF : W → W → S → Res W := fun x y s => match x, y with
  | .d (.lst l), .d (.lst r) => if l = r ∧ D.eqks l = true ∧ D.lays l ≤ 4 then .ok (.d (.bl false)) s else .no
  | _, _ => .no
theorem ops_neF {K : PySem.W.Frag} : OpS K cl (rNeF K cl) fNeF := fun Wx σ H0 H m s x y wx wy Q st rx ry h => by
  unfold fNeF at h
  split at h
  · rename_i l r
    split at h
    · rename_i hh
      obtain ⟨rfl, h1, h2⟩ := hh
      refine ⟨⟨l, h1, h2, H0, st.sub, rx, ry⟩, fun H' e => ?_⟩
      exact h (.bl false) H0 H' m ⟨Same.refl _, List.prefix_rfl, fun a o h _ _ => e a o h, fun a h => by
        cases q : H a with
        | none => exact absurd q h
        | some o => rw [e a o q]; simp, fun _ _ _ _ h => h, fun _ h => .inl h, fun _ h => .inl h⟩ ⟨st.sub.trans e, st.len, st.nd, fun n a c q1 q2 => by
          obtain ⟨z1, z2⟩ := st.cell n a c q1 q2
          exact ⟨z1, z2.mono (Same.refl _) List.prefix_rfl fun o q => e a o q⟩⟩ .bl
    · exact h.elim
  · exact h.elim
end
noncomputable def fIsO (c : Str) : W → S → Res W := fun x s => match x with
  | .d (.ins c2 _) => if c2 = c then .ok (.d (.bl true)) s else .no
  | _ => .no
structure IsC (K : PySem.W.Frag) (mg : Str → Option Value) (cl : Str → Option Addr) (c : Str) : Prop where
  ex : ∃ C, cl c = some C ∧ mg c = some (.ref C) ∧ C8.InsC K C ∧ PySem.W.kitOne K (.type "str") (.ref C) = some false ∧ PySem.W.kitOne K (.type "list") (.ref C) = some false
section
variable {X : Cx} {cl : Str → Option Addr} {Wx : WX} {e : Expr} {pos p q : Pos} {ea : Cmp W} {x y : Str}
theorem je_isO (c : Str) (hg : Gl X x) (hm : X.mg x = none) (hv : bootBuiltins x = some (.builtin "isinstance")) (hg2 : Gl X c) (F : IsC X.K X.mg cl c) (ha : JE cl Wx X e ea)
    (n1 : x ≠ "__name__" := by decide) (n2 : (x == ("__debug__" : Str)) = false := by decide) (n4 : (c == ("__debug__" : Str)) = false := by decide)
    (hs : starEach [e, .Name c q] X.env = (false, eval e X.env) :: starEach [.Name c q] X.env := by rfl) (hs2 : starEach [.Name c q] X.env = (false, eval (.Name c q) X.env) :: starEach [] X.env := by rfl) (h4 : ((backTo pos (starEach [.Name c q] X.env)).any fun x => x.fst) = false := by rfl) :
    JE cl Wx X (.Call (.Name x p) [e, .Name c q] [] pos) (eUn (fIsO c) ea) := by
  obtain ⟨C, hC, hm2, hc, _, _⟩ := F.ex
  exact PE.weaken (pe_callB (C8.call_isC hc) hg hm hv (pa_cons ha (pa_cons (pe_glob hg2 hm2 (v := .ref C) rfl n4) pa_nil hs2) hs) n1 n2 hs h4) fun σ H Q ⟨H0, m, ow, s, ρ, cx, h⟩ => ⟨H0, m, ow, s, ρ, cx, RunE.bind h fun a s1 v H1 H1' m1 g st rr h2 => by
    cases a with
    | r n => exact h2.elim
    | d z =>
      cases z with
      | ins c2 l =>
        by_cases hcc : c2 = c
        · have h2 : RunE X.K cl (rrW X.K cl) Wx H1 H1' m1 σ Q (if c2 = c then .ok (.d (.bl true)) s1 else .no) := h2
          rw [if_pos hcc] at h2
          have h3 : RunE X.K cl (rrW X.K cl) Wx H1 H1' m1 σ Q (.ok (.d (.bl true)) s1) := h2
          clear h2
          subst hcc
          cases rr with
          | ins a1 a2 a3 =>
            rw [hC] at a2
            cases a2
            exact ⟨_, _, _, rfl, st.sub _ _ a1, RunE.done (RR := rrW X.K cl) h3 st (Rep.bl : Rep X.K cl H1 (.bl true) (.bl true))⟩
        · have h2 : RunE X.K cl (rrW X.K cl) Wx H1 H1' m1 σ Q (if c2 = c then .ok (.d (.bl true)) s1 else .no) := h2
          rw [if_neg hcc] at h2
          exact h2.elim
      | _ => exact h2.elim⟩
end
end TG

set_option Elab.async false
set_option linter.all false
set_option maxRecDepth 100000
set_option maxHeartbeats 4000000
namespace TG
open PySem L2 PyProof.Rows
section
variable {K : PySem.W.Frag} {cl : Str → Option Addr}
end
end TG

set_option Elab.async false
set_option linter.all false
set_option maxRecDepth 100000
set_option maxHeartbeats 4000000
namespace TG
open PySem L2 PyProof.Rows
noncomputable def kPop (j i : Nat) (f l : List W) : W → Stm := fun y ρ s => match asInt y with
  | some k => (match ixN l.length k with
    | some n => (match l[n]? with
      | some w => if f.length < 16777216 ∧ l.length ≤ 16777216 then .nx ((ρ.set i (.own (l.eraseIdx n))).set j (.own (f ++ [w]))) s else .no
      | none => .no)
    | none => .no)
  | none => .no
noncomputable def sAppPop (j i : Nat) (e : Cmp W) : Stm := fun ρ s => match (ρ[j]? : Option EV) with
  | some (.own f) => (match (ρ[i]? : Option EV) with | some (.own l) => if i ≠ j then ebS (e ρ s) ρ (kPop j i f l) else .no | _ => .no)
  | _ => .no
section
variable {X : Cx} {cl : Str → Option Addr} {Wx : WX} {e : Expr} {pos p1 p2 p3 p4 p5 p6 : Pos} {ea : Cmp W} {x y : Str}
end
end TG

set_option Elab.async false
set_option linter.all false
set_option maxRecDepth 100000
set_option maxHeartbeats 4000000
namespace TG
open PySem L2 PyProof.Rows
theorem sortD_nodup (l : List Int) : (sortD l).Nodup := (sortD_lt l).imp fun h => by omega
end TG
namespace L2
open PySem PySem.Spec PyProof.Rows
theorem setR_card {w : World} {h : Heap} {a : Addr} {ns : List Int} {n : Nat} (R : SetR w h a (fun j => decide (j ∈ ns)) n) : n = (TG.sortD ns).length := by
  obtain ⟨o, es, ep, t, h1, h2, h3, h4, h5, h6, h7, h8, h9, _⟩ := R
  have hp := (List.perm_ext_iff_of_nodup h5 (TG.sortD_nodup ns)).mpr fun x => by
    rw [← h6 x, decide_eq_true_eq, TG.sortD_mem]
  have := hp.length_eq
  rw [List.length_map, Array.length_toList] at this
  omega
noncomputable def rTgSetW (K : PySem.W.Frag) (w : World) : List V → Hp → VK → Prop := fun xs H Q => ∃ (a : Addr) (ns : List Int), xs = [.ref a] ∧ SqL K H a (ns.map V.int) ∧ ns.length ≤ 4000 ∧
  ∀ p c, H p = none → c = (TG.sortD ns).length → Q (.ref p) (upd H p (SetO w p (fun j => decide (j ∈ ns)) c))
theorem cr_tgSetW {X : Cx} (hc : X.calm = true) : CallR X (.type "set") (rTgSetW X.K X.w) := by
  intro pins s σ H vs us Q I r h
  obtain ⟨a, ns, rfl, hq, hl, q⟩ := h
  rw [Vals.ref1 r]
  obtain ⟨its, rv, ⟨⟨cls, dd, data, sl⟩, n, ho, hcl, hdn, hd⟩, hlen⟩ := I.list hq
  simp only at hcl hd
  subst hcl hd
  have hi : IntsAre its.toArray.toList ns := ints_of_vals rv
  refine tg_call_set ns (I.ok.hd hc) (items := its.toArray) ⟨_, ho, rfl, n, rfl⟩ hi (by unfold scanBound; omega) fun s2 ⟨h', tk, c, e, R, hc', k⟩ => ?_
  subst e
  exact ⟨.ref _, upd H s.heap.objs.size (SetO X.w s.heap.objs.size (fun j => decide (j ∈ ns)) c), I.laid (t' := tk) k (Nat.le_refl _) (setO_new R), rfl, q _ _ (I.hok.fresh (Nat.le_refl _)) (setR_card R)⟩
end L2
namespace TG
open PySem L2 PyProof.Rows
noncomputable def kSortSetW : List W → S → Res (List W) := fun ws s1 => match ws with
  | [x] => (match asIntsL x s1 with | some l => if (sortD l).length < 64 ∧ l.length ≤ 4000 then .ok (wD ((sortD l).map D.int)) s1 else .no | none => .no)
  | _ => .no
noncomputable def eSortSetW (a : Cmp (List W)) : Cmp (List W) := fun ρ s => (a ρ s).bind kSortSetW
section
variable {X : Cx} {cl : Str → Option Addr} {Wx : WX} {e : Expr} {el : Cmp (List W)} {p p2 pos pos2 : Pos}
end
end TG

set_option Elab.async false
set_option linter.all false
set_option maxRecDepth 100000
set_option maxHeartbeats 4000000
namespace TG
open PySem L2 PyProof.Rows
noncomputable def eMakeD (c : Str) (f : Sem1) (a : Cmp (List W)) (d : Int) : Cmp W := fun ρ s => (a ρ s).bind fun ws s1 => madeD c s1 (f (.r s1.length :: (ws ++ [.d (.int d)])) (s1 ++ [.ins c []]))
structure ClsAtD (P : Program) (w : World) (K : PySem.W.Frag) (mg : Str → Option Value) (base : Heap) (cl : Str → Option Addr) (k : Nat) (c : Str) (ps : List Str) (f : Sem1) (d : Int) : Prop where
  ex : ∃ (C a : Addr) (fd : FuncData) (t : Tok), cl c = some C ∧ mg c = some (.ref C) ∧ Mk K C a ∧ Binds K fd ps [.int d t] ∧ FnOk P w K mg base (L2.CX P w) k a fd ps (spOf K cl f)
theorem ClsAtD.mono {P : Program} {w : World} {K : PySem.W.Frag} {mg : Str → Option Value} {base : Heap} {cl : Str → Option Addr} {j k : Nat} {c : Str} {ps : List Str} {f : Sem1} {d : Int} (F : ClsAtD P w K mg base cl j c ps f d) (h : j ≤ k) : ClsAtD P w K mg base cl k c ps f d := by
  obtain ⟨C, a, fd, t, h0, h1, h2, h3, h4⟩ := F.ex
  exact ⟨C, a, fd, t, h0, h1, h2, h3, h4.mono h⟩
theorem binds_of_d {K : PySem.W.Frag} {fd : FuncData} {ps : List Str} {d : Int} (h : ∃ ds, Vals [V.int d] ds ∧ Binds K fd ps ds) : ∃ t, Binds K fd ps [.int d t] := by
  obtain ⟨ds, r, b⟩ := h
  cases r with
  | cons a b' =>
    cases b'
    obtain ⟨t, rfl⟩ := a
    exact ⟨t, b⟩
noncomputable def kLstRg : W → S → Res (List W) := fun x s1 => match asInt x with
  | some n => if 0 ≤ n ∧ n ≤ 16777216 then .ok (wD (((List.range n.toNat).map fun i : Nat => (i : Int)).map D.int)) s1 else .no
  | none => .no
noncomputable def eLstRg (a : Cmp W) : Cmp (List W) := fun ρ s => (a ρ s).bind kLstRg
section
variable {X : Cx} {cl : Str → Option Addr} {E : XK} {e : Expr} {es : List Expr} {pos p p2 pos2 : Pos} {el : Cmp (List W)} {ea : Cmp W} {k : Nat} {c : Str} {ps : List Str} {f : Sem1} {Wx : WX}
theorem je_makeD {dz : Int} (ok : XOk X (wxE E)) (hr : Room (k + 1) X.A) (F : ClsAtD X.prog X.w X.K X.mg X.base cl k c ps f dz) (ha : JA cl (wxE E) X (e :: es) el) (hg : Gl X c := by rfl)
    (h1 : (c == Str.ofString "__debug__") = false := by decide) (h2 : starEach (e :: es) X.env = (false, eval e X.env) :: starEach es X.env := by rfl) (h3 : ((backTo pos (starEach es X.env)).any fun x => x.fst) = false := by rfl) :
    JE cl (wxE E) X (.Call (.Name c p) (e :: es) [] pos) (eMakeD c f el dz) := by
  obtain ⟨C, a, fd, tz, q0, q1, q2, q3, q4⟩ := F.ex
  refine PE.weaken (pe_make q2 q4 hr hg q1 q3 (show Vals [V.int dz] [Value.int dz tz] from .cons ⟨tz, rfl⟩ .nil) (passE ok) ha h1 h2 h3) fun σ H Q ⟨H0, m, ow, s, ρ, cx, h⟩ => ⟨H0, m, ow, s, ρ, cx, RunE.bind h fun ws s1 vs H1 H1' m1 g st rr h4 x dx hx hdx hn => ?_⟩
  obtain ⟨st1, g1⟩ := made_start (c := c) st q0 hx hdx hn
  refine ⟨H1, m1 ++ [x], _, .r s1.length :: (ws ++ [.d (.int dz)]), st1, ?_, ?_⟩
  · exact .cons ⟨x, by rw [← st.len]; simp, rfl⟩ ((RepWs.append rr (.cons (show RepW X.K cl H1 m1 (.int dz) (.d (.int dz)) from Rep.int) .nil)).mono (Same.refl _) (List.prefix_append _ _))
  · cases e1 : f (.r s1.length :: (ws ++ [.d (.int dz)])) (s1 ++ [.ins c []]) with
    | no => rw [e1] at h4; exact h4
    | exc d z s2 =>
      rw [e1] at h4
      unfold madeD at h4
      dsimp only at h4
      split at h4
      · rename_i hs
        exact fun cv dd H0' H' m' g' st' r' => h4 cv dd H0' H' m1 (g1.trans g').trunc (st.trunc (g1.trans g') st' hs) r'
      · exact h4.elim
    | ok rv s2 =>
      rw [e1] at h4
      unfold madeD at h4
      intro v H0' H' m' g' st' r'
      split at h4
      · rename_i s3 e2
        cases e2
        have hv : v = .non := by cases r'; rfl
        subst hv
        refine ⟨rfl, ?_⟩
        split at h4
        · rename_i c' l e3
          split at h4
          · rename_i hc
            obtain ⟨rfl, ht⟩ := hc
            split at h4
            · rename_i ds e4
              have gg := g1.trans g'
              have hm' : m'[s1.length]? = some x := by
                obtain ⟨t, rfl⟩ := g'.pre
                rw [List.append_assoc, ← st.len, List.getElem?_append_right (Nat.le_refl _)]
                simp
              obtain ⟨z1, C', dx', fs, z2, z3, z4⟩ := st'.cell _ x _ hm' e3
              have stT := st.trunc gg st' ht
              have rF := z4.dataF e4
              refine h4 _ (upd H0' x (.ins C' dx' fs)) H' m1 (gg.trunc.freeze st hx) (stT.freeze z1 z2 (st.notM hx)) (Rep.ins upd_same z3 (rF.mono (same_upd z1)))
            · exact h4.elim
          · exact h4.elim
        · exact h4.elim
      · exact h4.elim
      · rename_i e2; cases e2
      · rename_i e2; cases e2

end
end TG

set_option Elab.async false
set_option linter.all false
set_option maxRecDepth 100000
set_option maxHeartbeats 4000000
namespace L2
open PySem PySem.Spec PyProof.Rows
theorem depth_ints : ∀ ns : List Int, PyData.depthAll (ns.map .int) = 0
  | [] => rfl
  | n :: ns => by simp [PyData.depthAll, PyData.depth, depth_ints ns]
theorem alike_ints (ns : List Int) : PySem.W.AlikeAll (ns.map .int) := by
  constructor
  · intro x hx y hy
    obtain ⟨a, _, rfl⟩ := List.mem_map.mp hx
    obtain ⟨b, _, rfl⟩ := List.mem_map.mp hy
    rfl
  · intro x hx
    obtain ⟨a, _, rfl⟩ := List.mem_map.mp hx
    intro h
    cases h
noncomputable def rMinT (K : PySem.W.Frag) : List V → Hp → VK → Prop := fun vs H Q => ∃ (a : Addr) (n : Int) (ns : List Int), vs = [V.ref a] ∧ SqT K H a ((n :: ns).map V.int) ∧ Q (.int (ns.foldl min n)) H
theorem cr_minT {X : Cx} (hc : X.calm = true) (hu : X.A.units + 1 < cLine) : CallR X (.builtin "min") (rMinT X.K) := by
  intro pins s σ H vs us Q I r h
  obtain ⟨a, n, ns, rfl, hs, q⟩ := h
  obtain ⟨its, rv, hl, _⟩ := I.tuple hs
  rw [Vals.ref1 r]
  have hi : IntsAre its (n :: ns) := ints_of_vals rv
  refine PySem.W.min_tuple_data (I.ok.hd hc) hl (x := .int n) (xs := ns.map .int) (IntsAre.reads _ (by simpa using hi)) (alike_ints (n :: ns)) (by rw [show (PyData.int n :: ns.map PyData.int) = (n :: ns).map PyData.int from rfl, depth_ints]; omega) fun i v h' tk bs _ hr hk => ?_
  rw [PySem.W.minD_ints] at hr
  cases hr
  exact ⟨.int _, H, I.kept hk, ⟨_, rfl⟩, q⟩
end L2
namespace TG
open PySem L2 PyProof.Rows
noncomputable def fMinT : W → S → Res W := fun x s => match asTup x with
  | some l => (match allInts (wD l) with | some (n :: ns) => .ok (.d (.int (ns.foldl min n))) s | _ => .no)
  | none => .no
end TG

set_option Elab.async false
set_option linter.all false
set_option maxRecDepth 100000
set_option maxHeartbeats 4000000
namespace L2
open PySem PySem.Spec PyProof.Rows
noncomputable def tMaxD (K : PySem.W.Frag) (ta : TA) : TE := fun σ H Q => ta σ H fun vs H1 => ∃ (a : Addr) (ns : List Int), vs = [V.ref a] ∧ SqL K H1 a (ns.map V.int) ∧ (ns = [] → Q .non H1) ∧ ∀ n ms, ns = n :: ms → Q (.int (ms.foldl max n)) H1
theorem pe_maxD {X : Cx} {e : Expr} {ta : TA} {p pos kp cp : Pos} {j : Nat} (hc : X.calm = true) (hu : X.A.units + 1 < cLine) (hg : Gl X "max") (hm : X.mg "max" = none) (ha : PA X [e] ta)
    (hs : backTo pos (starEach [e] X.env) = (false, eval e X.env) :: backTo pos (starEach [] X.env) := by rfl) (hpl : (backTo pos (starEach [e] X.env)).any (·.1) = false := by rfl) :
    PE X (.Call (.Name "max" p) [e] [⟨some "default", .Constant .none j cp, kp⟩] pos) (tMaxD X.K ta) := by
  refine ⟨fun pins s σ H Q I h => ?_⟩
  refine wpAny_Call_Name_kw (ld_blt I hg hm PyProof.Rows.boot_max (PyProof.Rows.callWith_kw (thn (ha.run pos pins s σ H _ I h) fun us s1 ⟨vs, H1, I1, r1, q1⟩ => ?_) hs hpl))
  have hk : L2.PK X [⟨some "default", .Constant .none j cp, kp⟩] (tCons (tC .non) tNil) := pk_cons pe_non pk_nil
  refine thn (hk.run pos pins s1 σ H1 (fun zs H2 => zs = [V.non] ∧ H2 = H1) I1 ⟨rfl, rfl⟩) fun ws s2 ⟨zs, H2, I2, r2, q2⟩ => ?_
  obtain ⟨rfl, rfl⟩ := q2
  obtain ⟨a, ns, ex, hq, q0, q⟩ := q1
  subst ex
  cases r2 with
  | cons rb rn =>
    cases rn
    cases rb
    rw [Vals.ref1 r1]
    obtain ⟨its, rv, hl, _⟩ := I2.list hq
    have hi : IntsAre its ns := ints_of_vals rv
    refine PySem.W.max_list_default (I2.ok.hd hc) hl.isList (IntsAre.reads _ (by simpa using hi)) (alike_ints ns) (by rw [depth_ints]; omega) (fun e h' tk hk => ?_) fun y ys i v h' tk bs e hv hr hk => ?_
    · exact ⟨.non, H2, I2.kept hk, rfl, q0 (List.map_eq_nil_iff.mp e)⟩
    · cases ns with
      | nil => cases e
      | cons n ms =>
        cases e
        rw [PySem.W.maxD_ints] at hr
        cases hr
        exact ⟨.int _, H2, I2.kept hk, ⟨_, rfl⟩, q n ms rfl⟩
end L2
namespace TG
open PySem L2 PyProof.Rows
noncomputable def kMaxD : List W → S → Res W := fun ws s => match ws with
  | [x] => (match asIntsL x s with
    | some [] => .ok (.d .non) s
    | some (n :: ms) => .ok (.d (.int (ms.foldl max n))) s
    | none => .no)
  | _ => .no
noncomputable def eMaxD (el : Cmp (List W)) : Cmp W := fun ρ s => (el ρ s).bind kMaxD
section
variable {X : Cx} {cl : Str → Option Addr} {Wx : WX} {e : Expr} {el : Cmp (List W)} {p pos kp cp : Pos} {j : Nat}
end
end TG

set_option Elab.async false
set_option linter.all false
set_option maxRecDepth 100000
set_option maxHeartbeats 4000000
namespace TG
open PySem L2 PyProof.Rows
noncomputable def kPar3 (i j l : Nat) : List W → Stm := fun ws ρ s => match ws with | [x, y, z] => .nx (((ρ.set i (.w x)).set j (.w y)).set l (.w z)) s | _ => .no
noncomputable def sPar3 (i j l : Nat) (a : Cmp (List W)) : Stm := fun ρ s => ebS (a ρ s) ρ (kPar3 i j l)
section
variable {X : Cx} {cl : Str → Option Addr} {Wx : WX} {el : Cmp (List W)} {pos : Pos}
end
end TG

set_option Elab.async false
set_option linter.all false
set_option maxRecDepth 100000
set_option maxHeartbeats 2000000
namespace TG
open PySem L2 PyProof.Rows
structure LenAt (P : Program) (w : World) (K : PySem.W.Frag) (mg : Str → Option Value) (base : Heap) (cl : Str → Option Addr) (k : Nat) (c : Str) (ps : List Str) (f : Sem1) : Prop where
  ex : ∃ (C a : Addr) (fd : FuncData), cl c = some C ∧ PySem.W.findIn K (.ref C) "__len__" = some (some (.ref a)) ∧ PySem.W.isFn K (.ref a) = true ∧ Binds K fd ps [] ∧ FnOk P w K mg base (L2.CX P w) k a fd ps (spOf K cl f)
theorem LenAt.mono {P : Program} {w : World} {K : PySem.W.Frag} {mg : Str → Option Value} {base : Heap} {cl : Str → Option Addr} {j k : Nat} {c : Str} {ps : List Str} {f : Sem1} (F : LenAt P w K mg base cl j c ps f) (h : j ≤ k) : LenAt P w K mg base cl k c ps f := by
  obtain ⟨C, a, fd, h1, h2, h3, h4, h5⟩ := F.ex
  exact ⟨C, a, fd, h1, h2, h3, h4, h5.mono h⟩
noncomputable def rLenI (K : PySem.W.Frag) (cl : Str → Option Addr) (c : Str) (f : Sem1) : List V → Hp → VK → Prop := fun xs H Q =>
  ∃ (v : V) (l : List (Str × D)) (n : Int) (H0 : Hp), xs = [v] ∧ Same H0 H ∧ Rep K cl H0 v (.ins c l) ∧ f [.d (.ins c l)] [] = .ok (.w (.d (.int n))) [] ∧ 0 ≤ n ∧ n < 1000 ∧ ∀ H', Ext H H' → Q (.int n) H'
section
variable {X : Cx} {cl : Str → Option Addr} {k : Nat} {ps : List Str} {f : Sem1} {c : Str}
theorem call_lenI (F : LenAt X.prog X.w X.K X.mg X.base cl k c ps f) (hr : Room (k + 2) X.A) : CallR X (.builtin "len") (rLenI X.K cl c f) := by
  intro pins s σ H xs us Q I r h
  obtain ⟨v, l, n, H0, rfl, sm, rp, hf, n0, n1, q⟩ := h
  obtain ⟨C, a, fd, h1, h2, h3, h4, h5⟩ := F.ex
  obtain ⟨u, rfl, ru⟩ := vals1 r
  have rp0 := rp
  cases rp with
  | ins a1 a2 a3 =>
    rw [h1] at a2
    cases a2
    rename_i p dx fs
    obtain rfl : u = Value.ref p := ru
    obtain ⟨mA, J, _⟩ := ins_get I.hok (sm _ _ a1)
    obtain ⟨od, J, _⟩ := J.look
    have hsp : spOf X.K cl f [.ref p] H (fun v H' => v = .int n ∧ Ext H H') E0 := by
      refine ⟨H0, [], [], [.d (.ins c l)], ⟨sm, rfl, List.nodup_nil, fun n a c h => by simp at h⟩, .cons rp0 .nil, ?_⟩
      rw [hf]
      intro v H0' H' m' g st rr
      have rr : RepW X.K cl H0' m' v (.d (.int n)) := rr
      cases rr
      exact ⟨rfl, fun a o h => g.fr a o h (by simp) (by simp)⟩
    have hl := h5.len _ _ _ _ hsp
    have r2 : Vals [V.ref p] [Value.ref p] := .cons rfl .nil
    refine Calls.call_function_entry kind_len plain_len entry_len (args_len1 (Value.ref p)) ?_
    unfold Builtin.«len»
    refine wpAny_bind (m := oneArg "len" _) (wpAny_pure (wpAny_bind (m := callSpecial? (.ref p) (PySem.Str.ofString "__len__")) (PySem.W.special_fn I.kIn J h2 (beq_iff_eq.mp h3) ?_)))
    have e0 : Env0 X.prog X.w X.K X.mg X.base X.A.in1 X.stack s H := by
      have e := I.env0
      exact ⟨e.frames, e.mod, e.bs, e.bsz, e.funs, e.frf, e.hok, e.bare⟩
    refine wpAny_call (codeAny_mono (h5.run X.A.in1 X.stack s H ⟨[.ref p], []⟩ [.ref p] [.ref p] _ E0 ((hr.mono (by omega) : Room (k + 1) X.A).in1) e0 (by
      have := h4 s [.ref p] I.kIn (by simpa using hl)
      simpa using this) r2 hsp) fun r s' hq => ?_)
    cases r with
    | error e => exact noPass pins σ H s e s' I hq
    | ok fl =>
      cases fl with
      | ret w =>
        obtain ⟨z, H', I', rz, ez, ex⟩ := I.after hq
        subst ez
        obtain ⟨t, rfl⟩ := (show ∃ t, w = Value.int n t from rz)
        refine wpAny_bind (wpAny_holding (wpAny_pure (wpAny_bind (wpAny_letGo ?_))))
        show wpAny _ _ (if (n : Int) < 0 then _ else _) _ _ _
        rw [if_neg (show ¬ n < 0 by omega)]
        show wpAny _ _ (if (n : Int) ≥ 2 ^ 63 then _ else _) _ _ _
        rw [if_neg (show ¬ n ≥ 2 ^ 63 by omega)]
        exact wpAny_bind (wpAny_mkInt (wpAny_pure ⟨_, rfl, .int n, H', I'.tok _, ⟨_, rfl⟩, q H' ex⟩))
      | next => exact False.elim hq
      | brk => exact False.elim hq
      | cont => exact False.elim hq
noncomputable def lenOf : Res RV → S → Res W
  | .ok (.w (.d (.int n))) [] => fun s => if 0 ≤ n ∧ n < 1000 then .ok (.d (.int n)) s else .no
  | _ => fun _ => .no
noncomputable def lenW (c : Str) (f : Sem1) : W → S → Res W
  | .d (.ins c' l) => fun s => if c' = c then lenOf (f [.d (.ins c l)] []) s else .no
  | _ => fun _ => .no
noncomputable def eLenI (c : Str) (f : Sem1) (a : Cmp W) : Cmp W := fun ρ s => (a ρ s).bind (lenW c f)
variable {Wx : WX} {e : Expr} {pos p : Pos} {ea : Cmp W} {x : Str}
theorem je_lenI (F : LenAt X.prog X.w X.K X.mg X.base cl k c ps f) (hr : Room (k + 2) X.A) (hg : Gl X x) (hm : X.mg x = none) (hv : bootBuiltins x = some (.builtin "len")) (ha : JE cl Wx X e ea)
    (n1 : x ≠ "__name__" := by decide) (n2 : (x == ("__debug__" : Str)) = false := by decide)
    (hs : starEach [e] X.env = (false, eval e X.env) :: starEach [] X.env := by rfl) (h4 : ((backTo pos (starEach [] X.env)).any fun x => x.fst) = false := by rfl) :
    JE cl Wx X (.Call (.Name x p) [e] [] pos) (eLenI c f ea) := by
  refine PE.weaken (pe_callB (call_lenI F hr) hg hm hv (pa_cons ha pa_nil hs) n1 n2 hs h4) fun σ H Q ⟨H0, m, ow, s, ρ, cx, h⟩ => ⟨H0, m, ow, s, ρ, cx, RunE.bind h fun a s1 v H1 H1' m1 g st rr h2 => ?_⟩
  cases a with
  | r n => exact h2.elim
  | d z =>
    cases z with
    | ins c2 l =>
      by_cases hcc : c2 = c
      · subst hcc
        have h2 : RunE X.K cl (rrW X.K cl) Wx H1 H1' m1 σ Q (if c2 = c2 then lenOf (f [.d (.ins c2 l)] []) s1 else .no) := h2
        rw [if_pos rfl] at h2
        generalize ef : f [.d (.ins c2 l)] [] = fr at h2
        unfold lenOf at h2
        split at h2
        · rename_i n
          by_cases hn : 0 ≤ n ∧ n < 1000
          · have h3 : RunE X.K cl (rrW X.K cl) Wx H1 H1' m1 σ Q (if 0 ≤ n ∧ n < 1000 then .ok (.d (.int n)) s1 else .no) := h2
            rw [if_pos hn] at h3
            refine ⟨v, l, n, H1, rfl, st.sub, rr, ef, hn.1, hn.2, fun H' e => ?_⟩
            have h4 : RunE X.K cl (rrW X.K cl) Wx H1 H1' m1 σ Q (.ok (.d (.int n)) s1) := h3
            exact h4 (.int n) H1 H' m1 ⟨Same.refl _, List.prefix_rfl, fun a o h _ _ => e a o h, fun a h => by
              cases q : H1' a with
              | none => exact absurd q h
              | some o => rw [e a o q]; simp, fun _ _ _ _ h => h, fun _ h => .inl h, fun _ h => .inl h⟩ ⟨st.sub.trans e, st.len, st.nd, fun n a c q1 q2 => by
              obtain ⟨z1, z2⟩ := st.cell n a c q1 q2
              exact ⟨z1, z2.mono (Same.refl _) List.prefix_rfl fun o q => e a o q⟩⟩ .int
          · have h3 : RunE X.K cl (rrW X.K cl) Wx H1 H1' m1 σ Q (if 0 ≤ n ∧ n < 1000 then .ok (.d (.int n)) s1 else .no) := h2
            rw [if_neg hn] at h3
            exact h3.elim
        · exact h2.elim
      · have h2 : RunE X.K cl (rrW X.K cl) Wx H1 H1' m1 σ Q (if c2 = c then lenOf (f [.d (.ins c l)] []) s1 else .no) := h2
        rw [if_neg hcc] at h2
        exact h2.elim
    | _ => exact h2.elim
end
end TG

set_option Elab.async false
set_option linter.all false
set_option maxRecDepth 100000
set_option maxHeartbeats 4000000
namespace PySem
namespace XFld
open PySem.W PySem.Calls PyProof.Rows PySem.HandSPX
open Builtin Builtin.ObjectAttr
noncomputable def rowsX (z : List Value) : List Value → Bool
  | .ref _ :: r => rowsX z r
  | l => l == z
theorem rowsX_cases (z : List Value) : ∀ l : List Value, rowsX z l = true → (∃ c r, l = .ref c :: r ∧ rowsX z r = true) ∨ l = z
  | [], e => .inr (beq_iff_eq.mp e)
  | .ref c :: r, e => .inl ⟨c, r, rfl, e⟩
  | .none :: _, e => .inr (beq_iff_eq.mp e) | .ellipsis :: _, e => .inr (beq_iff_eq.mp e) | .notImplemented :: _, e => .inr (beq_iff_eq.mp e) | .bool _ :: _, e => .inr (beq_iff_eq.mp e)
  | .int _ _ :: _, e => .inr (beq_iff_eq.mp e) | .float _ _ :: _, e => .inr (beq_iff_eq.mp e) | .str _ _ :: _, e => .inr (beq_iff_eq.mp e) | .bytes _ _ :: _, e => .inr (beq_iff_eq.mp e)
  | .type _ :: _, e => .inr (beq_iff_eq.mp e) | .builtin _ :: _, e => .inr (beq_iff_eq.mp e)
theorem rowsX_ind {z : List Value} {p : List Value → Prop} (hz : p z) (hs : ∀ c r, p r → p (.ref c :: r)) : ∀ l : List Value, rowsX z l = true → p l := by
  intro l
  induction l with
  | nil =>
    intro e
    rcases rowsX_cases z [] e with ⟨c, r, q, _⟩ | q
    · cases q
    · rw [q]; exact hz
  | cons a r ih =>
    intro e
    rcases rowsX_cases z (a :: r) e with ⟨c, r', q, h⟩ | q
    · obtain ⟨rfl, rfl⟩ := List.cons.inj q
      exact hs _ _ (ih h)
    · rw [q]; exact hz
section
variable {prog : Program} {w : World} {A : Around} {E : Value → Shared → Prop} {R : Result → Shared → Prop} {hp : Heap} {g : Array GenState} {d : Drawn} {t : Nat} {os : OsState}
theorem osaX {K : W.Frag} {name : Str} {tk : Tok} {v : Value} {x C : Addr} {fv : Array Value} {cd : ClassData}
    (X : K.In hp) (gx : hp.get? x = some { cls := .ref C, data := .fields fv }) (gC : W.clsIn K C = some cd) (ps : refuseLoop (.ref x) "__setattr__" cd.mro = pure ()) (ob : cd.mro.contains (.type "object") = true) (ne : cd.mro.isEmpty = false)
    (hh : cd.hasDict = true) (ha : W.findIn K (.ref C) name = some none)
    (hq : ∀ h' tk' dx, (∀ b o, b ≠ x → hp.get? b = some o → h'.get? b = some o) → hp.objs.size ≤ dx → dx ≠ x → h'.get? x = some { cls := .ref C, dict := some dx, data := .fields fv } →
      h'.Ns1 dx (fun y => if y = name then some v else none) → R (.ok (.ret .none)) ⟨h', g, d, tk', os⟩) :
    codeAny (model prog w) A (.call (.builtin "object.__setattr__") ⟨[.ref x, .str name tk, v], []⟩) R ⟨hp, g, d, t, os⟩ := by
  have I1 : W.InstAt hp x { cls := .ref C, data := .fields fv } C none := ⟨gx, rfl, rfl, trivial⟩
  have S1 := F.store_object
  have xs : x ≠ hp.objs.size := Nat.ne_of_lt (Heap.lt_size gx)
  have is1 : W.Looks (model prog w) hp (isInstance (.ref x) (.type "object")) true := I1.type.andThen (W.looks_mroIn X (by unfold W.mroIn; rw [gC, Option.bind_some, if_neg (by rw [ne]; decide), ob]))
  refine codeAny_call_builtin S1.slot.plain S1.entry (@W.check_slot (model prog w) _ _ ⟨hp, g, d, t, os⟩ "object.__setattr__" "object" "__setattr__" (.ref x) [.str name tk, v] [] _ S1.kind S1.split is1 (S1.args (.ref x) (.str name tk) v) ?_)
  have mr : W.Looks (model prog w) hp (mroOf (.ref C)) cd.mro := (W.looks_clsIn X gC).andThen .now
  have st : W.Looks (model prog w) hp (storeTaker? none) none := .now
  have cl : W.Looks (model prog w) hp (classData C) cd := W.looks_clsIn X gC
  rw [W.osa_eq, refuse_eq]
  refine wpAny_bind (wpAny_bind (I1.type.at (wpAny_bind (mr.at ?_))))
  rw [ps]
  refine wpAny_pure (wpAny_bind (I1.type.at (wpAny_bind ((W.looks_findIn X ha).at (wpAny_bind (st.at ?_))))))
  show wpAny (model prog w) _ (storeInOwnDict (.ref x) (.ref C) (.str name tk) name v false) _ _ _
  obtain ⟨nm, bs, mro, ns, qn, hd, sn, sb, ab, col, del⟩ := cd
  dsimp only at hh
  subst hh
  unfold storeInOwnDict ownDictForStores
  repeat (first | with_reducible refine store_in_new ?_ ?_ | with_reducible refine wpAny_loadPart_at gx ?_ | with_reducible refine cl.at ?_ | wp_step)
  · exact ⟨_, #[], _, (Heap.get?_update_ne _ _ _ _ xs.symm).trans (Heap.get?_push_at rfl rfl), rfl, fun e he => absurd he (by simp), fun _ => rfl⟩
  · intro h' tk' hn' hs
    have gx2 : (hp.push { cls := .type "dict", data := .dict #[] }).get? x = some { cls := .ref C, data := .fields fv } := Heap.get?_push_of_some _ gx
    refine hq h' tk' hp.objs.size (fun b o hb ho => ?_) (Nat.le_refl _) xs.symm ?_ hn'
    · exact (hs.2 b (Nat.ne_of_lt (Heap.lt_size ho))).trans ((Heap.get?_update_ne _ _ _ _ hb).trans (Heap.get?_push_of_some _ ho))
    · exact (hs.2 x xs).trans (Heap.get?_update_self _ gx2 rfl)
end
structure BaseX (B newId initId : String) (z : List Value) : Prop where
  fb : ExcBaseFacts B newId initId z
  ps : ∀ self, refuseLoop self "__setattr__" z = pure ()
  ob : z.contains (.type "object") = true
  ne : z.isEmpty = false
theorem base_VE : BaseX "ValueError" "ValueError.__new__" "ValueError.__init__" [.type "ValueError", .type "Exception", .type "BaseException", .type "object"] := ⟨F.excBase_ValueError, F.store_ValueError.passes, by decide +kernel, rfl⟩
theorem base_LE : BaseX "LookupError" "LookupError.__new__" "LookupError.__init__" [.type "LookupError", .type "Exception", .type "BaseException", .type "object"] := ⟨F.excBase_LookupError, F.store_LookupError.passes, by decide +kernel, rfl⟩
theorem rows_has {z : List Value} (X : String) (l : List Value) (h : rowsX z l = true) : l.contains (.type X) = z.contains (.type X) :=
  rowsX_ind (p := fun l => l.contains (.type X) = z.contains (.type X)) rfl (fun c r e => by rw [List.contains_cons, e]; rfl) l h
theorem rows_pass {z : List Value} (self : Value) (hz : refuseLoop self "__setattr__" z = pure ()) (l : List Value) (h : rowsX z l = true) : refuseLoop self "__setattr__" l = pure () :=
  rowsX_ind (p := fun l => refuseLoop self "__setattr__" l = pure ()) hz (fun c r e => by rw [refuseLoop_ref]; exact e) l h
theorem rows_ne {z : List Value} (hz : z.isEmpty = false) (l : List Value) (h : rowsX z l = true) : l.isEmpty = false := rowsX_ind (p := fun l => l.isEmpty = false) hz (fun c r e => rfl) l h
structure ClsX (K : Frag) (mg : Str → Option Value) (x f : Str) (C fI : Addr) : Prop where
  gC : mg x = some (.ref C)
  cls : ∃ B newId initId z nm q N bs bm sn sub ab col dd k0 k1 k2 k3 k5, BaseX B newId initId z ∧ K.lookup C = some (excClassObj nm q C N bs bm true sn sub ab col dd k0 k1 k2 k3 k5 newId) ∧ rowsX z bm = true
  sa : findIn K (.ref C) "__setattr__" = some (some (.builtin "object.__setattr__"))
  ga : findIn K (.ref C) "__getattribute__" = some (some (.builtin "BaseException.__getattribute__"))
  gg : findIn K (.ref C) "__getattr__" = some none
  noN : findIn K (.ref C) f = some none
  iC : findIn K (.ref C) "__init__" = some (some (.ref fI))
  tC : typeIn K (.ref fI) = some (.type "function")
  kC : keepIn K (.ref C) = true
  exC : subIn K (.ref C) (.type "BaseException") = some true
  tyC : typeIn K (.ref C) = some (.type "type")
  hdC : hasDictIn K C = true
structure DoneX (h h' : Heap) (f : Str) (x C dx t1 : Addr) (v : Value) : Prop where
  keep : ∀ b o, b ≠ x → h.get? b = some o → h'.get? b = some o
  obj : h'.get? x = some { cls := .ref C, dict := some dx, data := .fields #[.ref t1, .none, .none, .none, .bool false, .none] }
  dbig : h.objs.size ≤ dx
  dne : dx ≠ x
  ns : h'.Ns1 dx (fun y => if y = f then some v else none)
noncomputable def InitX (prog : Program) (w : World) (K : Frag) (f : Str) (C fI : Addr) : Prop := ∀ (A : Around) (R : Result → Shared → Prop) (s : Shared) (x t0 : Addr) (v : Value), K.In s.heap → s.heap.NoLimit → s.heap.get? x = some (excO C t0) → K.lookup x = none → A.depth < recursionLimit →
  (∀ h' tk dx, DoneX s.heap h' f x C dx t0 v → R (.ok (.ret .none)) { s with heap := h', toks := tk }) → codeAny (model prog w) A (.call (.ref fI) ⟨[.ref x, v], []⟩) R s
structure MadeX (h h' : Heap) (f : Str) (e C d : Addr) (v : Value) : Prop where
  keep : ∀ b o, h.get? b = some o → h'.get? b = some o
  new : h.objs.size ≤ e
  obj : ∃ oe vs, h'.get? e = some oe ∧ oe.cls = .ref C ∧ oe.dict = some d ∧ oe.data = .fields vs ∧ vs[1]? = some .none
  dbig : h.objs.size ≤ d
  dne : d ≠ e
  ns : h'.Ns1 d (fun y => if y = f then some v else none)
theorem len_one (v : Value) : [v].length ≤ sizeLine := by rw [sizeLine_eq]; exact (by decide : 1 ≤ 16777216)
section
variable {prog : Program} {w : World} {A : Around} {R : Result → Shared → Prop} {s : Shared} {K : Frag} {mg : Str → Option Value} {x f : Str} {C fI : Addr}
theorem madeX (T : ClsX K mg x f C fI) (J : InitX prog w K f C fI) {v : Value} (X : K.In s.heap) (hlim : s.heap.NoLimit) (hroom : A.depth + 1 < recursionLimit)
    (hq : ∀ h' tk e d, MadeX s.heap h' f e C d v → R (.ok (.ret (.ref e))) { s with heap := h', toks := tk }) : codeAny (model prog w) A (.call (.ref C) ⟨[v], []⟩) R s := by
  obtain ⟨B, newId, initId, z, nm, q, N, bs, bm, sn, sub, ab, col, dd, k0, k1, k2, k3, k5, BX, hC, hbm⟩ := T.cls
  obtain ⟨hp, g, dr, tk, os⟩ := s
  have kk : ∀ b o, hp.get? b = some o → ((hp.push (kdv_tup [v])).push (excO C hp.objs.size)).get? b = some o := fun b o e => Heap.get?_push_of_some _ (Heap.get?_push_of_some _ e)
  have got : ((hp.push (kdv_tup [v])).push (excO C hp.objs.size)).get? (hp.objs.size + 1) = some (excO C hp.objs.size) := by heap_get
  have nx : K.lookup (hp.objs.size + 1) = none := by
    cases e : K.lookup (hp.objs.size + 1) with
    | none => rfl
    | some o => exact absurd (Nat.lt_of_succ_lt (Heap.lt_size (show hp.get? (hp.objs.size + 1) = some o from X _ _ e))) (Nat.lt_irrefl _)
  refine call_own BX.fb (fun Y => rows_has Y bm hbm) (X _ _ hC) (looks_findIn X T.iC) (fun self => bind_fn X self T.tC) (len_one v) (J _ _ ⟨(hp.push (kdv_tup [v])).push (excO C hp.objs.size), g, dr, tk, os⟩ _ _ v (X.keeps kk) (hlim.keeps kk) got nx hroom fun h' tk' dx M => ?_)
  have old : ∀ b o, hp.get? b = some o → h'.get? b = some o := fun b o e => M.keep b o (Nat.ne_of_lt (Nat.lt_succ_of_lt (Heap.lt_size e))) (kk b o e)
  have zz : hp.objs.size + 1 + 1 ≤ dx := by
    have y := M.dbig
    simpa only [Heap.size_push] using y
  exact ⟨rfl, hq h' tk' (hp.objs.size + 1) dx ⟨old, Nat.le_succ _, ⟨_, _, M.obj, rfl, rfl, rfl, rfl⟩, Nat.le_trans (Nat.le_trans (Nat.le_succ _) (Nat.le_succ _)) zz, M.dne, M.ns⟩⟩
end
end XFld
end PySem
namespace TG
open PySem PySem.Spec PyProof.Rows L2 PySem.XFld
section
variable {X : Cx} {C fI : Addr} {x f : Str}
noncomputable def tByX (C : Addr) (f : Str) (a : Addr) (cls : Value) (d : Option Addr) (te : TE) : TE := fun σ H Q => te σ H fun x H1 => x = .ref a ∧ cls = .ref C ∧ ∃ (dd : Addr) (v : V), d = some dd ∧ H1 dd = some (.xd [(f, v)]) ∧ Q v H1
theorem pe_byX {a : Addr} {oe : Obj} {cls : Value} {d : Option Addr} {pn : List (Addr × Obj)} {e : Expr} {te : TE} {pos : Pos} (T : ClsX X.K X.mg x f C fI) (hz : Zc cls d oe) (hf : ∃ vs, oe.data = .fields vs) (he : PE (X.suite a ((a, oe) :: pn)) e te)
    (hb : attributeBase e f X.env (eval e X.env) = eval e X.env := by rfl) : PE (X.suite a ((a, oe) :: pn)) (.Attribute e f pos) (tByX C f a cls d te) := by
  refine ⟨fun pins s σ H Q I h => attr_of hb (thn (he.run pins s σ H _ I h) fun u s1 hh => ?_)⟩
  obtain ⟨y, H1, I1, rx, ex, rfl, dd, v, rfl, ea, q⟩ := hh
  subst ex
  obtain rfl : u = Value.ref a := rx
  obtain ⟨ha, _⟩ := I1.pin (a, oe) (List.mem_append_left _ List.mem_cons_self)
  obtain ⟨vs, hd⟩ := hf
  have ox : ObjOk X.prog X.w H1 s1.heap dd (.xd [(f, v)]) := I1.hok dd _ ea
  obtain ⟨mA, hns, hr⟩ := ox
  obtain ⟨od, ho, hl⟩ := lookIn_ns hns
  obtain ⟨u, hu, ru⟩ := RelO.some_of (v := v) (o := mA f) (by
    have := hr f
    rw [show List.lookup f [(f, v)] = some v by simp [List.lookup]] at this
    exact this)
  have J : PySem.W.InstAt s1.heap a oe C (some od) := ⟨ha, hz.1, by unfold PySem.W.notCls; rw [hd] <;> rfl, by rw [hz.2]; exact ho⟩
  exact HandSPX.exc_get I1.kIn J T.ga T.gg T.exC (PySem.W.findObj_own T.hdC T.noN rfl (by rw [hl, hu])) (handed_of ru) ⟨v, H1, I1.tok _, ru, q⟩
end
end TG

set_option Elab.async false
set_option linter.all false
set_option maxRecDepth 100000
set_option maxHeartbeats 4000000
namespace TG
open PySem PySem.Spec PyProof.Rows L2
noncomputable abbrev WishF := Ends → Value → Option Addr → L2.St → Hp → Prop
noncomputable def unset (i : Nat) (D : Ends) : Ends := { nx := fun σ H => D.nx (σ.set i none) H, rt := D.rt, bk := fun σ H => D.bk (σ.set i none) H, ct := fun σ H => D.ct (σ.set i none) H }
inductive HdsMix (X : Cx) : List ExceptHandler → List (Value × WishF) → Prop
  | nil : HdsMix X [] []
  | plain {x : Str} {c : Value} {ts : Addr → Value → Option Addr → TS} {b₀ : Stmt} {suite : List Stmt} {np pos' : Pos} {hds : List ExceptHandler} {l : List (Value × WishF)} (hc : Names X x c)
      (hsu : ∀ (a : Addr) (oe : Obj) (cls : Value) (d : Option Addr) (pn : List (Addr × Obj)), Zc cls d oe → (∃ vs, oe.data = .fields vs) → PSs (X.suite a ((a, oe) :: pn)) (b₀ :: suite) (ts a cls d)) (r : HdsMix X hds l) :
      HdsMix X (.ExceptHandler (some (.Name x np)) none (b₀ :: suite) pos' :: hds) ((c, fun D cls d σ H => ∀ a, H a = none → ts a cls d D σ H) :: l)
  | named {x n : Str} {i : Nat} {c : Value} {ts : Addr → Value → Option Addr → TS} {b₀ : Stmt} {suite : List Stmt} {np pos' : Pos} {hds : List ExceptHandler} {l : List (Value × WishF)} (hi : X.N[i]? = some n) (hln : X.env.kindOf n = some .local) (hc : Names X x c)
      (hsu : ∀ (a : Addr) (oe : Obj) (cls : Value) (d : Option Addr) (pn : List (Addr × Obj)), Zc cls d oe → (∃ vs, oe.data = .fields vs) → PSs (X.suite a ((a, oe) :: pn)) (b₀ :: suite) (ts a cls d)) (r : HdsMix X hds l) :
      HdsMix X (.ExceptHandler (some (.Name x np)) (some n) (b₀ :: suite) pos' :: hds) ((c, fun D cls d σ H => ∀ a, H a = none → ts a cls d (unset i D) (σ.set i (some (.ref a))) H) :: l)
section
variable {X : Cx} {body : List Stmt} {h₀ : ExceptHandler} {hds : List ExceptHandler} {l : List (Value × WishF)} {pos : Pos} {tb : WX → TS} {Wout : WX}
end
end TG

set_option Elab.async false
set_option linter.all false
set_option maxRecDepth 100000
set_option maxHeartbeats 4000000
namespace PySem
namespace XFld
open PySem.W PySem.Calls PyProof.Rows PySem.HandSPX
noncomputable def anumber (p1 p2 : Pos) : Arguments := { posonlyargs := [], args := [{ arg := "self", annotation := none, pos := p1 }, { arg := "number", annotation := none, pos := p2 }], vararg := none, kwonlyargs := [], kw_defaults := [], kwarg := none, defaults := [] }
noncomputable def bnumber (q1 q2 q3 q4 : Pos) : List Stmt := [.Assign [.Attribute (.Name "self" q1) "number" q2] (.Name "number" q3) q4]
noncomputable def snumber : Scope := { kind := .function, names := [(PySem.Str.ofString "self", .local), (PySem.Str.ofString "number", .local)], isGenerator := false, isCoroutine := false, more := [] }
theorem nmnumber {M : Model} {s : Shared} {name : Str} {L a : Addr} {cd : Value} {m : Str → Option Value} {x : Str} {pos : Pos} {v : Value} {Q : Value → Shared → Prop} {A : Around} {E : Value → Shared → Prop} (hn : s.heap.Ns L m) (hv : m x = some v) (h : Q v s)
    (hk : snumber.kind = .function := by rfl) (hl : (envOfC name snumber L a cd).kindOf x = some .local := by rfl) (hd : (x == ("__debug__" : Str)) = false := by decide) : wpAny M A (eval (.Name x pos) (envOfC name snumber L a cd)) Q E s := wpAny_Name (wpAny_loadName_local hk hl hn hv h) hd
theorem initnumber {prog : Program} {w : World} {K : Frag} {mg : Str → Option Value} {x : Str} {C fI : Addr} {args : Arguments} {body : List Stmt} {scope : Scope} {qn : Str} {oc kV doc pm cdv ct : Value} {od an : Option Addr} {osl : Array (Option Value)} (T : ClsX K mg x "number" C fI)
    (ho : K.lookup fI = some ⟨oc, od, .func (fnOf "__init__" qn args body scope .none kV doc pm an cdv ct), osl⟩) (hcd : codeIn K cdv qn = true) (hA : ∃ p1 p2, args = anumber p1 p2) (hB : ∃ q1 q2 q3 q4, body = bnumber q1 q2 q3 q4) (hS : scope = snumber) : InitX prog w K "number" C fI := by
  intro A R s y t0 v X hlim hx hnx hroom hq
  obtain ⟨p1, p2, rfl⟩ := hA
  obtain ⟨q1, q2, q3, q4, rfl⟩ := hB
  subst hS
  obtain ⟨B, newId, initId, z, nm, q, N, bs, bm, sn, sub, ab, col, dd, k0, k1, k2, k3, k5, BX, hC, hbm⟩ := T.cls
  have hcl : clsIn K C = some { name := nm, bases := bs, mro := .ref C :: bm, ns := N, qualname := q, hasDict := true, slotNames := sn, subclasses := sub, abstract := ab, collection := col, hasDel := false } := by unfold clsIn; rw [hC] <;> rfl
  have hbm2 : rowsX z (.ref C :: bm) = true := hbm
  refine Att.call_fn (binds := [("self", .ref y), ("number", v)]) X hlim ho hcd hroom (BindsTo.of_eq (by first | rfl | with_unfolding_all rfl)) (by first | rfl | decide | with_unfolding_all rfl) (fun s₁ IC => ?_) rfl rfl rfl
  obtain ⟨h₁, tk₁, rfl⟩ := IC.toInCall.same
  have k : ∀ b o, s.heap.get? b = some o → h₁.get? b = some o := IC.toInCall.keep
  have hn := IC.toInCall.ns
  show wpAny _ _ (execs _ _) _ _ _
  refine wpAny_execs_cons (plainObj_wpAny_Assign_Attribute ?_)
  refine nmnumber (v := v) hn (by first | rfl | with_unfolding_all rfl | kernel_rfl) (nmnumber (v := .ref y) hn (by first | rfl | with_unfolding_all rfl | kernel_rfl) ?_)
  refine set_plain (X.keeps k) (ox := excO C t0) (od := none) ⟨k _ _ hx, rfl, rfl, trivial⟩ T.sa ?_
  refine osaX (X.keeps k) (k _ _ hx) hcl (rows_pass _ (BX.ps _) _ hbm2) ((rows_has "object" _ hbm2).trans BX.ob) (rows_ne BX.ne _ hbm2) rfl T.noN (fun h₃ tk₃ dx k₃ dn dne hx₃ hn₃ => ?_)
  show wpAny _ _ (execs _ _) _ _ _
  have z : s.heap.objs.size < h₁.objs.size := hn.lt
  exact wpAny_execs_nil (hq h₃ tk₃ dx ⟨fun b o hb e => k₃ b o hb (k b o e), hx₃, Nat.le_of_lt (Nat.lt_of_lt_of_le z dn), dne, hn₃⟩)
end XFld
end PySem

set_option Elab.async false
set_option linter.all false
set_option maxRecDepth 100000
set_option maxHeartbeats 4000000
namespace PySem
namespace XFld
open PySem.W PySem.Calls PyProof.Rows PySem.HandSPX
noncomputable def awish (p1 p2 : Pos) : Arguments := { posonlyargs := [], args := [{ arg := "self", annotation := none, pos := p1 }, { arg := "wish", annotation := none, pos := p2 }], vararg := none, kwonlyargs := [], kw_defaults := [], kwarg := none, defaults := [] }
noncomputable def bwish (q1 q2 q3 q4 : Pos) : List Stmt := [.Assign [.Attribute (.Name "self" q1) "wish" q2] (.Name "wish" q3) q4]
noncomputable def swish : Scope := { kind := .function, names := [(PySem.Str.ofString "self", .local), (PySem.Str.ofString "wish", .local)], isGenerator := false, isCoroutine := false, more := [] }
theorem nmwish {M : Model} {s : Shared} {name : Str} {L a : Addr} {cd : Value} {m : Str → Option Value} {x : Str} {pos : Pos} {v : Value} {Q : Value → Shared → Prop} {A : Around} {E : Value → Shared → Prop} (hn : s.heap.Ns L m) (hv : m x = some v) (h : Q v s)
    (hk : swish.kind = .function := by rfl) (hl : (envOfC name swish L a cd).kindOf x = some .local := by rfl) (hd : (x == ("__debug__" : Str)) = false := by decide) : wpAny M A (eval (.Name x pos) (envOfC name swish L a cd)) Q E s := wpAny_Name (wpAny_loadName_local hk hl hn hv h) hd
theorem initwish {prog : Program} {w : World} {K : Frag} {mg : Str → Option Value} {x : Str} {C fI : Addr} {args : Arguments} {body : List Stmt} {scope : Scope} {qn : Str} {oc kV doc pm cdv ct : Value} {od an : Option Addr} {osl : Array (Option Value)} (T : ClsX K mg x "wish" C fI)
    (ho : K.lookup fI = some ⟨oc, od, .func (fnOf "__init__" qn args body scope .none kV doc pm an cdv ct), osl⟩) (hcd : codeIn K cdv qn = true) (hA : ∃ p1 p2, args = awish p1 p2) (hB : ∃ q1 q2 q3 q4, body = bwish q1 q2 q3 q4) (hS : scope = swish) : InitX prog w K "wish" C fI := by
  intro A R s y t0 v X hlim hx hnx hroom hq
  obtain ⟨p1, p2, rfl⟩ := hA
  obtain ⟨q1, q2, q3, q4, rfl⟩ := hB
  subst hS
  obtain ⟨B, newId, initId, z, nm, q, N, bs, bm, sn, sub, ab, col, dd, k0, k1, k2, k3, k5, BX, hC, hbm⟩ := T.cls
  have hcl : clsIn K C = some { name := nm, bases := bs, mro := .ref C :: bm, ns := N, qualname := q, hasDict := true, slotNames := sn, subclasses := sub, abstract := ab, collection := col, hasDel := false } := by unfold clsIn; rw [hC] <;> rfl
  have hbm2 : rowsX z (.ref C :: bm) = true := hbm
  refine Att.call_fn (binds := [("self", .ref y), ("wish", v)]) X hlim ho hcd hroom (BindsTo.of_eq (by first | rfl | with_unfolding_all rfl)) (by first | rfl | decide | with_unfolding_all rfl) (fun s₁ IC => ?_) rfl rfl rfl
  obtain ⟨h₁, tk₁, rfl⟩ := IC.toInCall.same
  have k : ∀ b o, s.heap.get? b = some o → h₁.get? b = some o := IC.toInCall.keep
  have hn := IC.toInCall.ns
  show wpAny _ _ (execs _ _) _ _ _
  refine wpAny_execs_cons (plainObj_wpAny_Assign_Attribute ?_)
  refine nmwish (v := v) hn (by first | rfl | with_unfolding_all rfl | kernel_rfl) (nmwish (v := .ref y) hn (by first | rfl | with_unfolding_all rfl | kernel_rfl) ?_)
  refine set_plain (X.keeps k) (ox := excO C t0) (od := none) ⟨k _ _ hx, rfl, rfl, trivial⟩ T.sa ?_
  refine osaX (X.keeps k) (k _ _ hx) hcl (rows_pass _ (BX.ps _) _ hbm2) ((rows_has "object" _ hbm2).trans BX.ob) (rows_ne BX.ne _ hbm2) rfl T.noN (fun h₃ tk₃ dx k₃ dn dne hx₃ hn₃ => ?_)
  show wpAny _ _ (execs _ _) _ _ _
  have z : s.heap.objs.size < h₁.objs.size := hn.lt
  exact wpAny_execs_nil (hq h₃ tk₃ dx ⟨fun b o hb e => k₃ b o hb (k b o e), hx₃, Nat.le_of_lt (Nat.lt_of_lt_of_le z dn), dne, hn₃⟩)
end XFld
end PySem

set_option Elab.async false
set_option linter.all false
set_option maxRecDepth 100000
set_option maxHeartbeats 4000000
namespace TG
open PySem PySem.Spec PyProof.Rows L2 PySem.XFld
noncomputable def sRaiseX (c : Str) (a : Cmp TG.W) : Stm := fun ρ s => ebS (a ρ s) ρ fun w ρ s => match w with | .d x => .exc c (some x) ρ s | .r _ => .no
structure ExcX (P : Program) (w : World) (K : PySem.W.Frag) (mg : Str → Option Value) (cl : Str → Option Addr) (c : Str) : Prop where
  ex : ∃ C fI, cl c = some C ∧ ClsX K mg c (excFld c) C fI ∧ InitX P w K (excFld c) C fI
noncomputable abbrev Clause := Str → Option D → Stm
noncomputable def hdFX (sub : Str → Str → Option Bool) (c : Str) : List (Str × Clause) → Option (Option Clause)
  | [] => some none
  | (h, b) :: r => match sub c h with
    | some true => some (some b)
    | some false => hdFX sub c r
    | none => none
noncomputable def sTryX (sub : Str → Str → Option Bool) (b : Stm) (hs : List (Str × Clause)) : Stm := fun ρ s => match b ρ s with
  | .exc c x ρ' s' => (match hdFX sub c hs with | some (some k) => noExc (k c x ρ' s') | some none => .exc c x ρ' s' | none => .no)
  | r => r
noncomputable def kPlain (k : Stm) : Clause := fun _ _ => k
noncomputable def retFld : Option D → S → RS
  | some d, s => .ret (.w (.d d)) s
  | none, _ => .no
noncomputable def retFldL (w : Str) : Option D → S → RS
  | some d, s => .ret (.own [.d (.str w), .d d]) s
  | none, _ => .no
noncomputable def kReadF (i : Nat) (x : Str) : Clause := fun c y ρ s => if c = x ∧ i < ρ.length then retFld y s else .no
noncomputable def kReadL (i : Nat) (x w : Str) : Clause := fun c y ρ s => if c = x ∧ i < ρ.length then retFldL w y s else .no
section
variable {X : Cx} {cl : Str → Option Addr} {Wx : WX} {c : Str} {p p2 pos : Pos} {e : Expr} {ea : Cmp TG.W} {k : Nat} {body : List Stmt} {b : Stm}
inductive HdJX (cl : Str → Option Addr) (X : Cx) : List ExceptHandler → List (Str × Clause) → Prop
  | nil : HdJX cl X [] []
  | plain {x : Str} {b₀ : Stmt} {suite : List Stmt} {np pos' : Pos} {hds : List ExceptHandler} {k : Stm} {l : List (Str × Clause)} (hx : ∃ C, cl x = some C ∧ X.mg x = some (.ref C)) (hg : Gl X x) (nd : (x == ("__debug__" : Str)) = false)
      (hs : ∀ (a : Addr) (oe : Obj) (pn : List (Addr × Obj)), XOk (X.suite a ((a, oe) :: pn)) W0 → JB cl W0 (X.suite a ((a, oe) :: pn)) (b₀ :: suite) k) (r : HdJX cl X hds l) :
      HdJX cl X (.ExceptHandler (some (.Name x np)) none (b₀ :: suite) pos' :: hds) ((x, kPlain k) :: l)
  | fld {x n f : Str} {i : Nat} {np pos' q1 q2 q3 : Pos} {hds : List ExceptHandler} {l : List (Str × Clause)} (F : ExcX X.prog X.w X.K X.mg cl x) (hf : excFld x = f) (hi : X.N[i]? = some n) (hln : X.env.kindOf n = some .local) (hv : Vis X.env.scope n) (hg : Gl X x) (nd : (x == ("__debug__" : Str)) = false) (nn : (n == ("__debug__" : Str)) = false) (nc : (n == ("__classdict__" : Str)) = false)
      (hb : attributeBase (.Name n q1) f X.env (eval (.Name n q1) X.env) = eval (.Name n q1) X.env) (r : HdJX cl X hds l) :
      HdJX cl X (.ExceptHandler (some (.Name x np)) (some n) [.Return (some (.Attribute (.Name n q1) f q2)) q3] pos' :: hds) ((x, kReadF i x) :: l)
  | fldL {x n f z : Str} {i : Nat} {j : Nat} {np pos' q1 q2 q3 q4 q5 : Pos} {hds : List ExceptHandler} {l : List (Str × Clause)} (F : ExcX X.prog X.w X.K X.mg cl x) (hf : excFld x = f) (hi : X.N[i]? = some n) (hln : X.env.kindOf n = some .local) (hv : Vis X.env.scope n) (hg : Gl X x) (nd : (x == ("__debug__" : Str)) = false) (nn : (n == ("__debug__" : Str)) = false) (nc : (n == ("__classdict__" : Str)) = false)
      (hb : attributeBase (.Name n q1) f X.env (eval (.Name n q1) X.env) = eval (.Name n q1) X.env)
      (hs1 : starEach [.Constant (.str z) j q4, .Attribute (.Name n q1) f q2] X.env = (false, eval (.Constant (.str z) j q4) X.env) :: starEach [.Attribute (.Name n q1) f q2] X.env) (hs2 : starEach [.Attribute (.Name n q1) f q2] X.env = (false, eval (.Attribute (.Name n q1) f q2) X.env) :: starEach [] X.env) (r : HdJX cl X hds l) :
      HdJX cl X (.ExceptHandler (some (.Name x np)) (some n) [.Return (some (.List [.Constant (.str z) j q4, .Attribute (.Name n q1) f q2] q5)) q3] pos' :: hds) ((x, kReadL i x z) :: l)
noncomputable def okFor (K : PySem.W.Frag) (cl : Str → Option Addr) (ww : WishF) (k : Clause) : Prop := ∀ (D : Ends) (c : Str) (x : Option TG.D) (cv : Value) (dd : Option Addr) (σ : L2.St) (H0 H : Hp) (m ow : List Addr) (s : S) (ρ : Rho),
  Ctx K cl H0 H m ow s σ ρ → ExcR K cl H0 H cv dd c x → RunS K cl W0 H0 H m ow D (noExc (k c x ρ s)) → ww D cv dd σ H
inductive HdRX (K : PySem.W.Frag) (cl : Str → Option Addr) : List (Str × Clause) → List (Value × WishF) → Prop
  | nil : HdRX K cl [] []
  | cons {x : Str} {k : Clause} {C : Addr} {ww : WishF} {l r} (h : cl x = some C) (q : okFor K cl ww k) (z : HdRX K cl l r) : HdRX K cl ((x, k) :: l) ((.ref C, ww) :: r)
theorem set_at {σ : L2.St} {i : Nat} {v : Option V} (h : i < σ.length) : (σ.set i v)[i]? = some v := by simp [h]
theorem HdJX.ok (nd : X.N.Nodup) : ∀ {hds l}, HdJX cl X hds l → ∃ r, HdsMix X hds r ∧ HdRX X.K cl l r
  | _, _, .nil => ⟨[], .nil, .nil⟩
  | _, _, .plain (k := kk) hx hg n hs q => by
    obtain ⟨C, h1, h2⟩ := hx
    obtain ⟨r, h3, h4⟩ := q.ok nd
    refine ⟨_, .plain (ts := fun _ _ _ => Sof X.K cl W0 kk) ⟨hg, n, .inl h2⟩ (fun a oe cls d pn _ _ => hs a oe pn ⟨fun u s' ⟨a, B, sI, pins, σ, H, cls, d, e, I, nb, up, sky, na, os, ag, z⟩ => z.elim, PassesOwn.never, nd⟩) h3, .cons h1 (fun D c x cv dd σ H0 H m ow s ρ cx ex h a ha => ?_) h4⟩
    exact ⟨H0, m, ow, s, ρ, cx, RunS.noExc h⟩
  | _, _, .fld (i := i) (x := x) F hf hi hln hv hg n nn nc hb q => by
    subst hf
    obtain ⟨C, fI, h1, T, J⟩ := F.ex
    obtain ⟨r, h3, h4⟩ := q.ok nd
    refine ⟨_, .named (i := i) (ts := fun a cls d => tRet (tByX C (excFld x) a cls d (tVar i))) hi hln ⟨hg, n, .inl T.gC⟩ (fun a oe cls d pn hz hf => pss_one (ps_ret (pe_byX T hz hf (pe_var hi hv nn nc) hb))) h3, .cons h1 (fun D c y cv dd σ H0 H m ow s ρ cx ex h a ha => ?_) h4⟩
    have hh : RunS X.K cl W0 H0 H m ow D (noExc (if c = x ∧ i < ρ.length then retFld y s else .no)) := h
    clear h
    by_cases hc : c = x ∧ i < ρ.length
    · rw [if_pos hc] at hh
      obtain ⟨rfl, hi2⟩ := hc
      cases y with
      | none => exact hh.elim
      | some y =>
        obtain ⟨C', d, v, e1, e2, e3, e4, e5⟩ := ex
        cases h1.symm.trans e1
        subst e2 e3
        refine ⟨.ref a, set_at (by rw [cx.en.len]; exact hi2), rfl, rfl, d, v, rfl, cx.st.sub _ _ e4, ?_⟩
        exact hh v H0 H m ow Go.refl cx.st e5
    · rw [if_neg hc] at hh
      exact hh.elim
  | _, _, .fldL (i := i) (x := x) (z := z) F hf hi hln hv hg n nn nc hb hs1 hs2 q => by
    subst hf
    obtain ⟨C, fI, h1, T, J⟩ := F.ex
    obtain ⟨r, h3, h4⟩ := q.ok nd
    refine ⟨_, .named (i := i) (ts := fun a cls d => tRet (tLst (tCons (tC (.str z)) (tCons (tByX C (excFld x) a cls d (tVar i)) tNil)))) hi hln ⟨hg, n, .inl T.gC⟩ (fun a oe cls d pn hz hf => pss_one (ps_ret (pe_lst (pa_cons pe_str (pa_cons (pe_byX T hz hf (pe_var hi hv nn nc) hb) pa_nil hs2) hs1)))) h3, .cons h1 (fun D c y cv dd σ H0 H m ow s ρ cx ex h a ha => ?_) h4⟩
    have hh : RunS X.K cl W0 H0 H m ow D (noExc (if c = x ∧ i < ρ.length then retFldL z y s else .no)) := h
    clear h
    by_cases hc : c = x ∧ i < ρ.length
    · rw [if_pos hc] at hh
      obtain ⟨rfl, hi2⟩ := hc
      cases y with
      | none => exact hh.elim
      | some y =>
        obtain ⟨C', d, v, e1, e2, e3, e4, e5⟩ := ex
        cases h1.symm.trans e1
        subst e2 e3
        refine ⟨.ref a, set_at (by rw [cx.en.len]; exact hi2), rfl, rfl, d, v, rfl, cx.st.sub _ _ e4, (by show 2 ≤ sizeLine; decide), fun p hp => ?_⟩
        exact hh (.ref p) H0 (upd H p (.lst [.str z, v])) m ow (Go.fresh hp).lift (cx.st.fresh hp) ⟨p, _, rfl, .inr hp, upd_same, cx.st.h0 hp, cx.st.notM hp, .cons .str (.cons e5 .nil)⟩
    · rw [if_neg hc] at hh
      exact hh.elim
end
end TG

set_option Elab.async false
set_option linter.all false
set_option maxRecDepth 100000
set_option maxHeartbeats 4000000
namespace PySem
namespace XFld
open PySem.W PySem.Calls PyProof.Rows PySem.HandSPX
noncomputable def arow (p1 p2 : Pos) : Arguments := { posonlyargs := [], args := [{ arg := "self", annotation := none, pos := p1 }, { arg := "row", annotation := none, pos := p2 }], vararg := none, kwonlyargs := [], kw_defaults := [], kwarg := none, defaults := [] }
noncomputable def brow (q1 q2 q3 q4 : Pos) : List Stmt := [.Assign [.Attribute (.Name "self" q1) "row" q2] (.Name "row" q3) q4]
noncomputable def srow : Scope := { kind := .function, names := [(PySem.Str.ofString "self", .local), (PySem.Str.ofString "row", .local)], isGenerator := false, isCoroutine := false, more := [] }
theorem nmrow {M : Model} {s : Shared} {name : Str} {L a : Addr} {cd : Value} {m : Str → Option Value} {x : Str} {pos : Pos} {v : Value} {Q : Value → Shared → Prop} {A : Around} {E : Value → Shared → Prop} (hn : s.heap.Ns L m) (hv : m x = some v) (h : Q v s)
    (hk : srow.kind = .function := by rfl) (hl : (envOfC name srow L a cd).kindOf x = some .local := by rfl) (hd : (x == ("__debug__" : Str)) = false := by decide) : wpAny M A (eval (.Name x pos) (envOfC name srow L a cd)) Q E s := wpAny_Name (wpAny_loadName_local hk hl hn hv h) hd
theorem initrow {prog : Program} {w : World} {K : Frag} {mg : Str → Option Value} {x : Str} {C fI : Addr} {args : Arguments} {body : List Stmt} {scope : Scope} {qn : Str} {oc kV doc pm cdv ct : Value} {od an : Option Addr} {osl : Array (Option Value)} (T : ClsX K mg x "row" C fI)
    (ho : K.lookup fI = some ⟨oc, od, .func (fnOf "__init__" qn args body scope .none kV doc pm an cdv ct), osl⟩) (hcd : codeIn K cdv qn = true) (hA : ∃ p1 p2, args = arow p1 p2) (hB : ∃ q1 q2 q3 q4, body = brow q1 q2 q3 q4) (hS : scope = srow) : InitX prog w K "row" C fI := by
  intro A R s y t0 v X hlim hx hnx hroom hq
  obtain ⟨p1, p2, rfl⟩ := hA
  obtain ⟨q1, q2, q3, q4, rfl⟩ := hB
  subst hS
  obtain ⟨B, newId, initId, z, nm, q, N, bs, bm, sn, sub, ab, col, dd, k0, k1, k2, k3, k5, BX, hC, hbm⟩ := T.cls
  have hcl : clsIn K C = some { name := nm, bases := bs, mro := .ref C :: bm, ns := N, qualname := q, hasDict := true, slotNames := sn, subclasses := sub, abstract := ab, collection := col, hasDel := false } := by unfold clsIn; rw [hC] <;> rfl
  have hbm2 : rowsX z (.ref C :: bm) = true := hbm
  refine Att.call_fn (binds := [("self", .ref y), ("row", v)]) X hlim ho hcd hroom (BindsTo.of_eq (by first | rfl | with_unfolding_all rfl)) (by first | rfl | decide | with_unfolding_all rfl) (fun s₁ IC => ?_) rfl rfl rfl
  obtain ⟨h₁, tk₁, rfl⟩ := IC.toInCall.same
  have k : ∀ b o, s.heap.get? b = some o → h₁.get? b = some o := IC.toInCall.keep
  have hn := IC.toInCall.ns
  show wpAny _ _ (execs _ _) _ _ _
  refine wpAny_execs_cons (plainObj_wpAny_Assign_Attribute ?_)
  refine nmrow (v := v) hn (by first | rfl | with_unfolding_all rfl | kernel_rfl) (nmrow (v := .ref y) hn (by first | rfl | with_unfolding_all rfl | kernel_rfl) ?_)
  refine set_plain (X.keeps k) (ox := excO C t0) (od := none) ⟨k _ _ hx, rfl, rfl, trivial⟩ T.sa ?_
  refine osaX (X.keeps k) (k _ _ hx) hcl (rows_pass _ (BX.ps _) _ hbm2) ((rows_has "object" _ hbm2).trans BX.ob) (rows_ne BX.ne _ hbm2) rfl T.noN (fun h₃ tk₃ dx k₃ dn dne hx₃ hn₃ => ?_)
  show wpAny _ _ (execs _ _) _ _ _
  have z : s.heap.objs.size < h₁.objs.size := hn.lt
  exact wpAny_execs_nil (hq h₃ tk₃ dx ⟨fun b o hb e => k₃ b o hb (k b o e), hx₃, Nat.le_of_lt (Nat.lt_of_lt_of_le z dn), dne, hn₃⟩)
end XFld
end PySem

set_option Elab.async false
set_option linter.all false
set_option maxRecDepth 100000
set_option maxHeartbeats 4000000
namespace TG
open PySem PySem.Spec PyProof.Rows L2
section
variable {X : Cx} {cl : Str → Option Addr} {Wx : WX} {e : Expr} {es : List Expr} {pos p : Pos} {el ek : Cmp TG.W} {k n : Nat} {x : Str} {ps ks : List Str} {f : Sem1} {kws : List Keyword} {pk : List Pk} {ds : List Int}
end
end TG

set_option Elab.async false
set_option linter.all false
set_option maxRecDepth 100000
set_option maxHeartbeats 4000000
namespace TG
open PySem PySem.Spec PyProof.Rows L2
mutual
noncomputable def D.noLst : TG.D → Bool
  | .non => true | .bl _ => true | .int _ => true | .str _ => true
  | .tup l => D.noLsts l
  | _ => false
noncomputable def D.noLsts : List TG.D → Bool
  | [] => true
  | x :: r => D.noLst x && D.noLsts r
end
mutual
theorem Rep.nolist {K : PySem.W.Frag} {cl : Str → Option Addr} {H0 H1 : Hp} (k : ∀ a vs, H0 a = some (.tup vs) → H1 a = some (.tup vs)) {v : V} {d : TG.D} (h : Rep K cl H0 v d) (n : d.noLst = true) : Rep K cl H1 v d := match h with
  | .non => .non
  | .bl => .bl
  | .int => .int
  | .str => .str
  | .tup a b => .tup (k _ _ a) (Reps.nolist k b (by rw [D.noLst] at n; exact n))
  | .lst _ _ => by simp [D.noLst] at n
  | .scr _ _ => by simp [D.noLst] at n
  | .dic _ _ => by simp [D.noLst] at n
  | .ins _ _ _ => by simp [D.noLst] at n
theorem Reps.nolist {K : PySem.W.Frag} {cl : Str → Option Addr} {H0 H1 : Hp} (k : ∀ a vs, H0 a = some (.tup vs) → H1 a = some (.tup vs)) {v : List V} {d : List TG.D} (h : Reps K cl H0 v d) (n : D.noLsts d = true) : Reps K cl H1 v d := match h with
  | .nil => .nil
  | .cons a b => .cons (Rep.nolist k a (by rw [D.noLsts, Bool.and_eq_true] at n; exact n.1)) (Reps.nolist k b (by rw [D.noLsts, Bool.and_eq_true] at n; exact n.2))
end
inductive RepO (K : PySem.W.Frag) (cl : Str → Option Addr) (H0 H : Hp) (m : List Addr) : V → TG.W → Prop
  | w {v : V} {x : TG.W} (h : RepW K cl H0 m v x) : RepO K cl H0 H m v x
  | own {p : Addr} {vs : List V} {ds : List TG.D} (h : H p = some (.lst vs)) (r : Reps K cl H0 vs ds) (n : H0 p = none) (q : p ∉ m) : RepO K cl H0 H m (.ref p) (.d (.lst ds))
inductive RepOs (K : PySem.W.Frag) (cl : Str → Option Addr) (H0 H : Hp) (m : List Addr) : List V → List TG.W → Prop
  | nil : RepOs K cl H0 H m [] []
  | cons {v : V} {x : TG.W} {vs : List V} {xs : List TG.W} (a : RepO K cl H0 H m v x) (b : RepOs K cl H0 H m vs xs) : RepOs K cl H0 H m (v :: vs) (x :: xs)
noncomputable def rrAO (K : PySem.W.Frag) (cl : Str → Option Addr) : RRT (List V) (List TG.W) := fun _ H0 H' m v x => RepOs K cl H0 H' m v x
instance {K : PySem.W.Frag} {cl : Str → Option Addr} : Early (rrAO K cl) := ⟨fun _ h => h⟩
section
variable {K : PySem.W.Frag} {cl : Str → Option Addr} {H0 H H1 H1' : Hp} {m m1 : List Addr} {v : V} {x : TG.W}
theorem RepO.mono (g : GoE H0 H m H1 H1' m1) (h : RepO K cl H0 H m v x) : RepO K cl H1 H1' m1 v x := by
  cases h with
  | w h => exact .w (RepW.mono g.s0 g.pre h)
  | own h r n q =>
    refine .own (g.fr _ _ h q (by simp)) (r.mono g.s0) (g.n0 _ (by rw [h]; simp) q (by simp) n) fun z => ?_
    rcases g.nm _ z with z | z | z
    · exact q z
    · cases z
    · rw [h] at z; cases z
noncomputable def upOwn (H0 H : Hp) (P : List Addr) : Hp := fun a => if a ∈ P then H a else H0 a
structure OwnP (H0 H : Hp) (m P : List Addr) : Prop where
  n : ∀ p ∈ P, H0 p = none
  q : ∀ p ∈ P, p ∉ m
  l : ∀ p ∈ P, ∃ vs, H p = some (.lst vs)
theorem up_same {P : List Addr} (o : OwnP H0 H m P) : Same H0 (upOwn H0 H P) := fun a x e => by
  unfold upOwn
  by_cases h : a ∈ P
  · rw [o.n a h] at e; cases e
  · rw [if_neg h]; exact e
theorem up_sub {P : List Addr} (s : Same H0 H) : Same (upOwn H0 H P) H := fun a x e => by
  unfold upOwn at e
  by_cases h : a ∈ P
  · rw [if_pos h] at e; exact e
  · rw [if_neg h] at e; exact s a x e
noncomputable def isDat : TG.W → Bool | .d _ => true | .r _ => false
theorem own_reps : ∀ {vs : List V} {ws : List TG.W}, RepOs K cl H0 H m vs ws → ws.all isDat = true → ∃ P, OwnP H0 H m P ∧ ∀ P', (∀ p ∈ P, p ∈ P') → OwnP H0 H m P' → RepWs K cl (upOwn H0 H P') [] vs ws
  | _, _, .nil, _ => ⟨[], ⟨fun p h => (nomatch h), fun p h => (nomatch h), fun p h => (nomatch h)⟩, fun _ _ _ => .nil⟩
  | _, _, .cons a b, hd => by
    rw [List.all_cons, Bool.and_eq_true] at hd
    obtain ⟨P, o, k⟩ := own_reps b hd.2
    cases a with
    | w h =>
      refine ⟨P, o, fun P' hp o' => .cons ?_ (k P' hp o')⟩
      rename_i x xs v
      cases x with
      | r n => simp [isDat] at hd
      | d x => exact Rep.mono (up_same o') h
    | own h r n q =>
      rename_i xs p vs ds
      refine ⟨p :: P, ⟨fun a ha => ?_, fun a ha => ?_, fun a ha => ?_⟩, fun P' hp o' => .cons ?_ (k P' (fun a ha => hp a (.tail _ ha)) o')⟩
      · rcases List.mem_cons.mp ha with rfl | ha
        · exact n
        · exact o.n a ha
      · rcases List.mem_cons.mp ha with rfl | ha
        · exact q
        · exact o.q a ha
      · rcases List.mem_cons.mp ha with rfl | ha
        · exact ⟨_, h⟩
        · exact o.l a ha
      · refine Rep.lst ?_ (r.mono (up_same o'))
        unfold upOwn
        rw [if_pos (hp p (.head _))]
        exact h
end
noncomputable def outO : Res RV → S → Res TG.W
  | .ok (.w (.d d)) [] => fun s => if d.noLst = true then .ok (.d d) s else .no
  | _ => fun _ => .no
noncomputable def kCallO (f : Sem1) (ws : List TG.W) (s : S) : Res TG.W := if ws.all isDat = true then outO (f ws []) s else .no
noncomputable def eCallO (f : Sem1) (a : Cmp (List TG.W)) : Cmp TG.W := fun ρ s => (a ρ s).bind (kCallO f)
noncomputable def eOwnA (n : Nat) (a : Cmp (List TG.W)) : Cmp (List TG.W) := fun ρ s => match ρ[n]? with
  | some (.own l) => (match allData l with | some ds => (a ρ s).bind fun ws s1 => .ok (.d (.lst ds) :: ws) s1 | none => .no)
  | _ => .no
noncomputable def JAO (cl : Str → Option Addr) (Wx : WX) (X : Cx) (e : List Expr) (c : Cmp (List TG.W)) : Prop := PA X e (Tof X.K cl (rrAO X.K cl) Wx c)
section
variable {X : Cx} {cl : Str → Option Addr} {Wx : WX} {e : Expr} {es : List Expr} {pos p p1 : Pos} {ea : Cmp TG.W} {el : Cmp (List TG.W)} {k : Nat} {x : Str} {ps : List Str} {f : Sem1}
theorem jao_nil : JAO cl Wx X [] eNil := PA.weaken pa_nil fun σ H Q ⟨H0, m, ow, s, ρ, cx, h⟩ => RunE.done (RR := rrAO X.K cl) h cx.st .nil
theorem jao_cons (ha : JE cl Wx X e ea) (hr : JAO cl Wx X es el) (hs : starEach (e :: es) X.env = (false, eval e X.env) :: starEach es X.env := by rfl) : JAO cl Wx X (e :: es) (eCons ea el) :=
  PA.weaken (pa_cons ha hr hs) fun σ H Q ⟨H0, m, ow, s, ρ, cx, h⟩ => ⟨H0, m, ow, s, ρ, cx, RunE.bind h fun x s1 v H1 H1' m1 g st rr h2 => ⟨H1, m1, ow, s1, ρ, cx.go g st, RunE.bind h2 fun y s2 u H2 H2' m2 g' st' rr' h3 =>
    RunE.done (RR := rrAO X.K cl) h3 st' (.cons (RepO.mono g' (.w rr)) rr')⟩⟩
theorem jao_own (n : Nat) (hr : JAO cl Wx X es el) (hN : X.N[n]? = some x := by rfl) (hv : Vis X.env.scope x := by first | exact Or.inl rfl | exact Or.inr (Or.inl rfl) | exact Or.inr (Or.inr rfl)) (hd : (x == ("__debug__" : Str)) = false := by decide)
    (hcd : (x == ("__classdict__" : Str)) = false := by decide) (hs : starEach (.Name x p1 :: es) X.env = (false, eval (.Name x p1) X.env) :: starEach es X.env := by rfl) : JAO cl Wx X (.Name x p1 :: es) (eOwnA n el) :=
  PA.weaken (pa_cons (pe_var hN hv hd hcd) hr hs) fun σ H Q ⟨H0, m, ow, s, ρ, cx, h⟩ => by
    unfold eOwnA at h
    split at h
    · rename_i l e0
      split at h
      · rename_i ds e1
        obtain ⟨p, vs, h1, h2, h3, h4⟩ := cx.en.slot n _ e0
        have own := cx.en.owns p h2
        refine ⟨.ref p, h1, H0, m, ow, s, ρ, cx, RunE.bind h fun ws s1 us H1 H1' m1 g st rr h5 => ?_⟩
        exact RunE.done (RR := rrAO X.K cl) h5 st (.cons (RepO.mono g (.own h3 (h4.ds e1) own.2.1 own.2.2)) rr)
      · exact h.elim
    · exact h.elim
theorem je_callO (ok : XOk X Wx) (hr : Room k X.A) (F : FnAt X.prog X.w X.K X.mg X.base cl k x ps f) (ha : JAO cl Wx X (e :: es) el) (hg : Gl X x := by rfl)
    (h1 : (x == Str.ofString "__debug__") = false := by decide) (h2 : starEach (e :: es) X.env = (false, eval e X.env) :: starEach es X.env := by rfl) (h3 : ((backTo pos (starEach es X.env)).any fun x => x.fst) = false := by rfl) :
    JE cl Wx X (.Call (.Name x p) (e :: es) [] pos) (eCallO f el) := by
  obtain ⟨a, fd, q1, q2, q3, q4⟩ := F.ex
  refine PE.weaken (pe_callS q4 hr hg q1 q2 q3 (fun σ => passAt ok.tk σ) ha h1 h2 h3) fun σ H Q ⟨H0, m, ow, s, ρ, cx, h⟩ => ⟨H0, m, ow, s, ρ, cx, ?_⟩
  have h : RunE X.K cl (rrW X.K cl) Wx H0 H m σ Q ((el ρ s).bind (kCallO f)) := h
  refine RunE.bind h fun ws s1 vs H1 H1' m1 g st rr h4 => ?_
  unfold kCallO at h4
  by_cases hd : ws.all isDat = true
  · rw [if_pos hd] at h4
    obtain ⟨P, o, kk⟩ := own_reps rr hd
    have reps := kk P (fun _ h => h) o
    generalize ef : f ws [] = fr at h4
    unfold outO at h4
    split at h4
    · rename_i d
      by_cases hn : d.noLst = true
      · rw [if_pos hn] at h4
        refine ⟨upOwn H1 H1' P, [], [], ws, ⟨up_sub st.sub, rfl, List.nodup_nil, fun n a c h => by simp at h⟩, reps, ?_⟩
        rw [ef]
        intro v H2 H2' m2 g2 st2 rv
        have rv : RepW X.K cl H2 m2 v (.d d) := rv
        have hl2 : ∀ p ∈ P, ∃ vs, H2 p = some (.lst vs) := fun p hp => by
          obtain ⟨vs, e⟩ := o.l p hp
          exact ⟨vs, g2.s0 _ _ (by unfold upOwn; rw [if_pos hp]; exact e)⟩
        have none2 : ∀ a, H1' a ≠ none → upOwn H1 H1' P a = none → H2 a = none := fun a ha hu => g2.n0 a ha (by simp) (by simp) hu
        have sub2 : Same (fun a => if a ∈ P then none else H2 a) H2' := fun a x e => by
          have e : (if a ∈ P then none else H2 a) = some x := e
          by_cases hp : a ∈ P
          · rw [if_pos hp] at e; cases e
          · rw [if_neg hp] at e; exact st2.sub _ _ e
        have s02 : Same H1 (fun a => if a ∈ P then none else H2 a) := fun a x e => by
          show (if a ∈ P then none else H2 a) = some x
          by_cases hp : a ∈ P
          · rw [o.n a hp] at e; cases e
          · rw [if_neg hp]
            exact g2.s0 _ _ (by unfold upOwn; rw [if_neg hp]; exact e)
        have kp : ∀ a x, H1' a = some x → H2' a = some x := fun a x e => g2.fr a x e (by simp) (by simp)
        refine h4 v (fun a => if a ∈ P then none else H2 a) H2' m1 ⟨s02, List.prefix_rfl, fun a x e _ _ => kp a x e, g2.dom, fun a ha h5 _ h6 => ?_, fun a h => .inl h, fun a h => .inl h⟩ ⟨sub2, st.len, st.nd, fun n a c e1 e2 => ?_⟩ ?_
        · show (if a ∈ P then none else H2 a) = none
          by_cases hp : a ∈ P
          · rw [if_pos hp]
          · rw [if_neg hp]
            exact none2 a ha (by unfold upOwn; rw [if_neg hp]; exact h6)
        · obtain ⟨z1, z2⟩ := st.cell n a c e1 e2
          have am : a ∈ m1 := List.mem_iff_getElem?.mpr ⟨n, e1⟩
          have np : a ∉ P := fun hp => o.q a hp am
          refine ⟨?_, z2.mono s02 List.prefix_rfl fun x e => kp a x e⟩
          show (if a ∈ P then none else H2 a) = none
          rw [if_neg np]
          exact none2 a z2.there (by unfold upOwn; rw [if_neg np]; exact z1)
        · refine Rep.nolist (fun a vs e => ?_) rv hn
          show (if a ∈ P then none else H2 a) = some (.tup vs)
          rw [if_neg fun hp => ?_]
          · exact e
          · obtain ⟨us, e2⟩ := hl2 a hp
            rw [e] at e2
            cases e2
      · rw [if_neg hn] at h4
        exact h4.elim
    · exact h4.elim
  · rw [if_neg hd] at h4
    exact h4.elim
end
end TG

set_option linter.all false
set_option maxRecDepth 100000
namespace TG
open PySem L2
noncomputable def b_v_law_bag : Stm :=
  (sSeq (sSet 1 (eC (.int 977)))
  (sSeq (sFor (eSeq (eSl fSl (eVar 0) eNoPart (ePart (eC (.int 63))))) (tgName 2) (sSet 1 (eBin fMod (eBin fAdd (eBin fAdd (eBin fMul (eVar 1) (eC (.int 48271))) (eBin fMod (eVar 2) (eC (.int 2147483629)))) (eC (.int 11))) (eC (.int 2147483647)))))
  (sRetL (eLst (eCons (eFrz (eListOf (eCons (eSl fSl (eVar 0) eNoPart (ePart (eC (.int 63)))) eNil))) (eCons (eC (.int 0)) (eCons (eC (.int 0)) (eCons (eVar 1) eNil))))))))
noncomputable def f_v_law_bag : Sem1 := runF 1 3 b_v_law_bag
noncomputable def b_v_law_pull : Stm :=
  (sSeq (sIf (eAndT (eTest (eBin (fEq false) (eBin fIx (eVar 0) (eC (.int 2))) (eC (.int 0)))) (eTest (eBin fLt (eBin fIx (eVar 0) (eC (.int 1))) (eArgs (c1 fLen) (eCons (eBin fIx (eVar 0) (eC (.int 0))) eNil))))) (sSeq (sSet 2 (eBin fIx (eBin fIx (eVar 0) (eC (.int 0))) (eBin fIx (eVar 0) (eC (.int 1)))))
  (sSeq (sSetI (eVar 0) (eC (.int 1)) (eBin fAdd (eBin fIx (eVar 0) (eC (.int 1))) (eC (.int 1))))
  (sIf (eTest (eBin fGe (eVar 2) (eBin fPow (eC (.int 10)) (eC (.int 18))))) (sSetI (eVar 0) (eC (.int 2)) (eVar 2)) (sSetI (eVar 0) (eC (.int 3)) (eBin fMod (eBin fAdd (eBin fAdd (eBin fMul (eBin fIx (eVar 0) (eC (.int 3))) (eC (.int 69621))) (eBin fMul (eBin fMod (eVar 2) (eC (.int 2147483629))) (eC (.int 48271)))) (eC (.int 5))) (eC (.int 2147483647))))))) sNext)
  (sSeq (sIf (eTest (eBin fGt (eBin fIx (eVar 0) (eC (.int 2))) (eC (.int 0)))) (sSeq (sSet 3 (eBin fMod (eBin fIx (eVar 0) (eC (.int 2))) (eVar 1)))
  (sSeq (sSetI (eVar 0) (eC (.int 2)) (eBin fDiv (eBin fIx (eVar 0) (eC (.int 2))) (eVar 1)))
  (sRet (eVar 3)))) sNext)
  (sSeq (sSet 4 (eBin fIx (eVar 0) (eC (.int 3))))
  (sSeq (sSetI (eVar 0) (eC (.int 3)) (eBin fMod (eBin fAdd (eBin fAdd (eBin fMul (eVar 4) (eC (.int 39373))) (eBin fMul (eBin fDiv (eVar 4) (eC (.int 127773))) (eC (.int 31)))) (eC (.int 1013904223))) (eC (.int 2147483647))))
  (sRet (eBin fMod (eBin fAdd (eBin fDiv (eBin fIx (eVar 0) (eC (.int 3))) (eC (.int 97))) (eBin fMul (eBin fMod (eBin fIx (eVar 0) (eC (.int 3))) (eC (.int 8191))) (eC (.int 53)))) (eVar 1)))))))
noncomputable def f_v_law_pull : Sem1 := runF 2 5 b_v_law_pull
noncomputable def b_v_law_far : Stm :=
  (sSeq (sSet 1 (eBin fAdd (eBin fPow (eC (.int 10)) (eC (.int 9))) (eCall f_v_law_pull (eCons (eVar 0) (eCons (eBin fPow (eC (.int 10)) (eC (.int 9))) eNil)))))
  (sSeq (sIf (eTest (eBin (fEq false) (eCall f_v_law_pull (eCons (eVar 0) (eCons (eC (.int 2)) eNil))) (eC (.int 0)))) (sSet 1 (eBin fAdd (eVar 1) (eBin fPow (eC (.int 10)) (eC (.int 20))))) sNext)
  (sSeq (sIf (eTest (eBin (fEq false) (eCall f_v_law_pull (eCons (eVar 0) (eCons (eC (.int 2)) eNil))) (eC (.int 0)))) (sRet (eBin fSub (eUn fNeg (eC (.int 1))) (eVar 1))) sNext)
  (sRet (eVar 1)))))
noncomputable def f_v_law_far : Sem1 := runF 1 2 b_v_law_far
noncomputable def b_v_law_drops : Stm :=
  (sSeq (sSet 1 (eBin fIx (eFrz (eLst (eCons (eC (.int 1)) (eCons (eC (.int 3)) (eCons (eC (.int 2)) (eCons (eBin fAdd (eC (.int 1)) (eCall f_v_law_pull (eCons (eVar 0) (eCons (eC (.int 9)) eNil)))) (eCons (eC (.int 5)) eNil))))))) (eCall f_v_law_pull (eCons (eVar 0) (eCons (eC (.int 5)) eNil)))))
  (sSeq (sSet 2 (eBin fIx (eFrz (eLst (eCons (eC (.int 1)) (eCons (eC (.int 3)) (eCons (eC (.int 9)) (eCons (eC (.int 100)) eNil)))))) (eCall f_v_law_pull (eCons (eVar 0) (eCons (eC (.int 4)) eNil)))))
  (sRet (eArgs (c1 fTuple) (eCons (eFrz (eLc [3] (eRng1 (eCons (eVar 1) eNil)) (tgName 3) eYes (eCall f_v_law_pull (eCons (eVar 0) (eCons (eVar 2) eNil))))) eNil)))))
noncomputable def f_v_law_drops : Sem1 := runF 1 4 b_v_law_drops
noncomputable def b_v_law_pair : Stm :=
  (sSeq (sSet 1 (eCall f_v_law_drops (eCons (eVar 0) eNil)))
  (sRet (eTup (eCons (eVar 1) (eCons (eCall f_v_law_pull (eCons (eVar 0) (eCons (eArgs (c1 fLen) (eCons (eVar 1) eNil)) eNil))) eNil)))))
noncomputable def f_v_law_pair : Sem1 := runF 1 2 b_v_law_pair
noncomputable def b_good_drops : Stm :=
  (sRet (eAndV (eChain fLe fLe (eC (.int 1)) (eArgs (c1 fLen) (eCons (eVar 0) eNil)) (eC (.int 9))) (eArgs (c1 fAll) (eCons (eFrz (eLc [1] (eSeq (eVar 0)) (tgName 1) eYes (eChain fLe fLe (eC (.int 0)) (eVar 1) (eC (.int 99))))) eNil))))
noncomputable def f_good_drops : Sem1 := runF 1 2 b_good_drops
noncomputable def b_good_foot : Stm :=
  (sRet (eAndV (eCall f_good_drops (eCons (eVar 0) eNil)) (eChain fLe fLt (eC (.int 0)) (eVar 1) (eArgs (c1 fLen) (eCons (eVar 0) eNil)))))
noncomputable def f_good_foot : Sem1 := runF 2 2 b_good_foot
noncomputable def b_Foot_init : Stm :=
  (sSeq (sIf (eNotT (eTest (eCall f_good_foot (eCons (eVar 1) (eCons (eVar 2) eNil))))) (sRaise0 "BadFoot") sNext)
  (sSeq (sFld "Foot" "drops" (eVar 0) (eVar 1))
  (sFld "Foot" "middle" (eVar 0) (eVar 2))))
noncomputable def f_Foot_init : Sem1 := runF 3 3 b_Foot_init
noncomputable def b_v_law_like (fr : Sem1) : Stm :=
  (sSeq (sIf (eOrT (eTest (eBin (fEq true) (eUn (fIsi "tuple") (eVar 1)) (eUn (fIsi "tuple") (eVar 0)))) (eTest (eBin (fEq true) (eUn (fIsi "list") (eVar 1)) (eUn (fIsi "list") (eVar 0))))) (sRet (eC (.bl false))) sNext)
  (sSeq (sIf (eNotT (eTest (eUn (fIsi2 "tuple" "list") (eVar 1)))) (sRet (eAndV (eBin (fEq false) (eUn (fIsi "bool") (eVar 0)) (eUn (fIsi "bool") (eVar 1))) (eBin (fEq false) (eVar 0) (eVar 1)))) sNext)
  (sRet (eAndV (eBin (fEq false) (eArgs (c1 fLen) (eCons (eVar 0) eNil)) (eArgs (c1 fLen) (eCons (eVar 1) eNil))) (eArgs (c1 fAll) (eCons (eFrz (eLc [2] (eRng1 (eCons (eArgs (c1 fLen) (eCons (eVar 1) eNil)) eNil)) (tgName 2) eYes (eCall fr (eCons (eBin fIx (eVar 0) (eVar 2)) (eCons (eBin fIx (eVar 1) (eVar 2)) eNil))))) eNil))))))
noncomputable def f_v_law_like : Nat → Sem1
  | 0 => fun _ _ => .no
  | n + 1 => runF 2 3 (b_v_law_like (f_v_law_like n))
noncomputable def b_is_rim : Stm :=
  (sRet (eChain fLe fLe (eC (.int 3)) (eArgs (c1 fLen) (eCons (eVar 0) eNil)) (eC (.int 48))))
noncomputable def f_is_rim : Sem1 := runF 1 1 b_is_rim
noncomputable def b_Foot_len : Stm :=
  (sRet (eArgs (c1 fLen) (eCons (eFld "Foot" "drops" (eVar 0)) eNil)))
noncomputable def f_Foot_len : Sem1 := runF 1 1 b_Foot_len
end TG

set_option linter.all false
set_option maxRecDepth 100000
namespace TG
open PySem L2
inductive wE {α : Type} (E : Str → Option D → S → Prop) (Q : α → S → Prop) : Res α → Prop
  | ok {a : α} {s : S} (h : Q a s) : wE E Q (.ok a s)
  | exc {c : Str} {x : Option D} {s : S} (h : E c x s) : wE E Q (.exc c x s)
noncomputable def nE : Str → Option D → S → Prop := fun _ _ _ => False
structure WP where
  N : Rho → S → Prop
  C : Rho → S → Prop
  B : Rho → S → Prop
  R : RV → S → Prop
  E : Str → Option D → S → Prop
inductive wS (P : WP) : RS → Prop
  | nx {ρ : Rho} {s : S} (h : P.N ρ s) : wS P (.nx ρ s)
  | cnt {ρ : Rho} {s : S} (h : P.C ρ s) : wS P (.cnt ρ s)
  | brk {ρ : Rho} {s : S} (h : P.B ρ s) : wS P (.brk ρ s)
  | ret {v : RV} {s : S} (h : P.R v s) : wS P (.ret v s)
  | exc {c : Str} {x : Option D} {ρ : Rho} {s : S} (h : P.E c x s) : wS P (.exc c x ρ s)
noncomputable def kThen {α β γ : Type} (k : α → S → Res β) (k' : β → S → Res γ) : α → S → Res γ := fun a s => (k a s).bind k'
noncomputable def kThE {α β : Type} (k : α → S → Res β) (k' : β → Stm) : α → Stm := fun a ρ s => ebS (k a s) ρ k'
noncomputable def kThS {α : Type} (k : α → Stm) (k' : Stm) : α → Stm := fun a ρ s => (k a ρ s).bind k'
noncomputable def kThR (k k' : Stm) : Stm := fun ρ s => (k ρ s).bind k'
@[simp] theorem kThen_eq {α β γ : Type} (k : α → S → Res β) (k' : β → S → Res γ) (a : α) (s : S) : kThen k k' a s = (k a s).bind k' := (rfl)
@[simp] theorem kThE_eq {α β : Type} (k : α → S → Res β) (k' : β → Stm) (a : α) (ρ : Rho) (s : S) : kThE k k' a ρ s = ebS (k a s) ρ k' := (rfl)
@[simp] theorem kThS_eq {α : Type} (k : α → Stm) (k' : Stm) (a : α) (ρ : Rho) (s : S) : kThS k k' a ρ s = (k a ρ s).bind k' := (rfl)
@[simp] theorem kThR_eq (k k' : Stm) (ρ : Rho) (s : S) : kThR k k' ρ s = (k ρ s).bind k' := (rfl)
@[simp] theorem bind_bind {α β γ : Type} (r : Res α) (k : α → S → Res β) (k' : β → S → Res γ) : (r.bind k).bind k' = r.bind (kThen k k') := by cases r <;> rfl
@[simp] theorem ebS_bind {α β : Type} (r : Res α) (k : α → S → Res β) (ρ : Rho) (k' : β → Stm) : ebS (r.bind k) ρ k' = ebS r ρ (kThE k k') := by cases r <;> rfl
@[simp] theorem sbind_ebS {α : Type} (r : Res α) (ρ : Rho) (k : α → Stm) (k' : Stm) : (ebS r ρ k).bind k' = ebS r ρ (kThS k k') := by cases r <;> rfl
@[simp] theorem sbind_sbind (r : RS) (k k' : Stm) : (r.bind k).bind k' = r.bind (kThR k k') := by cases r <;> rfl
noncomputable def runR : RS → Res RV
  | .nx _ s => .ok (.w (.d .non)) s
  | .ret v s => .ok v s
  | .exc c x _ s => .exc c x s
  | _ => .no
@[simp] theorem runR_nx (ρ : Rho) (s : S) : runR (.nx ρ s) = .ok (.w (.d .non)) s := (rfl)
@[simp] theorem runR_ret (v : RV) (s : S) : runR (.ret v s) = .ok v s := (rfl)
@[simp] theorem runR_exc (c : Str) (x : Option D) (ρ : Rho) (s : S) : runR (.exc c x ρ s) = .exc c x s := (rfl)
noncomputable def kRun {α : Type} (ρ : Rho) (k : α → Stm) : α → S → Res RV := fun a s => runR (k a ρ s)
@[simp] theorem kRun_eq {α : Type} (ρ : Rho) (k : α → Stm) (a : α) (s : S) : kRun ρ k a s = runR (k a ρ s) := (rfl)
@[simp] theorem runR_ebS {α : Type} (r : Res α) (ρ : Rho) (k : α → Stm) : runR (ebS r ρ k) = r.bind (kRun ρ k) := by cases r <;> rfl
theorem runF_eq (np nl : Nat) (b : Stm) (ws : List W) (s : S) : runF np nl b ws s = if ws.length = np then runR (b (ws.map .w ++ List.replicate (nl - np) .no) s) else .no := by
  unfold runF
  by_cases h : ws.length = np
  · rw [if_pos h, if_pos h]
    generalize b (ws.map .w ++ List.replicate (nl - np) .no) s = r
    cases r <;> rfl
  · rw [if_neg h, if_neg h]
section
variable {α β : Type} {E : Str → Option D → S → Prop} {Q : α → S → Prop} {P : WP}
@[simp] theorem wE_ok (a : α) (s : S) : wE E Q (.ok a s) = Q a s := propext ⟨fun h => (by cases h; assumption), .ok⟩
@[simp] theorem wE_exc (c : Str) (x : Option D) (s : S) : wE E Q (.exc c x s) = E c x s := propext ⟨fun h => (by cases h; assumption), .exc⟩
@[simp] theorem wE_no : wE E Q .no = False := propext ⟨fun h => (by cases h), False.elim⟩
@[simp] theorem wS_nx (ρ : Rho) (s : S) : wS P (.nx ρ s) = P.N ρ s := propext ⟨fun h => (by cases h; assumption), .nx⟩
@[simp] theorem wS_cnt (ρ : Rho) (s : S) : wS P (.cnt ρ s) = P.C ρ s := propext ⟨fun h => (by cases h; assumption), .cnt⟩
@[simp] theorem wS_brk (ρ : Rho) (s : S) : wS P (.brk ρ s) = P.B ρ s := propext ⟨fun h => (by cases h; assumption), .brk⟩
@[simp] theorem wS_ret (v : RV) (s : S) : wS P (.ret v s) = P.R v s := propext ⟨fun h => (by cases h; assumption), .ret⟩
@[simp] theorem wS_exc (c : Str) (x : Option D) (ρ : Rho) (s : S) : wS P (.exc c x ρ s) = P.E c x s := propext ⟨fun h => (by cases h; assumption), .exc⟩
@[simp] theorem wS_no : wS P .no = False := propext ⟨fun h => (by cases h), False.elim⟩
noncomputable def fnP (E : Str → Option D → S → Prop) (Q : RV → S → Prop) : WP := ⟨fun _ s => Q (.w (.d .non)) s, fun _ _ => False, fun _ _ => False, Q, E⟩
@[simp] theorem fnP_N (Q : RV → S → Prop) (ρ : Rho) (s : S) : (fnP E Q).N ρ s = Q (.w (.d .non)) s := (rfl)
@[simp] theorem fnP_R (Q : RV → S → Prop) (v : RV) (s : S) : (fnP E Q).R v s = Q v s := (rfl)
@[simp] theorem fnP_E (Q : RV → S → Prop) (c : Str) (x : Option D) (s : S) : (fnP E Q).E c x s = E c x s := (rfl)
theorem wE_runR {Q : RV → S → Prop} (r : RS) (h : wS (fnP E Q) r) : wE E Q (runR r) := by
  cases h with
  | nx h => exact .ok h
  | ret h => exact .ok h
  | exc h => exact .exc h
  | cnt h => exact h.elim
  | brk h => exact h.elim
theorem wE_fn {Q : RV → S → Prop} {np nl : Nat} {b : Stm} {ws : List W} {s : S} (h : ws.length = np) (q : wS (fnP E Q) (b (ws.map .w ++ List.replicate (nl - np) .no) s)) : wE E Q (runF np nl b ws s) := by
  rw [runF_eq, if_pos h]; exact wE_runR _ q
theorem wE_nE {r : Res α} {Q : α → S → Prop} (h : wE nE Q r) : ∃ a s, r = .ok a s ∧ Q a s := by
  cases h with
  | ok h => exact ⟨_, _, rfl, h⟩
  | exc h => exact h.elim
theorem wS_use {r : Res α} {Q1 : α → S → Prop} {ρ : Rho} {K : α → Stm} (h : wE nE Q1 r) (k : ∀ a s, Q1 a s → wS P (K a ρ s)) : wS P (ebS r ρ K) := by
  obtain ⟨a, s, rfl, h'⟩ := wE_nE h
  exact k _ _ h'
theorem wS_mid {r : RS} {k : Stm} (M : Rho → S → Prop) (h : wS { P with N := M } r) (q : ∀ ρ s, M ρ s → wS P (k ρ s)) : wS P (r.bind k) := by
  cases h with
  | nx h => exact q _ _ h
  | ret h => exact .ret h
  | brk h => exact .brk h
  | cnt h => exact .cnt h
  | exc h => exact .exc h
noncomputable def Hold (p : Rho → S → Prop) : Rho → S → Prop := p
theorem hold {p : Rho → S → Prop} {ρ : Rho} {s : S} (h : p ρ s) : Hold p ρ s := h
theorem of_wE {r : Res α} {a : α} (h : wE nE (fun v _ => v = a) r) : ∃ s', r = .ok a s' := by
  obtain ⟨v, s, rfl, rfl⟩ := wE_nE h
  exact ⟨_, rfl⟩
noncomputable def lpP (P : WP) (I : Rho → S → Prop) (O : Rho → S → Prop) : WP := { P with N := I, C := I, B := O }
@[simp] theorem lpP_N (I O : Rho → S → Prop) (ρ : Rho) (s : S) : (lpP P I O).N ρ s = I ρ s := (rfl)
@[simp] theorem lpP_C (I O : Rho → S → Prop) (ρ : Rho) (s : S) : (lpP P I O).C ρ s = I ρ s := (rfl)
@[simp] theorem lpP_B (I O : Rho → S → Prop) (ρ : Rho) (s : S) : (lpP P I O).B ρ s = O ρ s := (rfl)
@[simp] theorem lpP_R (I O : Rho → S → Prop) (v : RV) (s : S) : (lpP P I O).R v s = P.R v s := (rfl)
@[simp] theorem lpP_E (I O : Rho → S → Prop) (c : Str) (x : Option D) (s : S) : (lpP P I O).E c x s = P.E c x s := (rfl)
theorem wS_forK {I O : Rho → S → Prop} {k : Stm} {r : RS} (h : wS (lpP P I O) r) (q : ∀ ρ s, I ρ s → wS P (k ρ s)) (hO : ∀ ρ s, O ρ s → P.N ρ s) : wS P (forK k r) := by
  cases h with
  | nx h => exact q _ _ h
  | cnt h => exact q _ _ h
  | brk h => exact .nx (hO _ _ h)
  | ret h => exact .ret h
  | exc h => exact .exc h
theorem forE_inv (I : Rho → S → Prop) {tg : Tgt} {x : Stm} : ∀ {z : List W}, (∀ w ∈ z, ∀ ρ s, I ρ s → ∃ ρ1, tg w ρ = some ρ1 ∧ wS (lpP P I P.N) (x ρ1 s)) → ∀ {ρ : Rho} {s : S}, I ρ s → (∀ ρ s, I ρ s → P.N ρ s) → wS P (forE tg x z ρ s)
  | [], _, ρ, s, h0, hk => .nx (hk _ _ h0)
  | w :: r, h, ρ, s, h0, hk => by
    obtain ⟨ρ1, e1, q⟩ := h w (.head _) ρ s h0
    rw [forE_cons, e1]
    exact wS_forK q (fun ρ s hI => forE_inv I (fun w hw => h w (.tail _ hw)) hI hk) (fun _ _ h => h)
end
theorem lcM_fn {γ : Type} {g : γ → W} {tg : Tgt} {tst : Cmp Bool} {e : Cmp W} {ρ : Rho} {s : S} (p : γ → Bool) (v : γ → D) : ∀ {l : List γ},
    (∀ a ∈ l, ∃ ρ1, tg (g a) ρ = some ρ1 ∧ tst ρ1 s = .ok (p a) s ∧ (p a = true → e ρ1 s = .ok (.d (v a)) s)) → lcM tg tst e ρ (l.map g) s = .ok (wD ((l.filter p).map v)) s
  | [], _ => rfl
  | a :: r, h => by
    obtain ⟨ρ1, e1, e2, e3⟩ := h a (.head _)
    have ih := lcM_fn p v (l := r) (fun a ha => h a (.tail _ ha))
    cases hp : p a with
    | true => simp [lcM, e1, e2, e3 hp, hp, ih]
    | false => simp [lcM, e1, e2, hp, ih]
theorem lcM_fn' {γ : Type} {g : γ → W} {tg : Tgt} {e : Cmp W} {ρ : Rho} {s : S} (v : γ → D) {l : List γ}
    (h : ∀ a ∈ l, ∃ ρ1, tg (g a) ρ = some ρ1 ∧ e ρ1 s = .ok (.d (v a)) s) : lcM tg eYes e ρ (l.map g) s = .ok (wD (l.map v)) s := by
  rw [lcM_fn (fun _ => true) v]
  · rw [List.filter_eq_self.mpr (by simp)]
  · intro a ha
    obtain ⟨ρ1, e1, e2⟩ := h a ha
    exact ⟨ρ1, e1, rfl, fun _ => e2⟩
end TG

set_option linter.all false
set_option maxRecDepth 100000
namespace TG
open PySem L2
structure Bag where
  scr : List Int
  at_ : Nat
  big : Int
  salt : Int
  len : scr.length ≤ 63
  big0 : 0 ≤ big
  s0 : 0 ≤ salt
  s1 : salt < 2147483647
noncomputable def bagCell (l : List Int) (a big salt : Int) : Cell := .lst [.d (.lst (l.map .int)), .d (.int a), .d (.int big), .d (.int salt)]
noncomputable def Bag.cell (b : Bag) : Cell := bagCell b.scr b.at_ b.big b.salt
theorem mod_rng (x : Int) : 0 ≤ x.fmod 2147483647 ∧ x.fmod 2147483647 < 2147483647 := ⟨Int.fmod_nonneg_of_pos _ (by decide), Int.fmod_lt_of_pos _ (by decide)⟩
noncomputable def pullTail : Stm :=
  (sSeq (sIf (eTest (eBin fGt (eBin fIx (eVar 0) (eC (.int 2))) (eC (.int 0)))) (sSeq (sSet 3 (eBin fMod (eBin fIx (eVar 0) (eC (.int 2))) (eVar 1)))
  (sSeq (sSetI (eVar 0) (eC (.int 2)) (eBin fDiv (eBin fIx (eVar 0) (eC (.int 2))) (eVar 1)))
  (sRet (eVar 3)))) sNext)
  (sSeq (sSet 4 (eBin fIx (eVar 0) (eC (.int 3))))
  (sSeq (sSetI (eVar 0) (eC (.int 3)) (eBin fMod (eBin fAdd (eBin fAdd (eBin fMul (eVar 4) (eC (.int 39373))) (eBin fMul (eBin fDiv (eVar 4) (eC (.int 127773))) (eC (.int 31)))) (eC (.int 1013904223))) (eC (.int 2147483647))))
  (sRet (eBin fMod (eBin fAdd (eBin fDiv (eBin fIx (eVar 0) (eC (.int 3))) (eC (.int 97))) (eBin fMul (eBin fMod (eBin fIx (eVar 0) (eC (.int 3))) (eC (.int 8191))) (eC (.int 53)))) (eVar 1))))))
theorem pull_tail (l : List Int) (a : Nat) (big salt n : Int) (t : S) (hl : l.length ≤ 63) (hb : 0 ≤ big) (hs0 : 0 ≤ salt) (hs1 : salt < 2147483647)
    (h0 : 0 < n) (h1 : n < 1073741824) (x y z : EV) :
    ∃ (r : Int) (b' : Bag), 0 ≤ r ∧ r < n ∧ pullTail [.w (.r 0), .w (.d (.int n)), x, y, z] (bagCell l a big salt :: t) = .ret (.w (.d (.int r))) (b'.cell :: t) := by
  have k1 : ∀ x : Int, kMod x 2147483647 = true := fun x => kMod_ne (by decide)
  have k2 : ∀ x : Int, kMod x 8191 = true := fun x => kMod_ne (by decide)
  have k3 : ∀ x, kMod x n = true := fun x => kMod_ne (by omega)
  have hD : kDiv big n = true := kDiv_ok (by omega) (by omega)
  unfold pullTail
  by_cases hg : 0 < big
  · refine ⟨big.fmod n, ⟨l, a, big.fdiv n, salt, hl, Int.fdiv_nonneg hb (by omega), hs0, hs1⟩, Int.fmod_nonneg_of_pos _ h0, Int.fmod_lt_of_pos _ h0, ?_⟩
    simp [bagCell, Bag.cell, hg, k3, hD]
  · refine ⟨(((salt * 39373 + salt.fdiv 127773 * 31 + 1013904223).fmod 2147483647).fdiv 97 + ((salt * 39373 + salt.fdiv 127773 * 31 + 1013904223).fmod 2147483647).fmod 8191 * 53).fmod n,
      ⟨l, a, big, (salt * 39373 + salt.fdiv 127773 * 31 + 1013904223).fmod 2147483647, hl, hb, (mod_rng _).1, (mod_rng _).2⟩, Int.fmod_nonneg_of_pos _ h0, Int.fmod_lt_of_pos _ h0, ?_⟩
    simp [bagCell, Bag.cell, hg, k1, k2, k3, kMul, kDiv]
theorem pull_spec (b : Bag) (n : Int) (t : S) (h0 : 0 < n) (h1 : n < 1073741824) :
    ∃ (r : Int) (b' : Bag), 0 ≤ r ∧ r < n ∧ f_v_law_pull [.r 0, .d (.int n)] (b.cell :: t) = .ok (.w (.d (.int r))) (b'.cell :: t) := by
  have k1 : ∀ x : Int, kMod x 2147483647 = true := fun x => kMod_ne (by decide)
  have k2 : ∀ x : Int, kMod x 2147483629 = true := fun x => kMod_ne (by decide)
  obtain ⟨l, a, big, salt, hl, hb, hs0, hs1⟩ := b
  by_cases hc : big = 0 ∧ a < l.length
  · obtain ⟨rfl, ha⟩ := hc
    by_cases hx : (1000000000000000000 : Int) ≤ l[a]
    · obtain ⟨r, b', r0, r1, e⟩ := pull_tail l (a + 1) l[a] salt n t hl (by omega) hs0 hs1 h0 h1 (.w (.d (.int l[a]))) .no .no
      refine ⟨r, b', r0, r1, ?_⟩
      rw [show f_v_law_pull = runF 2 5 b_v_law_pull from rfl, show b_v_law_pull = sSeq _ pullTail from rfl]
      simp [runF, bagCell, Bag.cell, ha, hx, kPow, wD] at e ⊢
      rw [e]
    · obtain ⟨r, b', r0, r1, e⟩ := pull_tail l (a + 1) 0 ((salt * 69621 + l[a].fmod 2147483629 * 48271 + 5).fmod 2147483647) n t hl (by omega) (mod_rng _).1 (mod_rng _).2 h0 h1 (.w (.d (.int l[a]))) .no .no
      refine ⟨r, b', r0, r1, ?_⟩
      rw [show f_v_law_pull = runF 2 5 b_v_law_pull from rfl, show b_v_law_pull = sSeq _ pullTail from rfl]
      simp [runF, bagCell, Bag.cell, ha, hx, kPow, wD, kMul, k1, k2] at e ⊢
      rw [e]
  · obtain ⟨r, b', r0, r1, e⟩ := pull_tail l a big salt n t hl hb hs0 hs1 h0 h1 .no .no .no
    refine ⟨r, b', r0, r1, ?_⟩
    rw [show f_v_law_pull = runF 2 5 b_v_law_pull from rfl, show b_v_law_pull = sSeq _ pullTail from rfl]
    by_cases h2 : big = 0
    · subst h2
      have ha : ¬ a < l.length := fun h => hc ⟨rfl, h⟩
      simp [runF, bagCell, Bag.cell, ha] at e ⊢
      rw [e]
    · simp [runF, bagCell, Bag.cell, h2] at e ⊢
      rw [e]
theorem lcM_draw (tg : Tgt) (tst : Cmp Bool) (e : Cmp W) (ρ : Rho) (P : W → Prop) : ∀ (z : List W),
    (∀ w ∈ z, ∃ ρ1, tg w ρ = some ρ1 ∧ (∀ s, tst ρ1 s = .ok true s) ∧ ∀ (b : Bag) t, ∃ v, ∃ b' : Bag, P v ∧ e ρ1 (b.cell :: t) = .ok v (b'.cell :: t)) →
    ∀ (b : Bag) t, ∃ vs, ∃ b' : Bag, vs.length = z.length ∧ (∀ v ∈ vs, P v) ∧ lcM tg tst e ρ z (b.cell :: t) = .ok vs (b'.cell :: t)
  | [], _, b, t => ⟨[], b, rfl, by simp, rfl⟩
  | w :: r, h, b, t => by
    obtain ⟨ρ1, e1, e2, e3⟩ := h w (.head _)
    obtain ⟨v, b1, hv, e4⟩ := e3 b t
    obtain ⟨vs, b2, hl, hvs, e5⟩ := lcM_draw tg tst e ρ P r (fun w hw => h w (.tail _ hw)) b1 t
    refine ⟨v :: vs, b2, by simp [hl], ?_, ?_⟩
    · intro x hx
      cases hx with
      | head => exact hv
      | tail _ hx => exact hvs x hx
    · simp [lcM, e1, e2, e4, e5]
theorem bag_spec (ns : List Int) (h : ns.length ≤ 63) (s : S) : ∃ b : Bag, ∃ z, Cell.lst z = b.cell ∧ f_v_law_bag [.d (.scr (ns.map .int))] s = .ok (.own z) s := by
  obtain ⟨ρ2, s2, e, hs, x2, salt, s0, s1, hρ⟩ := forE_pre (tgName 2) (sSet 1 (eBin fMod (eBin fAdd (eBin fAdd (eBin fMul (eVar 1) (eC (.int 48271))) (eBin fMod (eVar 2) (eC (.int 2147483629)))) (eC (.int 11))) (eC (.int 2147483647))))
    (wD (ns.map .int)) (fun pre ρ s' => s' = s ∧ ∃ x2, ∃ salt : Int, 0 ≤ salt ∧ salt < 2147483647 ∧ ρ = [.w (.d (.scr (ns.map .int))), .w (.d (.int salt)), x2]) (by
      intro pre w r hz ρ s' ⟨hs, x2, salt, s0, s1, hρ⟩
      subst hs hρ
      have hw : w ∈ wD (ns.map .int) := by rw [hz]; simp
      unfold wD at hw
      obtain ⟨d, hd, rfl⟩ := List.mem_map.mp hw
      obtain ⟨i, hi, rfl⟩ := List.mem_map.mp hd
      refine ⟨_, rfl, ?_⟩
      refine ⟨_, _, by simp [kMul, kMod]; exact ⟨rfl, rfl⟩, rfl, _, _, (mod_rng _).1, (mod_rng _).2, rfl⟩) [.w (.d (.scr (ns.map .int))), .w (.d (.int 977)), .no] s ⟨rfl, _, 977, by decide, by decide, rfl⟩
  subst hs hρ
  have hc : cut (ns.map D.int) none (some 63) = ns.map D.int := cut_all _ (by simpa using h)
  refine ⟨⟨ns, 0, 0, salt, h, by decide, s0, s1⟩, [.d (.lst (ns.map .int)), .d (.int 0), .d (.int 0), .d (.int salt)], rfl, ?_⟩
  simp [f_v_law_bag, runF, b_v_law_bag, hc, e]
end TG

set_option linter.all false
set_option maxRecDepth 100000
namespace TG
open PySem L2
theorem far_spec (b : Bag) (t : S) : ∃ (x : Int) (b' : Bag), x.natAbs < 200000000000000000000 ∧ f_v_law_far [.r 0] (b.cell :: t) = .ok (.w (.d (.int x))) (b'.cell :: t) := by
  obtain ⟨x1, b1, p1, q1, h1⟩ := pull_spec b 1000000000 t (by decide) (by decide)
  obtain ⟨x2, b2, p2, q2, h2⟩ := pull_spec b1 2 t (by decide) (by decide)
  obtain ⟨x3, b3, p3, q3, h3⟩ := pull_spec b2 2 t (by decide) (by decide)
  by_cases c2 : x2 = 0 <;> by_cases c3 : x3 = 0
  all_goals
    refine ⟨?_, b3, ?g, ?h⟩
    case h => simp [f_v_law_far, runF, b_v_law_far, kPow, h1, h2, h3, c2, c3]; exact rfl
    case g => omega
end TG

set_option linter.all false
set_option maxRecDepth 100000
namespace TG
open PySem L2
end TG

set_option linter.all false
set_option maxRecDepth 100000
namespace TG
open PySem L2
end TG

set_option linter.all false
set_option maxRecDepth 100000
namespace TG
open PySem L2
end TG

set_option linter.all false
set_option maxRecDepth 100000
namespace TG
open PySem L2
theorem drops_spec (b : Bag) (t : S) : ∃ (l : List Int) (b' : Bag), 1 ≤ l.length ∧ l.length ≤ 9 ∧ (∀ x ∈ l, 0 ≤ x ∧ x ≤ 99) ∧ f_v_law_drops [.r 0] (b.cell :: t) = .ok (.w (.d (.tup (l.map D.int)))) (b'.cell :: t) := by
  obtain ⟨x1, b1, p1, q1, e1⟩ := pull_spec b 9 t (by omega) (by omega)
  obtain ⟨x2, b2, p2, q2, e2⟩ := pull_spec b1 5 t (by omega) (by omega)
  obtain ⟨x3, b3, p3, q3, e3⟩ := pull_spec b2 4 t (by omega) (by omega)
  obtain ⟨w, ⟨w0, w1⟩, ew⟩ := wide_spec x3 p3 q3 1 3 9 100 (fun w => 0 < w ∧ w ≤ 100) (by decide) (by decide) (by decide) (by decide)
  have hn : ∃ n : Int, 1 ≤ n ∧ n ≤ 9 ∧ atI (wD [.int 1, .int 3, .int 2, .int (1 + x1), .int 5]) x2 = some (.d (.int n)) := by
    rcases fifth x2 p2 q2 with rfl | rfl | rfl | rfl | rfl
    · exact ⟨1, by decide, by decide, rfl⟩
    · exact ⟨3, by decide, by decide, rfl⟩
    · exact ⟨2, by decide, by decide, rfl⟩
    · exact ⟨1 + x1, by omega, by omega, rfl⟩
    · exact ⟨5, by decide, by decide, rfl⟩
  obtain ⟨n, n0, n1, en⟩ := hn
  obtain ⟨vs, b4, f1, f2, f3⟩ := lcM_draw (tgName 3) eYes (eCall f_v_law_pull (eCons (eVar 0) (eCons (eVar 2) eNil))) (wipeR [.w (.r 0), .w (.d (.int n)), .w (.d (.int w)), .no] [3]) (fun v => ∃ i, v = .d (.int i) ∧ 0 ≤ i ∧ i ≤ 99) ((List.range n.toNat).map fun i : Nat => W.d (.int (i : Int))) (by
      intro w' hw
      refine ⟨_, rfl, fun s => rfl, ?_⟩
      intro b t
      obtain ⟨x, b', _, _, e⟩ := pull_spec b w t w0 (by omega)
      exact ⟨_, b', ⟨x, rfl, by omega, by omega⟩, by simp [wipeR, e]⟩) b3 t
  obtain ⟨l, rfl, hl, hl2⟩ := ints_of _ vs f2
  simp at f1
  refine ⟨l, b4, by omega, by omega, hl2, ?_⟩
  have hr : n < 1000000000 ∧ -1000000000 < n := by omega
  have hL : n.toNat ≤ 16777216 := by omega
  simp [f_v_law_drops, runF, b_v_law_drops, e1, e2, e3] at en ew ⊢
  simp [en, ew, hr, hL, f3, e3]
theorem pair_spec (b : Bag) (t : S) : ∃ (l : List Int) (m : Int) (b' : Bag), 1 ≤ l.length ∧ l.length ≤ 9 ∧ (∀ x ∈ l, 0 ≤ x ∧ x ≤ 99) ∧ 0 ≤ m ∧ m < l.length ∧ f_v_law_pair [.r 0] (b.cell :: t) = .ok (.w (.d (.tup [.tup (l.map D.int), .int m]))) (b'.cell :: t) := by
  obtain ⟨l, b1, h1, h2, h3, e1⟩ := drops_spec b t
  obtain ⟨m, b2, p2, q2, e2⟩ := pull_spec b1 l.length t (by omega) (by omega)
  refine ⟨l, m, b2, h1, h2, h3, p2, q2, ?_⟩
  simp [f_v_law_pair, runF, b_v_law_pair, e1, e2]
end TG

set_option linter.all false
set_option maxRecDepth 100000
namespace TG
open PySem L2
noncomputable def tryK (sub : Str → Str → Option Bool) (hs : List (Str × Stm)) : RS → RS
  | .exc c x ρ' s' => (match hdF sub c hs with | some (some k) => noExc (k ρ' s') | some none => .exc c x ρ' s' | none => .no)
  | r => r
@[simp] theorem sRaise0_eq (c : Str) (ρ : Rho) (s : S) : sRaise0 c ρ s = .exc c none ρ s := (rfl)
@[simp] theorem sTry_eq (sub : Str → Str → Option Bool) (b : Stm) (hs : List (Str × Stm)) (ρ : Rho) (s : S) : sTry sub b hs ρ s = tryK sub hs (b ρ s) := by
  show (match b ρ s with
  | .exc c x ρ' s' => (match hdF sub c hs with | some (some k) => noExc (k ρ' s') | some none => .exc c x ρ' s' | none => .no)
  | r => r) = tryK sub hs (b ρ s)
  cases b ρ s <;> rfl
@[simp] theorem tryK_ret (sub : Str → Str → Option Bool) (hs : List (Str × Stm)) (v : RV) (s : S) : tryK sub hs (.ret v s) = .ret v s := (rfl)
@[simp] theorem tryK_nx (sub : Str → Str → Option Bool) (hs : List (Str × Stm)) (ρ : Rho) (s : S) : tryK sub hs (.nx ρ s) = .nx ρ s := (rfl)
theorem tryK_exc (sub : Str → Str → Option Bool) (hs : List (Str × Stm)) (c : Str) (x : Option D) (ρ : Rho) (s : S) (k : Stm) (h : hdF sub c hs = some (some k)) : tryK sub hs (.exc c x ρ s) = noExc (k ρ s) := by
  show (match hdF sub c hs with | some (some k) => noExc (k ρ s) | some none => .exc c x ρ s | none => .no) = _
  rw [h]
@[simp] theorem noExc_ret (v : RV) (s : S) : noExc (.ret v s) = .ret v s := (rfl)
@[simp] theorem noExc_nx (ρ : Rho) (s : S) : noExc (.nx ρ s) = .nx ρ s := (rfl)
@[simp] theorem fIsN_eq (neg : Bool) (x : W) (s : S) : fIsN neg x s = .ok (.d (.bl (match x with | .d .non => !neg | _ => neg))) s := (rfl)
end TG

set_option linter.all false
set_option maxRecDepth 100000
namespace TG
open PySem L2
theorem wE_of {α : Type} {E : Str → Option D → S → Prop} {Q : α → S → Prop} {r : Res α} {a : α} {s : S} (e : r = .ok a s) (h : Q a s) : wE E Q r := by rw [e]; exact .ok h
noncomputable def BS (t s : S) : Prop := ∃ b : Bag, s = b.cell :: t
theorem bs {b : Bag} {t : S} : BS t (b.cell :: t) := ⟨b, rfl⟩
noncomputable abbrev intsD (l : List Int) : W := .d (.tup (l.map .int))
theorem pull_wp (b : Bag) (n : Int) (t : S) (h0 : 0 < n) (h1 : n < 1073741824) : wE nE (fun v s => ∃ x b', v = .w (.d (.int x)) ∧ s = Bag.cell b' :: t ∧ 0 ≤ x ∧ x < n) (f_v_law_pull [.r 0, .d (.int n)] (b.cell :: t)) := by
  obtain ⟨x, b', p, q, e⟩ := pull_spec b n t h0 h1
  exact wE_of e ⟨x, b', rfl, rfl, p, q⟩
structure GoodF (l : List Int) (m : Int) : Prop where
  l1 : 1 ≤ l.length
  l9 : l.length ≤ 9
  dr : ∀ x ∈ l, 0 ≤ x ∧ x ≤ 99
  m0 : 0 ≤ m
  m1 : m < l.length
theorem pair_wp (b : Bag) (t : S) : wE nE (fun v s => ∃ (l : List Int) (m : Int) (b' : Bag), v = .w (.d (.tup [.tup (l.map .int), .int m])) ∧ s = b'.cell :: t ∧ GoodF l m) (f_v_law_pair [.r 0] (b.cell :: t)) := by
  obtain ⟨l, m, b', h1, h2, h3, h4, h5, e⟩ := pair_spec b t
  exact wE_of e ⟨l, m, b', rfl, rfl, ⟨h1, h2, h3, h4, h5⟩⟩
theorem bag_wp (ns : List Int) (h : ns.length ≤ 63) (s : S) : wE nE (fun v s' => ∃ (b : Bag) (z : List W), v = .own z ∧ Cell.lst z = b.cell ∧ s' = s) (f_v_law_bag [.d (.scr (ns.map .int))] s) := by
  obtain ⟨b, z, hz, e⟩ := bag_spec ns h s
  exact wE_of e ⟨b, z, rfl, hz, rfl⟩
theorem three (x : Int) (h0 : 0 ≤ x) (h1 : x < 3) (p q r : Int) : ∃ y, (y = p ∨ y = q ∨ y = r) ∧ atI (wD [.int p, .int q, .int r]) x = some (.d (.int y)) := by
  rcases third x h0 h1 with rfl | rfl | rfl
  · exact ⟨p, .inl rfl, rfl⟩
  · exact ⟨q, .inr (.inl rfl), rfl⟩
  · exact ⟨r, .inr (.inr rfl), rfl⟩
end TG

set_option linter.all false
set_option maxRecDepth 100000
namespace TG
open PySem L2
noncomputable def footD (l : List Int) (m : Int) : D := .ins "Foot" [("drops", .tup (l.map .int)), ("middle", .int m)]
@[simp] theorem fld_drops (l : List Int) (m : Int) (s : S) : fldOf "Foot" "drops" (.d (footD l m)) s = some (.d (.tup (l.map .int))) := rfl
@[simp] theorem fld_middle (l : List Int) (m : Int) (s : S) : fldOf "Foot" "middle" (.d (footD l m)) s = some (.d (.int m)) := rfl
noncomputable def maxI (l : List Int) : Int := l.max?.getD 0
theorem maxI_some {l : List Int} (h : l ≠ []) : l.max? = some (maxI l) := by
  cases l with
  | nil => exact absurd rfl h
  | cons a r => rfl
noncomputable def cellV (rim : List Int) (c : Int) : Int := rim[(c.fmod rim.length).toNat]?.getD 0
noncomputable def liftV (rim l : List Int) (m a : Int) : Int := maxI (l.mapIdx fun i d => cellV rim (a + (i : Nat) - m) - d)
theorem goodDrops_eq (l : List Int) (s : S) (h : 1 ≤ l.length) (h' : l.length ≤ 9) (hl : ∀ x ∈ l, 0 ≤ x ∧ x ≤ 99) : f_good_drops [.d (.tup (l.map .int))] s = .ok (.w (.d (.bl true))) s := by
  have e3 := lcM_map (tgName 1) eYes (eChain fLe fLe (eC (.int 0)) (eVar 1) (eC (.int 99))) (wipeR [.w (.d (.tup (l.map .int))), .no] [1]) (fun _ => .d (.bl true)) s (wD (l.map .int)) (by
    intro w hw
    unfold wD at hw
    obtain ⟨d, hd, rfl⟩ := List.mem_map.mp hw
    obtain ⟨i, hi, rfl⟩ := List.mem_map.mp hd
    refine ⟨_, rfl, rfl, ?_⟩
    simp [wipeR, (hl i hi).1, (hl i hi).2])
  have e4 : (wD (l.map .int)).map (fun _ => W.d (.bl true)) = wD ((List.replicate l.length true).map .bl) := by
    simp [wD, List.eq_replicate_iff]
  rw [e4] at e3
  have hL : l.length ≤ 16777216 := by omega
  have h1 : (1 : Int) ≤ l.length := by omega
  have h2 : (l.length : Int) ≤ 9 := by omega
  have h3 := fAll_bls (List.replicate l.length true) s
  simp at h3 e3
  simp [f_good_drops, runF, b_good_drops, h1, h2, hL, e3, h3]
theorem goodFoot_eq (l : List Int) (m : Int) (s : S) (h : 1 ≤ l.length) (h' : l.length ≤ 9) (hl : ∀ x ∈ l, 0 ≤ x ∧ x ≤ 99) (h0 : 0 ≤ m) (h1 : m < l.length) : f_good_foot [.d (.tup (l.map .int)), .d (.int m)] s = .ok (.w (.d (.bl true))) s := by
  simp [f_good_foot, runF, b_good_foot, goodDrops_eq l s h h' hl, h0, h1]
theorem footInit_eq (l : List Int) (m : Int) (s : S) (h : 1 ≤ l.length) (h' : l.length ≤ 9) (hl : ∀ x ∈ l, 0 ≤ x ∧ x ≤ 99) (h0 : 0 ≤ m) (h1 : m < l.length) :
    f_Foot_init [.r s.length, .d (.tup (l.map .int)), .d (.int m)] (s ++ [.ins "Foot" []]) = .ok (.w (.d .non)) (s ++ [.ins "Foot" [("drops", .d (.tup (l.map .int))), ("middle", .d (.int m))]]) := by
  have e1 : setF "Foot" "drops" (.r s.length) (.d (.tup (l.map .int))) (s ++ [.ins "Foot" []]) = some (s ++ [.ins "Foot" [("drops", .d (.tup (l.map .int)))]]) := by
    simp [setF, putW]
  have e2 : setF "Foot" "middle" (.r s.length) (.d (.int m)) (s ++ [.ins "Foot" [("drops", .d (.tup (l.map .int)))]]) = some (s ++ [.ins "Foot" [("drops", .d (.tup (l.map .int))), ("middle", .d (.int m))]]) := by
    simp [setF, putW]
    decide
  simp [f_Foot_init, runF, b_Foot_init, goodFoot_eq l m _ h h' hl h0 h1, e1, e2]
theorem foot_made (l : List Int) (m : Int) (s : S) (h : 1 ≤ l.length) (h' : l.length ≤ 9) (hl : ∀ x ∈ l, 0 ≤ x ∧ x ≤ 99) (h0 : 0 ≤ m) (h1 : m < l.length) :
    madeD "Foot" s (f_Foot_init [.r s.length, .d (.tup (l.map .int)), .d (.int m)] (s ++ [.ins "Foot" []])) = .ok (.d (footD l m)) s := by
  rw [footInit_eq l m s h h' hl h0 h1]
  simp [madeD, allDataF, footD]
end TG

set_option linter.all false
set_option maxRecDepth 100000
namespace TG
open PySem L2
mutual
noncomputable def D.plain : D → Bool
  | .non => true | .bl _ => true | .int _ => true | .str x => (PyData.str x).canLay0
  | .tup l => D.plains l | .lst l => D.plains l
  | _ => false
noncomputable def D.plains : List D → Bool
  | [] => true
  | x :: r => D.plain x && D.plains r
end
mutual
noncomputable def D.dep : D → Nat
  | .tup l => D.deps l + 1 | .lst l => D.deps l + 1
  | _ => 0
noncomputable def D.deps : List D → Nat
  | [] => 0
  | x :: r => max (D.dep x) (D.deps r)
end
mutual
theorem plain_py : ∀ {d : D}, d.plain = true → d.py.canLay0 = true ∧ d.py.depth = d.dep ∧ PyData.eqv d.py d.py = true
  | .non, _ => ⟨rfl, rfl, rfl⟩
  | .bl b, _ => ⟨rfl, rfl, by simp [D.py, PyData.eqv]⟩
  | .int i, _ => ⟨rfl, rfl, by simp [D.py, PyData.eqv]⟩
  | .str x, h => ⟨h, rfl, by simp [D.py, PyData.eqv]⟩
  | .tup l, h => by
    have q := plains_py (l := l) (by simpa [D.plain] using h)
    exact ⟨by simpa [D.py, PyData.canLay0] using q.1, by simp [D.py, PyData.depth, D.dep, q.2.1], by simpa [D.py, PyData.eqv] using q.2.2⟩
  | .lst l, h => by
    have q := plains_py (l := l) (by simpa [D.plain] using h)
    exact ⟨by simpa [D.py, PyData.canLay0] using q.1, by simp [D.py, PyData.depth, D.dep, q.2.1], by simpa [D.py, PyData.eqv] using q.2.2⟩
  | .dic _, h => by cases h
  | .ins _ _, h => by cases h
  | .scr _, h => by cases h
theorem plains_py : ∀ {l : List D}, D.plains l = true → PyData.canLayAll0 (D.pys l) = true ∧ PyData.depthAll (D.pys l) = D.deps l ∧ PyData.eqvAll (D.pys l) (D.pys l) = true
  | [], _ => ⟨rfl, rfl, rfl⟩
  | x :: r, h => by
    simp only [D.plains, Bool.and_eq_true] at h
    have q1 := plain_py h.1
    have q2 := plains_py h.2
    exact ⟨by simp [D.pys, PyData.canLayAll0, q1.1, q2.1], by simp [D.pys, PyData.depthAll, D.deps, q1.2.1, q2.2.1], by simp [D.pys, PyData.eqvAll, q1.2.2, q2.2.2]⟩
end
theorem shaped_of {d : D} (h : d.plain = true) (k : d.dep ≤ 64) : SeqAt.shaped d.py = true := by
  have q := plain_py h
  simp [SeqAt.shaped, q.1, q.2.1, k]
theorem fEq_refl (neg : Bool) (d : D) (s : S) (h : d.plain = true) (k : d.dep ≤ 64) : fEq neg (.d d) (.d d) s = .ok (.d (.bl (!neg))) s := by
  have q := plain_py h
  cases neg <;> simp [fEq, asData, eqD, shaped_of h k, q.2.2]
@[simp] theorem fEq_bl (neg : Bool) (a b : Bool) (s : S) : fEq neg (.d (.bl a)) (.d (.bl b)) s = .ok (.d (.bl (if neg then !(a == b) else a == b))) s := by
  simp [fEq, asData, eqD, D.py, SeqAt.shaped, PyData.canLay0, PyData.depth, PyData.eqv]
@[simp] theorem plain_int (i : Int) : (D.int i).plain = true := rfl
@[simp] theorem plain_bl (i : Bool) : (D.bl i).plain = true := rfl
@[simp] theorem plain_non : D.non.plain = true := rfl
@[simp] theorem plain_tup (l : List D) : (D.tup l).plain = D.plains l := by rw [D.plain]
@[simp] theorem plain_lst (l : List D) : (D.lst l).plain = D.plains l := by rw [D.plain]
theorem plains_iff {l : List D} : D.plains l = true ↔ ∀ x ∈ l, x.plain = true := by
  induction l with
  | nil => simp [D.plains]
  | cons a r ih => simp [D.plains, ih]
theorem deps_le {l : List D} {n : Nat} : D.deps l ≤ n ↔ ∀ x ∈ l, x.dep ≤ n := by
  induction l with
  | nil => simp [D.deps]
  | cons a r ih => simp [D.deps, ih, Nat.max_le]
@[simp] theorem plains_ints (l : List Int) : D.plains (l.map D.int) = true := plains_iff.mpr (by simp)
theorem deps_ints (l : List Int) : D.deps (l.map D.int) = 0 := Nat.le_zero.mp (deps_le.mpr (by simp [D.dep]))
theorem dep_tup (l : List D) : (D.tup l).dep = D.deps l + 1 := by rw [D.dep]
theorem dep_lst (l : List D) : (D.lst l).dep = D.deps l + 1 := by rw [D.dep]
@[simp] theorem kb_it : kitB "int" "tuple" = some false := by decide +kernel
@[simp] theorem kb_il : kitB "int" "list" = some false := by decide +kernel
@[simp] theorem kb_ib : kitB "int" "bool" = some false := by decide +kernel
@[simp] theorem kb_ii : kitB "int" "int" = some true := by decide +kernel
@[simp] theorem kb_bt : kitB "bool" "tuple" = some false := by decide +kernel
@[simp] theorem kb_bl : kitB "bool" "list" = some false := by decide +kernel
@[simp] theorem kb_bb : kitB "bool" "bool" = some true := by decide +kernel
@[simp] theorem kb_bi : kitB "bool" "int" = some true := by decide +kernel
@[simp] theorem kb_nt : kitB "NoneType" "tuple" = some false := by decide +kernel
@[simp] theorem kb_nl : kitB "NoneType" "list" = some false := by decide +kernel
@[simp] theorem kb_nb : kitB "NoneType" "bool" = some false := by decide +kernel
@[simp] theorem kb_ni : kitB "NoneType" "int" = some false := by decide +kernel
@[simp] theorem kb_st : kitB "str" "tuple" = some false := by decide +kernel
@[simp] theorem kb_sl : kitB "str" "list" = some false := by decide +kernel
@[simp] theorem kb_sb : kitB "str" "bool" = some false := by decide +kernel
@[simp] theorem kb_si : kitB "str" "int" = some false := by decide +kernel
@[simp] theorem kb_tt : kitB "tuple" "tuple" = some true := by decide +kernel
@[simp] theorem kb_tl : kitB "tuple" "list" = some false := by decide +kernel
@[simp] theorem kb_tb : kitB "tuple" "bool" = some false := by decide +kernel
@[simp] theorem kb_ti : kitB "tuple" "int" = some false := by decide +kernel
@[simp] theorem kb_lt : kitB "list" "tuple" = some false := by decide +kernel
@[simp] theorem kb_ll : kitB "list" "list" = some true := by decide +kernel
@[simp] theorem kb_lb : kitB "list" "bool" = some false := by decide +kernel
@[simp] theorem kb_li : kitB "list" "int" = some false := by decide +kernel
@[simp] theorem fIsi_eq (t : String) (x : W) (s : S) : fIsi t x s = match tyW x s with | some a => (match kitB a t with | some b => .ok (.d (.bl b)) s | none => .no) | none => .no := (rfl)
@[simp] theorem fIsi2_eq (t u : String) (x : W) (s : S) : fIsi2 t u x s = match tyW x s with | some a => (match kitB a t, kitB a u with | some b, some c => .ok (.d (.bl (b || c))) s | _, _ => .no) | none => .no := (rfl)
@[simp] theorem tyW_d (d : D) (s : S) : tyW (.d d) s = tyD d := (rfl)
@[simp] theorem tyD_non : tyD .non = some "NoneType" := (rfl)
@[simp] theorem tyD_bl (b : Bool) : tyD (.bl b) = some "bool" := (rfl)
@[simp] theorem tyD_int (b : Int) : tyD (.int b) = some "int" := (rfl)
@[simp] theorem tyD_str (b : Str) : tyD (.str b) = some "str" := (rfl)
@[simp] theorem tyD_tup (b : List D) : tyD (.tup b) = some "tuple" := (rfl)
@[simp] theorem tyD_lst (b : List D) : tyD (.lst b) = some "list" := (rfl)
mutual
noncomputable def D.slim : D → Bool
  | .tup l => decide (l.length ≤ 1000) && D.slims l
  | .lst l => decide (l.length ≤ 1000) && D.slims l
  | _ => true
noncomputable def D.slims : List D → Bool
  | [] => true
  | x :: r => D.slim x && D.slims r
end
theorem slims_iff {l : List D} : D.slims l = true ↔ ∀ x ∈ l, x.slim = true := by
  induction l with
  | nil => simp [D.slims]
  | cons a r ih => simp [D.slims, ih]
theorem all_true (n : Nat) (s : S) : fAll (.d (.lst (List.replicate n (D.bl true)))) s = .ok (.d (.bl true)) s := by
  have h := fAll_bls (List.replicate n true) s
  simpa using h
theorem like_many (n : Nat) (l : List D) (x y : D) (hx : ∀ s, asSeq (.d x) s = some (wD l)) (s : S) (ih : ∀ d ∈ l, f_v_law_like n [.d d, .d d] s = .ok (.w (.d (.bl true))) s) :
    lcM (tgName 2) eYes (eCall (f_v_law_like n) (eCons (eBin fIx (eVar 0) (eVar 2)) (eCons (eBin fIx (eVar 1) (eVar 2)) eNil))) (wipeR [.w (.d x), .w (.d x), .no] [2]) ((List.range l.length).map fun i : Nat => W.d (.int (i : Int))) s = .ok (wD (List.replicate l.length (.bl true))) s := by
  rw [lcM_map (g := fun _ => .d (.bl true))]
  · simp [wD, List.eq_replicate_iff]
  · intro w hw
    obtain ⟨i, hi, rfl⟩ := List.mem_map.mp hw
    have hi := List.mem_range.mp hi
    refine ⟨_, rfl, rfl, ?_⟩
    have e : (wD l)[i]? = some (.d l[i]) := by simp [wD, hi]
    simp [wipeR, hx, e, ih l[i] (List.getElem_mem hi)]
theorem like_refl : ∀ (n : Nat) (d : D) (s : S), d.plain = true → d.slim = true → d.dep < n → n ≤ 64 → f_v_law_like n [.d d, .d d] s = .ok (.w (.d (.bl true))) s
  | 0, _, _, _, _, h, _ => by omega
  | n + 1, d, s, hp, hs, hd, hn => by
    have rf := fun neg => fEq_refl neg d s hp (by omega)
    rw [show f_v_law_like (n + 1) = runF 2 3 (b_v_law_like (f_v_law_like n)) from rfl]
    cases d with
    | non => simp [runF, b_v_law_like, rf]
    | bl b => simp [runF, b_v_law_like]
    | int i => simp [runF, b_v_law_like]
    | str x => simp [runF, b_v_law_like, rf]
    | tup l =>
      rw [D.slim, Bool.and_eq_true] at hs
      have hl : l.length ≤ 1000 := of_decide_eq_true hs.1
      rw [dep_tup] at hd
      have ih := like_many n l (.tup l) (.tup l) (fun _ => rfl) s fun d hdl => like_refl n d s (plains_iff.mp (by simpa using hp) d hdl) (slims_iff.mp hs.2 d hdl) (by have := deps_le.mp (Nat.le_refl (D.deps l)) d hdl; omega) (by omega)
      have hL : l.length ≤ 16777216 := by omega
      simp [runF, b_v_law_like, rng1_nat _ _ hl, hL, ih, all_true, -rng1_eq]
    | lst l =>
      rw [D.slim, Bool.and_eq_true] at hs
      have hl : l.length ≤ 1000 := of_decide_eq_true hs.1
      rw [dep_lst] at hd
      have ih := like_many n l (.lst l) (.lst l) (fun _ => rfl) s fun d hdl => like_refl n d s (plains_iff.mp (by simpa using hp) d hdl) (slims_iff.mp hs.2 d hdl) (by have := deps_le.mp (Nat.le_refl (D.deps l)) d hdl; omega) (by omega)
      have hL : l.length ≤ 16777216 := by omega
      simp [runF, b_v_law_like, rng1_nat _ _ hl, hL, ih, all_true, -rng1_eq]
    | dic _ => cases hp
    | ins _ _ => cases hp
    | scr _ => cases hp
end TG

set_option linter.all false
set_option maxRecDepth 100000
namespace TG
open PySem L2
end TG

set_option linter.all false
set_option maxRecDepth 100000
namespace TG
open PySem L2
@[simp] theorem eSortSet_eq (a : Cmp (List W)) (ρ : Rho) (s : S) : eSortSet a ρ s = (a ρ s).bind kSortSet := (rfl)
@[simp] theorem kSortSet_eq (x : W) (s : S) : kSortSet [x] s = match asIntsL x s with | some l => if l.length < 64 then .ok (wD ((sortD l).map D.int)) s else .no | none => .no := (rfl)
@[simp] theorem sRetC_eq (f : Sem1) (a : Cmp (List W)) (ρ : Rho) (s : S) : sRetC f a ρ s = ebS (a ρ s) ρ (kRetC f) := (rfl)
@[simp] theorem kRetC_eq (f : Sem1) (ws : List W) (ρ : Rho) (s : S) : kRetC f ws ρ s = match f ws s with
  | .ok rv s' => .ret rv s'
  | .exc c x s' => .exc c x ρ s'
  | .no => .no := (rfl)
@[simp] theorem eIxO_eq (i : Nat) (e : Cmp W) (ρ : Rho) (s : S) : eIxO i e ρ s = match (ρ[i]? : Option EV) with | some (.own l) => (e ρ s).bind (kIxO l) | _ => .no := (rfl)
@[simp] theorem kIxO_eq (l : List W) (y : W) (s : S) : kIxO l y s = match asInt y with | some k => (match atI l k with | some w => .ok w s | none => .no) | none => .no := (rfl)
@[simp] theorem eLenO_eq (i : Nat) (ρ : Rho) (s : S) : eLenO i ρ s = match (ρ[i]? : Option EV) with | some (.own l) => .ok (.d (.int l.length)) s | _ => .no := (rfl)
@[simp] theorem kSetIO2_eq (i : Nat) (l : List W) (x z : W) (ρ : Rho) (s : S) : kSetIO2 i l x z ρ s = match asInt z with | some k => (match ixN l.length k with | some j => .nx (ρ.set i (.own (l.set j x))) s | none => .no) | none => .no := (rfl)
@[simp] theorem kSetIO_eq (i : Nat) (k : Cmp W) (x : W) (ρ : Rho) (s : S) : kSetIO i k x ρ s = match (ρ[i]? : Option EV) with | some (.own l) => ebS (k ρ s) ρ (kSetIO2 i l x) | _ => .no := (rfl)
@[simp] theorem sSetIO_eq (i : Nat) (k v : Cmp W) (ρ : Rho) (s : S) : sSetIO i k v ρ s = ebS (v ρ s) ρ (kSetIO i k) := (rfl)
@[simp] theorem kExt_eq (i : Nat) (l : List W) (y : W) (ρ : Rho) (s : S) : kExt i l y ρ s = match asLst y s with | some zs => if l.length + zs.length ≤ 16777216 then .nx (ρ.set i (.own (l ++ zs))) s else .no | none => .no := (rfl)
@[simp] theorem sExt_eq (i : Nat) (e : Cmp W) (ρ : Rho) (s : S) : sExt i e ρ s = match (ρ[i]? : Option EV) with | some (.own l) => ebS (e ρ s) ρ (kExt i l) | _ => .no := (rfl)
@[simp] theorem kAppC2_eq (x y : W) (ρ : Rho) (s : S) : kAppC2 x y ρ s = match appC x y s with | some s' => .nx ρ s' | none => .no := (rfl)
@[simp] theorem kAppC_eq (e : Cmp W) (x : W) (ρ : Rho) (s : S) : kAppC e x ρ s = if isCL x s = true then ebS (e ρ s) ρ (kAppC2 x) else .no := (rfl)
@[simp] theorem sAppC_eq (o e : Cmp W) (ρ : Rho) (s : S) : sAppC o e ρ s = ebS (o ρ s) ρ (kAppC e) := (rfl)
@[simp] theorem appC_eq (n : Nat) (v : W) (s : S) : appC (.r n) v s = match s[n]? with | some (.lst l) => if l.length < 16777216 then some (s.set n (.lst (l ++ [v]))) else none | _ => none := (rfl)
@[simp] theorem isCL_eq (n : Nat) (s : S) : isCL (.r n) s = match s[n]? with | some (.lst _) => true | _ => false := (rfl)
@[simp] theorem kProm_eq (rv : RV) (s : S) : kProm rv s = match rv with
  | .w x => .ok x s
  | .own l => .ok (.r s.length) (s ++ [.lst l])
  | .ownD l => .ok (.r s.length) (s ++ [.dic l]) := (rfl)
@[simp] theorem kCallC_eq (f : Sem1) (ws : List W) (s : S) : kCallC f ws s = (f ws s).bind kProm := (rfl)
@[simp] theorem eCallC_eq (f : Sem1) (a : Cmp (List W)) (ρ : Rho) (s : S) : eCallC f a ρ s = (a ρ s).bind (kCallC f) := (rfl)
@[simp] theorem tyW_r (n : Nat) (s : S) : tyW (.r n) s = match s[n]? with | some (.lst _) => some "list" | some (.dic _) => some "dict" | some (.tup _) => some "tuple" | _ => none := (rfl)
noncomputable def spotL (n : Int) (l : List Int) (m a : Int) : List (Int × Int) := (List.range l.length).map fun i : Nat => ((a + i - m).fmod n, l.getD i 0)
theorem like_int (i : Int) (s : S) : f_v_law_like 12 [.d (.int i), .d (.int i)] s = .ok (.w (.d (.bl true))) s := like_refl 12 _ s rfl rfl (by simp [D.dep]) (by decide)
theorem like_ints (l : List Int) (s : S) (h : l.length ≤ 1000) : f_v_law_like 12 [intsD l, intsD l] s = .ok (.w (.d (.bl true))) s :=
  like_refl 12 _ s (by simp) (by rw [D.slim, Bool.and_eq_true]; exact ⟨by simpa using h, slims_iff.mpr (by simp [D.slim])⟩) (by rw [dep_tup, deps_ints]; decide) (by decide)
end TG

set_option linter.all false
set_option maxRecDepth 100000
namespace TG
open PySem L2
end TG

set_option linter.all false
set_option maxRecDepth 100000
namespace TG
open PySem L2
@[simp] theorem kZipS_eq (l r : List D) (s : S) : kZipS [.d (.tup l), .d (.tup r)] s = if l.length = r.length then .ok (zipD l r) s else .no := (rfl)
@[simp] theorem eZipS_eq (a : Cmp (List W)) (ρ : Rho) (s : S) : eZipS a ρ s = (a ρ s).bind kZipS := (rfl)
noncomputable def isRimB (l : List Int) : Bool := decide (3 ≤ l.length) && decide (l.length ≤ 48)
theorem isRim_eq (l : List Int) (s : S) : f_is_rim [.d (.tup (l.map .int))] s = .ok (.w (.d (.bl (isRimB l)))) s := by
  unfold isRimB
  by_cases h : 3 ≤ l.length
  · have h1 : (3 : Int) ≤ l.length := by omega
    by_cases h' : l.length ≤ 48
    · have h2 : (l.length : Int) ≤ 48 := by omega
      simp [f_is_rim, runF, b_is_rim, h, h1, h2, h']
    · have h2 : ¬ (l.length : Int) ≤ 48 := by omega
      simp [f_is_rim, runF, b_is_rim, h, h1, h2, h']
  · have h1 : ¬ (3 : Int) ≤ l.length := by omega
    simp [f_is_rim, runF, b_is_rim, h, h1]
theorem like_bl (b : Bool) (s : S) : f_v_law_like 12 [.d (.bl b), .d (.bl b)] s = .ok (.w (.d (.bl true))) s := like_refl 12 _ s rfl rfl (by simp [D.dep]) (by decide)
end TG

set_option linter.all false
set_option maxRecDepth 100000
namespace TG
open PySem L2
structure Wish where
  l : List Int
  m : Int
  a : Int
  row : List (Option (Int × Int))
noncomputable def rowD : Option (Int × Int) → D
  | none => .non
  | some p => .tup [.int p.1, .int p.2]
noncomputable def Wish.d (w : Wish) : D := .tup [footD w.l w.m, .int w.a, .tup (w.row.map rowD)]
noncomputable abbrev Ask := Nat × Int × Int
noncomputable def askedL (row : List (Option (Int × Int))) : List Ask := ((List.range row.length).filter fun p => (row.getD p none).isSome).map fun p => (p, ((row.getD p none).getD (0, 0)).1, ((row.getD p none).getD (0, 0)).2)
noncomputable abbrev Lim := Int × Int × Nat
noncomputable def limP (n : Int) (w : Wish) (q : Ask) : List Lim := (spotL n w.l w.m (w.a + q.1)).map fun c => (c.1, q.2.2 + c.2, q.1)
noncomputable def limL (n : Int) (w : Wish) : List Lim := (askedL w.row).flatMap (limP n w)
noncomputable def cutV (r : List Int) (c h : Int) : List Int := r.set c.toNat (min (r.getD c.toNat 0) h)
@[simp] theorem cutV_len (r : List Int) (c h : Int) : (cutV r c h).length = r.length := by simp [cutV]
theorem sIx_nat (n d c : Nat) (h : c ≤ n) : HT.sIx n d (some (c : Int)) = c := by
  have h0 : ¬ (c : Int) < 0 := by omega
  unfold HT.sIx
  simp only [h0, if_false]
  omega
theorem cut_take (l : List D) (c : Nat) (h : c ≤ l.length) : cut l none (some (c : Int)) = l.take c := by
  unfold cut
  rw [sIx_nat _ _ _ h]
  simp [HT.sIx]
theorem cut_drop (l : List D) (c : Nat) (h : c ≤ l.length) : cut l (some (c : Int)) none = l.drop c := by
  unfold cut
  rw [sIx_nat _ _ _ h]
  simp [HT.sIx]
  exact List.take_of_length_le (by rw [List.length_drop]; exact Nat.le_refl _)
end TG

set_option linter.all false
set_option maxRecDepth 100000
namespace TG
open PySem L2
noncomputable def cutAll (r : List Int) (ts : List Lim) : List Int := ts.foldl (fun r t => cutV r t.1 t.2.1) r
@[simp] theorem cutAll_len (ts : List Lim) (r : List Int) : (cutAll r ts).length = r.length := by
  unfold cutAll
  induction ts generalizing r with
  | nil => rfl
  | cons t ts ih => rw [List.foldl_cons, ih, cutV_len]
noncomputable def limsL (n : Int) (ws : List Wish) : List Lim := ws.flatMap (limL n)
noncomputable def fullV (r : List Int) (ws : List Wish) : List Int := cutAll r (limsL r.length ws)
@[simp] theorem fullV_len (r : List Int) (ws : List Wish) : (fullV r ws).length = r.length := cutAll_len _ _
end TG

set_option linter.all false
set_option maxRecDepth 100000
namespace TG
open PySem L2
theorem eqv_ints : ∀ (l r : List Int), PyData.eqvAll (D.pys (l.map .int)) (D.pys (r.map .int)) = (l == r)
  | [], [] => rfl
  | [], b :: r => rfl
  | a :: l, [] => rfl
  | a :: l, b :: r => by
    have := eqv_ints l r
    simp [D.pys, PyData.eqvAll, D.py, PyData.eqv, this]
theorem fEq_ints (neg : Bool) (l r : List Int) (s : S) : fEq neg (intsD l) (intsD r) s = .ok (.d (.bl (if neg then !(l == r) else l == r))) s := by
  have h1 := shaped_of (d := .tup (l.map .int)) (by simp) (by rw [dep_tup, deps_ints]; decide)
  have h2 := shaped_of (d := .tup (r.map .int)) (by simp) (by rw [dep_tup, deps_ints]; decide)
  have h3 : PyData.eqv (D.py (.tup (l.map .int))) (D.py (.tup (r.map .int))) = (l == r) := by
    simp only [D.py, PyData.eqv]
    exact eqv_ints l r
  cases neg <;> simp [fEq, asData, eqD, h1, h2, h3]
end TG

set_option linter.all false
set_option maxRecDepth 100000
namespace TG
open PySem L2
noncomputable def gt (r : List Int) (i : Nat) : Int := r.getD i 0
noncomputable def LeR (a b : List Int) : Prop := a.length = b.length ∧ ∀ i, i < a.length → gt a i ≤ gt b i
theorem LeR.refl (a : List Int) : LeR a a := ⟨rfl, fun _ _ => Int.le_refl _⟩
theorem LeR.trans {a b c : List Int} (h : LeR a b) (k : LeR b c) : LeR a c := ⟨h.1.trans k.1, fun i hi => Int.le_trans (h.2 i hi) (k.2 i (h.1 ▸ hi))⟩
end TG

set_option linter.all false
set_option maxRecDepth 100000
namespace TG
open PySem L2
end TG

set_option linter.all false
set_option maxRecDepth 100000
namespace TG
open PySem L2
noncomputable abbrev Foot := List Int × Int
end TG

set_option linter.all false
set_option maxRecDepth 100000
namespace TG
open PySem L2
noncomputable def RowOk (row : List (Option (Int × Int))) : Prop := ∀ q, some q ∈ row → q.1 ≤ q.2
theorem RowOk.sub {row row' : List (Option (Int × Int))} (h : RowOk row) (hs : ∀ o ∈ row', o ∈ row) : RowOk row' := fun q hq => h q (hs _ hq)
end TG

set_option linter.all false
set_option maxRecDepth 100000
namespace TG
open PySem L2
noncomputable def RowNear (rim l : List Int) (m a : Int) (row : List (Option (Int × Int))) : Prop := ∀ (p : Nat) (q : Int × Int), row[p]? = some (some q) → q.1 ≤ liftV rim l m (a + p) ∧ liftV rim l m (a + p) ≤ q.2 ∧ liftV rim l m (a + p) - 2 ≤ q.1
theorem RowNear.ok {rim l : List Int} {m a : Int} {row : List (Option (Int × Int))} (h : RowNear rim l m a row) : ∀ q, some q ∈ row → q.1 ≤ q.2 := fun q hq => by
  obtain ⟨p, hp⟩ := List.mem_iff_getElem?.mp hq
  have := h p q hp
  omega
end TG

set_option linter.all false
set_option maxRecDepth 100000
namespace TG
open PySem L2
theorem cut_wD (l : List D) (i j : Option Int) : cut (wD l) i j = wD (cut l i j) := by
  unfold cut wD
  rw [List.length_map, ← List.map_drop, ← List.map_take]
theorem fSl_lst (l : List D) (i j : Option Int) (s : S) : fSl (.d (.lst l)) i j s = .ok (.d (.lst (cut l i j))) s := by
  show (match allData (cut (wD l) i j) with | some ds => Res.ok (W.d (.lst ds)) s | none => .no) = _
  rw [cut_wD, allData_wD]
theorem cut_take' (l : List D) (c : Nat) : cut l none (some (c : Int)) = l.take c := by
  by_cases h : c ≤ l.length
  · exact cut_take l c h
  · have e : HT.sIx l.length l.length (some (c : Int)) = l.length := by
      unfold HT.sIx
      have h0 : ¬ ((c : Int) < 0) := by omega
      simp only [h0, if_false]
      omega
    unfold cut
    rw [e]
    simp [HT.sIx]
    rw [List.take_of_length_le (by omega)]
end TG

set_option linter.all false
set_option maxRecDepth 100000
namespace TG
open PySem L2
@[simp] theorem sAppPop_eq (j i : Nat) (e : Cmp W) (ρ : Rho) (s : S) : sAppPop j i e ρ s = match (ρ[j]? : Option EV) with
  | some (.own f) => (match (ρ[i]? : Option EV) with | some (.own l) => if i ≠ j then ebS (e ρ s) ρ (kPop j i f l) else .no | _ => .no)
  | _ => .no := (rfl)
@[simp] theorem kPop_eq (j i : Nat) (f l : List W) (y : W) (ρ : Rho) (s : S) : kPop j i f l y ρ s = match asInt y with
  | some k => (match ixN l.length k with
    | some n => (match l[n]? with
      | some w => if f.length < 16777216 ∧ l.length ≤ 16777216 then .nx ((ρ.set i (.own (l.eraseIdx n))).set j (.own (f ++ [w]))) s else .no
      | none => .no)
    | none => .no)
  | none => .no := (rfl)
end TG

set_option linter.all false
set_option maxRecDepth 100000
namespace TG
open PySem L2
noncomputable def EasyR (row : List (Option (Int × Int))) (row' : List (Option (Int × Int))) : Prop := row'.length = row.length ∧ ∀ (p : Nat) (q' : Int × Int), row'[p]? = some (some q') → ∃ q, row[p]? = some (some q) ∧ q'.1 ≤ q.1 ∧ q.2 ≤ q'.2
theorem EasyR.nil : EasyR [] [] := ⟨rfl, fun p q h => by simp at h⟩
end TG

set_option linter.all false
set_option maxRecDepth 100000
namespace TG
open PySem L2
@[simp] theorem eMaxD_eq (a : Cmp (List W)) (ρ : Rho) (s : S) : eMaxD a ρ s = (a ρ s).bind kMaxD := (rfl)
noncomputable def maxO : List Int → Option Int | [] => none | n :: ms => some (ms.foldl max n)
noncomputable def hgtD : Option Int → D | none => .non | some i => .int i
@[simp] theorem kMaxD_ints (l : List Int) (s : S) : kMaxD [.d (.lst (l.map D.int))] s = .ok (.d (hgtD (maxO l))) s := by
  show (match asIntsL (.d (.lst (l.map D.int))) s with
    | some [] => Res.ok (W.d .non) s
    | some (n :: ms) => .ok (.d (.int (ms.foldl max n))) s
    | none => .no) = _
  rw [asIntsL_ints]
  cases l <;> rfl
end TG

set_option linter.all false
set_option maxRecDepth 100000
namespace TG
open PySem L2
end TG

set_option Elab.async false
set_option linter.all false
set_option maxRecDepth 100000
set_option maxHeartbeats 4000000
namespace TG
open PySem PySem.Spec PyProof.Rows L2
section
variable (X : Cx) (cl : Str → Option Addr) (k : Nat)
inductive FL : List Expr → List Sem1 → Prop
  | nil : FL [] []
  | cons {x : Str} {p : Pos} {f : Sem1} {ps : List Str} {es : List Expr} {fs : List Sem1} (F : FnAt X.prog X.w X.K X.mg X.base cl k x ps f) (hg : Gl X x) (nd : (x == ("__debug__" : Str)) = false) (hs : starEach (.Name x p :: es) X.env = (false, eval (.Name x p) X.env) :: starEach es X.env) (r : FL es fs) : FL (.Name x p :: es) (f :: fs)
end
noncomputable def tAll (vs : List V) : TA := fun _ H Q => Q vs H
inductive FA (X : Cx) (cl : Str → Option Addr) (k : Nat) : List Addr → List Sem1 → Prop
  | nil : FA X cl k [] []
  | cons {a : Addr} {fd : FuncData} {f : Sem1} {ps : List Str} {as : List Addr} {fs : List Sem1} (h1 : PySem.W.keepIn X.K (.ref a) = true) (h2 : Binds X.K fd ps []) (h3 : FnOk X.prog X.w X.K X.mg X.base (L2.CX X.prog X.w) k a fd ps (spOf X.K cl f)) (r : FA X cl k as fs) : FA X cl k (a :: as) (f :: fs)
section
variable {X : Cx} {cl : Str → Option Addr} {Wx : WX} {k : Nat}
theorem FL.all : ∀ {es : List Expr} {fs : List Sem1}, FL X cl k es fs → ∃ as, FA X cl k as fs ∧ PA X es (tAll (as.map V.ref))
  | _, _, .nil => ⟨[], .nil, pa_nil⟩
  | _, _, .cons F hg nd hs r => by
    obtain ⟨a, fd, q1, q2, q3, q4⟩ := F.ex
    obtain ⟨as, h1, h2⟩ := r.all
    exact ⟨a :: as, .cons q2 q3 q4 h1, PA.weaken (pa_cons (pe_glob hg q1 (v := .ref a) rfl nd) h2 hs) fun σ H Q h => h⟩
theorem FA.len {as : List Addr} {fs : List Sem1} (h : FA X cl k as fs) : as.length = fs.length := by
  induction h with
  | nil => rfl
  | cons _ _ _ _ ih => simp [ih]
theorem FA.at {as : List Addr} {fs : List Sem1} (h : FA X cl k as fs) : ∀ {i : Nat} {f : Sem1}, fs[i]? = some f → ∃ a fd ps, as[i]? = some a ∧ PySem.W.keepIn X.K (.ref a) = true ∧ Binds X.K fd ps [] ∧ FnOk X.prog X.w X.K X.mg X.base (L2.CX X.prog X.w) k a fd ps (spOf X.K cl f) := by
  induction h with
  | nil => intro i f e; simp at e
  | @cons a fd g ps as fs h1 h2 h3 r ih =>
    intro i f e
    cases i with
    | zero =>
      simp at e
      subst e
      exact ⟨a, fd, ps, rfl, h1, h2, h3⟩
    | succ i => exact ih (by simpa using e)
end
end TG

set_option Elab.async false
set_option linter.all false
set_option maxRecDepth 100000
set_option maxHeartbeats 4000000
namespace TG
open PySem PySem.Spec PyProof.Rows L2
structure MethAt (P : Program) (w : World) (K : PySem.W.Frag) (mg : Str → Option Value) (base : Heap) (cl : Str → Option Addr) (k : Nat) (c m : Str) (ps : List Str) (f : Sem1) : Prop where
  ex : ∃ (C a : Addr) (fd : FuncData), cl c = some C ∧ Cls K C ∧ Meth K C m a ∧ Binds K fd ps [] ∧ FnOk P w K mg base (L2.CX P w) k a fd ps (spOf K cl f)
theorem MethAt.mono {P : Program} {w : World} {K : PySem.W.Frag} {mg : Str → Option Value} {base : Heap} {cl : Str → Option Addr} {j k : Nat} {c m : Str} {ps : List Str} {f : Sem1} (F : MethAt P w K mg base cl j c m ps f) (h : j ≤ k) : MethAt P w K mg base cl k c m ps f := by
  obtain ⟨C, a, fd, h1, h2, h3, h4, h5⟩ := F.ex
  exact ⟨C, a, fd, h1, h2, h3, h4, h5.mono h⟩
noncomputable def tMethA (C : Addr) (m : Str) (sp : Sp) (E : L2.St → XK) (ta : TE) (t : TA) : TE := fun σ H Q => ta σ H fun x H1 => ∃ a dx fs, x = .ref a ∧ H1 a = some (.ins C dx fs) ∧ fs.lookup m = none ∧ t σ H1 fun vs H2 => sp (.ref a :: vs) H2 Q (E σ)
section
variable {X : Cx} {CX : CXT} {k : Nat} {f C : Addr} {fd : FuncData} {ps : List Str} {sp : Sp} {E : L2.St → XK} {m : Str} {apos pos : Pos} {e o : Expr} {es : List Expr} {ta : TE} {t : TA}
theorem pe_methA {pl : Sem Bool} (he : PE X o ta) (c : Cls X.K C) (hm : Meth X.K C m f) (F : FnOk X.prog X.w X.K X.mg X.base CX k f fd ps sp) (hr : Room k X.A) (hb : Binds X.K fd ps []) (hx : ∀ σ, PassesAt CX X σ (E σ)) (ha : PA X (e :: es) t)
    (q1 : starEach (e :: es) X.env = (false, eval e X.env) :: starEach es X.env) (q2 : (backTo pos (starEach es X.env)).any (·.1) = false)
    (q3 : eval (.Call (.Attribute o m apos) (e :: es) [] pos) X.env = (do
      let ov ← eval o X.env
      standAt apos.atName
      let (f, first) ← holding [ov] (getMethod ov m pl)
      callWith pos f first (backTo pos (starEach (e :: es) X.env)) (backToKw pos (keywordEach [] X.env)))) : PE X (.Call (.Attribute o m apos) (e :: es) [] pos) (tMethA C m sp E ta t) :=
  ⟨fun pins s σ H Q I h => PySem.W.methodCall_KW (pl := pl) (thn (he.run pins s σ H _ I h) fun u s1 ⟨x, H1, I1, rx, a, dx, fs, ex, ea, l, q⟩ => by
    subst ex
    obtain rfl : u = Value.ref a := rx
    exact getmeth_ok I1 ea c hm l (PySem.W.callWith_K (first := [.ref a]) (h₀ := X.base) I.ok.mod.kin hm.kp (thn (ha.run pos pins s1 σ H1 _ I1 q) fun us s2 ⟨vs, H2, I2, r, qq⟩ => ⟨I2.kIn, run_fnS (us := .ref a :: us) (vs := .ref a :: vs) F hr hb (hx σ) I2 (.cons rfl r) qq⟩) q1 q2)) q3⟩
theorem pe_methA0 {pl : Sem Bool} (he : PE X o ta) (c : Cls X.K C) (hm : Meth X.K C m f) (F : FnOk X.prog X.w X.K X.mg X.base CX k f fd ps sp) (hr : Room k X.A) (hb : Binds X.K fd ps []) (hx : ∀ σ, PassesAt CX X σ (E σ))
    (q3 : eval (.Call (.Attribute o m apos) [] [] pos) X.env = (do
      let ov ← eval o X.env
      standAt apos.atName
      let (f, first) ← holding [ov] (getMethod ov m pl)
      callWith pos f first (backTo pos (starEach [] X.env)) (backToKw pos (keywordEach [] X.env)))) : PE X (.Call (.Attribute o m apos) [] [] pos) (tMethA C m sp E ta tNil) :=
  ⟨fun pins s σ H Q I h => PySem.W.methodCall_KW (pl := pl) (thn (he.run pins s σ H _ I h) fun u s1 ⟨x, H1, I1, rx, a, dx, fs, ex, ea, l, q⟩ => by
    subst ex
    obtain rfl : u = Value.ref a := rx
    exact getmeth_ok I1 ea c hm l (PySem.W.callWith_K0 (first := [.ref a]) I1.kIn hm.kp (run_fnS (us := [.ref a]) (vs := [.ref a]) F hr hb (hx σ) I1 (.cons rfl .nil) q))) q3⟩
end
noncomputable def insOf (c m : Str) (x : TG.W) (s : S) : Bool := match x with
  | .d (.ins c' l) => decide (c' = c) && (l.lookup m).isNone
  | .d _ => false
  | .r n => match s[n]? with | some (.ins c' l) => decide (c' = c) && (l.lookup m).isNone | _ => false
section
variable {K : PySem.W.Frag} {cl : Str → Option Addr} {H0 H : Hp} {mm : List Addr} {s : S}
theorem RepF.none {fs : List (Str × V)} {l : List (Str × TG.D)} {f : Str} (h : RepF K cl H0 fs l) (e : l.lookup f = none) : fs.lookup f = none := by
  induction l generalizing fs with
  | nil => cases h; rfl
  | cons a l ih =>
    obtain ⟨g, y⟩ := a
    cases h with
    | @cons _ v _ vs _ h1 h2 =>
      cases q : (f == g) with
      | true => simp [List.lookup, q] at e
      | false =>
        simp only [List.lookup, q] at e ⊢
        exact ih h2 e
theorem RepWK.none {fs : List (Str × V)} {l : List (Str × TG.W)} {f : Str} (h : RepWK K cl H0 mm fs l) (e : l.lookup f = none) : fs.lookup f = none := by
  induction h with
  | nil => rfl
  | @cons g v d vs ds h1 h2 ih =>
    cases q : (f == g) with
    | true => simp [List.lookup, q] at e
    | false =>
      simp only [List.lookup, q] at e ⊢
      exact ih e
theorem insOf_ok {c m : Str} {C : Addr} {v : V} {x : TG.W} (hC : cl c = some C) (st : Stt K cl H0 H mm s) (r : RepW K cl H0 mm v x) (e : insOf c m x s = true) : ∃ a dx fs, v = .ref a ∧ H a = some (.ins C dx fs) ∧ fs.lookup m = none := by
  cases x with
  | d x =>
    cases x with
    | ins c' l =>
      have e : (decide (c' = c) && (l.lookup m).isNone) = true := e
      rw [Bool.and_eq_true, decide_eq_true_eq, Option.isNone_iff_eq_none] at e
      obtain ⟨rfl, e2⟩ := e
      cases r with
      | ins h1 h2 h3 =>
        rw [hC] at h2
        cases h2
        exact ⟨_, _, _, rfl, st.sub _ _ h1, h3.none e2⟩
    | _ => exact Bool.noConfusion (show false = true from e)
  | r n =>
    obtain ⟨a, h1, rfl⟩ := r
    have e : (match s[n]? with | some (.ins c' l) => decide (c' = c) && (l.lookup m).isNone | _ => false) = true := e
    split at e
    · rename_i c' l hs
      rw [Bool.and_eq_true, decide_eq_true_eq, Option.isNone_iff_eq_none] at e
      obtain ⟨rfl, e2⟩ := e
      obtain ⟨_, C', dx, fs, k1, k2, k3⟩ := st.cell n a _ h1 hs
      rw [hC] at k2
      cases k2
      exact ⟨a, dx, fs, rfl, k1, k3.none e2⟩
    · cases e
end
noncomputable def kMeth2 {α : Type} (f : Sem1) (out : RV → S → Res α) (x : TG.W) : List TG.W → S → Res α := fun ws s => (f (x :: ws) s).bind out
noncomputable def kMeth {α : Type} (c m : Str) (f : Sem1) (out : RV → S → Res α) (a : Cmp (List TG.W)) (ρ : Rho) : TG.W → S → Res α := fun x s => if insOf c m x s = true then (a ρ s).bind (kMeth2 f out x) else .no
noncomputable def eMeth (c m : Str) (f : Sem1) (o : Cmp TG.W) (a : Cmp (List TG.W)) : Cmp TG.W := fun ρ s => (o ρ s).bind (kMeth c m f frzV a ρ)
section
variable {X : Cx} {cl : Str → Option Addr} {Wx : WX} {e o : Expr} {es : List Expr} {pos apos : Pos} {eo : Cmp TG.W} {el : Cmp (List TG.W)} {k : Nat} {c m : Str} {ps : List Str} {f : Sem1} {pl : Sem Bool}
theorem je_meth0 (ok : XOk X Wx) (hr : Room k X.A) (F : MethAt X.prog X.w X.K X.mg X.base cl k c m ps f) (ho : JE cl Wx X o eo)
    (q3 : eval (.Call (.Attribute o m apos) [] [] pos) X.env = (do
      let ov ← eval o X.env
      standAt apos.atName
      let (f, first) ← holding [ov] (getMethod ov m pl)
      callWith pos f first (backTo pos (starEach [] X.env)) (backToKw pos (keywordEach [] X.env))) := by rfl) : JE cl Wx X (.Call (.Attribute o m apos) [] [] pos) (eMeth c m f eo eNil) := by
  obtain ⟨C, a, fd, hC, h2, h3, h4, h5⟩ := F.ex
  refine PE.weaken (pe_methA0 ho h2 h3 h5 hr h4 (fun σ => passAt ok.tk σ) q3) fun σ H Q ⟨H0, mm, ow, s, ρ, cx, h⟩ => ⟨H0, mm, ow, s, ρ, cx, RunE.bind h fun x s1 v H1 H1' m1 g st rr h6 => ?_⟩
  by_cases hi : insOf c m x s1 = true
  · have h7 : RunE X.K cl (rrW X.K cl) Wx H1 H1' m1 σ Q (if insOf c m x s1 = true then (f [x] s1).bind frzV else .no) := h6
    rw [if_pos hi] at h7
    obtain ⟨p, dx, fs, rfl, k1, k2⟩ := insOf_ok hC st rr hi
    exact ⟨p, dx, fs, rfl, k1, k2, call_run st (.cons rr .nil) (call_frz st h7)⟩
  · have h7 : RunE X.K cl (rrW X.K cl) Wx H1 H1' m1 σ Q (if insOf c m x s1 = true then (f [x] s1).bind frzV else .no) := h6
    rw [if_neg hi] at h7
    exact h7.elim
end
end TG

set_option Elab.async false
set_option linter.all false
set_option maxRecDepth 100000
set_option maxHeartbeats 4000000
namespace NE
open PySem PySem.Spec PyProof.Rows PySem.SeqAt
section
variable {M : Model} {prog : Program} {w : World} {A : Around} {E : Value → Shared → Prop} {s : Shared} {K : PySem.W.Frag} {x C f h₀L : Addr} {ox : Obj} {od : Option Obj} {b : Value}
theorem ifBound_objNe {args : List Value} {Q : Option Value → Shared → Prop} (X : K.In s.heap) (I : PySem.W.InstAt s.heap x ox C od) (hs : PySem.W.findIn K (.ref C) "__ne__" = some (some (.builtin "object.__ne__")))
    (h : wpAny M A (call (.builtin "object.__ne__") (.ref x :: args)) (fun v => Q (some v)) E s) : wpAny M A (callSpecialIfBound? (.ref x) "__ne__" args) Q E s := by
  simp only [callSpecialIfBound?, bindSpecialIfBound?]
  refine wpAny_holding (wpAny_bind (wpAny_bind (wpAny_bind (I.type.here ((PySem.W.looks_findIn X hs).here ?_)))))
  refine wpAny_bind (wpAny_askSetting (wpAny_ite ?_))
  have fin : wpAny M A (call (.builtin "object.__ne__") ([.ref x] ++ args) >>= fun v => pure (some v)) Q E s := wpAny_bind (wpAny_mono h (fun v s' h' => wpAny_pure h') fun _ _ h' => h')
  split
  · exact wpAny_bind (wpAny_of_eq (F.cmp_object.ne.bind _) (wpAny_pure (by exact fin)))
  · exact wpAny_tryCatch (wpAny_bind (wpAny_of_eq (F.cmp_object.ne.bind _) (wpAny_pure (by exact fin))))
theorem objNe_entry (X : K.In s.heap) (I : PySem.W.InstAt s.heap x ox C od) (hs : PySem.W.findIn K (.ref C) "__eq__" = some (some (.ref f))) (hf : PySem.W.isFn K (.ref f) = true) (hu : A.units < cLine) {Q : Fin → Shared → Prop}
    (hcall : wpAny (model prog w) A (call (.ref f) [.ref x, b]) (fun v s' => v = .bool true ∧ Q (.done (.ret (.bool false))) s') E s) :
    wpAny (model prog w) A (Builtin.«object.__ne__» ⟨[.ref x, b], []⟩) Q E s := by
  unfold Builtin.«object.__ne__»
  repeat (first
    | with_reducible refine wpAny_cRoomFor hu ?_
    | (refine wpAny_bind (m := callSpecialIfBound? (.ref x) (Str.ofString "__eq__") [b])
        (PySem.W.ifBound_K X I hs hf (wpAny_mono hcall (fun r s' hr => by
          obtain ⟨rfl, hq⟩ := hr
          repeat (first | exact hq | exact wpAny_pure hq | exact wpAny_truthy_bool hq | (refine wpAny_bind (m := truthy (.bool _)) (wpAny_truthy_bool ?_)) | wp_step)) fun _ _ e => e)))
    | wp_step)
theorem rc_ne (X : K.In s.heap) (I : PySem.W.InstAt s.heap x ox C od) (hb : PySem.W.Looks (model prog w) s.heap (typeOf b) (.ref C)) (hm : PySem.W.mroIn K C (.type "object") = some true)
    (hn : PySem.W.findIn K (.ref C) "__ne__" = some (some (.builtin "object.__ne__")))
    (hs : PySem.W.findIn K (.ref C) "__eq__" = some (some (.ref f))) (hf : PySem.W.isFn K (.ref f) = true) (hu : A.units + 1 < cLine) {Q : Value → Shared → Prop}
    (hcall : wpAny (model prog w) A.in1 (call (.ref f) [.ref x, b]) (fun v s' => v = .bool true ∧ Q (.bool false) s') E s) :
    wpAny (model prog w) A (richCompare .NotEq (.ref x) b) Q E s := by
  have one : wpAny (model prog w) A (tryCompare (.ref x) "__ne__" b) (fun r s' => r = some (.bool false) ∧ Q (.bool false) s') E s := by
    unfold tryCompare
    refine wpAny_bind (ifBound_objNe X I hn (wpAny_call (codeAny_call_builtin F.cmp_object.ne.plain F.cmpEntry_ne (PySem.W.check_slot F.cmpKind_ne F.cmpSplit_ne (I.type.andThen (PySem.W.looks_mroIn X hm)) (F.cmpArgs_ne _ _)
      (objNe_entry (A := A.in1) X I hs hf hu (wpAny_mono hcall (fun v s' hv => ?_) fun _ _ e => e))))))
    obtain ⟨rfl, hq⟩ := hv
    first | exact ⟨rfl, wpAny_pure ⟨rfl, hq⟩⟩ | exact ⟨rfl, wpAny_pure (wpAny_pure ⟨rfl, hq⟩)⟩ | exact ⟨rfl, rfl, hq⟩
  unfold richCompare
  simp only [oneThing_ref]
  refine wpAny_holding (wpAny_bind (wpAny_cRoomFor (Nat.lt_of_succ_lt hu) ?_))
  refine wpAny_bind (I.type.here (wpAny_bind (hb.here ?_)))
  rw [cmpInfo_NotEq]
  dsimp only
  rw [show (Value.ref C != Value.ref C) = false from by simp]
  simp only [Bool.false_eq_true, if_false]
  refine wpAny_bind (wpAny_pure ?_)
  simp only [Bool.false_eq_true, if_false]
  refine wpAny_bind (wpAny_mono one (fun r s' z => ?_) fun _ _ e => e)
  obtain ⟨rfl, hq⟩ := z
  first | exact wpAny_pure hq | exact wpAny_pure (wpAny_pure hq)
end
end NE
namespace L2
open PySem PySem.Spec PyProof.Rows
theorem rc_neIns {X : Cx} {n : Nat} {CX : CXT} {C f : Addr} {fd : FuncData} {ps : List Str} {R : Addr → Addr → Hp → Prop} {E : XK} (F : FnOk X.prog X.w X.K X.mg X.base CX n f fd ps (spEq R))
    (hm : PySem.W.mroIn X.K C (.type "object") = some true) (hn : PySem.W.findIn X.K (.ref C) "__ne__" = some (some (.builtin "object.__ne__")))
    (hs : PySem.W.findIn X.K (.ref C) "__eq__" = some (some (.ref f))) (hf : PySem.W.isFn X.K (.ref f) = true) (hb : Binds X.K fd ps []) (hx : Passes CX X E)
    {A : Around} {pins : List (Addr × Obj)} {s : Shared} {σ : St} {H : Hp} {a b dx dy : Addr} {fs gs : List (Str × V)} (sb : Sub X (n + 1) A) (I : Inv X pins σ H s) (ha : H a = some (.ins C dx fs)) (hb' : H b = some (.ins C dy gs)) (hr : R a b H) :
    wpAny (model X.prog X.w) A (richCompare .NotEq (.ref a) (.ref b)) (fun r s' => r = .bool false ∧ ∃ H', Inv X pins σ H' s' ∧ Ext H H') X.xe s := by
  obtain ⟨mA, J, _⟩ := ins_get I.hok ha
  obtain ⟨mB, J', _⟩ := ins_get I.hok hb'
  obtain ⟨od, J, _⟩ := J.look
  obtain ⟨od', J', _⟩ := J'.look
  have hu : A.units + 1 < cLine := by have := sb.room.units; omega
  refine NE.rc_ne I.kIn J J'.type hm hn hs hf hu ?_
  have hsp : spEq R [.ref a, .ref b] H (fun v H' => v = .bl true ∧ Ext H H') E := ⟨a, b, rfl, hr, fun H' e => ⟨rfl, e⟩⟩
  have sb1 := sb.in1
  have e0 : Env0 X.prog X.w X.K X.mg X.base A.in1 X.stack s H := by
    have e := I.env0
    exact ⟨by rw [sb1.fr]; exact e.frames, e.mod, e.bs, e.bsz, e.funs, e.frf, e.hok, e.bare⟩
  have hl := F.len _ _ _ _ hsp
  have r2 : Vals [V.ref a, V.ref b] [Value.ref a, Value.ref b] := .cons rfl (.cons rfl .nil)
  refine wpAny_call (codeAny_mono (F.run A.in1 X.stack s H ⟨[.ref a, .ref b], []⟩ [.ref a, .ref b] [.ref a, .ref b] _ E sb1.room e0 (by
    have := hb s [.ref a, .ref b] I.kIn (by simpa using hl)
    simpa using this) r2 hsp) fun r s' hq => ?_)
  cases r with
  | error e => exact hx pins σ H s e s' I hq
  | ok fl =>
    cases fl with
    | ret w =>
      obtain ⟨z, H', I', rz, ez, ex⟩ := I.after hq
      subst ez
      cases rz
      exact ⟨rfl, rfl, H', I', ex⟩
    | next => exact False.elim hq
    | brk => exact False.elim hq
    | cont => exact False.elim hq
noncomputable def rMaxT (K : PySem.W.Frag) : List V → Hp → VK → Prop := fun vs H Q => ∃ (a : Addr) (n : Int) (ns : List Int), vs = [V.ref a] ∧ SqT K H a ((n :: ns).map V.int) ∧ Q (.int (ns.foldl max n)) H
theorem cr_maxT {X : Cx} (hc : X.calm = true) (hu : X.A.units + 1 < cLine) : CallR X (.builtin "max") (rMaxT X.K) := by
  intro pins s σ H vs us Q I r h
  obtain ⟨a, n, ns, rfl, hs, q⟩ := h
  obtain ⟨its, rv, hl, _⟩ := I.tuple hs
  rw [Vals.ref1 r]
  have hi : IntsAre its (n :: ns) := ints_of_vals rv
  refine PySem.W.max_tuple_data (I.ok.hd hc) hl (x := .int n) (xs := ns.map .int) (IntsAre.reads _ (by simpa using hi)) (alike_ints (n :: ns)) (by rw [show (PyData.int n :: ns.map PyData.int) = (n :: ns).map PyData.int from rfl, depth_ints]; omega) fun i v h' tk bs _ hr hk => ?_
  rw [PySem.W.maxD_ints] at hr
  cases hr
  exact ⟨.int _, H, I.kept hk, ⟨_, rfl⟩, q⟩
end L2
namespace TG
open PySem PySem.Spec PyProof.Rows L2
section
variable {X : Cx} {cl : Str → Option Addr} {k : Nat} {ps : List Str} {f : Sem1}
end
noncomputable def keyI (k : Int) : Key := .inl k
noncomputable def valDW (l : List (Key × TG.W)) (k : Key) : Option TG.W := (l.find? fun kv => decide (kv.1 = k)).map (·.2)
noncomputable def putDW (l : List (Key × TG.W)) (k : Key) (v : TG.W) : List (Key × TG.W) :=
  if (l.any fun kv => decide (kv.1 = k)) = true then l.map (fun kv => if kv.1 = k then (kv.1, v) else kv) else l ++ [(k, v)]
section
variable {K : PySem.W.Frag} {cl : Str → Option Addr} {H0 : Hp} {m : List Addr} {kvs : List (Key × V)} {l : List (Key × TG.W)}
end
noncomputable def eDNew : Cmp (List (Key × TG.W)) := fun _ s => .ok [] s
noncomputable def kGetO2 (l : List (Key × TG.W)) (k : Int) : TG.W → S → Res TG.W := fun z s => .ok ((valDW l (keyI k)).getD z) s
noncomputable def kGetO (l : List (Key × TG.W)) (f : Cmp TG.W) (ρ : Rho) : TG.W → S → Res TG.W := fun y s => match asInt y with | some k => (f ρ s).bind (kGetO2 l k) | none => .no
noncomputable def eGetO (i : Nat) (e f : Cmp TG.W) : Cmp TG.W := fun ρ s => match (ρ[i]? : Option EV) with | some (.ownD l) => (e ρ s).bind (kGetO l f ρ) | _ => .no
noncomputable def kIxKO (l : List (Key × TG.W)) : TG.W → S → Res TG.W := fun y s => match asInt y with | some k => (match valDW l (keyI k) with | some x => .ok x s | none => .no) | none => .no
noncomputable def eIxKO (i : Nat) (e : Cmp TG.W) : Cmp TG.W := fun ρ s => match (ρ[i]? : Option EV) with | some (.ownD l) => (e ρ s).bind (kIxKO l) | _ => .no
noncomputable def kSetKO2 (i : Nat) (l : List (Key × TG.W)) (x : TG.W) : TG.W → Stm := fun z ρ s => match asInt z with | some k => if l.length < 16777216 then .nx (ρ.set i (.ownD (putDW l (keyI k) x))) s else .no | none => .no
noncomputable def kSetKO (i : Nat) (k : Cmp TG.W) : TG.W → Stm := fun x ρ s => match (ρ[i]? : Option EV) with | some (.ownD l) => ebS (k ρ s) ρ (kSetKO2 i l x) | _ => .no
noncomputable def sSetKO (i : Nat) (k v : Cmp TG.W) : Stm := fun ρ s => ebS (v ρ s) ρ (kSetKO i k)
section
variable {X : Cx} {cl : Str → Option Addr} {Wx : WX} {e i o f : Expr} {pos p1 p2 p3 p : Pos} {ea ei ef : Cmp TG.W} {x : Str}
end
end TG

set_option Elab.async false
set_option linter.all false
set_option maxRecDepth 100000
set_option maxHeartbeats 4000000
namespace HT
open PySem PySem.Spec PyProof.Rows
section
variable {prog : Program} {w : World} {A : Around} {E : Value → Shared → Prop} {s : Shared}
theorem adjust_rev (n : Nat) : Builtin.Slice.sliceAdjust none none (-1) (n : Int) = ((n : Int) - 1, -1) := by
  unfold Builtin.Slice.sliceAdjust
  have h1 : (-1 : Int) < 0 := by omega
  simp only [h1, if_true]
theorem places_rev (n : Nat) : Builtin.Slice.slicePlaces ((n : Int) - 1) (-1) (-1) = n := by
  unfold Builtin.Slice.slicePlaces
  have h1 : ¬ ((-1 : Int) > 0) := by omega
  simp only [h1, if_false]
  by_cases h : (n : Int) - 1 > -1
  · rw [if_pos h, show (- -1 : Int) = 1 by decide, Int.ediv_one]
    omega
  · rw [if_neg h]
    omega
theorem pick_rev (xs : Array Value) : ((List.range xs.size).filterMap fun (m : Nat) => xs[(((xs.size : Nat) : Int) - 1 + (m : Int) * (-1)).toNat]?).toArray = xs.toList.reverse.toArray := by
  have e : (fun (m : Nat) => xs[(((xs.size : Nat) : Int) - 1 + (m : Int) * (-1)).toNat]?) = (fun k => xs[k]?) ∘ fun m => xs.size - 1 - m := by
    funext m
    show xs[(((xs.size : Nat) : Int) - 1 + (m : Int) * (-1)).toNat]? = xs[xs.size - 1 - m]?
    rw [show (((xs.size : Nat) : Int) - 1 + (m : Int) * (-1)).toNat = xs.size - 1 - m by omega]
  rw [e, ← List.filterMap_map, PySem.W.krv_range, List.filterMap_reverse, PySem.W.krv_all]
theorem sliceApplied_rev {sl : Addr} {vl vu vs : Value} {n : Nat} {Q : Int × Int × Nat → Shared → Prop} (hs : s.heap.IsSliceOf sl vl vu vs) (pl : IsPart vl none) (pu : IsPart vu none) (ps : IsPart vs (some (-1)))
    (h : Q ((n : Int) - 1, -1, n) s) : wpAny (model prog w) A (Builtin.Slice.sliceApplied (.ref sl) (pure (n : Int))) Q E s := by
  obtain ⟨os, hos, hcs, hds⟩ := id hs
  unfold Builtin.Slice.sliceApplied Builtin.Slice.sliceFields
  refine wpAny_bind (wpAny_bind (wpAny_field hos hds (x := vl) rfl (wpAny_bind (wpAny_field hos hds (x := vu) rfl (wpAny_bind (wpAny_field hos hds (x := vs) rfl (wpAny_pure ?_)))))))
  refine wpAny_bind (slicePart_ ps ?_)
  show wpAny _ _ (if ((-1 : Int) == 0) = true then _ else _) _ _ s
  rw [if_neg (by decide)]
  refine wpAny_bind (slicePart_ pl (wpAny_bind (slicePart_ pu (wpAny_bind (wpAny_pure ?_)))))
  show wpAny _ _ (match Builtin.Slice.sliceAdjust none none (-1) (n : Int) with | (lo, hi) => pure (lo, (-1 : Int), Builtin.Slice.slicePlaces lo hi (-1))) _ _ s
  rw [adjust_rev n]
  show wpAny _ _ (pure ((n : Int) - 1, (-1 : Int), Builtin.Slice.slicePlaces ((n : Int) - 1) (-1) (-1))) _ _ s
  rw [places_rev]
  exact wpAny_pure h
theorem getItem_tuple_rev {t sl : Addr} {items : Array Value} {vl vu vs : Value} {Q : Value → Shared → Prop} (ht : IsTup s.heap t items) (hs : s.heap.IsSliceOf sl vl vu vs) (pl : IsPart vl none) (pu : IsPart vu none) (ps : IsPart vs (some (-1)))
    (h : Q (.ref s.heap.objs.size) { s with heap := s.heap.push { cls := .type "tuple", data := .seq items.toList.reverse.toArray } })
    (hsz : items.size ≤ sizeLine) : wpAny (model prog w) A (getItem (.ref t) (.ref sl)) Q E s := by
  have htake : sizeOk (.seq items.toList.reverse.toArray) := by
    show items.toList.reverse.toArray.size ≤ sizeLine
    rw [List.size_toArray, List.length_reverse, Array.length_toList]
    exact hsz
  obtain ⟨os, hos, hcs, hds⟩ := id hs
  have hTs : s.TypeIs (.ref sl) "slice" := ⟨os, hos, hcs⟩
  unfold getItem
  try with_reducible refine wpAny_holding ?_
  first | refine wpAny_bind (wpAny_pure ?_) | skip
  refine wpAny_bind (wpAny_sequenceKey ht.typeIs (by decide) ?_)
  refine wpAny_bind (wpAny_callSpecial?_slot (name := Str.ofString "__getitem__") ht.typeIs PyProof.Rows.slot_tuple_getitem
    (wpAny_call_entry PyProof.Rows.slot_tuple_getitem ht.typeIs entry_tuple_getitem ?_ (args_tuple_getitem _ _)))
  show wpAny _ _ (Builtin.Tuple.tupleItemsOf (.ref t) >>= _) _ _ s
  refine wpAny_bind (tupleItemsOf_ ht ?_)
  refine wpAny_bind (wpAny_typeOf hTs ?_)
  rw [if_pos (by decide)]
  refine wpAny_bind (sliceApplied_rev hs pl pu ps ?_)
  have hno : ¬ ((((items.size : Nat) : Int) - 1 == 0 && (-1 : Int) == 1 && items.size == items.size) = true) := by
    intro q
    rw [Bool.and_eq_true, Bool.and_eq_true] at q
    exact absurd q.1.2 (by decide)
  show wpAny _ _ (if (((items.size : Nat) : Int) - 1 == 0 && (-1 : Int) == 1 && items.size == items.size) = true then _ else _) _ _ s
  rw [if_neg hno, pick_rev]
  first
    | exact wpAny_bind (m := Builtin.Tuple.tupleExact _) (wpAny_newObj_type (wpAny_pure ⟨_, rfl, wpAny_pure h⟩) htake)
    | exact wpAny_bind (m := Builtin.Tuple.tupleExact _) (wpAny_newObj_type (wpAny_bind (wpAny_pure (wpAny_pure ⟨_, rfl, wpAny_pure h⟩))) htake)
    | exact wpAny_bind (wpAny_bind (m := Builtin.Tuple.tupleExact _) (wpAny_newObj_type (wpAny_pure (wpAny_pure ⟨_, rfl, wpAny_pure h⟩)) htake))
    | exact wpAny_bind (wpAny_bind (m := Builtin.Tuple.tupleExact _) (wpAny_newObj_type (wpAny_pure ⟨_, rfl, wpAny_pure h⟩) htake))
end
end HT
namespace L2
open PySem PySem.Spec PyProof.Rows
section
variable {X : Cx}
noncomputable def tRevT (K : PySem.W.Frag) (te : TE) : TE := fun σ H Q => te σ H fun x H1 => ∃ a xs, x = .ref a ∧ SqT K H1 a xs ∧ ∀ p, H1 p = none → Q (.ref p) (upd H1 p (.tup xs.reverse))
theorem pe_revT {e : Expr} {te : TE} {k : Nat} {p1 p2 p3 pos : Pos} (he : PE X e te) : PE X (.Subscript e (.Slice none none (some (.UnaryOp .USub (.Constant (.int 1) k p1) p2)) p3) pos) (tRevT X.K te) := by
  refine ⟨fun pins s σ H Q I h => ?_⟩
  refine Subscript_ (thn (he.run pins s σ H _ I h) fun v s1 ⟨x, H1, I1, r1, q1⟩ => ?_)
  obtain ⟨a, xs, ex, hx, q⟩ := q1
  subst ex
  cases r1
  have hst : PO X (some (.UnaryOp .USub (.Constant (.int 1) k p1) p2)) (tPart (tUn (rU fun i => .int (-i)) (tC (.int 1)))) := po_some (pe_un un_neg pe_int)
  refine wpAny_Slice (thn (po_none.run pins s1 σ H1 (fun o H2 => o = none ∧ H2 = H1) I1 ⟨rfl, rfl⟩) fun vl s2 ⟨l, H2, I2, pl, el, e2⟩ => ?_)
  subst el e2
  refine thn (po_none.run pins s2 σ H2 (fun o H3 => o = none ∧ H3 = H2) I2 ⟨rfl, rfl⟩) fun vu s3 ⟨u, H3, I3, pu, eu, e3⟩ => ?_
  subst eu e3
  refine thn (hst.run pins s3 σ H3 (fun o H4 => o = some (-1) ∧ H4 = H3) I3 ⟨1, rfl, -1, rfl, rfl, rfl⟩) fun vs s4 ⟨o, H4, I4, ps, eo, e4⟩ => ?_
  subst eo e4
  have I5 : Inv X pins σ H4 { s4 with heap := s4.heap.push { cls := .type "slice", data := .fields #[vl, vu, vs] } } := I4.kept (t' := s4.toks) fun b ob q => Heap.get?_push_of_some _ q
  obtain ⟨its, r, ht, hz⟩ := I5.tuple hx
  have hlen := r.length
  show wpAny (model X.prog X.w) X.A (subscriptTail e (.Slice none none (some (.UnaryOp .USub (.Constant (.int 1) k p1) p2)) p3) (.ref a) (.ref s4.heap.objs.size)) (EP X pins σ Q) X.xe { s4 with heap := s4.heap.push { cls := .type "slice", data := .fields #[vl, vu, vs] } }
  refine tail_any (ops := [.ref a, .ref s4.heap.objs.size]) ht.typeIs (PyProof.Rows.slot_tuple_getitem.lookup) ?_ (by with_unfolding_all rfl)
  refine HT.getItem_tuple_rev ht (Heap.IsSliceOf.new _ vl vu vs) pl pu ps ?_ (by rw [List.size_toArray]; omega)
  refine ⟨.ref _, _, I5.laid (t' := s4.toks) (o := .tup xs.reverse) (fun b ob q => Heap.get?_push_of_some _ q) (Nat.le_refl _) ?_, rfl, q _ (I5.hok.fresh (Nat.le_refl _))⟩
  exact ⟨by rw [List.length_reverse]; exact hz, _, r.reverse, IsTup.new _ _⟩
noncomputable def rMin3 : List V → Hp → VK → Prop := fun xs H Q => ∃ i j k : Int, xs = [V.int i, V.int j, V.int k] ∧ Q (V.int (if k < (if j < i then j else i) then k else (if j < i then j else i))) H
theorem call_min3 (hc : X.calm = true) : CallR X (.builtin "min") rMin3 := by
  intro pins s σ H xs us Q I r h
  obtain ⟨i, j, k, rfl, q⟩ := h
  refine call_min3Nu hc pins s σ H _ us Q I r ⟨_, _, _, _, rfl, ?_, q⟩
  by_cases h1 : j < i
  · by_cases h2 : k < j <;> simp [nuMin3, nuMin2, nuLt, nuCB, h1, h2]
  · by_cases h2 : k < i <;> simp [nuMin3, nuMin2, nuLt, nuCB, h1, h2]
end
end L2
namespace TG
open PySem PySem.Spec PyProof.Rows L2
section
variable {X : Cx} {cl : Str → Option Addr} {Wx : WX} {e : Expr} {es : List Expr} {pos p1 p2 p3 : Pos} {ea : Cmp TG.W} {u : List TG.W → Rho → Option Rho} {sl : List Nat}
noncomputable def kRevT : TG.W → S → Res TG.W := fun x s => match asTup x with | some l => .ok (.d (.tup l.reverse)) s | none => .no
noncomputable def eRevT (e : Cmp TG.W) : Cmp TG.W := fun ρ s => (e ρ s).bind kRevT
theorem Reps.snoc {K : PySem.W.Frag} {H0 : Hp} {vs : List V} {l : List TG.D} {v : V} {d : TG.D} (h : Reps K cl H0 vs l) (r : Rep K cl H0 v d) : Reps K cl H0 (vs ++ [v]) (l ++ [d]) := match h with
  | .nil => .cons r .nil
  | .cons a b => .cons a (Reps.snoc b r)
theorem Reps.rev {K : PySem.W.Frag} {H0 : Hp} {vs : List V} {l : List TG.D} (h : Reps K cl H0 vs l) : Reps K cl H0 vs.reverse l.reverse := match h with
  | .nil => .nil
  | .cons a b => by
    rw [List.reverse_cons, List.reverse_cons]
    exact Reps.snoc (Reps.rev b) a
theorem je_revT {k : Nat} (he : JE cl Wx X e ea) : JE cl Wx X (.Subscript e (.Slice none none (some (.UnaryOp .USub (.Constant (.int 1) k p1) p2)) p3) pos) (eRevT ea) :=
  PE.weaken (pe_revT he) fun σ H Q ⟨H0, m, ow, s, ρ, cx, h⟩ => ⟨H0, m, ow, s, ρ, cx, RunE.bind h fun x s1 v H1 H1' m1 g st rr h2 => by
    have h2 : RunE X.K cl (rrW X.K cl) Wx H1 H1' m1 σ Q (match asTup x with | some l => .ok (.d (.tup l.reverse)) s1 | none => .no) := h2
    split at h2
    · rename_i l e1
      obtain ⟨p, vs, q1, q2, q3⟩ := asTup_ok rr e1
      exact ⟨p, vs, q1, sqT_of (st.sub _ _ q2), fun b hb => h2 _ _ _ _ (Go.alloc st hb) (st.alloc hb) (Rep.tup upd_same ((Reps.rev q3).mono (same_upd (st.h0 hb))))⟩
    · exact h2.elim⟩
noncomputable def c3 (f : TG.W → TG.W → TG.W → S → Res TG.W) : List TG.W → S → Res TG.W | [x, y, z], s => f x y z s | _, _ => .no
end
end TG

set_option linter.all false
set_option maxRecDepth 100000
namespace TG
open PySem L2
noncomputable def b_Foot_about : Stm :=
  (sRet (eMake "Foot" f_Foot_init (eCons (eRevT (eFld "Foot" "drops" (eVar 0))) (eCons (eBin fSub (eBin fSub (eArgs (c1 fLen) (eCons (eFld "Foot" "drops" (eVar 0)) eNil)) (eC (.int 1))) (eFld "Foot" "middle" (eVar 0))) eNil))))
noncomputable def f_Foot_about : Sem1 := runF 1 1 b_Foot_about
end TG

set_option linter.all false
set_option maxRecDepth 100000
namespace TG
open PySem L2
noncomputable def kSetD (i : Nat) : List (Key × W) → Stm := fun x ρ s => .nx (ρ.set i (.ownD x)) s
section
variable (ρ : Rho) (s : S)
@[simp] theorem sSetD_eq (i : Nat) (e : Cmp (List (Key × W))) : sSetD i e ρ s = ebS (e ρ s) ρ (kSetD i) := (rfl)
@[simp] theorem kSetD_eq (i : Nat) (x : List (Key × W)) : kSetD i x ρ s = .nx (ρ.set i (.ownD x)) s := (rfl)
@[simp] theorem eDNew_eq : eDNew ρ s = .ok [] s := (rfl)
@[simp] theorem eGetO_eq (i : Nat) (e f : Cmp W) : eGetO i e f ρ s = match (ρ[i]? : Option EV) with | some (.ownD l) => (e ρ s).bind (kGetO l f ρ) | _ => .no := (rfl)
@[simp] theorem kGetO_eq (l : List (Key × W)) (f : Cmp W) (y : W) : kGetO l f ρ y s = match asInt y with | some k => (f ρ s).bind (kGetO2 l k) | none => .no := (rfl)
@[simp] theorem kGetO2_eq (l : List (Key × W)) (k : Int) (z : W) : kGetO2 l k z s = .ok ((valDW l (keyI k)).getD z) s := (rfl)
@[simp] theorem eIxKO_eq (i : Nat) (e : Cmp W) : eIxKO i e ρ s = match (ρ[i]? : Option EV) with | some (.ownD l) => (e ρ s).bind (kIxKO l) | _ => .no := (rfl)
@[simp] theorem kIxKO_eq (l : List (Key × W)) (y : W) : kIxKO l y s = match asInt y with | some k => (match valDW l (keyI k) with | some x => .ok x s | none => .no) | none => .no := (rfl)
@[simp] theorem sSetKO_eq (i : Nat) (k v : Cmp W) : sSetKO i k v ρ s = ebS (v ρ s) ρ (kSetKO i k) := (rfl)
@[simp] theorem kSetKO_eq (i : Nat) (k : Cmp W) (x : W) : kSetKO i k x ρ s = match (ρ[i]? : Option EV) with | some (.ownD l) => ebS (k ρ s) ρ (kSetKO2 i l x) | _ => .no := (rfl)
@[simp] theorem kSetKO2_eq (i : Nat) (l : List (Key × W)) (x z : W) : kSetKO2 i l x z ρ s = match asInt z with | some k => if l.length < 16777216 then .nx (ρ.set i (.ownD (putDW l (keyI k) x))) s else .no | none => .no := (rfl)
@[simp] theorem eMeth_eq (c m : Str) (f : Sem1) (o : Cmp W) (a : Cmp (List W)) : eMeth c m f o a ρ s = (o ρ s).bind (kMeth c m f frzV a ρ) := (rfl)
@[simp] theorem kMeth_eq {α : Type} (c m : Str) (f : Sem1) (out : RV → S → Res α) (a : Cmp (List W)) (x : W) : kMeth c m f out a ρ x s = if insOf c m x s = true then (a ρ s).bind (kMeth2 f out x) else .no := (rfl)
@[simp] theorem kMeth2_eq {α : Type} (f : Sem1) (out : RV → S → Res α) (x : W) (ws : List W) : kMeth2 f out x ws s = (f (x :: ws) s).bind out := (rfl)
end
end TG

set_option linter.all false
set_option maxRecDepth 100000
namespace TG
open PySem L2
end TG

set_option linter.all false
set_option maxRecDepth 100000
namespace TG
open PySem L2
end TG

set_option linter.all false
set_option maxRecDepth 100000
namespace TG
open PySem L2
noncomputable def tryX (sub : Str → Str → Option Bool) (hs : List (Str × Clause)) : RS → RS
  | .exc c x ρ' s' => (match hdFX sub c hs with | some (some k) => noExc (k c x ρ' s') | some none => .exc c x ρ' s' | none => .no)
  | r => r
@[simp] theorem sTryX_eq (sub : Str → Str → Option Bool) (b : Stm) (hs : List (Str × Clause)) (ρ : Rho) (s : S) : sTryX sub b hs ρ s = tryX sub hs (b ρ s) := by
  show (match b ρ s with
  | .exc c x ρ' s' => (match hdFX sub c hs with | some (some k) => noExc (k c x ρ' s') | some none => .exc c x ρ' s' | none => .no)
  | r => r) = tryX sub hs (b ρ s)
  cases b ρ s <;> rfl
@[simp] theorem tryX_ret (sub : Str → Str → Option Bool) (hs : List (Str × Clause)) (v : RV) (s : S) : tryX sub hs (.ret v s) = .ret v s := (rfl)
@[simp] theorem tryX_nx (sub : Str → Str → Option Bool) (hs : List (Str × Clause)) (ρ : Rho) (s : S) : tryX sub hs (.nx ρ s) = .nx ρ s := (rfl)
@[simp] theorem kPlain_eq (k : Stm) (c : Str) (x : Option D) : kPlain k c x = k := (rfl)
noncomputable def kRaiseX (c : Str) : W → Stm := fun w ρ s => match w with | .d x => .exc c (some x) ρ s | .r _ => .no
@[simp] theorem sRaiseX_eq (c : Str) (a : Cmp W) (ρ : Rho) (s : S) : sRaiseX c a ρ s = ebS (a ρ s) ρ (kRaiseX c) := (rfl)
@[simp] theorem kRaiseX_eq (c : Str) (x : D) (ρ : Rho) (s : S) : kRaiseX c (.d x) ρ s = .exc c (some x) ρ s := (rfl)
end TG

set_option linter.all false
set_option maxRecDepth 100000
namespace TG
open PySem L2
end TG

set_option linter.all false
set_option maxRecDepth 100000
namespace TG
open PySem L2
end TG

set_option linter.all false
set_option maxRecDepth 100000
namespace TG
open PySem L2
end TG

set_option linter.all false
set_option maxRecDepth 100000
namespace TG
open PySem L2
@[simp] theorem eLstRg_eq (a : Cmp W) (ρ : Rho) (s : S) : eLstRg a ρ s = (a ρ s).bind kLstRg := (rfl)
@[simp] theorem kLstRg_eq (n : Int) (s : S) : kLstRg (.d (.int n)) s = if 0 ≤ n ∧ n ≤ 16777216 then .ok (wD (((List.range n.toNat).map fun i : Nat => (i : Int)).map D.int)) s else .no := (rfl)
end TG

set_option linter.all false
set_option maxRecDepth 100000
namespace TG
open PySem L2
noncomputable abbrev pair4D (l : List Int) (m : Int) : D := .tup [.tup (l.map .int), .int m]
end TG

set_option linter.all false
set_option maxRecDepth 100000
namespace TG
open PySem L2
@[simp] theorem eRevT_eq (e : Cmp W) (ρ : Rho) (s : S) : eRevT e ρ s = (e ρ s).bind kRevT := (rfl)
@[simp] theorem kRevT_eq (l : List D) (s : S) : kRevT (.d (.tup l)) s = .ok (.d (.tup l.reverse)) s := (rfl)
@[simp] theorem c3_eq (f : W → W → W → S → Res W) (x y z : W) (s : S) : c3 f [x, y, z] s = f x y z s := (rfl)
theorem insOf_about (l : List Int) (m : Int) (s : S) : insOf "Foot" "about" (.d (footD l m)) s = true := by
  simp [insOf, footD]
  decide
theorem good_rev {l : List Int} {m : Int} (g : GoodF l m) : GoodF l.reverse ((l.length : Int) - 1 - m) := by
  have := g.m0
  have := g.m1
  exact ⟨by rw [List.length_reverse]; exact g.l1, by rw [List.length_reverse]; exact g.l9, fun x hx => g.dr x (List.mem_reverse.mp hx), by omega, by rw [List.length_reverse]; omega⟩
theorem about_eq (l : List Int) (m : Int) (s : S) (g : GoodF l m) : f_Foot_about [.d (footD l m)] s = .ok (.w (.d (footD l.reverse ((l.length : Int) - 1 - m)))) s := by
  have h := good_rev g
  have hm := foot_made l.reverse ((l.length : Int) - 1 - m) s h.l1 h.l9 h.dr h.m0 h.m1
  have g9 := g.l9
  have hL : l.length ≤ 16777216 := by omega
  rw [List.map_reverse] at hm
  rw [f_Foot_about, runF_eq]
  simp [b_Foot_about, hm, hL]
end TG

set_option linter.all false
set_option maxRecDepth 100000
namespace TG
open PySem L2
@[simp] theorem eSortSetW_eq (a : Cmp (List W)) (ρ : Rho) (s : S) : eSortSetW a ρ s = (a ρ s).bind kSortSetW := (rfl)
@[simp] theorem kSortSetW_eq (x : W) (s : S) : kSortSetW [x] s = match asIntsL x s with | some l => if (sortD l).length < 64 ∧ l.length ≤ 4000 then .ok (wD ((sortD l).map D.int)) s else .no | none => .no := (rfl)
@[simp] theorem fMinT_ints (n : Int) (l : List Int) (s : S) : fMinT (.d (.tup (.int n :: l.map .int))) s = .ok (.d (.int (l.foldl min n))) s := by
  have e : wD (.int n :: l.map D.int) = wD ((n :: l).map D.int) := rfl
  simp only [fMinT, asTup_tup, e, allInts_wD]
end TG

set_option linter.all false
set_option maxRecDepth 100000
namespace TG
open PySem L2
end TG

set_option linter.all false
set_option maxRecDepth 100000
namespace TG
open PySem L2
end TG

set_option linter.all false
set_option maxRecDepth 100000
namespace TG
open PySem L2
@[simp] theorem sPar3_eq (i j l : Nat) (a : Cmp (List W)) (ρ : Rho) (s : S) : sPar3 i j l a ρ s = ebS (a ρ s) ρ (kPar3 i j l) := (rfl)
@[simp] theorem kPar3_eq (i j l : Nat) (x y z : W) (ρ : Rho) (s : S) : kPar3 i j l [x, y, z] ρ s = .nx (((ρ.set i (.w x)).set j (.w y)).set l (.w z)) s := (rfl)
end TG

set_option linter.all false
set_option maxRecDepth 100000
namespace TG
open PySem L2
end TG

set_option linter.all false
set_option maxRecDepth 100000
namespace TG
open PySem L2
@[simp] theorem eLenI_eq (c : Str) (f : Sem1) (a : Cmp W) (ρ : Rho) (s : S) : eLenI c f a ρ s = (a ρ s).bind (lenW c f) := (rfl)
noncomputable def kMakeD (c : Str) (f : Sem1) (d : Int) : List W → S → Res W := fun ws s1 => madeD c s1 (f (.r s1.length :: (ws ++ [.d (.int d)])) (s1 ++ [.ins c []]))
@[simp] theorem eMakeD_eq (c : Str) (f : Sem1) (a : Cmp (List W)) (d : Int) (ρ : Rho) (s : S) : eMakeD c f a d ρ s = (a ρ s).bind (kMakeD c f d) := (rfl)
@[simp] theorem kMakeD_eq (c : Str) (f : Sem1) (d : Int) (ws : List W) (s1 : S) : kMakeD c f d ws s1 = madeD c s1 (f (.r s1.length :: (ws ++ [.d (.int d)])) (s1 ++ [.ins c []])) := (rfl)
theorem len_foot (l : List Int) (m : Int) (s : S) (h : l.length ≤ 9) : lenW "Foot" f_Foot_len (.d (footD l m)) s = .ok (.d (.int l.length)) s := by
  have e : f_Foot_len [.d (footD l m)] [] = .ok (.w (.d (.int l.length))) [] := by
    rw [f_Foot_len, runF_eq]
    simp [b_Foot_len]
  show (if ("Foot" : Str) = "Foot" then lenOf (f_Foot_len [.d (footD l m)] []) s else .no) = _
  rw [if_pos rfl, e]
  show (if (0 : Int) ≤ (l.length : Int) ∧ (l.length : Int) < 1000 then Res.ok (W.d (.int l.length)) s else .no) = _
  rw [if_pos (by omega)]
end TG

set_option Elab.async false
set_option linter.all false
set_option maxRecDepth 100000
set_option maxHeartbeats 4000000
namespace TG
open PySem PySem.Spec PyProof.Rows L2
noncomputable def kTupC : List TG.W → S → Res TG.W := fun ws s => if ws.length ≤ 16777216 then .ok (.r s.length) (s ++ [.tup ws]) else .no
noncomputable def eTupC (a : Cmp (List TG.W)) : Cmp TG.W := fun ρ s => (a ρ s).bind kTupC
section
variable {X : Cx} {cl : Str → Option Addr} {Wx : WX} {es : List Expr} {pos : Pos} {el : Cmp (List TG.W)}
end
end TG

set_option Elab.async false
set_option linter.all false
set_option maxRecDepth 100000
set_option maxHeartbeats 4000000
namespace NE
open PySem PySem.Spec PyProof.Rows PySem.SeqAt
section
variable {M : Model} {prog : Program} {w : World} {A : Around} {E : Value → Shared → Prop} {s : Shared} {K : PySem.W.Frag} {x C f : Addr} {ox : Obj} {od : Option Obj} {b : Value}
theorem objNe_entryB (X : K.In s.heap) (I : PySem.W.InstAt s.heap x ox C od) (hs : PySem.W.findIn K (.ref C) "__eq__" = some (some (.ref f))) (hf : PySem.W.isFn K (.ref f) = true) (hu : A.units < cLine) {Q : Fin → Shared → Prop}
    (hcall : wpAny (model prog w) A (call (.ref f) [.ref x, b]) (fun v s' => ∃ c, v = .bool c ∧ Q (.done (.ret (.bool (!c)))) s') E s) :
    wpAny (model prog w) A (Builtin.«object.__ne__» ⟨[.ref x, b], []⟩) Q E s := by
  unfold Builtin.«object.__ne__»
  repeat (first
    | with_reducible refine wpAny_cRoomFor hu ?_
    | (refine wpAny_bind (m := callSpecialIfBound? (.ref x) (Str.ofString "__eq__") [b])
        (PySem.W.ifBound_K X I hs hf (wpAny_mono hcall (fun r s' hr => by
          obtain ⟨c, rfl, hq⟩ := hr
          repeat (first | exact hq | exact wpAny_pure hq | exact wpAny_truthy_bool hq | (refine wpAny_bind (m := truthy (.bool _)) (wpAny_truthy_bool ?_)) | wp_step)) fun _ _ e => e)))
    | wp_step)
theorem rc_neB (X : K.In s.heap) (I : PySem.W.InstAt s.heap x ox C od) (hb : PySem.W.Looks (model prog w) s.heap (typeOf b) (.ref C)) (hm : PySem.W.mroIn K C (.type "object") = some true)
    (hn : PySem.W.findIn K (.ref C) "__ne__" = some (some (.builtin "object.__ne__")))
    (hs : PySem.W.findIn K (.ref C) "__eq__" = some (some (.ref f))) (hf : PySem.W.isFn K (.ref f) = true) (hu : A.units + 1 < cLine) {Q : Value → Shared → Prop}
    (hcall : wpAny (model prog w) A.in1 (call (.ref f) [.ref x, b]) (fun v s' => ∃ c, v = .bool c ∧ Q (.bool (!c)) s') E s) :
    wpAny (model prog w) A (richCompare .NotEq (.ref x) b) Q E s := by
  have one : wpAny (model prog w) A (tryCompare (.ref x) "__ne__" b) (fun r s' => ∃ c, r = some (.bool c) ∧ Q (.bool c) s') E s := by
    unfold tryCompare
    refine wpAny_bind (ifBound_objNe X I hn (wpAny_call (codeAny_call_builtin F.cmp_object.ne.plain F.cmpEntry_ne (PySem.W.check_slot F.cmpKind_ne F.cmpSplit_ne (I.type.andThen (PySem.W.looks_mroIn X hm)) (F.cmpArgs_ne _ _)
      (objNe_entryB (A := A.in1) X I hs hf hu (wpAny_mono hcall (fun v s' hv => ?_) fun _ _ e => e))))))
    obtain ⟨c, rfl, hq⟩ := hv
    first | exact ⟨c, rfl, wpAny_pure ⟨_, rfl, hq⟩⟩ | exact ⟨c, rfl, wpAny_pure (wpAny_pure ⟨_, rfl, hq⟩)⟩ | exact ⟨c, rfl, _, rfl, hq⟩
  unfold richCompare
  simp only [oneThing_ref]
  refine wpAny_holding (wpAny_bind (wpAny_cRoomFor (Nat.lt_of_succ_lt hu) ?_))
  refine wpAny_bind (I.type.here (wpAny_bind (hb.here ?_)))
  rw [cmpInfo_NotEq]
  dsimp only
  rw [show (Value.ref C != Value.ref C) = false from by simp]
  simp only [Bool.false_eq_true, if_false]
  refine wpAny_bind (wpAny_pure ?_)
  simp only [Bool.false_eq_true, if_false]
  refine wpAny_bind (wpAny_mono one (fun r s' z => ?_) fun _ _ e => e)
  obtain ⟨c, rfl, hq⟩ := z
  first | exact wpAny_pure hq | exact wpAny_pure (wpAny_pure hq)
end
end NE
namespace L2
open PySem PySem.Spec PyProof.Rows
noncomputable def spEqB (R : Addr → Addr → Hp → Bool → Prop) : Sp := fun vs H Q _ => ∃ a b c, vs = [.ref a, .ref b] ∧ R a b H c ∧ ∀ H', Ext H H' → Q (.bl c) H'
section
variable {X : Cx} {n : Nat} {CX : CXT} {C f : Addr} {fd : FuncData} {ps : List Str} {R : Addr → Addr → Hp → Bool → Prop} {E : XK}
theorem call_eqB (F : FnOk X.prog X.w X.K X.mg X.base CX n f fd ps (spEqB R)) (hb : Binds X.K fd ps []) (hx : Passes CX X E)
    {A : Around} {pins : List (Addr × Obj)} {s : Shared} {σ : St} {H : Hp} {a b : Addr} {c : Bool} (sb : Sub X n A) (I : Inv X pins σ H s) (hr : R a b H c) :
    wpAny (model X.prog X.w) A (call (.ref f) [.ref a, .ref b]) (fun v s' => v = .bool c ∧ ∃ H', Inv X pins σ H' s' ∧ Ext H H') X.xe s := by
  have hsp : spEqB R [.ref a, .ref b] H (fun v H' => v = .bl c ∧ Ext H H') E := ⟨a, b, c, rfl, hr, fun H' e => ⟨rfl, e⟩⟩
  have e0 : Env0 X.prog X.w X.K X.mg X.base A X.stack s H := by
    have e := I.env0
    exact ⟨by rw [sb.fr]; exact e.frames, e.mod, e.bs, e.bsz, e.funs, e.frf, e.hok, e.bare⟩
  have hl := F.len _ _ _ _ hsp
  have r2 : Vals [V.ref a, V.ref b] [Value.ref a, Value.ref b] := .cons rfl (.cons rfl .nil)
  refine wpAny_call (codeAny_mono (F.run A X.stack s H ⟨[.ref a, .ref b], []⟩ [.ref a, .ref b] [.ref a, .ref b] _ E sb.room e0 (by
    have := hb s [.ref a, .ref b] I.kIn (by simpa using hl)
    simpa using this) r2 hsp) fun r s' hq => ?_)
  cases r with
  | error e => exact hx pins σ H s e s' I hq
  | ok fl =>
    cases fl with
    | ret w =>
      obtain ⟨z, H', I', rz, ez, ex⟩ := I.after hq
      subst ez
      cases rz
      exact ⟨rfl, H', I', ex⟩
    | next => exact False.elim hq
    | brk => exact False.elim hq
    | cont => exact False.elim hq
theorem rc_neInsB (F : FnOk X.prog X.w X.K X.mg X.base CX n f fd ps (spEqB R))
    (hm : PySem.W.mroIn X.K C (.type "object") = some true) (hn : PySem.W.findIn X.K (.ref C) "__ne__" = some (some (.builtin "object.__ne__")))
    (hs : PySem.W.findIn X.K (.ref C) "__eq__" = some (some (.ref f))) (hf : PySem.W.isFn X.K (.ref f) = true) (hb : Binds X.K fd ps []) (hx : Passes CX X E)
    {A : Around} {pins : List (Addr × Obj)} {s : Shared} {σ : St} {H : Hp} {a b dx dy : Addr} {fs gs : List (Str × V)} {c : Bool} (sb : Sub X (n + 1) A) (I : Inv X pins σ H s) (ha : H a = some (.ins C dx fs)) (hb' : H b = some (.ins C dy gs)) (hr : R a b H c) :
    wpAny (model X.prog X.w) A (richCompare .NotEq (.ref a) (.ref b)) (fun r s' => r = .bool (!c) ∧ ∃ H', Inv X pins σ H' s' ∧ Ext H H') X.xe s := by
  obtain ⟨mA, J, _⟩ := ins_get I.hok ha
  obtain ⟨mB, J', _⟩ := ins_get I.hok hb'
  obtain ⟨od, J, _⟩ := J.look
  obtain ⟨od', J', _⟩ := J'.look
  have hu : A.units + 1 < cLine := by have := sb.room.units; omega
  refine NE.rc_neB I.kIn J J'.type hm hn hs hf hu (wpAny_mono (call_eqB F hb hx sb.in1 I hr) (fun v s' z => ?_) fun _ _ e => e)
  obtain ⟨rfl, H', I', ex⟩ := z
  exact ⟨c, rfl, rfl, H', I', ex⟩
theorem rc_eqInsB (F : FnOk X.prog X.w X.K X.mg X.base CX n f fd ps (spEqB R))
    (hs : PySem.W.findIn X.K (.ref C) "__eq__" = some (some (.ref f))) (hf : PySem.W.isFn X.K (.ref f) = true) (hb : Binds X.K fd ps []) (hx : Passes CX X E)
    {A : Around} {pins : List (Addr × Obj)} {s : Shared} {σ : St} {H : Hp} {a b dx dy : Addr} {fs gs : List (Str × V)} {c : Bool} (sb : Sub X n A) (I : Inv X pins σ H s) (ha : H a = some (.ins C dx fs)) (hb' : H b = some (.ins C dy gs)) (hr : R a b H c) :
    wpAny (model X.prog X.w) A (richCompare .Eq (.ref a) (.ref b)) (fun r s' => r = .bool c ∧ ∃ H', Inv X pins σ H' s' ∧ Ext H H') X.xe s := by
  obtain ⟨mA, J, _⟩ := ins_get I.hok ha
  obtain ⟨mB, J', _⟩ := ins_get I.hok hb'
  obtain ⟨od, J, _⟩ := J.look
  obtain ⟨od', J', _⟩ := J'.look
  obtain ⟨m, hF⟩ := I.fr
  refine PySem.W.cmp_K (op := .Eq) (tb := .ref C) sb.room.units0 hF I.ok.mod.kin J J'.type (by simp [PySem.W.notFirst]) hs hf (wpAny_mono (call_eqB F hb hx sb I hr) (fun v s' z => ?_) fun _ _ e => e)
  obtain ⟨rfl, H', I', ex⟩ := z
  exact ⟨rfl, H', I', ex⟩
end
end L2
namespace TG
open PySem PySem.Spec PyProof.Rows L2
noncomputable def asStrs : List TG.W → Option (List Str)
  | [] => some []
  | .d (.str x) :: r => (asStrs r).map (x :: ·)
  | _ => none
theorem asStrs_ok {K : PySem.W.Frag} {cl : Str → Option Addr} {H0 : Hp} {m : List Addr} : ∀ {vs : List V} {ws : List TG.W} {l : List Str}, RepWs K cl H0 m vs ws → asStrs ws = some l → vs = l.map V.str
  | _, _, _, .nil, h => by cases h; rfl
  | _, _, _, @RepWs.cons _ _ _ _ v w vs ws a b, h => by
    cases w with
    | r n => cases h
    | d x =>
      cases x with
      | str y =>
        have h : (asStrs ws).map (y :: ·) = some _ := h
        obtain ⟨k, h1, h2⟩ := Option.map_eq_some_iff.mp h
        subst h2
        have a : Rep K cl H0 v (.str y) := a
        cases a
        rw [asStrs_ok b h1]
        rfl
      | _ => cases h
noncomputable def kJoin2 (x : Str) : TG.W → S → Res TG.W := fun y s => match asLst y s with
  | some l => (match asStrs l with | some ys => if (ys.map (·.length)).sum + ys.length * x.length ≤ 16777216 then .ok (.d (.str (Txt.join x ys))) s else .no | none => .no)
  | none => .no
noncomputable def kJoin (a : Cmp TG.W) (ρ : Rho) : TG.W → S → Res TG.W := fun x s => match asStr x with | some z => (a ρ s).bind (kJoin2 z) | none => .no
noncomputable def eJoin (o a : Cmp TG.W) : Cmp TG.W := fun ρ s => (o ρ s).bind (kJoin a ρ)
section
variable {X : Cx} {cl : Str → Option Addr} {Wx : WX} {e o : Expr} {p2 p3 : Pos} {eo ea : Cmp TG.W}
theorem je_join (ho : JE cl Wx X o eo) (h : JE cl Wx X e ea)
    (q1 : attributeBase o "join" X.env (eval o X.env) = eval o X.env := by rfl)
    (q2 : ((((backTo p3 (starEach (e :: []) X.env)).all fun x => !x.fst) && (backToKw p3 (keywordEach [] X.env)).all fun x => x.fst.isSome) && decide (((e :: []).length + ([] : List Keyword).length + if ([] : List Keyword).isEmpty = true then 0 else 1) < 30)) = true := by rfl)
    (q3 : (p2.endLine == p3.line) = true := by rfl) (q4 : starEach (e :: []) X.env = (false, eval e X.env) :: starEach [] X.env := by rfl) (q5 : ((backTo p3 (starEach [] X.env)).any fun x => x.fst) = false := by rfl) :
    JE cl Wx X (.Call (.Attribute o "join" p2) [e] [] p3) (eJoin eo ea) :=
  PE.weaken (pe_bm PySem.F.plainAttrs_str PySem.F.slot_str_join PySem.F.type_str_join mt_join ho (pa_cons h pa_nil q4) q1 q2 q3 q4 q5) fun σ H Q ⟨H0, m, ow, s, ρ, cx, h⟩ => ⟨H0, m, ow, s, ρ, cx, RunE.bind h fun x s1 v H1 H1' m1 g st rr h2 => by
    have h2 : RunE X.K cl (rrW X.K cl) Wx H1 H1' m1 σ Q (match asStr x with | some z => (ea ρ s1).bind (kJoin2 z) | none => .no) := h2
    split at h2
    · rename_i z e1
      have ez := asStr_ok rr e1
      subst ez
      refine ⟨rfl, H1, m1, ow, s1, ρ, cx.go g st, RunE.bind h2 fun y s2 v2 H2 H2' m2 g2 st2 rr2 h3 => ?_⟩
      have h3 : RunE X.K cl (rrW X.K cl) Wx H2 H2' m2 σ Q (match asLst y s2 with
        | some l => (match asStrs l with | some ys => if (ys.map (·.length)).sum + ys.length * z.length ≤ 16777216 then .ok (.d (.str (Txt.join z ys))) s2 else .no | none => .no)
        | none => .no) := h3
      split at h3
      · rename_i l e2
        split at h3
        · rename_i ys e3
          split at h3
          · rename_i hz
            obtain ⟨p, vs, k1, k2, k3⟩ := asLst_ok st2 rr2 e2
            have := asStrs_ok k3 e3
            subst this
            exact ⟨z, p, ys, rfl, by rw [k1], .inl (sqL_of k2), hz, RunE.done (RR := rrW X.K cl) h3 st2 .str⟩
          · exact h3.elim
        · exact h3.elim
      · exact h3.elim
    · exact h2.elim⟩
end
end TG

set_option Elab.async false
set_option linter.all false
set_option maxRecDepth 100000
set_option maxHeartbeats 4000000
namespace TG
open PySem PySem.Spec PyProof.Rows L2
noncomputable def fInKD (neg : Bool) (l : List (Str × Int)) : TG.W → S → Res TG.W := fun x s => match asStr x with | some z => .ok (.d (.bl (if neg then !(l.lookup z).isSome else (l.lookup z).isSome))) s | none => .no
noncomputable def fIxKD (l : List (Str × Int)) : TG.W → S → Res TG.W := fun x s => match asStr x with | some z => (match l.lookup z with | some i => .ok (.d (.int i)) s | none => .no) | none => .no
section
variable {X : Cx} {d : Addr} {es : Array DictEntry} {n : Nat} {l : List (Str × Int)}
variable {cl : Str → Option Addr} {Wx : WX} {e : Expr} {pos p : Pos} {ea : Cmp TG.W} {nm : Str}
end
end TG

set_option Elab.async false
set_option linter.all false
set_option maxRecDepth 100000
set_option maxHeartbeats 4000000
namespace SS
open PySem PySem.Spec PyProof.Rows
open Sem (wp)
noncomputable def preF (c0 : Int) (val : Nat → Int) : Nat → Int
  | 0 => c0
  | j + 1 => preF c0 val j + val j
section
variable {prog : Program} {w : World} {A : Around} {R : Result → Shared → Prop} {I : Addr} {fp wr : List Addr} {n : Nat} {P : Nat → Value → Prop} {St : Nat → Heap → Prop}
theorem ss_loop (W : Walks prog w A.in1 I fp wr n P St) (val : Nat → Int) (hval : ∀ i v, P i v → ∃ t, v = .int (val i) t) (c0 : Int) (S : Addr) (hSf : S ∉ fp) :
    ∀ (k i : Nat) (s : Shared) (tA : Tok) (c : Nat) (stage : Int), (stage = 0 ∨ stage = 2) → n - i = k → i ≤ n → St i s.heap → s.heap.get? S = some { cls := .type "list", dict := none, data := .seq #[.int (preF c0 val i) tA] c, slots := #[] } →
    (∀ h' tk t', (∀ b o, b ∉ wr → b ≠ S → s.heap.get? b = some o → h'.get? b = some o) → R (.ok (.ret (.int (preF c0 val n) t'))) { s with heap := h', toks := tk }) →
    codeAny (model prog w) A (.builtin "sum.loop" ⟨[.ref I, .ref S, rawInt stage, rawInt 0], []⟩) R s := by
  have hSw : S ∉ wr := fun h => hSf (W.sub _ h)
  intro k
  induction k with
  | zero =>
    intro i s tA c stage hstage hk hi hst hS hR
    have hin : i = n := by omega
    subst hin
    refine codeAny_builtin F.entry_sum_loop ?_
    rw [Around.under_plainId F.plain_sum_loop _]
    show wpAny _ A.in1 (seqItems? (.ref S) >>= _) _ _ s
    refine wpAny_bind (wpAny_seqItems hS rfl ?_)
    show wpAny _ A.in1 (tryCatch (pyNext (.ref I)) _ >>= _) _ _ s
    refine wpAny_bind (wpAny_tryCatch (W.done s _ _ hst fun h' tk hk' => ?_))
    exact wpAny_pure (hR h' tk tA fun b o hbw _ e => hk' b o hbw e)
  | succ k ih =>
    intro i s tA c stage hstage hk hi hst hS hR
    have hlt : i < n := by omega
    refine codeAny_builtin F.entry_sum_loop ?_
    rw [Around.under_plainId F.plain_sum_loop _]
    show wpAny _ A.in1 (seqItems? (.ref S) >>= _) _ _ s
    refine wpAny_bind (wpAny_seqItems hS rfl ?_)
    show wpAny _ A.in1 (tryCatch (pyNext (.ref I)) _ >>= _) _ _ s
    refine wpAny_bind (wpAny_tryCatch (W.item i s _ _ hlt hst fun v h' tk hP hst' hk' => ?_))
    obtain ⟨t, rfl⟩ := hval i v hP
    have hS' := hk' S _ hSw hS
    rcases hstage with rfl | rfl
    · show wpAny _ A.in1 (if (_ : Bool) = true then (mkInt (preF c0 val i + val i) >>= _) else _) _ _ _
      split
      · refine wpAny_bind (wpAny_mkInt ?_)
        show wpAny _ A.in1 (updateSeq S (fun _ => #[.int (preF c0 val i + val i) tk]) >>= _) _ _ _
        refine wpAny_bind ?_
        refine wpAny_updateSeq hS' rfl (wpAny_pure ⟨plainId_quiet F.plain_sum_loop _, ih (i + 1) _ tk _ 0 (Or.inl rfl) (by omega) hlt (W.frame _ _ _ hst' fun b hb o e => ?_) (Heap.get?_update_self _ hS' rfl) fun h'' tk'' t'' hk'' => ?_⟩)
        · exact (Heap.get?_update_other _ _ (fun h : S = b => hSf (by rw [h]; exact hb))).trans e
        · exact hR h'' tk'' t'' fun b o hbw hbS e => hk'' b o hbw hbS ((Heap.get?_update_other _ _ (Ne.symm hbS)).trans (hk' b o hbw e))
      · refine wpAny_bind (wpAny_rule ?_)
        refine wpAny_bind (wpAny_attempt (wpAny_holding (PySem.P.add_int ?_)))
        show wpAny _ A.in1 (updateSeq S (fun _ => #[.int (preF c0 val i + val i) tk]) >>= _) _ _ _
        refine wpAny_bind ?_
        refine wpAny_updateSeq hS' rfl ?_
        have hS2 := Heap.get?_update_self (Obj.mapSeq fun _ => #[Value.int (preF c0 val i + val i) tk]) hS' rfl
        refine wpAny_bind (wpAny_letGo ?_)
        refine wpAny_bind ?_
        refine wpAny_updateSeq hS2 rfl (wpAny_pure ⟨plainId_quiet F.plain_sum_loop _, ih (i + 1) _ tk _ 2 (Or.inr rfl) (by omega) hlt (W.frame _ _ _ hst' fun b hb o e => ?_) (Heap.get?_update_self _ hS2 rfl) fun h'' tk'' t'' hk'' => ?_⟩)
        · exact (Heap.get?_update_other _ _ (fun h : S = b => hSf (by rw [h]; exact hb))).trans ((Heap.get?_update_other _ _ (fun h : S = b => hSf (by rw [h]; exact hb))).trans e)
        · exact hR h'' tk'' t'' fun b o hbw hbS e => hk'' b o hbw hbS ((Heap.get?_update_other _ _ (Ne.symm hbS)).trans ((Heap.get?_update_other _ _ (Ne.symm hbS)).trans (hk' b o hbw e)))
    · show wpAny _ A.in1 ((holding [Value.int (val i) t] (binaryOp .Add (.int (preF c0 val i) tA) (.int (val i) t))).attempt >>= _) _ _ _
      refine wpAny_bind (wpAny_attempt (wpAny_holding (PySem.P.add_int ?_)))
      show wpAny _ A.in1 (updateSeq S (fun _ => #[.int (preF c0 val i + val i) tk]) >>= _) _ _ _
      refine wpAny_bind ?_
      refine wpAny_updateSeq hS' rfl ?_
      have hS2 := Heap.get?_update_self (Obj.mapSeq fun _ => #[Value.int (preF c0 val i + val i) tk]) hS' rfl
      refine wpAny_bind (wpAny_letGo ?_)
      refine wpAny_bind ?_
      refine wpAny_updateSeq hS2 rfl (wpAny_pure ⟨plainId_quiet F.plain_sum_loop _, ih (i + 1) _ tk _ 2 (Or.inr rfl) (by omega) hlt (W.frame _ _ _ hst' fun b hb o e => ?_) (Heap.get?_update_self _ hS2 rfl) fun h'' tk'' t'' hk'' => ?_⟩)
      · exact (Heap.get?_update_other _ _ (fun h : S = b => hSf (by rw [h]; exact hb))).trans ((Heap.get?_update_other _ _ (fun h : S = b => hSf (by rw [h]; exact hb))).trans e)
      · exact hR h'' tk'' t'' fun b o hbw hbS e => hk'' b o hbw hbS ((Heap.get?_update_other _ _ (Ne.symm hbS)).trans ((Heap.get?_update_other _ _ (Ne.symm hbS)).trans (hk' b o hbw e)))
end
theorem preF_sum (c0 : Int) (val : Nat → Int) : ∀ n : Nat, preF c0 val n = c0 + preSum val n
  | 0 => by simp [preF, preSum]
  | n + 1 => by rw [preF, preSum, preF_sum c0 val n]; omega
theorem boot_sum : bootBuiltins "sum" = some (.builtin "sum") := by decide +kernel
theorem args_start (a v : Value) : argsOk "sum" ⟨[a], [(Str.ofString "start", v)]⟩ := by unfold argsOk; kernel_rfl
section
variable {prog : Program} {w : World} {A : Around} {E : Value → Shared → Prop} {s : Shared}
theorem call_start {x : Value} {u : Tok} {Q : Value → Shared → Prop}
    (h : wpAny (model prog w) A.in1 (pyIter x) (fun it s₂ => ∃ I fp wr n P St val, it = .ref I ∧ Walks prog w A.in1 I fp wr n P St ∧ St 0 s₂.heap ∧ (∀ b ∈ fp, b < s₂.heap.objs.size) ∧
      (∀ i v, P i v → ∃ t, v = .int (val i) t) ∧
      ∀ h' tk t', (∀ b o, b ∉ wr → s₂.heap.get? b = some o → h'.get? b = some o) → Q (.int (1 + preSum val n) t') { s₂ with heap := h', toks := tk }) E s) :
    wpAny (model prog w) A (call (.builtin "sum") [x] [(Str.ofString "start", .int 1 u)]) Q E s := by
  refine PyProof.Rows.kmk_tree F.kind_sum F.plain_sum F.entry_sum (args_start _ _) ?_
  unfold Builtin.«sum»
  simp only [List.length_cons, List.length_nil]
  rw [if_neg (by decide)]
  refine wpAny_bind (wpAny_of_eq (show Builtin.Builtins.bindParams "sum" ["start"] 0 ⟨[], [(Str.ofString "start", .int 1 u)]⟩ = pure [some (.int 1 u)] from rfl) ?_)
  refine wpAny_bind (wpAny_mono h (fun it s₂ h₂ => ?_) fun _ _ e => e)
  obtain ⟨I, fp, wr, n, P, St, val, rfl, W, hst, hfp, hval, hQ⟩ := h₂
  dsimp only
  rw [if_pos (by decide)]
  refine wpAny_bind (wpAny_rule ?_)
  refine wpAny_bind (wpAny_mkInt ?_)
  refine wpAny_bind (wpAny_pure ?_)
  simp only [List.forIn_cons, List.forIn_nil]
  refine wpAny_bind (wpAny_bind (wpAny_bind (wpAny_isInstance (T := "int") (b := false) (typeIs_int _ _ _) PySem.sub_int_str ?_)))
  simp only [Bool.false_eq_true, if_false]
  refine wpAny_pure (wpAny_bind (wpAny_bind (wpAny_isInstance (T := "int") (b := false) (typeIs_int _ _ _) PySem.sub_int_bytes ?_)))
  simp only [Bool.false_eq_true, if_false]
  refine wpAny_pure (wpAny_bind (wpAny_bind (wpAny_isInstance (T := "int") (b := false) (typeIs_int _ _ _) PySem.sub_int_bytearray ?_)))
  simp only [Bool.false_eq_true, if_false]
  refine wpAny_pure (wpAny_pure ?_)
  refine wpAny_bind (wpAny_newObj_type ?_)
  have hSf : s₂.heap.objs.size ∉ fp := fun hm => Nat.lt_irrefl _ (hfp _ hm)
  refine wpAny_pure ⟨plainId_quiet F.plain_sum_loop _, ss_loop W val hval 1 s₂.heap.objs.size hSf n 0 _ s₂.toks 0 0 (Or.inl rfl) rfl (Nat.zero_le _)
    (W.frame _ _ _ hst fun b _ o e => Heap.get?_push_of_some _ e) (Heap.get?_push_size _ rfl) fun h' tk t' hk => ?_⟩
  rw [preF_sum]
  exact hQ h' tk t' fun b o hbw e => hk b o hbw (Nat.ne_of_lt (Heap.lt_size e)) (Heap.get?_push_of_some _ e)
theorem sum_start {l : Addr} {xs : Array (Int × Tok)} {u : Tok} {Q : Value → Shared → Prop} (hh : A.handled = none) (hl : s.heap.IsList l (intItems xs))
    (h : ∀ h' tk t', (∀ b o, s.heap.get? b = some o → h'.get? b = some o) → Q (.int (1 + preSum (numAt xs) xs.size) t') { s with heap := h', toks := tk }) :
    wpAny (model prog w) A (call (.builtin "sum") [.ref l] [(Str.ofString "start", .int 1 u)]) Q E s := by
  refine call_start (iter_intList hl fun s₂ e st hfp hlI => ?_)
  subst e
  refine ⟨_, _, _, _, _, _, numAt xs, rfl, Walks.list (A := A.in1) hh _ l hlI (intItems xs), st, hfp, (fun _ _ => intItems_at), fun h' tk t' hk => ?_⟩
  have := h h' tk t' (old_kept hk)
  simpa [intItems] using this
theorem sum_raw1 {l : Addr} {its : List Value} {ns : List Int} {u : Tok} {Q : Value → Shared → Prop} (hh : A.handled = none) (hl : s.heap.IsList l its.toArray) (hi : IntsAre its ns)
    (h : ∀ h' tk t', (∀ b o, s.heap.get? b = some o → h'.get? b = some o) → Q (.int (1 + ns.sum) t') { s with heap := h', toks := tk }) : wpAny (model prog w) A (call (.builtin "sum") [.ref l] [(Str.ofString "start", .int 1 u)]) Q E s := by
  obtain ⟨xs, e⟩ := hi.allInts.items
  have hn : numsOf (intItems xs).toList = ns := by rw [← e]; exact hi.numsOf
  rw [nums_intItems] at hn
  rw [e] at hl
  refine sum_start hh hl fun h' tk t' hk => ?_
  have := h h' tk t' hk
  rw [preSum_eq, List.take_of_length_le (by simp), hn]; exact this
end
end SS
namespace L2
open PySem PySem.Spec PyProof.Rows
noncomputable def tSum1 (K : PySem.W.Frag) (ta : TA) : TE := fun σ H Q => ta σ H fun vs H1 => ∃ (a : Addr) (ns : List Int), vs = [V.ref a] ∧ SqL K H1 a (ns.map V.int) ∧ Q (.int (1 + ns.sum)) H1
theorem pe_sum1 {X : Cx} {e : Expr} {ta : TA} {p pos kp cp : Pos} {j : Nat} (hc : X.calm = true) (hg : Gl X "sum") (hm : X.mg "sum" = none) (ha : PA X [e] ta)
    (hs : backTo pos (starEach [e] X.env) = (false, eval e X.env) :: backTo pos (starEach [] X.env) := by rfl) (hpl : (backTo pos (starEach [e] X.env)).any (·.1) = false := by rfl) :
    PE X (.Call (.Name "sum" p) [e] [⟨some "start", .Constant (.int 1) j cp, kp⟩] pos) (tSum1 X.K ta) := by
  refine ⟨fun pins s σ H Q I h => ?_⟩
  refine wpAny_Call_Name_kw (ld_blt (u := .builtin "sum") I hg hm SS.boot_sum (PyProof.Rows.callWith_kw (thn (ha.run pos pins s σ H _ I h) fun us s1 ⟨vs, H1, I1, r1, q1⟩ => ?_) hs hpl))
  have hk : L2.PK X [⟨some "start", .Constant (.int 1) j cp, kp⟩] (tCons (tC (.int 1)) tNil) := pk_cons pe_int pk_nil
  refine thn (hk.run pos pins s1 σ H1 (fun zs H2 => zs = [V.int 1] ∧ H2 = H1) I1 ⟨rfl, rfl⟩) fun ws s2 ⟨zs, H2, I2, r2, q2⟩ => ?_
  obtain ⟨rfl, rfl⟩ := q2
  obtain ⟨a, ns, ex, hq, q⟩ := q1
  subst ex
  cases r2 with
  | cons rb rn =>
    cases rn
    obtain ⟨u, rfl⟩ := rb
    rw [Vals.ref1 r1]
    obtain ⟨its, rv, hl, _⟩ := I2.list hq
    exact SS.sum_raw1 (I2.ok.hd hc) hl.isList rv.ints fun h' tk t' hk => ⟨.int _, H2, I2.kept hk, ⟨_, rfl⟩, q⟩
end L2
namespace TG
open PySem L2 PyProof.Rows
noncomputable def kSum1 : List W → S → Res W := fun ws s => match ws with
  | [x] => (match asIntsL x s with | some l => .ok (.d (.int (1 + l.sum))) s | none => .no)
  | _ => .no
noncomputable def eSum1 (el : Cmp (List W)) : Cmp W := fun ρ s => (el ρ s).bind kSum1
section
variable {X : Cx} {cl : Str → Option Addr} {Wx : WX} {e : Expr} {el : Cmp (List W)} {p pos kp cp : Pos} {j : Nat}
end
end TG

set_option Elab.async false
set_option linter.all false
set_option maxRecDepth 100000
set_option maxHeartbeats 4000000
namespace TG
open PySem PySem.Spec PyProof.Rows L2
noncomputable def dicI (l : List (Str × Int)) : TG.D := .dic (l.map fun p => (Sum.inr p.1, TG.D.int p.2))
section
variable {X : Cx} {cl : Str → Option Addr} {Wx : WX} {pos : Pos} {ks : List (Option Expr)} {vs : List Expr} {l : List (Str × Int)}
variable {e : Expr} {p : Pos} {ea : Cmp TG.W} {nm : Str}
end
end TG

set_option Elab.async false
set_option linter.all false
set_option maxRecDepth 100000
set_option maxHeartbeats 4000000
namespace TG
open PySem PySem.Spec PyProof.Rows L2
section
variable {X : Cx} {cl : Str → Option Addr} {Wx : WX} {c a e : Expr} {es : List Expr} {pos pos' p p2 : Pos} {et : Cmp Bool} {ea : Cmp TG.W} {el : Cmp (List TG.W)} {k : Nat} {x : Str} {ps : List Str} {f : Sem1}
end
end TG

set_option linter.all false
set_option maxRecDepth 100000
namespace TG
open PySem L2
noncomputable def b_v_law_num : Stm :=
  (sRet (eAndV (eUn (fIsi "int") (eVar 0)) (eNotV (eUn (fIsi "bool") (eVar 0)))))
noncomputable def f_v_law_num : Sem1 := runF 1 1 b_v_law_num
noncomputable def b_v_law_tree_ok (fr : Sem1) : Stm :=
  (sSeq (sSet 1 (eC (dicI [("foot", 1), ("sum", 2), ("high", 2), ("less", 1)])))
  (sSeq (sIf (eOrT (eTest (eBin (fEq false) (eArgs (c1 fLen) (eCons (eVar 0) eNil)) (eC (.int 0)))) (eOrT (eTest (eBin (fIn true) (eBin fIx (eVar 0) (eC (.int 0))) (eVar 1))) (eTest (eBin (fEq true) (eArgs (c1 fLen) (eCons (eVar 0) eNil)) (eBin fAdd (eC (.int 1)) (eBin fIx (eVar 1) (eBin fIx (eVar 0) (eC (.int 0))))))))) (sRet (eC (.bl false))) sNext)
  (sSeq (sIf (eTest (eBin (fEq false) (eBin fIx (eVar 0) (eC (.int 0))) (eC (.str "foot")))) (sRet (eAndV (eCall f_v_law_num (eCons (eBin fIx (eVar 0) (eC (.int 1))) eNil)) (eChain fLe fLe (eC (.int 0)) (eBin fIx (eVar 0) (eC (.int 1))) (eC (.int 7))))) sNext)
  (sRet (eArgs (c1 fAll) (eCons (eFrz (eLc [2] (eSeq (eSl fSl (eVar 0) (ePart (eC (.int 1))) eNoPart)) (tgName 2) eYes (eAndV (eUn (fIsi "tuple") (eVar 2)) (eCall fr (eCons (eVar 2) eNil))))) eNil))))))
noncomputable def f_v_law_tree_ok : Nat → Sem1
  | 0 => fun _ _ => .no
  | n + 1 => runF 1 3 (b_v_law_tree_ok (f_v_law_tree_ok n))
noncomputable def b_v_law_deep (fr : Sem1) : Stm :=
  (sSeq (sIf (eTest (eBin (fEq false) (eBin fIx (eVar 0) (eC (.int 0))) (eC (.str "foot")))) (sRet (eC (.int 1))) sNext)
  (sRet (eBin fAdd (eC (.int 1)) (eArgs (c1 fMaxL) (eCons (eFrz (eLc [1] (eSeq (eSl fSl (eVar 0) (ePart (eC (.int 1))) eNoPart)) (tgName 1) eYes (eCall fr (eCons (eVar 1) eNil)))) eNil)))))
noncomputable def f_v_law_deep : Nat → Sem1
  | 0 => fun _ _ => .no
  | n + 1 => runF 1 2 (b_v_law_deep (f_v_law_deep n))
noncomputable def b_v_law_parts (fr : Sem1) : Stm :=
  (sSeq (sIf (eTest (eBin (fEq false) (eBin fIx (eVar 0) (eC (.int 0))) (eC (.str "foot")))) (sRet (eC (.int 1))) sNext)
  (sRet (eBin fAdd (eC (.int 1)) (eArgs (c1 fSum) (eCons (eFrz (eLc [1] (eSeq (eSl fSl (eVar 0) (ePart (eC (.int 1))) eNoPart)) (tgName 1) eYes (eCall fr (eCons (eVar 1) eNil)))) eNil)))))
noncomputable def f_v_law_parts : Nat → Sem1
  | 0 => fun _ _ => .no
  | n + 1 => runF 1 2 (b_v_law_parts (f_v_law_parts n))
noncomputable def b_v_law_good_tree : Stm :=
  (sRet (eAndV (eCall (f_v_law_tree_ok 12) (eCons (eVar 0) eNil)) (eAndV (eBin fLe (eCall (f_v_law_deep 12) (eCons (eVar 0) eNil)) (eC (.int 5))) (eBin fLe (eCall (f_v_law_parts 12) (eCons (eVar 0) eNil)) (eC (.int 15))))))
noncomputable def f_v_law_good_tree : Sem1 := runF 1 1 b_v_law_good_tree
noncomputable def b_is_number : Stm :=
  (sRet (eAndV (eUn (fIsi "int") (eVar 0)) (eNotV (eUn (fIsi "bool") (eVar 0)))))
noncomputable def f_is_number : Sem1 := runF 1 1 b_is_number
noncomputable def b_shaped (fr : Sem1) : Stm :=
  (sSeq (sIf (eOrT (eTest (eBin (fEq false) (eVar 1) (eC (.int 0)))) (eOrT (eTest (eBin (fEq false) (eArgs (c1 fLen) (eCons (eVar 0) eNil)) (eC (.int 0)))) (eOrT (eNotT (eTest (eUn (fIsi "str") (eBin fIx (eVar 0) (eC (.int 0)))))) (eTest (eUn (fInKD true [("foot", 0), ("sum", 2), ("high", 2), ("less", 1)]) (eBin fIx (eVar 0) (eC (.int 0)))))))) (sRet (eC (.bl false))) sNext)
  (sSeq (sIf (eTest (eBin (fEq false) (eBin fIx (eVar 0) (eC (.int 0))) (eC (.str "foot")))) (sRet (eAndV (eBin (fEq false) (eArgs (c1 fLen) (eCons (eVar 0) eNil)) (eC (.int 2))) (eAndV (eCall f_is_number (eCons (eBin fIx (eVar 0) (eC (.int 1))) eNil)) (eChain fLe fLe (eC (.int 0)) (eBin fIx (eVar 0) (eC (.int 1))) (eC (.int 7)))))) sNext)
  (sSeq (sIf (eTest (eBin (fEq true) (eArgs (c1 fLen) (eCons (eVar 0) eNil)) (eBin fAdd (eC (.int 1)) (eUn (fIxKD [("foot", 0), ("sum", 2), ("high", 2), ("less", 1)]) (eBin fIx (eVar 0) (eC (.int 0))))))) (sRet (eC (.bl false))) sNext)
  (sRet (eArgs (c1 fAll) (eCons (eFrz (eLc [2] (eSeq (eSl fSl (eVar 0) (ePart (eC (.int 1))) eNoPart)) (tgName 2) eYes (eAndV (eUn (fIsi "tuple") (eVar 2)) (eCall fr (eCons (eVar 2) (eCons (eBin fSub (eVar 1) (eC (.int 1))) eNil)))))) eNil))))))
noncomputable def f_shaped : Nat → Sem1
  | 0 => fun _ _ => .no
  | n + 1 => runF 2 3 (b_shaped (f_shaped n))
noncomputable def b_count_parts (fr : Sem1) : Stm :=
  (sSeq (sIf (eTest (eBin (fEq false) (eBin fIx (eVar 0) (eC (.int 0))) (eC (.str "foot")))) (sRet (eC (.int 1))) sNext)
  (sRet (eSum1 (eCons (eFrz (eLc [1] (eSeq (eSl fSl (eVar 0) (ePart (eC (.int 1))) eNoPart)) (tgName 1) eYes (eCall fr (eCons (eVar 1) eNil)))) eNil))))
noncomputable def f_count_parts : Nat → Sem1
  | 0 => fun _ _ => .no
  | n + 1 => runF 1 2 (b_count_parts (f_count_parts n))
noncomputable def b_is_tree : Stm :=
  (sRet (eAndV (eCall (f_shaped 12) (eCons (eVar 0) (eCons (eC (.int 5)) eNil))) (eBin fLe (eCall (f_count_parts 12) (eCons (eVar 0) eNil)) (eC (.int 15)))))
noncomputable def f_is_tree : Sem1 := runF 1 1 b_is_tree
end TG

set_option linter.all false
set_option maxRecDepth 100000
namespace TG
open PySem L2
@[simp] theorem eSum1_eq (a : Cmp (List W)) (ρ : Rho) (s : S) : eSum1 a ρ s = (a ρ s).bind kSum1 := (rfl)
@[simp] theorem kSum1_ints (l : List Int) (s : S) : kSum1 [.d (.lst (l.map .int))] s = .ok (.d (.int (1 + l.sum))) s := by
  show (match asIntsL (.d (.lst (l.map .int))) s with | some l => Res.ok (W.d (.int (1 + l.sum))) s | none => .no) = _
  rw [asIntsL_ints]
noncomputable abbrev kinds : List (Str × Int) := [("foot", 1), ("sum", 2), ("high", 2), ("less", 1)]
noncomputable abbrev parts : List (Str × Int) := [("foot", 0), ("sum", 2), ("high", 2), ("less", 1)]
noncomputable def ar (x : Str) : Option Nat := if x = "foot" then some 1 else if x = "sum" then some 2 else if x = "high" then some 2 else if x = "less" then some 1 else none
theorem ar_cases (x : Str) : (x = "foot" ∧ ar x = some 1) ∨ (x = "sum" ∧ ar x = some 2) ∨ (x = "high" ∧ ar x = some 2) ∨ (x = "less" ∧ ar x = some 1) ∨ (x ≠ "foot" ∧ x ≠ "sum" ∧ x ≠ "high" ∧ x ≠ "less" ∧ ar x = none) := by
  unfold ar
  by_cases h1 : x = "foot"
  · exact .inl ⟨h1, by rw [if_pos h1]⟩
  · by_cases h2 : x = "sum"
    · exact .inr (.inl ⟨h2, by rw [if_neg h1, if_pos h2]⟩)
    · by_cases h3 : x = "high"
      · exact .inr (.inr (.inl ⟨h3, by rw [if_neg h1, if_neg h2, if_pos h3]⟩))
      · by_cases h4 : x = "less"
        · exact .inr (.inr (.inr (.inl ⟨h4, by rw [if_neg h1, if_neg h2, if_neg h3, if_pos h4]⟩)))
        · exact .inr (.inr (.inr (.inr ⟨h1, h2, h3, h4, by rw [if_neg h1, if_neg h2, if_neg h3, if_neg h4]⟩)))
theorem kin (neg : Bool) (x : Str) (s : S) : fIn neg (.d (.str x)) (.d (dicI kinds)) s = .ok (.d (.bl (if neg then !(ar x).isSome else (ar x).isSome))) s := by
  rcases ar_cases x with ⟨rfl, e⟩ | ⟨rfl, e⟩ | ⟨rfl, e⟩ | ⟨rfl, e⟩ | ⟨h1, h2, h3, h4, e⟩
  · rw [e]; rfl
  · rw [e]; rfl
  · rw [e]; rfl
  · rw [e]; rfl
  · rw [e]
    have g : getK (wK (kinds.map fun p : Str × Int => ((Sum.inr p.1 : Key), D.int p.2))) (Sum.inr x : Key) = none := by
      simp [wK, getK, h1.symm, h2.symm, h3.symm, h4.symm]
    have q : fIn neg (.d (.str x)) (.d (dicI kinds)) s = .ok (.d (.bl (if neg then !(getK (wK (kinds.map fun p : Str × Int => ((Sum.inr p.1 : Key), D.int p.2))) (Sum.inr x : Key)).isSome else (getK (wK (kinds.map fun p : Str × Int => ((Sum.inr p.1 : Key), D.int p.2))) (Sum.inr x : Key)).isSome))) s := rfl
    rw [q, g]
    rfl
noncomputable def kk : List (Key × W) := wK (kinds.map fun p : Str × Int => ((Sum.inr p.1 : Key), D.int p.2))
theorem asDic_kinds (s : S) : asDic (.d (dicI kinds)) s = some kk := rfl
@[simp] theorem keyD_str (x : Str) : keyD (.str x) = some (.inr x) := rfl
theorem get_kk (x : Str) (a : Nat) (h : ar x = some a) : getK kk (.inr x) = some (.d (.int a)) := by
  rcases ar_cases x with ⟨rfl, e⟩ | ⟨rfl, e⟩ | ⟨rfl, e⟩ | ⟨rfl, e⟩ | ⟨h1, h2, h3, h4, e⟩ <;> rw [e] at h <;> cases h <;> rfl
theorem pin (neg : Bool) (x : Str) (s : S) : fInKD neg parts (.d (.str x)) s = .ok (.d (.bl (if neg then !(ar x).isSome else (ar x).isSome))) s := by
  rcases ar_cases x with ⟨rfl, e⟩ | ⟨rfl, e⟩ | ⟨rfl, e⟩ | ⟨rfl, e⟩ | ⟨h1, h2, h3, h4, e⟩
  · rw [e]; rfl
  · rw [e]; rfl
  · rw [e]; rfl
  · rw [e]; rfl
  · rw [e]
    have g : parts.lookup x = none := by
      have f1 : (x == ("foot" : Str)) = false := by simpa using h1
      have f2 : (x == ("sum" : Str)) = false := by simpa using h2
      have f3 : (x == ("high" : Str)) = false := by simpa using h3
      have f4 : (x == ("less" : Str)) = false := by simpa using h4
      simp only [List.lookup, f1, f2, f3, f4]
    show Res.ok (W.d (.bl (if neg then !(parts.lookup x).isSome else (parts.lookup x).isSome))) s = _
    rw [g]
    rfl
theorem pix (x : Str) (s : S) (a : Nat) (h : ar x = some a) (hf : x ≠ "foot") : fIxKD parts (.d (.str x)) s = .ok (.d (.int a)) s := by
  rcases ar_cases x with ⟨rfl, e⟩ | ⟨rfl, e⟩ | ⟨rfl, e⟩ | ⟨rfl, e⟩ | ⟨h1, h2, h3, h4, e⟩ <;> rw [e] at h <;> cases h <;> first | rfl | exact absurd rfl hf
noncomputable def TD : Nat → D → Prop
  | 0, _ => False
  | n + 1, .tup (.str x :: l) => l.length ≤ 10 ∧ ∀ d ∈ l, (∃ i, d = .int i) ∨ TD n d
  | _ + 1, _ => False
theorem TD.get {n : Nat} {t : D} (h : TD (n + 1) t) : ∃ x l, t = .tup (.str x :: l) ∧ l.length ≤ 10 ∧ ∀ d ∈ l, (∃ i, d = .int i) ∨ TD n d := by
  cases t with
  | tup l0 =>
    cases l0 with
    | nil => exact h.elim
    | cons d l =>
      cases d with
      | str x => exact ⟨x, l, rfl, h.1, h.2⟩
      | _ => exact h.elim
  | _ => exact h.elim
end TG

set_option linter.all false
set_option maxRecDepth 100000
namespace TG
open PySem L2
noncomputable def inR : D → Bool
  | .int i => decide (0 ≤ i) && decide (i ≤ 7)
  | _ => false
noncomputable def isTupD : D → Bool
  | .tup _ => true
  | _ => false
noncomputable def okT : Nat → D → Bool
  | 0, _ => false
  | n + 1, .tup (.str x :: l) => (match ar x with
    | none => false
    | some a => if l.length = a then (if x = "foot" then l.all inR else l.all fun d => isTupD d && okT n d) else false)
  | _ + 1, _ => false
theorem num_eq (d : D) (s : S) (h : (∃ i, d = .int i) ∨ isTupD d = true) : f_v_law_num [.d d] s = .ok (.w (.d (.bl (!isTupD d)))) s := by
  rcases h with ⟨i, rfl⟩ | h
  · simp [f_v_law_num, runF, b_v_law_num, isTupD]
  · match d, h with
    | .tup l, _ => simp [f_v_law_num, runF, b_v_law_num, isTupD]
theorem isnum_eq (d : D) (s : S) (h : (∃ i, d = .int i) ∨ isTupD d = true) : f_is_number [.d d] s = .ok (.w (.d (.bl (!isTupD d)))) s := by
  rcases h with ⟨i, rfl⟩ | h
  · simp [f_is_number, runF, b_is_number, isTupD]
  · match d, h with
    | .tup l, _ => simp [f_is_number, runF, b_is_number, isTupD]
theorem TD.tup {n : Nat} {t : D} (h : TD n t) : isTupD t = true := by
  cases n with
  | zero => exact h.elim
  | succ n =>
    obtain ⟨x, l, rfl, _⟩ := h.get
    rfl
theorem TD.num {n : Nat} {d : D} (h : (∃ i, d = .int i) ∨ TD n d) : (∃ i, d = .int i) ∨ isTupD d = true := h.imp id TD.tup
theorem cut1 (d : D) (l : List D) : cut (d :: l) (some 1) none = l := by
  have := cut_drop (d :: l) 1 (by simp)
  simpa using this
theorem fEq_strs (neg : Bool) (x y : Str) (b : Bool) (s : S) (e : eqD (.str x) (.str y) = some b) : fEq neg (.d (.str x)) (.d (.str y)) s = .ok (.d (.bl (if neg then !b else b))) s := by
  show (match eqD (.str x) (.str y) with | some k => Res.ok (W.d (.bl (if neg then !k else k))) s | none => .no) = _
  rw [e]
theorem foot_eqB (neg : Bool) (x : Str) (a : Nat) (h : ar x = some a) (s : S) : fEq neg (.d (.str x)) (.d (.str "foot")) s = .ok (.d (.bl (if neg then !decide (x = "foot") else decide (x = "foot")))) s := by
  rcases ar_cases x with ⟨rfl, e⟩ | ⟨rfl, e⟩ | ⟨rfl, e⟩ | ⟨rfl, e⟩ | ⟨h1, h2, h3, h4, e⟩
  · exact fEq_strs neg _ _ true s (by decide +kernel)
  · exact fEq_strs neg _ _ false s (by decide +kernel)
  · exact fEq_strs neg _ _ false s (by decide +kernel)
  · exact fEq_strs neg _ _ false s (by decide +kernel)
  · rw [e] at h; cases h
theorem foot_eq (x : Str) (a : Nat) (h : ar x = some a) (s : S) : fEq false (.d (.str x)) (.d (.str "foot")) s = .ok (.d (.bl (decide (x = "foot")))) s := foot_eqB false x a h s
theorem ok_eq : ∀ (n : Nat) (t : D), TD n t → ∀ (m : Nat) (s : S), n ≤ m → f_v_law_tree_ok m [.d t] s = .ok (.w (.d (.bl (okT n t)))) s
  | 0, t, h, m, s, hm => h.elim
  | n + 1, t, h, 0, s, hm => by omega
  | n + 1, t, h, m + 1, s, hm => by
    obtain ⟨x, l, rfl, hl, ht⟩ := h.get
    have hL : l.length ≤ 16777216 := by omega
    have k1 := kin true x
    have c1 := cut1 (.str x) l
    rw [show f_v_law_tree_ok (m + 1) = runF 1 3 (b_v_law_tree_ok (f_v_law_tree_ok m)) from rfl, runF_eq]
    cases ha : ar x with
    | none =>
      rw [ha] at k1
      simp [b_v_law_tree_ok, k1, okT, ha]
      done
    | some a =>
      rw [ha] at k1
      have k2 := get_kk x a ha
      have k3 := foot_eq x a ha
      have z0 : ¬ ((l.length : Int) + 1 = 0) := by omega
      have z1 : ¬ ((a : Int) + 1 = 0) := by omega
      have z2 : ((a : Int) + 1 == 1 + (a : Int)) = true := by simp; omega
      by_cases hla : l.length = a
      · by_cases hf : x = "foot"
        · subst hf
          have ea : a = 1 := by cases ha; rfl
          subst ea
          match l, hla with
          | [d], _ =>
            have hn := num_eq d
            rcases ht d (by simp) with ⟨i, rfl⟩ | hd
            · by_cases i0 : 0 ≤ i <;> simp [b_v_law_tree_ok, k1, asDic_kinds, k2, k3, okT, ha, hn, inR, isTupD, i0]
            · have ht1 := hd.tup
              match d, ht1 with
              | .tup l1, _ => simp [b_v_law_tree_ok, k1, asDic_kinds, k2, k3, okT, ha, hn, inR, isTupD]
        · simp [b_v_law_tree_ok, k1, asDic_kinds, k2, k3, okT, ha, hla, hf, c1, z1, z2, hL]
          have e1 : wD l = l.map fun d => W.d d := rfl
          rw [e1, lcM_fn' (v := fun d => D.bl (isTupD d && okT n d))]
          rotate_left
          · intro d hd
            refine ⟨_, rfl, ?_⟩
            rcases ht d hd with ⟨i, rfl⟩ | hd
            · simp [isTupD, wipeR]
            · have ih := fun s => ok_eq n d hd m s (by omega)
              have ht1 := hd.tup
              match d, ht1, ih with
              | .tup l1, _, ih => simp [isTupD, ih, wipeR]
          have hA := fAll_bls (l.map fun d => isTupD d && okT n d) s
          rw [List.map_map] at hA
          have hLB : (l.map fun d => D.bl (isTupD d && okT n d)).length ≤ 16777216 := by rw [List.length_map]; exact hL
          have e3 : (l.map (D.bl ∘ fun d => isTupD d && okT n d)) = l.map fun d => D.bl (isTupD d && okT n d) := rfl
          rw [e3] at hA
          generalize (l.map fun d => D.bl (isTupD d && okT n d)) = LB at *
          have haL : a ≤ 16777216 := by omega
          simp [haL, hA, List.all_map, wipeR, -rng1_eq]
      · have z3 : ((l.length : Int) + 1 == 1 + (a : Int)) = false := by simp; omega
        simp [b_v_law_tree_ok, k1, asDic_kinds, k2, okT, ha, hla, z0, z3]
        done
end TG

set_option linter.all false
set_option maxRecDepth 100000
namespace TG
open PySem L2
noncomputable def deepT : Nat → D → Int
  | 0, _ => 0
  | n + 1, .tup (.str x :: l) => if x = "foot" then 1 else 1 + maxI (l.map (deepT n))
  | _ + 1, _ => 0
noncomputable def partsT : Nat → D → Int
  | 0, _ => 0
  | n + 1, .tup (.str x :: l) => if x = "foot" then 1 else 1 + (l.map (partsT n)).sum
  | _ + 1, _ => 0
theorem ok_get {n : Nat} {t : D} (h : okT n t = true) : ∃ k x l a, n = k + 1 ∧ t = .tup (.str x :: l) ∧ ar x = some a ∧ l.length = a ∧ ((x = "foot" ∧ ∃ i, l = [.int i] ∧ 0 ≤ i ∧ i ≤ 7) ∨ (x ≠ "foot" ∧ ∀ d ∈ l, okT k d = true)) := by
  cases n with
  | zero => cases h
  | succ k =>
    unfold okT at h
    split at h
    · cases h
    · rename_i k' x l e1
      cases e1
      split at h
      · cases h
      · rename_i a ha
        split at h
        · rename_i hla
          refine ⟨_, x, l, a, rfl, rfl, ha, hla, ?_⟩
          split at h
          · rename_i hf
            subst hf
            have ea : a = 1 := by cases ha; rfl
            subst ea
            match l, hla with
            | [d], _ =>
              simp only [List.all_cons, List.all_nil, Bool.and_true] at h
              cases d with
              | int i =>
                simp only [inR, Bool.and_eq_true, decide_eq_true_eq] at h
                exact .inl ⟨rfl, i, rfl, h.1, h.2⟩
              | _ => cases h
          · rename_i hf
            rw [List.all_eq_true] at h
            exact .inr ⟨hf, fun d hd => by have := h d hd; rw [Bool.and_eq_true] at this; exact this.2⟩
        · cases h
    · cases h
theorem ar_pos {x : Str} {a : Nat} (h : ar x = some a) : 1 ≤ a ∧ a ≤ 2 := by
  rcases ar_cases x with ⟨rfl, e⟩ | ⟨rfl, e⟩ | ⟨rfl, e⟩ | ⟨rfl, e⟩ | ⟨h1, h2, h3, h4, e⟩ <;> rw [e] at h <;> cases h <;> omega
theorem deep_eq : ∀ (n : Nat) (t : D), okT n t = true → ∀ (m : Nat) (s : S), n ≤ m → f_v_law_deep m [.d t] s = .ok (.w (.d (.int (deepT n t)))) s
  | n, t, h, 0, s, hm => by
    obtain ⟨k, x, l, a, rfl, _⟩ := ok_get h
    omega
  | 0, t, h, m + 1, s, hm => by cases h
  | n + 1, t, h, m + 1, s, hm => by
    obtain ⟨k, x, l, a, e, rfl, ha, hla, hc⟩ := ok_get h
    cases e
    have ap := ar_pos ha
    have hL : l.length ≤ 16777216 := by omega
    have k3 := foot_eq x a ha
    have c1 := cut1 (.str x) l
    rw [show f_v_law_deep (m + 1) = runF 1 2 (b_v_law_deep (f_v_law_deep m)) from rfl, runF_eq]
    rcases hc with ⟨rfl, i, rfl, i0, i1⟩ | ⟨hf, hall⟩
    · simp [b_v_law_deep, k3, deepT]
    · simp [b_v_law_deep, k3, hf, c1, hL]
      have e1 : wD l = l.map fun d => W.d d := rfl
      rw [e1, lcM_fn' (v := fun d => D.int (deepT n d))]
      rotate_left
      · intro d hd
        have ih := fun s => deep_eq n d (hall d hd) m s (by omega)
        exact ⟨_, rfl, by simp [ih, wipeR]⟩
      have hne : l.map (deepT n) ≠ [] := by
        cases l with
        | nil => simp at hla; omega
        | cons _ _ => simp
      have hA := fMaxL_ints (l.map (deepT n)) s
      rw [maxI_some hne, List.map_map] at hA
      have e3 : (l.map (D.int ∘ deepT n)) = l.map fun d => D.int (deepT n d) := rfl
      rw [e3] at hA
      have hLB : (l.map fun d => D.int (deepT n d)).length ≤ 16777216 := by rw [List.length_map]; exact hL
      generalize (l.map fun d => D.int (deepT n d)) = LB at *
      simp [hL, hA, deepT, hf, wipeR, -rng1_eq]
theorem fSum_ints (l : List Int) (s : S) : fSum (.d (.lst (l.map .int))) s = .ok (.d (.int l.sum)) s := by
  show (match asIntsL (.d (.lst (l.map .int))) s with | some l => Res.ok (W.d (.int l.sum)) s | none => .no) = _
  rw [asIntsL_ints]
theorem parts_eq : ∀ (n : Nat) (t : D), okT n t = true → ∀ (m : Nat) (s : S), n ≤ m → f_v_law_parts m [.d t] s = .ok (.w (.d (.int (partsT n t)))) s
  | n, t, h, 0, s, hm => by
    obtain ⟨k, x, l, a, rfl, _⟩ := ok_get h
    omega
  | 0, t, h, m + 1, s, hm => by cases h
  | n + 1, t, h, m + 1, s, hm => by
    obtain ⟨k, x, l, a, e, rfl, ha, hla, hc⟩ := ok_get h
    cases e
    have ap := ar_pos ha
    have hL : l.length ≤ 16777216 := by omega
    have k3 := foot_eq x a ha
    have c1 := cut1 (.str x) l
    rw [show f_v_law_parts (m + 1) = runF 1 2 (b_v_law_parts (f_v_law_parts m)) from rfl, runF_eq]
    rcases hc with ⟨rfl, i, rfl, i0, i1⟩ | ⟨hf, hall⟩
    · simp [b_v_law_parts, k3, partsT]
    · simp [b_v_law_parts, k3, hf, c1, hL]
      have e1 : wD l = l.map fun d => W.d d := rfl
      rw [e1, lcM_fn' (v := fun d => D.int (partsT n d))]
      rotate_left
      · intro d hd
        have ih := fun s => parts_eq n d (hall d hd) m s (by omega)
        exact ⟨_, rfl, by simp [ih, wipeR]⟩
      have hA := fSum_ints (l.map (partsT n)) s
      rw [List.map_map] at hA
      have e3 : (l.map (D.int ∘ partsT n)) = l.map fun d => D.int (partsT n d) := rfl
      rw [e3] at hA
      generalize (l.map fun d => D.int (partsT n d)) = LB at *
      simp [hL, hA, partsT, hf, wipeR, -rng1_eq]
theorem count_eq : ∀ (n : Nat) (t : D), okT n t = true → ∀ (m : Nat) (s : S), n ≤ m → f_count_parts m [.d t] s = .ok (.w (.d (.int (partsT n t)))) s
  | n, t, h, 0, s, hm => by
    obtain ⟨k, x, l, a, rfl, _⟩ := ok_get h
    omega
  | 0, t, h, m + 1, s, hm => by cases h
  | n + 1, t, h, m + 1, s, hm => by
    obtain ⟨k, x, l, a, e, rfl, ha, hla, hc⟩ := ok_get h
    cases e
    have ap := ar_pos ha
    have hL : l.length ≤ 16777216 := by omega
    have k3 := foot_eq x a ha
    have c1 := cut1 (.str x) l
    rw [show f_count_parts (m + 1) = runF 1 2 (b_count_parts (f_count_parts m)) from rfl, runF_eq]
    rcases hc with ⟨rfl, i, rfl, i0, i1⟩ | ⟨hf, hall⟩
    · simp [b_count_parts, k3, partsT]
    · simp [b_count_parts, k3, hf, c1, hL]
      have e1 : wD l = l.map fun d => W.d d := rfl
      rw [e1, lcM_fn' (v := fun d => D.int (partsT n d))]
      rotate_left
      · intro d hd
        have ih := fun s => count_eq n d (hall d hd) m s (by omega)
        exact ⟨_, rfl, by simp [ih, wipeR]⟩
      have hA := kSum1_ints (l.map (partsT n)) s
      rw [List.map_map] at hA
      have e3 : (l.map (D.int ∘ partsT n)) = l.map fun d => D.int (partsT n d) := rfl
      rw [e3] at hA
      generalize (l.map fun d => D.int (partsT n d)) = LB at *
      simp [hL, hA, partsT, hf, wipeR, -rng1_eq]
end TG

set_option linter.all false
set_option maxRecDepth 100000
namespace TG
open PySem L2
@[simp] theorem kit_ss : kitB "str" "str" = some true := by decide +kernel
theorem maxI_leT {l : List Int} (h : l ≠ []) (k : Int) : maxI l ≤ k ↔ ∀ x ∈ l, x ≤ k := by
  have e := List.max?_eq_some_iff.mp (maxI_some h)
  constructor
  · intro q x hx
    have := e.2 x hx
    omega
  · intro q
    exact q _ e.1
theorem deep_pos : ∀ (n : Nat) (t : D), okT n t = true → 1 ≤ deepT n t
  | 0, t, h => by cases h
  | n + 1, t, h => by
    obtain ⟨k, x, l, a, e, rfl, ha, hla, hc⟩ := ok_get h
    cases e
    rw [deepT]
    rcases hc with ⟨rfl, i, rfl, i0, i1⟩ | ⟨hf, hall⟩
    · rw [if_pos rfl]; omega
    · rw [if_neg hf]
      have ap := ar_pos ha
      cases l with
      | nil => simp at hla; omega
      | cons d l =>
        have h1 := deep_pos n d (hall d (by simp))
        have h2 := (maxI_leT (l := (d :: l).map (deepT n)) (by simp) (maxI ((d :: l).map (deepT n)))).mp (Int.le_refl _) (deepT n d) (by simp)
        omega
noncomputable def shT (n : Nat) (k : Nat) (t : D) : Bool := okT n t && decide (deepT n t ≤ k)
theorem shaped_eq : ∀ (n : Nat) (t : D), TD n t → ∀ (m : Nat) (k : Nat) (s : S), n ≤ m → f_shaped m [.d t, .d (.int k)] s = .ok (.w (.d (.bl (shT n k t)))) s
  | 0, t, h, m, k, s, hm => h.elim
  | n + 1, t, h, 0, k, s, hm => by omega
  | n + 1, t, h, m + 1, k, s, hm => by
    obtain ⟨x, l, rfl, hl, ht⟩ := h.get
    have hL : l.length ≤ 16777216 := by omega
    have k1 := pin true x
    have c1 := cut1 (.str x) l
    rw [show f_shaped (m + 1) = runF 2 3 (b_shaped (f_shaped m)) from rfl, runF_eq]
    by_cases hk0 : k = 0
    · subst hk0
      have : shT (n + 1) 0 (.tup (.str x :: l)) = false := by
        unfold shT
        cases q : okT (n + 1) (.tup (.str x :: l)) with
        | false => rfl
        | true =>
          have := deep_pos _ _ q
          simp
          omega
      rw [this]
      simp [b_shaped]
    have z0 : ¬ ((l.length : Int) + 1 = 0) := by omega
    cases ha : ar x with
    | none =>
      rw [ha] at k1
      simp [b_shaped, k1, shT, okT, ha, hk0, z0]
    | some a =>
      rw [ha] at k1
      have k2 := fun s hf => pix x s a ha hf
      have k3 := foot_eq x a ha
      have ap := ar_pos ha
      by_cases hf : x = "foot"
      · subst hf
        have ea : a = 1 := by cases ha; rfl
        subst ea
        by_cases hla : l.length = 1
        · match l, hla with
          | [d], _ =>
            have hn := isnum_eq d
            have k4 : (1 : Int) ≤ k := by omega
            rcases ht d (by simp) with ⟨i, rfl⟩ | hd
            · by_cases i0 : 0 ≤ i <;> simp [b_shaped, k1, k3, shT, okT, ha, hn, inR, isTupD, i0, hk0, deepT, k4]
            · have ht1 := hd.tup
              match d, ht1 with
              | .tup l1, _ => simp [b_shaped, k1, k3, shT, okT, ha, hn, inR, isTupD, hk0]
        · have z3 : ((l.length : Int) + 1 == 2) = false := by simp; omega
          simp [b_shaped, k1, k3, shT, okT, ha, hla, hk0, z0, z3]
      · have k2 := fun s => k2 s hf
        have z1 : ¬ ((a : Int) + 1 = 0) := by omega
        have z2 : ((a : Int) + 1 == 1 + (a : Int)) = true := by simp; omega
        by_cases hla : l.length = a
        · simp [b_shaped, k1, k2, k3, hla, hf, c1, z1, z2, hL, hk0]
          have e1 : wD l = l.map fun d => W.d d := rfl
          rw [e1, lcM_fn' (v := fun d => D.bl (isTupD d && shT n (k - 1) d))]
          rotate_left
          · intro d hd
            refine ⟨_, rfl, ?_⟩
            rcases ht d hd with ⟨i, rfl⟩ | hd
            · simp [isTupD, wipeR]
            · have ih := fun s => shaped_eq n d hd m (k - 1) s (by omega)
              rw [show (((k - 1 : Nat)) : Int) = (k : Int) - 1 by omega] at ih
              have ht1 := hd.tup
              match d, ht1, ih with
              | .tup l1, _, ih => simp [isTupD, ih, wipeR]
          have hA := fAll_bls (l.map fun d => isTupD d && shT n (k - 1) d) s
          rw [List.map_map] at hA
          have hLB : (l.map fun d => D.bl (isTupD d && shT n (k - 1) d)).length ≤ 16777216 := by rw [List.length_map]; exact hL
          have e3 : (l.map (D.bl ∘ fun d => isTupD d && shT n (k - 1) d)) = l.map fun d => D.bl (isTupD d && shT n (k - 1) d) := rfl
          rw [e3] at hA
          have hV : ((l.map fun d => isTupD d && shT n (k - 1) d).all id) = shT (n + 1) k (.tup (.str x :: l)) := by
            rw [Bool.eq_iff_iff, List.all_map]
            have hne : l.map (deepT n) ≠ [] := by
              cases l with
              | nil => simp at hla; omega
              | cons _ _ => simp
            simp only [shT, okT, ha, hla, hf, if_true, if_false, deepT, List.all_eq_true, Bool.and_eq_true, decide_eq_true_eq, Function.comp_apply, id]
            constructor
            · intro q
              refine ⟨fun d hd => ⟨(q d hd).1, (q d hd).2.1⟩, ?_⟩
              have := (maxI_leT hne ((k : Int) - 1)).mpr (fun y hy => by
                obtain ⟨d, hd, rfl⟩ := List.mem_map.mp hy
                have := (q d hd).2.2
                omega)
              omega
            · rintro ⟨q1, q2⟩ d hd
              refine ⟨(q1 d hd).1, (q1 d hd).2, ?_⟩
              have := (maxI_leT hne ((k : Int) - 1)).mp (by omega) (deepT n d) (List.mem_map.mpr ⟨d, hd, rfl⟩)
              omega
          rw [hV] at hA
          generalize (l.map fun d => D.bl (isTupD d && shT n (k - 1) d)) = LB at *
          have haL : a ≤ 16777216 := by omega
          simp [haL, hA, wipeR, -rng1_eq]
        · have z3 : ((l.length : Int) + 1 == 1 + (a : Int)) = false := by simp; omega
          simp [b_shaped, k1, k2, k3, shT, okT, ha, hla, hk0, hf, z0, z3]
noncomputable def goodT (t : D) : Bool := okT 12 t && (decide (deepT 12 t ≤ 5) && decide (partsT 12 t ≤ 15))
theorem good_eq (t : D) (s : S) (h : TD 12 t) : f_v_law_good_tree [.d t] s = .ok (.w (.d (.bl (goodT t)))) s := by
  have h1 := fun s => ok_eq 12 t h 12 s (Nat.le_refl _)
  rw [f_v_law_good_tree, runF_eq]
  unfold goodT
  cases e : okT 12 t with
  | false =>
    rw [e] at h1
    simp [b_v_law_good_tree, h1]
  | true =>
    rw [e] at h1
    have h2 := fun s => deep_eq 12 t e 12 s (Nat.le_refl _)
    have h3 := fun s => parts_eq 12 t e 12 s (Nat.le_refl _)
    by_cases c : deepT 12 t ≤ 5
    · simp [b_v_law_good_tree, h1, h2, h3, c]
    · simp [b_v_law_good_tree, h1, h2, c]
theorem isTree_eq (t : D) (s : S) (h : TD 12 t) : f_is_tree [.d t] s = .ok (.w (.d (.bl (goodT t)))) s := by
  have h1 := fun s => shaped_eq 12 t h 12 5 s (Nat.le_refl _)
  rw [f_is_tree, runF_eq]
  unfold goodT
  unfold shT at h1
  cases e : okT 12 t with
  | false =>
    rw [e] at h1
    simp at h1
    simp [b_is_tree, h1]
  | true =>
    rw [e] at h1
    have h3 := fun s => count_eq 12 t e 12 s (Nat.le_refl _)
    by_cases c : deepT 12 t ≤ 5
    · simp [c] at h1
      simp [b_is_tree, h1, h3, c]
    · simp [c] at h1
      simp [b_is_tree, h1, c]
end TG

set_option linter.all false
set_option maxRecDepth 100000
namespace TG
open PySem L2
@[simp] theorem eJoin_eq (o a : Cmp W) (ρ : Rho) (s : S) : eJoin o a ρ s = (o ρ s).bind (kJoin a ρ) := (rfl)
@[simp] theorem kJoin_str (a : Cmp W) (ρ : Rho) (x : Str) (s : S) : kJoin a ρ (.d (.str x)) s = (a ρ s).bind (kJoin2 x) := (rfl)
theorem strOk_app (x y : Str) : PyData.strOk (x ++ y) = (PyData.strOk x && PyData.strOk y) := by
  show (x.cps ++ y.cps).all _ = (x.cps.all _ && y.cps.all _)
  rw [Array.all_append]
end TG

set_option linter.all false
set_option maxRecDepth 100000
namespace TG
open PySem L2
theorem good_get {t : D} (g : goodT t = true) : okT 12 t = true ∧ partsT 12 t ≤ 15 := by
  unfold goodT at g
  simp only [Bool.and_eq_true, decide_eq_true_eq] at g
  exact ⟨g.1, g.2.2⟩
end TG

set_option linter.all false
set_option maxRecDepth 100000
namespace TG
open PySem L2
variable {n : Nat} {f : Int → Int} {t : Int}
end TG

set_option linter.all false
set_option maxRecDepth 100000
namespace TG
open PySem L2
variable {n : Nat} {f : Int → Int} {t : Int}
end TG

set_option linter.all false
set_option maxRecDepth 100000
namespace TG
open PySem L2
variable {n : Nat} {f : Int → Int} {t : Int}
end TG

set_option linter.all false
set_option maxRecDepth 100000
namespace TG
open PySem L2
end TG

set_option linter.all false
set_option maxRecDepth 100000
namespace TG
open PySem L2
end TG

set_option linter.all false
set_option maxRecDepth 100000
namespace TG
open PySem L2
theorem far_wp' (b : Bag) (t : S) : wE nE (fun v s => ∃ (x : Int) (b' : Bag), v = .w (.d (.int x)) ∧ s = b'.cell :: t) (f_v_law_far [.r 0] (b.cell :: t)) := by
  obtain ⟨x, b', _, e⟩ := far_spec b t
  exact wE_of e ⟨x, b', rfl, rfl⟩
end TG

set_option linter.all false
set_option maxRecDepth 100000
namespace TG
open PySem L2
theorem TD.up : ∀ {n : Nat} {t : D}, TD n t → TD (n + 1) t
  | 0, t, h => h.elim
  | n + 1, t, h => by
    obtain ⟨x, l, rfl, hl, ht⟩ := h.get
    exact ⟨hl, fun d hd => (ht d hd).imp id TD.up⟩
theorem TD.mk {n : Nat} {x : Str} {l : List D} (hl : l.length ≤ 10) (h : ∀ d ∈ l, (∃ i, d = .int i) ∨ TD n d) : TD (n + 1) (.tup (.str x :: l)) := ⟨hl, h⟩
theorem okTD : ∀ {n : Nat} {t : D}, okT n t = true → TD n t
  | 0, t, h => by cases h
  | n + 1, t, h => by
    obtain ⟨k, x, l, a, e, rfl, ha, hla, hc⟩ := ok_get h
    cases e
    have ap := ar_pos ha
    refine TD.mk (by omega) fun d hd => ?_
    rcases hc with ⟨rfl, i, rfl, i0, i1⟩ | ⟨hf, hall⟩
    · exact .inl ⟨i, List.mem_singleton.mp hd⟩
    · exact .inr (okTD (hall d hd))
theorem ok_foot (n : Nat) (i : Int) (h0 : 0 ≤ i) (h1 : i < 8) : okT (n + 1) (.tup [.str "foot", .int i]) = true := by
  have ha : ar "foot" = some 1 := rfl
  have h2 : i ≤ 7 := by omega
  simp [okT, ha, inR, h0, h2]
theorem ok_mk (n : Nat) (x : Str) (l : List D) (a : Nat) (ha : ar x = some a) (hf : x ≠ "foot") (hl : l.length = a) (h : ∀ d ∈ l, okT n d = true) : okT (n + 1) (.tup (.str x :: l)) = true := by
  unfold okT
  rw [ha]
  show (if l.length = a then (if x = "foot" then l.all inR else l.all fun d => isTupD d && okT n d) else false) = true
  rw [if_pos hl, if_neg hf, List.all_eq_true]
  intro d hd
  rw [h d hd, (okTD (h d hd)).tup]
  rfl
end TG

set_option Elab.async false
set_option linter.all false
set_option maxRecDepth 100000
set_option maxHeartbeats 4000000
namespace TG
open PySem PySem.Spec PyProof.Rows L2
noncomputable def sFrzD (i : Nat) (b : Stm) : Stm := fun ρ s => match ρ[i]? with
  | some (.ownD l) => (match allDataK l with | some ds => b (ρ.set i (.w (.d (.dic ds)))) s | none => .no)
  | _ => .no
noncomputable def fGet1 (x : TG.W) : TG.W → S → Res TG.W := fun y s => match asDic x s, y with
  | some kvs, .d a => (match keyD a with | some k => .ok ((getK kvs k).getD (.d .non)) s | none => .no)
  | _, _ => .no
noncomputable def kGet1 (b : Cmp TG.W) (ρ : Rho) : TG.W → S → Res TG.W := fun x s => match asDic x s with | some _ => (b ρ s).bind (fGet1 x) | none => .no
noncomputable def eGet1 (a b : Cmp TG.W) : Cmp TG.W := fun ρ s => (a ρ s).bind (kGet1 b ρ)
section
variable {X : Cx} {cl : Str → Option Addr} {Wx : WX} {e o : Expr} {pos p1 p2 p3 p : Pos} {eo ei : Cmp TG.W} {sts : List Stmt} {b : Stm}
end
end TG

set_option Elab.async false
set_option linter.all false
set_option maxRecDepth 100000
set_option maxHeartbeats 4000000
namespace TG
open PySem PySem.Spec PyProof.Rows L2
noncomputable def kDictOf : List TG.W → S → Res TG.W := fun ws s => match ws with | [.d (.dic l)] => .ok (.d (.dic l)) s | _ => .no
noncomputable def eDictOf (a : Cmp (List TG.W)) : Cmp TG.W := fun ρ s => (a ρ s).bind kDictOf
section
variable {X : Cx} {cl : Str → Option Addr} {Wx : WX} {e : Expr} {pos p : Pos} {el : Cmp (List TG.W)}
end
noncomputable def frzDk : List (Key × TG.W) → S → Res TG.W := fun l s => match allDataK l with | some ds => .ok (.d (.dic ds)) s | none => .no
noncomputable def eFrzD (a : Cmp (List (Key × TG.W))) : Cmp TG.W := fun ρ s => (a ρ s).bind frzDk
section
variable {X : Cx} {cl : Str → Option Addr} {Wx : WX} {e : Expr} {el : Cmp (List (Key × TG.W))}
end
end TG

set_option linter.all false
set_option maxRecDepth 100000
namespace TG
open PySem L2
end TG

set_option linter.all false
set_option maxRecDepth 100000
namespace TG
open PySem L2
noncomputable def dI (z : List (Key × Int)) : D := .dic (z.map fun p => (p.1, D.int p.2))
noncomputable def ofO : Option Int → D | some i => .int i | none => .non
@[simp] theorem eGet1_eq (a b : Cmp W) (ρ : Rho) (s : S) : eGet1 a b ρ s = (a ρ s).bind (kGet1 b ρ) := (rfl)
@[simp] theorem kGet1_dI (z : List (Key × Int)) (b : Cmp W) (ρ : Rho) (s : S) : kGet1 b ρ (.d (dI z)) s = (b ρ s).bind (fGet1 (.d (dI z))) := (rfl)
theorem getK_wk (z : List (Key × Int)) (k : Key) : getK (wK (z.map fun p => (p.1, D.int p.2))) k = (getK z k).map fun i => W.d (.int i) := by
  induction z with
  | nil => rfl
  | cons p z ih =>
    obtain ⟨k', i⟩ := p
    simp only [wK, getK, List.map_cons] at ih ⊢
    by_cases e : k' = k
    · simp [e]
    · simp only [e, if_false]; exact ih
@[simp] theorem get_dI (z : List (Key × Int)) (i : Int) (s : S) : fGet1 (.d (dI z)) (.d (.int i)) s = .ok (.d (ofO (getK z (.inl i)))) s := by
  have q : fGet1 (.d (dI z)) (.d (.int i)) s = .ok ((getK (wK (z.map fun p => (p.1, D.int p.2))) (.inl i)).getD (.d .non)) s := rfl
  rw [q, getK_wk]
  cases getK z (.inl i) <;> rfl
theorem q1 (s : S) : fEq false (.d (.str "sum")) (.d (.str "sum")) s = .ok (.d (.bl true)) s := fEq_strs false _ _ true s (by decide +kernel)
theorem q2 (s : S) : fEq false (.d (.str "high")) (.d (.str "sum")) s = .ok (.d (.bl false)) s := fEq_strs false _ _ false s (by decide +kernel)
theorem q3 (s : S) : fEq false (.d (.str "less")) (.d (.str "sum")) s = .ok (.d (.bl false)) s := fEq_strs false _ _ false s (by decide +kernel)
theorem q4 (s : S) : fEq false (.d (.str "high")) (.d (.str "high")) s = .ok (.d (.bl true)) s := fEq_strs false _ _ true s (by decide +kernel)
theorem q5 (s : S) : fEq false (.d (.str "less")) (.d (.str "high")) s = .ok (.d (.bl false)) s := fEq_strs false _ _ false s (by decide +kernel)
theorem n1 (a : Option Int) (s : S) : fIn false (.d .non) (.d (.lst [ofO a])) s = .ok (.d (.bl a.isNone)) s := by cases a <;> rfl
theorem n2 (a b : Option Int) (s : S) : fIn false (.d .non) (.d (.lst [ofO a, ofO b])) s = .ok (.d (.bl (a.isNone || b.isNone))) s := by cases a <;> cases b <;> rfl
theorem two_of {α : Type} {l : List α} (h : l.length = 2) : ∃ a b, l = [a, b] := by
  match l, h with
  | [a, b], _ => exact ⟨a, b, rfl⟩
end TG

set_option linter.all false
set_option maxRecDepth 100000
namespace TG
open PySem L2
end TG

set_option linter.all false
set_option maxRecDepth 100000
namespace TG
open PySem L2
noncomputable def wz (z : List (Key × Int)) : List (Key × W) := z.map fun p => (p.1, W.d (.int p.2))
noncomputable def putI (z : List (Key × Int)) (k : Key) (v : Int) : List (Key × Int) := if (z.any fun kv => decide (kv.1 = k)) = true then z.map (fun kv => if kv.1 = k then (kv.1, v) else kv) else z ++ [(k, v)]
noncomputable def PK (z : List (Key × Int)) : Prop := ∀ p ∈ z, getK z p.1 = some p.2
theorem getK_rep (z : List (Key × Int)) (k : Key) (v : Int) (q : Key) : getK (z.map fun kv => if kv.1 = k then (kv.1, v) else kv) q = if q = k then (getK z q).map fun _ => v else getK z q := by
  induction z with
  | nil => simp [getK]
  | cons p z ih =>
    obtain ⟨a, i⟩ := p
    by_cases c : a = k
    · subst c
      by_cases c2 : a = q
      · subst c2
        simp [getK]
      · have c3 : ¬ q = a := fun h => c2 h.symm
        simp only [c3, if_false] at ih
        simp [getK, c2, c3, ih]
    · by_cases c2 : a = q
      · subst c2
        simp [getK, c]
      · simp only [List.map_cons, c, if_false, getK, c2]
        rw [ih]
theorem getK_app (z : List (Key × Int)) (k : Key) (v : Int) (q : Key) : getK (z ++ [(k, v)]) q = match getK z q with | some x => some x | none => if k = q then some v else none := by
  induction z with
  | nil => simp [getK]
  | cons p z ih =>
    obtain ⟨a, i⟩ := p
    by_cases c : a = q
    · simp [getK, c]
    · simp [getK, c, ih]
theorem getK_no (z : List (Key × Int)) (k : Key) (h : ¬ (z.any fun kv => decide (kv.1 = k)) = true) : getK z k = none := by
  induction z with
  | nil => rfl
  | cons p z ih =>
    obtain ⟨a, i⟩ := p
    simp only [List.any_cons, Bool.or_eq_true, decide_eq_true_eq, not_or] at h
    simp only [getK, h.1, if_false]
    exact ih h.2
theorem PK.put {z : List (Key × Int)} (h : PK z) (k : Key) (v : Int) : PK (putI z k v) := by
  unfold putI
  split
  · intro p hp
    obtain ⟨q, hq, e⟩ := List.mem_map.mp hp
    have hz := h q hq
    rw [getK_rep]
    by_cases c : q.1 = k
    · rw [if_pos c] at e
      subst e
      simp only [c, if_true]
      rw [← c, hz]
      rfl
    · rw [if_neg c] at e
      subst e
      rw [if_neg c, hz]
  · rename_i hn
    intro p hp
    rw [getK_app]
    rcases List.mem_append.mp hp with hp | hp
    · rw [h p hp]
    · have := List.mem_singleton.mp hp
      subst this
      rw [getK_no z k hn]
      simp
noncomputable def kFrzD (i : Nat) (b : Stm) (l : List (Key × W)) : Stm := fun ρ s => match allDataK l with | some ds => b (ρ.set i (.w (.d (.dic ds)))) s | none => .no
@[simp] theorem sFrzD_eq (i : Nat) (b : Stm) (ρ : Rho) (s : S) : sFrzD i b ρ s = match (ρ[i]? : Option EV) with | some (.ownD l) => kFrzD i b l ρ s | _ => .no := (rfl)
theorem data_wz : ∀ z : List (Key × Int), allDataK (wz z) = some (z.map fun p => (p.1, D.int p.2))
  | [] => rfl
  | p :: z => by
    have := data_wz z
    unfold wz at this ⊢
    rw [List.map_cons, allDataK, this]
    rfl
@[simp] theorem kFrzD_wz (i : Nat) (b : Stm) (z : List (Key × Int)) (ρ : Rho) (s : S) : kFrzD i b (wz z) ρ s = b (ρ.set i (.w (.d (dI z)))) s := by
  unfold kFrzD
  rw [data_wz]
  rfl
@[simp] theorem eDictOf_eq (a : Cmp (List W)) (ρ : Rho) (s : S) : eDictOf a ρ s = (a ρ s).bind kDictOf := (rfl)
@[simp] theorem kDictOf_dI (z : List (Key × Int)) (s : S) : kDictOf [.d (dI z)] s = .ok (.d (dI z)) s := (rfl)
@[simp] theorem eFrzD_eq (a : Cmp (List (Key × W))) (ρ : Rho) (s : S) : eFrzD a ρ s = (a ρ s).bind frzDk := (rfl)
@[simp] theorem frzDk_nil (s : S) : frzDk [] s = .ok (.d (dI [])) s := (rfl)
theorem okT_up : ∀ {n : Nat} {t : D}, okT n t = true → okT (n + 1) t = true
  | 0, t, h => by cases h
  | n + 1, t, h => by
    obtain ⟨k, x, l, a, e, rfl, ha, hla, hc⟩ := ok_get h
    cases e
    rcases hc with ⟨rfl, i, rfl, i0, i1⟩ | ⟨hf, hall⟩
    · exact ok_foot _ i i0 (by omega)
    · exact ok_mk _ x l a ha hf hla fun d hd => okT_up (hall d hd)
theorem okT_le {n m : Nat} {t : D} (h : okT n t = true) (hm : n ≤ m) : okT m t = true := by
  induction hm with
  | refl => exact h
  | step _ ih => exact okT_up ih
end TG

set_option Elab.async false
set_option linter.all false
set_option maxRecDepth 100000
set_option maxHeartbeats 4000000
namespace TG
open PySem PySem.Spec PyProof.Rows L2
noncomputable def kM1b (g : Str → Str → TG.D) (x : Str) : TG.W → S → Res TG.W := fun y s => match asStr y with | some b => .ok (.d (g x b)) s | none => .no
noncomputable def kM1a (g : Str → Str → TG.D) (e : Cmp TG.W) (ρ : Rho) : TG.W → S → Res TG.W := fun x s => match asStr x with | some a => (e ρ s).bind (kM1b g a) | none => .no
noncomputable def eM1 (g : Str → Str → TG.D) (o e : Cmp TG.W) : Cmp TG.W := fun ρ s => (o ρ s).bind (kM1a g e ρ)
section
variable {X : Cx} {cl : Str → Option Addr} {Wx : WX} {e o : Expr} {p2 p3 : Pos} {eo ea : Cmp TG.W}
end
end TG

set_option Elab.async false
set_option linter.all false
set_option maxRecDepth 100000
set_option maxHeartbeats 4000000
namespace L2
open PySem PySem.Spec PyProof.Rows
noncomputable def revS (z : Str) : Str := Txt.sliceBy z none none (-1, 0)
section
variable {X : Cx}
noncomputable def tRevS (te : TE) : TE := fun σ H Q => te σ H fun x H1 => ∃ z, x = .str z ∧ z.length ≤ sizeLine ∧ Q (.str (revS z)) H1
theorem pe_revS {e : Expr} {te : TE} {k : Nat} {p1 p2 p3 pos : Pos} (he : PE X e te) : PE X (.Subscript e (.Slice none none (some (.UnaryOp .USub (.Constant (.int 1) k p1) p2)) p3) pos) (tRevS te) := by
  refine ⟨fun pins s σ H Q I h => ?_⟩
  refine Subscript_ (thn (he.run pins s σ H _ I h) fun v s1 ⟨x, H1, I1, r1, q1⟩ => ?_)
  obtain ⟨z, ex, hz, q⟩ := q1
  subst ex
  obtain ⟨t, rfl⟩ := r1
  have hst : PO X (some (.UnaryOp .USub (.Constant (.int 1) k p1) p2)) (tPart (tUn (rU fun i => .int (-i)) (tC (.int 1)))) := po_some (pe_un un_neg pe_int)
  refine wpAny_Slice (thn (po_none.run pins s1 σ H1 (fun o H2 => o = none ∧ H2 = H1) I1 ⟨rfl, rfl⟩) fun vl s2 ⟨l, H2, I2, pl, el, e2⟩ => ?_)
  subst el e2
  refine thn (po_none.run pins s2 σ H2 (fun o H3 => o = none ∧ H3 = H2) I2 ⟨rfl, rfl⟩) fun vu s3 ⟨u, H3, I3, pu, eu, e3⟩ => ?_
  subst eu e3
  refine thn (hst.run pins s3 σ H3 (fun o H4 => o = some (-1) ∧ H4 = H3) I3 ⟨1, rfl, -1, rfl, rfl, rfl⟩) fun vs s4 ⟨o, H4, I4, ps, eo, e4⟩ => ?_
  subst eo e4
  have I5 : Inv X pins σ H4 { s4 with heap := s4.heap.push { cls := .type "slice", data := .fields #[vl, vu, vs] } } := I4.kept (t' := s4.toks) fun b ob q => Heap.get?_push_of_some _ q
  show wpAny (model X.prog X.w) X.A (subscriptTail e (.Slice none none (some (.UnaryOp .USub (.Constant (.int 1) k p1) p2)) p3) (.str z t) (.ref s4.heap.objs.size)) (EP X pins σ Q) X.xe { s4 with heap := s4.heap.push { cls := .type "slice", data := .fields #[vl, vu, vs] } }
  refine tail_any (ops := [.str z t, .ref s4.heap.objs.size]) (typeIs_str _ z t) (PySem.F.slot_str_getitem.lookup) ?_ (by with_unfolding_all rfl)
  obtain ⟨os, hos, hcs, hds⟩ := Heap.IsSliceOf.new s4.heap vl vu vs
  obtain ⟨l', rfl, el⟩ := IsPart.raw pl
  obtain ⟨u', rfl, eu⟩ := IsPart.raw pu
  obtain ⟨w', rfl, ew⟩ := IsPart.raw ps
  cases l' with
  | some _ => cases el
  | none =>
    cases u' with
    | some _ => cases eu
    | none =>
      cases w' with
      | none => cases ew
      | some w' =>
        obtain ⟨w1, wt⟩ := w'
        have ew2 : w1 = -1 := by simpa using ew
        subst ew2
        refine wpAny_getItem_str_slice (l := none) (u := none) (st := some (-1, wt)) ⟨os, hos, hcs, hds⟩ rfl ?_
        exact post_val_or_str ⟨Nat.le_trans (Txt.sliceBy_le z _ _ (-1, wt) (show (-1 : Int) ≠ 0 by decide)) hz, fun t' c => ⟨.str (revS z), H4, I5.tok _, ⟨t', rfl⟩, q⟩⟩
end
end L2
namespace TG
open PySem PySem.Spec PyProof.Rows L2
section
variable {X : Cx} {cl : Str → Option Addr} {Wx : WX} {e : Expr} {pos p1 p2 p3 : Pos} {ea : Cmp TG.W}
end
end TG

set_option Elab.async false
set_option linter.all false
set_option maxRecDepth 100000
set_option maxHeartbeats 4000000
namespace TG
open PySem PySem.Spec PyProof.Rows L2
section
variable {K : PySem.W.Frag} {cl : Str → Option Addr}
theorem hu65 {A : Around} {k : Nat} (hr : Room k A) : A.units + 65 < cLine := by have := hr.un; omega
end
end TG

set_option Elab.async false
set_option linter.all false
set_option maxRecDepth 100000
set_option maxHeartbeats 4000000
namespace TG
open PySem PySem.Spec PyProof.Rows L2
noncomputable def pairK : TG.D → Option (Key × TG.D)
  | .tup [k, v] => (keyD k).map fun k => (k, v)
  | _ => none
noncomputable def pairsK : List TG.D → Option (List (Key × TG.D))
  | [] => some []
  | d :: r => (pairK d).bind fun p => (pairsK r).map (p :: ·)
noncomputable def kDictP : List TG.W → S → Res TG.W := fun ws s => match ws with
  | [.d (.lst l)] => (match pairsK l with | some kvs => if (kvs.map fun p => p.1).Nodup then .ok (.d (.dic kvs)) s else .no | none => .no)
  | _ => .no
noncomputable def eDictP (a : Cmp (List TG.W)) : Cmp TG.W := fun ρ s => (a ρ s).bind kDictP
section
variable {K : PySem.W.Frag} {cl : Str → Option Addr} {H0 H : Hp}
end
section
variable {X : Cx} {cl : Str → Option Addr} {Wx : WX} {e : Expr} {pos p : Pos} {el : Cmp (List TG.W)}
end
end TG

set_option linter.all false
set_option maxRecDepth 100000
namespace TG
open PySem L2
end TG

set_option linter.all false
set_option maxRecDepth 100000
namespace TG
open PySem L2
noncomputable def tl (x : Str) : List Nat := x.cps.toList
theorem tl_ext {x y : Str} (h : tl x = tl y) : x = y := TL.ext_tl h
theorem tl_len (x : Str) : x.length = (tl x).length := TL.len_tl x
theorem ok_cases {n : Nat} {t : D} (h : okT (n + 1) t = true) : (∃ i : Int, 0 ≤ i ∧ i ≤ 7 ∧ t = .tup [.str "foot", .int i]) ∨ (∃ d, okT n d = true ∧ t = .tup [.str "less", d]) ∨ (∃ (x : Str) (d e : D), (x = "sum" ∨ x = "high") ∧ okT n d = true ∧ okT n e = true ∧ t = .tup [.str x, d, e]) := by
  obtain ⟨k, x, l, a, e, rfl, ha, hla, hc⟩ := ok_get h
  cases e
  rcases hc with ⟨rfl, i, rfl, i0, i1⟩ | ⟨hf, hall⟩
  · exact .inl ⟨i, i0, i1, rfl⟩
  · rcases ar_cases x with ⟨rfl, e⟩ | ⟨rfl, e⟩ | ⟨rfl, e⟩ | ⟨rfl, e⟩ | ⟨h1, h2, h3, h4, e⟩
    · exact absurd rfl hf
    · rw [e] at ha; cases ha
      obtain ⟨d, f, rfl⟩ := two_of hla
      exact .inr (.inr ⟨_, d, f, .inl rfl, hall d (by simp), hall f (by simp), rfl⟩)
    · rw [e] at ha; cases ha
      obtain ⟨d, f, rfl⟩ := two_of hla
      exact .inr (.inr ⟨_, d, f, .inr rfl, hall d (by simp), hall f (by simp), rfl⟩)
    · rw [e] at ha; cases ha
      obtain ⟨d, rfl⟩ := List.length_eq_one_iff.mp hla
      exact .inr (.inl ⟨d, hall d (by simp), rfl⟩)
    · rw [e] at ha; cases ha
theorem less_nf : ("less" : Str) ≠ "foot" := by decide +kernel
theorem sum_nf : ("sum" : Str) ≠ "foot" := by decide +kernel
theorem high_nf : ("high" : Str) ≠ "foot" := by decide +kernel
theorem ok_less {n : Nat} {d : D} (h : okT n d = true) : okT (n + 1) (.tup [.str "less", d]) = true := ok_mk n "less" [d] 1 rfl less_nf rfl (by simpa using h)
theorem ok_two {n : Nat} {x : Str} {d e : D} (hx : x = "sum" ∨ x = "high") (h : okT n d = true) (h2 : okT n e = true) : okT (n + 1) (.tup [.str x, d, e]) = true := by
  have hm : ∀ y ∈ [d, e], okT n y = true := by
    intro y hy
    rcases List.mem_cons.mp hy with rfl | hy
    · exact h
    · rw [List.mem_singleton.mp hy]; exact h2
  rcases hx with rfl | rfl
  · exact ok_mk n "sum" [d, e] 2 rfl sum_nf rfl hm
  · exact ok_mk n "high" [d, e] 2 rfl high_nf rfl hm
end TG

set_option linter.all false
set_option maxRecDepth 100000
namespace TG
open PySem L2
noncomputable def mk (l : List Nat) : Str := ⟨l.toArray⟩
theorem tl_mk (l : List Nat) : tl (mk l) = l := rfl
theorem mk_tl (x : Str) : mk (tl x) = x := TL.ext_tl rfl
noncomputable def SOk (l : List Nat) : Prop := ∀ c ∈ l, c < 1114112
theorem strOk_of {x : Str} (h : SOk (tl x)) : PyData.strOk x = true := by
  unfold PyData.strOk
  rw [Array.all_eq_true']
  intro i hi
  exact decide_eq_true (h i (Array.mem_toList_iff.mpr hi))
theorem SOk.of_strOk {x : Str} (h : PyData.strOk x = true) : SOk (tl x) := by
  unfold PyData.strOk at h
  rw [Array.all_eq_true'] at h
  intro c hc
  exact of_decide_eq_true (h c (Array.mem_toList_iff.mp hc))
theorem SOk.sub {l m : List Nat} (h : SOk m) (k : ∀ c ∈ l, c ∈ m) : SOk l := fun c hc => h c (k c hc)
theorem eq_tl {x y : Str} : x = y ↔ tl x = tl y := ⟨fun h => by rw [h], tl_ext⟩
theorem eqD_str {x y : Str} (h : SOk (tl x)) (h2 : SOk (tl y)) : eqD (.str x) (.str y) = some (decide (tl x = tl y)) := by
  unfold eqD
  have a1 : SeqAt.shaped (TG.D.str x).py = true := by
    show (PyData.strOk x && _) = true
    rw [strOk_of h]; rfl
  have a2 : SeqAt.shaped (TG.D.str y).py = true := by
    show (PyData.strOk y && _) = true
    rw [strOk_of h2]; rfl
  rw [if_pos ⟨a1, a2⟩]
  show some (x == y) = _
  congr 1
  rw [Bool.eq_iff_iff, beq_iff_eq, decide_eq_true_eq]
  exact eq_tl
theorem fEq_str (neg : Bool) {x y : Str} (s : S) (h : SOk (tl x)) (h2 : SOk (tl y)) : fEq neg (.d (.str x)) (.d (.str y)) s = .ok (.d (.bl (if neg then !decide (tl x = tl y) else decide (tl x = tl y)))) s :=
  fEq_strs neg x y _ s (eqD_str h h2)
theorem tl_cut (x : Str) (i j : Option Int) : tl (cutS x i j) = cut (tl x) i j := by
  show ((x.cps.toList.drop (HT.sIx x.length 0 i)).take (HT.sIx x.length x.length j - HT.sIx x.length 0 i)).toArray.toList = _
  rw [tl_len]
  rfl
theorem cut_mem {α : Type} (l : List α) (i j : Option Int) : ∀ c ∈ cut l i j, c ∈ l := fun c hc => List.mem_of_mem_drop (List.mem_of_mem_take hc)
theorem fAdd_str (p q : Str) (s : S) (h : p.length + q.length ≤ 16777216) : fAdd (.d (.str p)) (.d (.str q)) s = .ok (.d (.str (p ++ q))) s := by
  show (if p.length + q.length ≤ 16777216 then Res.ok (W.d (.str (p ++ q))) s else .no) = _
  rw [if_pos h]
@[simp] theorem eM1_eq (g : Str → Str → TG.D) (o e : Cmp W) (ρ : Rho) (s : S) : eM1 g o e ρ s = (o ρ s).bind (kM1a g e ρ) := (rfl)
@[simp] theorem kM1a_str (g : Str → Str → TG.D) (e : Cmp W) (ρ : Rho) (x : Str) (s : S) : kM1a g e ρ (.d (.str x)) s = (e ρ s).bind (kM1b g x) := (rfl)
@[simp] theorem kM1b_str (g : Str → Str → TG.D) (x y : Str) (s : S) : kM1b g x (.d (.str y)) s = .ok (.d (g x y)) s := (rfl)
end TG

set_option Elab.async false
set_option linter.all false
set_option maxRecDepth 100000
set_option maxHeartbeats 4000000
namespace TG
open PySem PySem.Spec PyProof.Rows L2
noncomputable def kCellD : List (Key × TG.W) → S → Res TG.W := fun l s => .ok (.r s.length) (s ++ [.dic l])
noncomputable def eCellD (ed : Cmp (List (Key × TG.W))) : Cmp TG.W := fun ρ s => (ed ρ s).bind kCellD
section
variable {X : Cx} {cl : Str → Option Addr} {Wx : WX} {e : Expr} {ed : Cmp (List (Key × TG.W))}
end
noncomputable def kDictO : List TG.W → S → Res (List (Key × TG.W)) := fun ws s => match ws with | [x] => (match asDic x s with | some l => .ok l s | none => .no) | _ => .no
noncomputable def eDictO (a : Cmp (List TG.W)) : Cmp (List (Key × TG.W)) := fun ρ s => (a ρ s).bind kDictO
section
variable {X : Cx} {cl : Str → Option Addr} {Wx : WX} {e : Expr} {pos p : Pos} {el : Cmp (List TG.W)}
end
noncomputable def eDispL : List (Str × Cmp TG.W) → Cmp (List (Key × TG.W))
  | [] => fun _ s => .ok [] s
  | (k, e) :: r => fun ρ s => (e ρ s).bind fun x s1 => (eDispL r ρ s1).bind fun l s2 => .ok ((.inr k, x) :: l) s2
inductive DispR (cl : Str → Option Addr) (Wx : WX) (X : Cx) (pos : Pos) : List (Option Expr) → List Expr → List (TE × TE) → List (Str × Cmp TG.W) → Prop
  | nil : DispR cl Wx X pos [] [] [] []
  | cons {k : Str} {j : Nat} {p : Pos} {v : Expr} {ks : List (Option Expr)} {vs : List Expr} {trs : List (TE × TE)} {r : List (Str × Cmp TG.W)} {ev : Cmp TG.W} (hv : JE cl Wx X v ev) (hr : DispR cl Wx X pos ks vs trs r) :
      DispR cl Wx X pos (some (.Constant (.str k) j p) :: ks) (v :: vs) ((tC (.str k), Tof X.K cl (rrW X.K cl) Wx ev) :: trs) ((k, ev) :: r)
section
variable {X : Cx} {cl : Str → Option Addr} {Wx : WX} {pos : Pos}
theorem DispR.run {ks : List (Option Expr)} {vs : List Expr} {trs : List (TE × TE)} {r : List (Str × Cmp TG.W)} (h : DispR cl Wx X pos ks vs trs r) : ∀ {H0 H : Hp} {m ow : List Addr} {s : S} {σ : L2.St} {ρ : Rho} {Q : List (V × V) → Hp → Prop} {α β : Type} {RR : RRT β α} [Early RR] {Q' : β → Hp → Prop} {k : List (Key × TG.W) → S → Res α},
    Ctx X.K cl H0 H m ow s σ ρ → RunE X.K cl RR Wx H0 H m σ Q' ((eDispL r ρ s).bind k) →
    (∀ l s1 kvs H1 H1' m1, GoE H0 H m H1 H1' m1 → Ctx X.K cl H1 H1' m1 ow s1 σ ρ → RepWK X.K cl H1 m1 kvs l → eDispL r ρ s = .ok l s1 → Q (kvs.map fun kv : Key × V => (kV kv.1, kv.2)) H1') → tPairs trs σ H Q := by
  induction h with
  | nil =>
    intro H0 H m ow s σ ρ Q α β RR _ Q' k cx hq hk
    exact hk [] s [] H0 H m Go.refl cx .nil rfl
  | @cons kk j p v ks vs trs r ev hv hr ih =>
    intro H0 H m ow s σ ρ Q α β RR _ Q' k cx hq hk
    have hq : RunE X.K cl RR Wx H0 H m σ Q' (((ev ρ s).bind fun x s1 => (eDispL r ρ s1).bind fun l s2 => .ok ((.inr kk, x) :: l) s2).bind k) := hq
    have e0 : ((ev ρ s).bind fun x s1 => (eDispL r ρ s1).bind fun l s2 => Res.ok ((Sum.inr kk, x) :: l) s2).bind k = (ev ρ s).bind fun x s1 => (eDispL r ρ s1).bind fun l s2 => k ((Sum.inr kk, x) :: l) s2 := by
      cases ev ρ s with
      | ok x s1 => 
        show ((eDispL r ρ s1).bind fun l s2 => Res.ok ((Sum.inr kk, x) :: l) s2).bind k = (eDispL r ρ s1).bind fun l s2 => k ((Sum.inr kk, x) :: l) s2
        cases eDispL r ρ s1 <;> rfl
      | exc c x s' => rfl
      | no => rfl
    rw [e0] at hq
    show tC (.str kk) σ H fun x H1 => Tof X.K cl (rrW X.K cl) Wx ev σ H1 fun y H2 => tPairs trs σ H2 fun ps H3 => Q ((x, y) :: ps) H3
    refine ⟨H0, m, ow, s, ρ, cx, ?_⟩
    cases e1 : ev ρ s with
    | no => rw [e1] at hq; exact hq.elim
    | exc c z s' => rw [e1] at hq; exact hq
    | ok x s1 =>
      rw [e1] at hq
      intro v' H1 H1' m1 g st rr
      have hq1 : RunE X.K cl RR Wx H0 H m σ Q' ((eDispL r ρ s1).bind fun l s2 => k ((Sum.inr kk, x) :: l) s2) := hq
      refine ih (cx.go g st) (hq1.shift g) fun l s2 kvs H2 H2' m2 g2 c2 rk e2 => ?_
      refine hk ((.inr kk, x) :: l) s2 ((.inr kk, v') :: kvs) H2 H2' m2 (g.trans g2) c2 (.cons (RepW.mono g2.s0 g2.pre rr) rk) ?_
      show ((ev ρ s).bind fun x s1 => (eDispL r ρ s1).bind fun l s2 => Res.ok ((Sum.inr kk, x) :: l) s2) = _
      rw [e1]
      show ((eDispL r ρ s1).bind fun l s2 => Res.ok ((Sum.inr kk, x) :: l) s2) = _
      rw [e2]
      rfl
end
section
variable {X : Cx} {cl : Str → Option Addr} {Wx : WX} {pos : Pos} {ks : List (Option Expr)} {vs : List Expr} {trs : List (TE × TE)} {r : List (Str × Cmp TG.W)}
end
end TG

set_option Elab.async false
set_option linter.all false
set_option maxRecDepth 100000
set_option maxHeartbeats 4000000
namespace TG
open PySem PySem.Spec PyProof.Rows L2
noncomputable def keysI {α : Type} : List (Key × α) → Option (List Int)
  | [] => some []
  | (.inl i, _) :: r => (keysI r).map (i :: ·)
  | (.inr _, _) :: _ => none
noncomputable def kSortDI : List TG.W → S → Res (List TG.W) := fun ws s => match ws with
  | [x] => (match asDic x s with | some l => (match keysI l with | some ks => .ok (wD (ks.mergeSort.map TG.D.int)) s | none => .no) | none => .no)
  | _ => .no
noncomputable def eSortDI (a : Cmp (List TG.W)) : Cmp (List TG.W) := fun ρ s => (a ρ s).bind kSortDI
noncomputable def kLenDic : List TG.W → S → Res TG.W := fun ws s => match ws with | [x] => (match asDic x s with | some l => .ok (.d (.int l.length)) s | none => .no) | _ => .no
noncomputable def eLenDic (a : Cmp (List TG.W)) : Cmp TG.W := fun ρ s => (a ρ s).bind kLenDic
section
variable {X : Cx} {cl : Str → Option Addr} {Wx : WX} {e : Expr} {pos p : Pos} {el : Cmp (List TG.W)}
end
noncomputable def keyW : TG.W → Option Key | .d x => keyD x | .r _ => none
noncomputable def setD (x i v : TG.W) (s : S) : Option S := match x, keyW i with
  | .r n, some k => (match s[n]? with
    | some (.dic l) => if l.length < 16777216 then some (s.set n (.dic (putDW l k v))) else none
    | _ => none)
  | _, _ => none
noncomputable def kSetKC3 (x y : TG.W) : TG.W → Stm := fun z ρ s => match setD y z x s with | some s' => .nx ρ s' | none => .no
noncomputable def kSetKC2 (i : Cmp TG.W) (x : TG.W) : TG.W → Stm := fun y ρ s => ebS (i ρ s) ρ (kSetKC3 x y)
noncomputable def kSetKC (o i : Cmp TG.W) : TG.W → Stm := fun x ρ s => ebS (o ρ s) ρ (kSetKC2 i x)
noncomputable def sSetKC (o i v : Cmp TG.W) : Stm := fun ρ s => ebS (v ρ s) ρ (kSetKC o i)
section
variable {X : Cx} {cl : Str → Option Addr} {Wx : WX} {e i o : Expr} {pos p1 : Pos} {ea ei eo : Cmp TG.W}
end
noncomputable def dropDW (l : List (Key × TG.W)) (k : Key) : List (Key × TG.W) := l.filter fun kv => decide (kv.1 ≠ k)
noncomputable def isCD : TG.W → S → Bool := fun x s => match x with
  | .r n => (match s[n]? with | some (.dic _) => true | _ => false)
  | _ => false
noncomputable def popD (x i : TG.W) (s : S) : Option (TG.W × S) := match x, keyW i with
  | .r n, some k => (match s[n]? with
    | some (.dic l) => (valDW l k).map fun v => (v, s.set n (.dic (dropDW l k)))
    | _ => none)
  | _, _ => none
noncomputable def kPopKC2 (x : TG.W) : TG.W → S → Res TG.W := fun i s => match popD x i s with | some (v, s') => .ok v s' | none => .no
noncomputable def kPopKC (i : Cmp TG.W) (ρ : Rho) : TG.W → S → Res TG.W := fun x s => if isCD x s = true then (i ρ s).bind (kPopKC2 x) else .no
noncomputable def ePopKC (o i : Cmp TG.W) : Cmp TG.W := fun ρ s => (o ρ s).bind (kPopKC i ρ)
noncomputable def popL (x : TG.W) (s : S) : Option (TG.W × S) := match x with
  | .r n => (match s[n]? with
    | some (.lst l) => (l[l.length - 1]?).map fun v => (v, s.set n (.lst l.dropLast))
    | _ => none)
  | _ => none
noncomputable def kPopC : TG.W → S → Res TG.W := fun x s => match popL x s with | some (v, s') => .ok v s' | none => .no
noncomputable def ePopC (o : Cmp TG.W) : Cmp TG.W := fun ρ s => (o ρ s).bind kPopC
section
variable {X : Cx} {cl : Str → Option Addr} {Wx : WX} {e i o : Expr} {pos apos : Pos} {ei eo : Cmp TG.W}
theorem RepWs.dropLast {K : PySem.W.Frag} {cl : Str → Option Addr} {H0 : Hp} {m : List Addr} {vs : List V} {l : List TG.W} (h : RepWs K cl H0 m vs l) : RepWs K cl H0 m vs.dropLast l.dropLast := by
  rw [List.dropLast_eq_take, List.dropLast_eq_take, h.length]
  exact h.take _
end
section
variable {X : Cx} {cl : Str → Option Addr} {E : XK} {pos p : Pos} {k : Nat} {c : Str} {ps : List Str} {f : Sem1}
end
end TG

set_option Elab.async false
set_option linter.all false
set_option maxRecDepth 100000
set_option maxHeartbeats 4000000
namespace TG
open PySem PySem.Spec PyProof.Rows L2
section
variable {X : Cx} {cl : Str → Option Addr} {k : Nat} {ps : List Str} {f : Sem1} {c : Str}
noncomputable def lenC : Res RV → Res TG.W
  | .ok (.w (.d (.int n))) s => if 0 ≤ n ∧ n < 1000 then .ok (.d (.int n)) s else .no
  | _ => .no
noncomputable def kLenC (c : Str) (f : Sem1) : TG.W → S → Res TG.W := fun x s => if insOf c "__len__" x s = true then lenC (f [x] s) else .no
noncomputable def eLenC (c : Str) (f : Sem1) (a : Cmp TG.W) : Cmp TG.W := fun ρ s => (a ρ s).bind (kLenC c f)
variable {Wx : WX} {e : Expr} {pos p : Pos} {ea : Cmp TG.W} {x : Str}
end
noncomputable def kPopKO (i : Nat) (l : List (Key × TG.W)) : TG.W → Stm := fun z ρ s => match keyW z with
  | some k => if (valDW l k).isSome = true then .nx (ρ.set i (.ownD (dropDW l k))) s else .no
  | none => .no
noncomputable def sPopKO (i : Nat) (e : Cmp TG.W) : Stm := fun ρ s => match (ρ[i]? : Option EV) with | some (.ownD l) => ebS (e ρ s) ρ (kPopKO i l) | _ => .no
section
variable {X : Cx} {cl : Str → Option Addr} {Wx : WX} {e : Expr} {pos p1 p2 p3 : Pos} {ea : Cmp TG.W} {x : Str}
end
end TG

set_option Elab.async false
set_option linter.all false
set_option maxRecDepth 100000
set_option maxHeartbeats 4000000
namespace TG
open PySem PySem.Spec PyProof.Rows L2
section
variable {X : Cx} {CX : CXT} {k : Nat} {f : Addr} {fd : FuncData} {ps : List Str} {sp : Sp} {E : L2.St → XK} {x : Str} {p pos : Pos}
end
section
variable {X : Cx} {cl : Str → Option Addr} {Wx : WX} {pos p : Pos} {k : Nat} {x : Str} {ps : List Str} {f : Sem1}
end
end TG

set_option linter.all false
set_option maxRecDepth 100000
namespace TG
open PySem L2
noncomputable def b_Hold_init : Stm :=
  (sSeq (sFld "Hold" "there" (eVar 0) (eVar 1))
  (sFld "Hold" "many_told" (eVar 0) (eVar 2)))
noncomputable def f_Hold_init : Sem1 := runF 3 3 b_Hold_init
noncomputable def b_v_law_fact_ok : Stm :=
  (sSeq (sSet 1 (eC (dicI [("blank", 3), ("cut", 4), ("mount", 5), ("foot", 5), ("lever", 3)])))
  (sSeq (sIf (eOrT (eTest (eBin (fEq false) (eArgs (c1 fLen) (eCons (eVar 0) eNil)) (eC (.int 0)))) (eOrT (eTest (eBin (fIn true) (eBin fIx (eVar 0) (eC (.int 0))) (eVar 1))) (eTest (eBin (fEq true) (eArgs (c1 fLen) (eCons (eVar 0) eNil)) (eBin fIx (eVar 1) (eBin fIx (eVar 0) (eC (.int 0)))))))) (sRet (eC (.bl false))) sNext)
  (sSeq (sIf (eTest (eBin (fEq false) (eBin fIx (eVar 0) (eC (.int 0))) (eC (.str "foot")))) (sSeq (sSet 2 (eAndV (eChain fLe fLe (eC (.int 1)) (eArgs (c1 fLen) (eCons (eBin fIx (eVar 0) (eC (.int 3))) eNil)) (eC (.int 9))) (eArgs (c1 fAll) (eCons (eFrz (eLc [3] (eSeq (eBin fIx (eVar 0) (eC (.int 3)))) (tgName 3) eYes (eChain fLe fLe (eC (.int 0)) (eVar 3) (eC (.int 99))))) eNil))))
  (sRet (eAndV (eVar 2) (eAndV (eChain fLe fLe (eC (.int 0)) (eBin fIx (eVar 0) (eC (.int 1))) (eC (.int 7))) (eAndV (eChain fLe fLe (eC (.int 0)) (eBin fIx (eVar 0) (eC (.int 2))) (eC (.int 5))) (eChain fLe fLt (eC (.int 0)) (eBin fIx (eVar 0) (eC (.int 4))) (eArgs (c1 fLen) (eCons (eBin fIx (eVar 0) (eC (.int 3))) eNil)))))))) sNext)
  (sSeq (sIf (eNotT (eTest (eChain fLe fLe (eC (.int 0)) (eBin fIx (eVar 0) (eC (.int 1))) (eC (.int 5))))) (sRet (eC (.bl false))) sNext)
  (sSeq (sIf (eTest (eBin (fEq false) (eBin fIx (eVar 0) (eC (.int 0))) (eC (.str "blank")))) (sRet (eChain fLe fLe (eC (.int 3)) (eArgs (c1 fLen) (eCons (eBin fIx (eVar 0) (eC (.int 2))) eNil)) (eC (.int 48)))) sNext)
  (sSeq (sIf (eTest (eBin (fEq false) (eBin fIx (eVar 0) (eC (.int 0))) (eC (.str "cut")))) (sRet (eChain fLe fLe (eC (.int 0)) (eBin fIx (eVar 0) (eC (.int 2))) (eC (.int 47)))) sNext)
  (sSeq (sIf (eTest (eBin (fEq false) (eBin fIx (eVar 0) (eC (.int 0))) (eC (.str "mount")))) (sRet (eAndV (eChain fLe fLe (eUn fNeg (eC (.int 99))) (eBin fIx (eVar 0) (eC (.int 2))) (eC (.int 99))) (eChain fLe fLe (eC (.int 1)) (eBin fIx (eVar 0) (eC (.int 3))) (eC (.int 99))))) sNext)
  (sRet (eCall f_v_law_good_tree (eCons (eBin fIx (eVar 0) (eC (.int 2))) eNil))))))))))
noncomputable def f_v_law_fact_ok : Sem1 := runF 1 4 b_v_law_fact_ok
noncomputable def b_v_law_done : Stm :=
  (sSeq (sSet 2 (eBin fIx (eVar 0) (eC (.str "facts"))))
  (sSeq (sIf (eAndT (eTest (eBin (fEq true) (eBin fIx (eVar 1) (eC (.int 0))) (eC (.str "tell")))) (eTest (eBin (fIn true) (eBin fIx (eVar 1) (eC (.int 1))) (eVar 2)))) (sRetL (eLst (eCons (eC (.str "NoFact")) (eCons (eBin fIx (eVar 1) (eC (.int 1))) eNil)))) sNext)
  (sSeq (sIf (eTest (eBin (fEq false) (eBin fIx (eVar 1) (eC (.int 0))) (eC (.str "strike")))) (sRetL (eLst (eCons (eC (.str "")) (eCons (ePopKC (eVar 2) (eBin fIx (eVar 1) (eC (.int 1)))) eNil)))) sNext)
  (sSeq (sIf (eNotT (eTest (eCall f_v_law_fact_ok (eCons (eBin fIx (eVar 1) (eUn fNeg (eC (.int 1)))) eNil)))) (sRetL (eLst (eCons (eC (.str "BadFact")) (eCons (eC .non) eNil)))) sNext)
  (sSeq (sIf (eTest (eBin (fEq false) (eBin fIx (eVar 1) (eC (.int 0))) (eC (.str "right")))) (sSeq (sSet 3 (eBin fIx (eVar 2) (eBin fIx (eVar 1) (eC (.int 1)))))
  (sSeq (sIf (eTest (eBin (fEq true) (eBin fIx (eVar 3) (eC (.int 0))) (eBin fIx (eBin fIx (eVar 1) (eC (.int 2))) (eC (.int 0))))) (sRetL (eLst (eCons (eC (.str "Other")) (eCons (eC .non) eNil)))) sNext)
  (sSeq (sSetKC (eVar 2) (eBin fIx (eVar 1) (eC (.int 1))) (eBin fIx (eVar 1) (eC (.int 2))))
  (sRetL (eLst (eCons (eC (.str "")) (eCons (eVar 3) eNil))))))) sNext)
  (sSeq (sIf (eTest (eBin fGt (eBin fIx (eVar 0) (eC (.str "told"))) (eC (.int 99)))) (sRetL (eLst (eCons (eC (.str "Full")) (eCons (eC .non) eNil)))) sNext)
  (sSeq (sSetKC (eVar 0) (eC (.str "told")) (eBin fAdd (eBin fIx (eVar 0) (eC (.str "told"))) (eC (.int 1))))
  (sSeq (sSetKC (eVar 2) (eBin fIx (eVar 0) (eC (.str "told"))) (eBin fIx (eVar 1) (eC (.int 1))))
  (sRetL (eLst (eCons (eC (.str "")) (eCons (eBin fIx (eVar 0) (eC (.str "told"))) eNil))))))))))))
noncomputable def f_v_law_done : Sem1 := runF 2 4 b_v_law_done
noncomputable def b_Workshop_facts : Stm :=
  (sSeq (sSet 1 (eFld "Hold" "there" (eBin fIx (eFld "Workshop" "times_kept" (eVar 0)) (eUn fNeg (eC (.int 1))))))
  (sRetL (eLc [2] (eSeq (eFrz (eSortDI (eCons (eVar 1) eNil)))) (tgName 2) eYes (eTup (eCons (eVar 2) (eCons (eBin fIx (eVar 1) (eVar 2)) eNil))))))
noncomputable def f_Workshop_facts : Sem1 := runF 1 3 b_Workshop_facts
noncomputable def b_Workshop_fact_of : Stm :=
  (sSeq (sSet 2 (eFld "Hold" "there" (eBin fIx (eFld "Workshop" "times_kept" (eVar 0)) (eUn fNeg (eC (.int 1))))))
  (sSeq (sIf (eTest (eBin (fIn true) (eVar 1) (eVar 2))) (sRaiseX "NoFact" (eVar 1)) sNext)
  (sRet (eBin fIx (eVar 2) (eVar 1)))))
noncomputable def f_Workshop_fact_of : Sem1 := runF 2 3 b_Workshop_fact_of
noncomputable def b_Workshop_go_on : Stm :=
  (sSeq (sAppC (eFld "Workshop" "times_kept" (eVar 0)) (eMake "Hold" f_Hold_init (eCons (eVar 1) (eCons (eVar 2) eNil))))
  (sFld "Workshop" "gone" (eVar 0) (eCell (eLst eNil))))
noncomputable def f_Workshop_go_on : Sem1 := runF 3 3 b_Workshop_go_on
noncomputable def b_Workshop_strike : Stm :=
  (sSeq (sSet 2 (eMeth "Workshop" "fact_of" f_Workshop_fact_of (eVar 0) (eCons (eVar 1) eNil)))
  (sSeq (sSet 3 (eBin fIx (eFld "Workshop" "times_kept" (eVar 0)) (eUn fNeg (eC (.int 1)))))
  (sSeq (sSetD 4 (eDictO (eCons (eFld "Hold" "there" (eVar 3)) eNil)))
  (sSeq (sPopKO 4 (eVar 1))
  (sFrzD 4 (sSeq (sExpr (eMeth "Workshop" "go_on" f_Workshop_go_on (eVar 0) (eCons (eVar 4) (eCons (eFld "Hold" "many_told" (eVar 3)) eNil))))
  (sRet (eVar 2))))))))
noncomputable def f_Workshop_strike : Sem1 := runF 2 5 b_Workshop_strike
noncomputable def b_are_numbers : Stm :=
  (sRet (eAndV (eUn (fIsi "tuple") (eVar 0)) (eArgs (c1 fAll) (eCons (eFrz (eLc [1] (eSeq (eVar 0)) (tgName 1) eYes (eCall f_is_number (eCons (eVar 1) eNil)))) eNil))))
noncomputable def f_are_numbers : Sem1 := runF 1 2 b_are_numbers
noncomputable def b_good_kinds : Stm :=
  (sSeq (sIf (eTest (eBin (fEq false) (eBin fIx (eVar 0) (eC (.int 0))) (eC (.str "lever")))) (sRet (eAndV (eCall f_is_number (eCons (eBin fIx (eVar 0) (eC (.int 1))) eNil)) (eUn (fIsi "tuple") (eBin fIx (eVar 0) (eC (.int 2)))))) sNext)
  (sSeq (sIf (eTest (eBin (fEq false) (eBin fIx (eVar 0) (eC (.int 0))) (eC (.str "foot")))) (sRet (eAndV (eCall f_are_numbers (eCons (eBin fAdd (eSl fSl (eVar 0) (ePart (eC (.int 1))) (ePart (eC (.int 3)))) (eSl fSl (eVar 0) (ePart (eC (.int 4))) eNoPart)) eNil)) (eCall f_are_numbers (eCons (eBin fIx (eVar 0) (eC (.int 3))) eNil)))) sNext)
  (sSeq (sIf (eTest (eBin (fEq false) (eBin fIx (eVar 0) (eC (.int 0))) (eC (.str "blank")))) (sRet (eAndV (eCall f_is_number (eCons (eBin fIx (eVar 0) (eC (.int 1))) eNil)) (eCall f_are_numbers (eCons (eBin fIx (eVar 0) (eC (.int 2))) eNil)))) sNext)
  (sRet (eCall f_are_numbers (eCons (eSl fSl (eVar 0) (ePart (eC (.int 1))) eNoPart) eNil))))))
noncomputable def f_good_kinds : Sem1 := runF 1 1 b_good_kinds
noncomputable def b_good_mount : Stm :=
  (sRet (eAndV (eBin fLe (eArgs (c1 fAbs) (eCons (eBin fIx (eVar 0) (eC (.int 2))) eNil)) (eC (.int 99))) (eChain fLe fLe (eC (.int 1)) (eBin fIx (eVar 0) (eC (.int 3))) (eC (.int 99)))))
noncomputable def f_good_mount : Sem1 := runF 1 1 b_good_mount
noncomputable def b_good_things : Stm :=
  (sSeq (sSet 1 (eBin fIx (eVar 0) (eC (.int 0))))
  (sSeq (sIf (eTest (eBin (fEq false) (eVar 1) (eC (.str "lever")))) (sRet (eAndV (eChain fLe fLe (eC (.int 0)) (eBin fIx (eVar 0) (eC (.int 1))) (eC (.int 5))) (eCall f_is_tree (eCons (eBin fIx (eVar 0) (eC (.int 2))) eNil)))) sNext)
  (sSeq (sIf (eTest (eBin (fEq false) (eVar 1) (eC (.str "foot")))) (sRet (eAndV (eChain fLe fLe (eC (.int 0)) (eBin fIx (eVar 0) (eC (.int 1))) (eC (.int 7))) (eAndV (eChain fLe fLe (eC (.int 0)) (eBin fIx (eVar 0) (eC (.int 2))) (eC (.int 5))) (eCall f_good_foot (eCons (eBin fIx (eVar 0) (eC (.int 3))) (eCons (eBin fIx (eVar 0) (eC (.int 4))) eNil)))))) sNext)
  (sSeq (sIf (eNotT (eTest (eChain fLe fLe (eC (.int 0)) (eBin fIx (eVar 0) (eC (.int 1))) (eC (.int 5))))) (sRet (eC (.bl false))) sNext)
  (sSeq (sIf (eTest (eBin (fEq false) (eVar 1) (eC (.str "blank")))) (sRet (eCall f_is_rim (eCons (eBin fIx (eVar 0) (eC (.int 2))) eNil))) sNext)
  (sSeq (sIf (eTest (eBin (fEq false) (eVar 1) (eC (.str "cut")))) (sRet (eChain fLe fLt (eC (.int 0)) (eBin fIx (eVar 0) (eC (.int 2))) (eC (.int 48)))) sNext)
  (sRet (eCall f_good_mount (eCons (eVar 0) eNil)))))))))
noncomputable def f_good_things : Sem1 := runF 1 2 b_good_things
noncomputable def b_need_fact : Stm :=
  (sSeq (sIf (eOrT (eTest (eBin (fEq false) (eArgs (c1 fLen) (eCons (eVar 0) eNil)) (eC (.int 0)))) (eOrT (eNotT (eTest (eUn (fIsi "str") (eBin fIx (eVar 0) (eC (.int 0)))))) (eTest (eUn (fInKD true [("blank", 3), ("cut", 4), ("mount", 5), ("foot", 5), ("lever", 3)]) (eBin fIx (eVar 0) (eC (.int 0))))))) (sRaise0 "BadFact") sNext)
  (sIf (eOrT (eTest (eBin (fEq true) (eArgs (c1 fLen) (eCons (eVar 0) eNil)) (eUn (fIxKD [("blank", 3), ("cut", 4), ("mount", 5), ("foot", 5), ("lever", 3)]) (eBin fIx (eVar 0) (eC (.int 0)))))) (eOrT (eNotT (eTest (eCall f_good_kinds (eCons (eVar 0) eNil)))) (eNotT (eTest (eCall f_good_things (eCons (eVar 0) eNil)))))) (sRaise0 "BadFact") sNext))
noncomputable def f_need_fact : Sem1 := runF 1 1 b_need_fact
noncomputable def b_Workshop_tell : Stm :=
  (sSeq (sExpr (eCall f_need_fact (eCons (eVar 1) eNil)))
  (sSeq (sSet 2 (eBin fIx (eFld "Workshop" "times_kept" (eVar 0)) (eUn fNeg (eC (.int 1)))))
  (sSeq (sIf (eTest (eBin fGe (eFld "Hold" "many_told" (eVar 2)) (eC (.int 100)))) (sRaise0 "Full") sNext)
  (sSeq (sSetD 3 (eDictO (eCons (eFld "Hold" "there" (eVar 2)) eNil)))
  (sSeq (sSetKO 3 (eBin fAdd (eFld "Hold" "many_told" (eVar 2)) (eC (.int 1))) (eVar 1))
  (sFrzD 3 (sSeq (sExpr (eMeth "Workshop" "go_on" f_Workshop_go_on (eVar 0) (eCons (eVar 3) (eCons (eBin fAdd (eFld "Hold" "many_told" (eVar 2)) (eC (.int 1))) eNil))))
  (sRet (eBin fAdd (eFld "Hold" "many_told" (eVar 2)) (eC (.int 1)))))))))))
noncomputable def f_Workshop_tell : Sem1 := runF 2 4 b_Workshop_tell
noncomputable def b_Workshop_right : Stm :=
  (sSeq (sSet 3 (eMeth "Workshop" "fact_of" f_Workshop_fact_of (eVar 0) (eCons (eVar 1) eNil)))
  (sSeq (sExpr (eCall f_need_fact (eCons (eVar 2) eNil)))
  (sSeq (sIf (eTest (eBin (fEq true) (eBin fIx (eVar 2) (eC (.int 0))) (eBin fIx (eVar 3) (eC (.int 0))))) (sRaise0 "Other") sNext)
  (sSeq (sSet 4 (eBin fIx (eFld "Workshop" "times_kept" (eVar 0)) (eUn fNeg (eC (.int 1)))))
  (sSeq (sSetD 5 (eDictO (eCons (eFld "Hold" "there" (eVar 4)) eNil)))
  (sSeq (sSetKO 5 (eVar 1) (eVar 2))
  (sFrzD 5 (sSeq (sExpr (eMeth "Workshop" "go_on" f_Workshop_go_on (eVar 0) (eCons (eVar 5) (eCons (eFld "Hold" "many_told" (eVar 4)) eNil))))
  (sRet (eVar 3))))))))))
noncomputable def f_Workshop_right : Sem1 := runF 3 6 b_Workshop_right
end TG

set_option linter.all false
set_option maxRecDepth 100000
namespace TG
open PySem L2
theorem fIx_tup (l : List D) (i : Int) (s : S) : fIx (.d (.tup l)) (.d (.int i)) s = match atI (wD l) i with | some w => .ok w s | none => .no := (rfl)
theorem fIx_lst (l : List D) (i : Int) (s : S) : fIx (.d (.lst l)) (.d (.int i)) s = match atI (wD l) i with | some w => .ok w s | none => .no := by rw [fIx_eq, asSeq_lst]; rfl
@[simp] theorem atI_4 {α : Type} (l : List α) : atI l 4 = l[4]? := atI_nat' l 4
@[simp] theorem atI_m1 {α : Type} (l : List α) : atI l (-1) = l[l.length - 1]? := by
  unfold atI ixN
  rw [if_neg (by decide)]
  cases l with
  | nil => rfl
  | cons a l =>
    have h : -((a :: l).length : Int) ≤ -1 := by simp; omega
    rw [if_pos h]
    show ((a :: l)[((-1 : Int) + ((a :: l).length : Nat)).toNat]?) = (a :: l)[(a :: l).length - 1]?
    congr 1
    simp
    omega
noncomputable abbrev sizes : List (Str × Int) := [("blank", 3), ("cut", 4), ("mount", 5), ("foot", 5), ("lever", 3)]

theorem wq_blank_blank_f (s : S) : fEq false (.d (.str "blank")) (.d (.str "blank")) s = .ok (.d (.bl true)) s := fEq_strs false _ _ true s (by decide +kernel)
theorem wq_blank_blank_t (s : S) : fEq true (.d (.str "blank")) (.d (.str "blank")) s = .ok (.d (.bl false)) s := fEq_strs true _ _ true s (by decide +kernel)
theorem wq_blank_cut_f (s : S) : fEq false (.d (.str "blank")) (.d (.str "cut")) s = .ok (.d (.bl false)) s := fEq_strs false _ _ false s (by decide +kernel)
theorem wq_blank_cut_t (s : S) : fEq true (.d (.str "blank")) (.d (.str "cut")) s = .ok (.d (.bl true)) s := fEq_strs true _ _ false s (by decide +kernel)
theorem wq_blank_mount_f (s : S) : fEq false (.d (.str "blank")) (.d (.str "mount")) s = .ok (.d (.bl false)) s := fEq_strs false _ _ false s (by decide +kernel)
theorem wq_blank_mount_t (s : S) : fEq true (.d (.str "blank")) (.d (.str "mount")) s = .ok (.d (.bl true)) s := fEq_strs true _ _ false s (by decide +kernel)
theorem wq_blank_foot_f (s : S) : fEq false (.d (.str "blank")) (.d (.str "foot")) s = .ok (.d (.bl false)) s := fEq_strs false _ _ false s (by decide +kernel)
theorem wq_blank_foot_t (s : S) : fEq true (.d (.str "blank")) (.d (.str "foot")) s = .ok (.d (.bl true)) s := fEq_strs true _ _ false s (by decide +kernel)
theorem wq_blank_lever_f (s : S) : fEq false (.d (.str "blank")) (.d (.str "lever")) s = .ok (.d (.bl false)) s := fEq_strs false _ _ false s (by decide +kernel)
theorem wq_blank_lever_t (s : S) : fEq true (.d (.str "blank")) (.d (.str "lever")) s = .ok (.d (.bl true)) s := fEq_strs true _ _ false s (by decide +kernel)
theorem wq_cut_blank_f (s : S) : fEq false (.d (.str "cut")) (.d (.str "blank")) s = .ok (.d (.bl false)) s := fEq_strs false _ _ false s (by decide +kernel)
theorem wq_cut_blank_t (s : S) : fEq true (.d (.str "cut")) (.d (.str "blank")) s = .ok (.d (.bl true)) s := fEq_strs true _ _ false s (by decide +kernel)
theorem wq_cut_cut_f (s : S) : fEq false (.d (.str "cut")) (.d (.str "cut")) s = .ok (.d (.bl true)) s := fEq_strs false _ _ true s (by decide +kernel)
theorem wq_cut_cut_t (s : S) : fEq true (.d (.str "cut")) (.d (.str "cut")) s = .ok (.d (.bl false)) s := fEq_strs true _ _ true s (by decide +kernel)
theorem wq_cut_mount_f (s : S) : fEq false (.d (.str "cut")) (.d (.str "mount")) s = .ok (.d (.bl false)) s := fEq_strs false _ _ false s (by decide +kernel)
theorem wq_cut_mount_t (s : S) : fEq true (.d (.str "cut")) (.d (.str "mount")) s = .ok (.d (.bl true)) s := fEq_strs true _ _ false s (by decide +kernel)
theorem wq_cut_foot_f (s : S) : fEq false (.d (.str "cut")) (.d (.str "foot")) s = .ok (.d (.bl false)) s := fEq_strs false _ _ false s (by decide +kernel)
theorem wq_cut_foot_t (s : S) : fEq true (.d (.str "cut")) (.d (.str "foot")) s = .ok (.d (.bl true)) s := fEq_strs true _ _ false s (by decide +kernel)
theorem wq_cut_lever_f (s : S) : fEq false (.d (.str "cut")) (.d (.str "lever")) s = .ok (.d (.bl false)) s := fEq_strs false _ _ false s (by decide +kernel)
theorem wq_cut_lever_t (s : S) : fEq true (.d (.str "cut")) (.d (.str "lever")) s = .ok (.d (.bl true)) s := fEq_strs true _ _ false s (by decide +kernel)
theorem wq_mount_blank_f (s : S) : fEq false (.d (.str "mount")) (.d (.str "blank")) s = .ok (.d (.bl false)) s := fEq_strs false _ _ false s (by decide +kernel)
theorem wq_mount_blank_t (s : S) : fEq true (.d (.str "mount")) (.d (.str "blank")) s = .ok (.d (.bl true)) s := fEq_strs true _ _ false s (by decide +kernel)
theorem wq_mount_cut_f (s : S) : fEq false (.d (.str "mount")) (.d (.str "cut")) s = .ok (.d (.bl false)) s := fEq_strs false _ _ false s (by decide +kernel)
theorem wq_mount_cut_t (s : S) : fEq true (.d (.str "mount")) (.d (.str "cut")) s = .ok (.d (.bl true)) s := fEq_strs true _ _ false s (by decide +kernel)
theorem wq_mount_mount_f (s : S) : fEq false (.d (.str "mount")) (.d (.str "mount")) s = .ok (.d (.bl true)) s := fEq_strs false _ _ true s (by decide +kernel)
theorem wq_mount_mount_t (s : S) : fEq true (.d (.str "mount")) (.d (.str "mount")) s = .ok (.d (.bl false)) s := fEq_strs true _ _ true s (by decide +kernel)
theorem wq_mount_foot_f (s : S) : fEq false (.d (.str "mount")) (.d (.str "foot")) s = .ok (.d (.bl false)) s := fEq_strs false _ _ false s (by decide +kernel)
theorem wq_mount_foot_t (s : S) : fEq true (.d (.str "mount")) (.d (.str "foot")) s = .ok (.d (.bl true)) s := fEq_strs true _ _ false s (by decide +kernel)
theorem wq_mount_lever_f (s : S) : fEq false (.d (.str "mount")) (.d (.str "lever")) s = .ok (.d (.bl false)) s := fEq_strs false _ _ false s (by decide +kernel)
theorem wq_mount_lever_t (s : S) : fEq true (.d (.str "mount")) (.d (.str "lever")) s = .ok (.d (.bl true)) s := fEq_strs true _ _ false s (by decide +kernel)
theorem wq_foot_blank_f (s : S) : fEq false (.d (.str "foot")) (.d (.str "blank")) s = .ok (.d (.bl false)) s := fEq_strs false _ _ false s (by decide +kernel)
theorem wq_foot_blank_t (s : S) : fEq true (.d (.str "foot")) (.d (.str "blank")) s = .ok (.d (.bl true)) s := fEq_strs true _ _ false s (by decide +kernel)
theorem wq_foot_cut_f (s : S) : fEq false (.d (.str "foot")) (.d (.str "cut")) s = .ok (.d (.bl false)) s := fEq_strs false _ _ false s (by decide +kernel)
theorem wq_foot_cut_t (s : S) : fEq true (.d (.str "foot")) (.d (.str "cut")) s = .ok (.d (.bl true)) s := fEq_strs true _ _ false s (by decide +kernel)
theorem wq_foot_mount_f (s : S) : fEq false (.d (.str "foot")) (.d (.str "mount")) s = .ok (.d (.bl false)) s := fEq_strs false _ _ false s (by decide +kernel)
theorem wq_foot_mount_t (s : S) : fEq true (.d (.str "foot")) (.d (.str "mount")) s = .ok (.d (.bl true)) s := fEq_strs true _ _ false s (by decide +kernel)
theorem wq_foot_foot_f (s : S) : fEq false (.d (.str "foot")) (.d (.str "foot")) s = .ok (.d (.bl true)) s := fEq_strs false _ _ true s (by decide +kernel)
theorem wq_foot_foot_t (s : S) : fEq true (.d (.str "foot")) (.d (.str "foot")) s = .ok (.d (.bl false)) s := fEq_strs true _ _ true s (by decide +kernel)
theorem wq_foot_lever_f (s : S) : fEq false (.d (.str "foot")) (.d (.str "lever")) s = .ok (.d (.bl false)) s := fEq_strs false _ _ false s (by decide +kernel)
theorem wq_foot_lever_t (s : S) : fEq true (.d (.str "foot")) (.d (.str "lever")) s = .ok (.d (.bl true)) s := fEq_strs true _ _ false s (by decide +kernel)
theorem wq_lever_blank_f (s : S) : fEq false (.d (.str "lever")) (.d (.str "blank")) s = .ok (.d (.bl false)) s := fEq_strs false _ _ false s (by decide +kernel)
theorem wq_lever_blank_t (s : S) : fEq true (.d (.str "lever")) (.d (.str "blank")) s = .ok (.d (.bl true)) s := fEq_strs true _ _ false s (by decide +kernel)
theorem wq_lever_cut_f (s : S) : fEq false (.d (.str "lever")) (.d (.str "cut")) s = .ok (.d (.bl false)) s := fEq_strs false _ _ false s (by decide +kernel)
theorem wq_lever_cut_t (s : S) : fEq true (.d (.str "lever")) (.d (.str "cut")) s = .ok (.d (.bl true)) s := fEq_strs true _ _ false s (by decide +kernel)
theorem wq_lever_mount_f (s : S) : fEq false (.d (.str "lever")) (.d (.str "mount")) s = .ok (.d (.bl false)) s := fEq_strs false _ _ false s (by decide +kernel)
theorem wq_lever_mount_t (s : S) : fEq true (.d (.str "lever")) (.d (.str "mount")) s = .ok (.d (.bl true)) s := fEq_strs true _ _ false s (by decide +kernel)
theorem wq_lever_foot_f (s : S) : fEq false (.d (.str "lever")) (.d (.str "foot")) s = .ok (.d (.bl false)) s := fEq_strs false _ _ false s (by decide +kernel)
theorem wq_lever_foot_t (s : S) : fEq true (.d (.str "lever")) (.d (.str "foot")) s = .ok (.d (.bl true)) s := fEq_strs true _ _ false s (by decide +kernel)
theorem wq_lever_lever_f (s : S) : fEq false (.d (.str "lever")) (.d (.str "lever")) s = .ok (.d (.bl true)) s := fEq_strs false _ _ true s (by decide +kernel)
theorem wq_lever_lever_t (s : S) : fEq true (.d (.str "lever")) (.d (.str "lever")) s = .ok (.d (.bl false)) s := fEq_strs true _ _ true s (by decide +kernel)
theorem wi_blank (s : S) : fIn true (.d (.str "blank")) (.d (dicI sizes)) s = .ok (.d (.bl false)) s := rfl
theorem wx_blank (s : S) : fIx (.d (dicI sizes)) (.d (.str "blank")) s = .ok (.d (.int 3)) s := rfl
theorem wj_blank (s : S) : fInKD true sizes (.d (.str "blank")) s = .ok (.d (.bl false)) s := rfl
theorem wy_blank (s : S) : fIxKD sizes (.d (.str "blank")) s = .ok (.d (.int 3)) s := rfl
theorem wi_cut (s : S) : fIn true (.d (.str "cut")) (.d (dicI sizes)) s = .ok (.d (.bl false)) s := rfl
theorem wx_cut (s : S) : fIx (.d (dicI sizes)) (.d (.str "cut")) s = .ok (.d (.int 4)) s := rfl
theorem wj_cut (s : S) : fInKD true sizes (.d (.str "cut")) s = .ok (.d (.bl false)) s := rfl
theorem wy_cut (s : S) : fIxKD sizes (.d (.str "cut")) s = .ok (.d (.int 4)) s := rfl
theorem wi_mount (s : S) : fIn true (.d (.str "mount")) (.d (dicI sizes)) s = .ok (.d (.bl false)) s := rfl
theorem wx_mount (s : S) : fIx (.d (dicI sizes)) (.d (.str "mount")) s = .ok (.d (.int 5)) s := rfl
theorem wj_mount (s : S) : fInKD true sizes (.d (.str "mount")) s = .ok (.d (.bl false)) s := rfl
theorem wy_mount (s : S) : fIxKD sizes (.d (.str "mount")) s = .ok (.d (.int 5)) s := rfl
theorem wi_foot (s : S) : fIn true (.d (.str "foot")) (.d (dicI sizes)) s = .ok (.d (.bl false)) s := rfl
theorem wx_foot (s : S) : fIx (.d (dicI sizes)) (.d (.str "foot")) s = .ok (.d (.int 5)) s := rfl
theorem wj_foot (s : S) : fInKD true sizes (.d (.str "foot")) s = .ok (.d (.bl false)) s := rfl
theorem wy_foot (s : S) : fIxKD sizes (.d (.str "foot")) s = .ok (.d (.int 5)) s := rfl
theorem wi_lever (s : S) : fIn true (.d (.str "lever")) (.d (dicI sizes)) s = .ok (.d (.bl false)) s := rfl
theorem wx_lever (s : S) : fIx (.d (dicI sizes)) (.d (.str "lever")) s = .ok (.d (.int 3)) s := rfl
theorem wj_lever (s : S) : fInKD true sizes (.d (.str "lever")) s = .ok (.d (.bl false)) s := rfl
theorem wy_lever (s : S) : fIxKD sizes (.d (.str "lever")) s = .ok (.d (.int 3)) s := rfl
theorem dq_tell_tell_f (s : S) : fEq false (.d (.str "tell")) (.d (.str "tell")) s = .ok (.d (.bl true)) s := fEq_strs false _ _ true s (by decide +kernel)
theorem dq_tell_tell_t (s : S) : fEq true (.d (.str "tell")) (.d (.str "tell")) s = .ok (.d (.bl false)) s := fEq_strs true _ _ true s (by decide +kernel)
theorem dq_tell_right_f (s : S) : fEq false (.d (.str "tell")) (.d (.str "right")) s = .ok (.d (.bl false)) s := fEq_strs false _ _ false s (by decide +kernel)
theorem dq_tell_right_t (s : S) : fEq true (.d (.str "tell")) (.d (.str "right")) s = .ok (.d (.bl true)) s := fEq_strs true _ _ false s (by decide +kernel)
theorem dq_tell_strike_f (s : S) : fEq false (.d (.str "tell")) (.d (.str "strike")) s = .ok (.d (.bl false)) s := fEq_strs false _ _ false s (by decide +kernel)
theorem dq_tell_strike_t (s : S) : fEq true (.d (.str "tell")) (.d (.str "strike")) s = .ok (.d (.bl true)) s := fEq_strs true _ _ false s (by decide +kernel)
theorem dq_right_tell_f (s : S) : fEq false (.d (.str "right")) (.d (.str "tell")) s = .ok (.d (.bl false)) s := fEq_strs false _ _ false s (by decide +kernel)
theorem dq_right_tell_t (s : S) : fEq true (.d (.str "right")) (.d (.str "tell")) s = .ok (.d (.bl true)) s := fEq_strs true _ _ false s (by decide +kernel)
theorem dq_right_right_f (s : S) : fEq false (.d (.str "right")) (.d (.str "right")) s = .ok (.d (.bl true)) s := fEq_strs false _ _ true s (by decide +kernel)
theorem dq_right_right_t (s : S) : fEq true (.d (.str "right")) (.d (.str "right")) s = .ok (.d (.bl false)) s := fEq_strs true _ _ true s (by decide +kernel)
theorem dq_right_strike_f (s : S) : fEq false (.d (.str "right")) (.d (.str "strike")) s = .ok (.d (.bl false)) s := fEq_strs false _ _ false s (by decide +kernel)
theorem dq_right_strike_t (s : S) : fEq true (.d (.str "right")) (.d (.str "strike")) s = .ok (.d (.bl true)) s := fEq_strs true _ _ false s (by decide +kernel)
theorem dq_strike_tell_f (s : S) : fEq false (.d (.str "strike")) (.d (.str "tell")) s = .ok (.d (.bl false)) s := fEq_strs false _ _ false s (by decide +kernel)
theorem dq_strike_tell_t (s : S) : fEq true (.d (.str "strike")) (.d (.str "tell")) s = .ok (.d (.bl true)) s := fEq_strs true _ _ false s (by decide +kernel)
theorem dq_strike_right_f (s : S) : fEq false (.d (.str "strike")) (.d (.str "right")) s = .ok (.d (.bl false)) s := fEq_strs false _ _ false s (by decide +kernel)
theorem dq_strike_right_t (s : S) : fEq true (.d (.str "strike")) (.d (.str "right")) s = .ok (.d (.bl true)) s := fEq_strs true _ _ false s (by decide +kernel)
theorem dq_strike_strike_f (s : S) : fEq false (.d (.str "strike")) (.d (.str "strike")) s = .ok (.d (.bl true)) s := fEq_strs false _ _ true s (by decide +kernel)
theorem dq_strike_strike_t (s : S) : fEq true (.d (.str "strike")) (.d (.str "strike")) s = .ok (.d (.bl false)) s := fEq_strs true _ _ true s (by decide +kernel)
inductive Fa where
  | blank (c : Int) (r : List Int) | cut (c k h : Int) | mount (c t m a : Int) | foot (f c : Int) (l : List Int) (m : Int) | lever (n : Int) (t : D)
noncomputable def Fa.word : Fa → Str
  | .blank _ _ => "blank" | .cut _ _ _ => "cut" | .mount _ _ _ _ => "mount" | .foot _ _ _ _ => "foot" | .lever _ _ => "lever"
noncomputable def Fa.num : Fa → Int
  | .blank c _ => c | .cut c _ _ => c | .mount c _ _ _ => c | .foot f _ _ _ => f | .lever n _ => n
noncomputable def Fa.rest : Fa → List D
  | .blank _ r => [.tup (r.map .int)] | .cut _ k h => [.int k, .int h] | .mount _ t m a => [.int t, .int m, .int a] | .foot _ c l m => [.int c, .tup (l.map .int), .int m] | .lever _ t => [t]
noncomputable def Fa.d (f : Fa) : D := .tup (.str f.word :: .int f.num :: f.rest)
noncomputable def drOk (l : List Int) : Bool := l.all fun x => decide (0 ≤ x) && decide (x ≤ 99)
noncomputable def Fa.ok : Fa → Bool
  | .blank c r => decide (0 ≤ c) && decide (c ≤ 5) && (decide (3 ≤ r.length) && decide (r.length ≤ 48))
  | .cut c k _ => decide (0 ≤ c) && decide (c ≤ 5) && (decide (0 ≤ k) && decide (k ≤ 47))
  | .mount c t m _ => decide (0 ≤ c) && decide (c ≤ 5) && (decide (-99 ≤ t) && decide (t ≤ 99) && (decide (1 ≤ m) && decide (m ≤ 99)))
  | .foot f c l m => (decide (1 ≤ l.length) && decide (l.length ≤ 9) && drOk l) && (decide (0 ≤ f) && decide (f ≤ 7)) && (decide (0 ≤ c) && decide (c ≤ 5)) && (decide (0 ≤ m) && decide (m < l.length))
  | .lever n t => decide (0 ≤ n) && decide (n ≤ 5) && goodT t
noncomputable def Fa.sz : Fa → Prop
  | .blank _ r => r.length ≤ 5000 | .foot _ _ l _ => l.length ≤ 1000 | .lever _ t => TD 12 t | _ => True
end TG

set_option linter.all false
set_option maxRecDepth 100000
namespace TG
open PySem L2
theorem chLL (a c : Int) (b : Cmp W) (ρ : Rho) (s : S) (i : Int) (h : b ρ s = .ok (.d (.int i)) s) : eChain fLe fLe (eC (.int a)) b (eC (.int c)) ρ s = .ok (.d (.bl (decide (a ≤ i) && decide (i ≤ c)))) s := by
  unfold eChain
  show ((b ρ s).bind fun y s2 => (fLe (.d (.int a)) y s2).bind fun z s3 => match asBool z with | some true => ((eC (.int c)) ρ s3).bind fun w s4 => fLe y w s4 | some false => .ok (.d (.bl false)) s3 | none => .no) = _
  rw [h]
  show ((fLe (.d (.int a)) (.d (.int i)) s).bind fun z s3 => match asBool z with | some true => ((eC (.int c)) ρ s3).bind fun w s4 => fLe (.d (.int i)) w s4 | some false => .ok (.d (.bl false)) s3 | none => .no) = _
  by_cases h : a ≤ i
  · simp [h]
  · simp [h]
theorem chLt (a j : Int) (b c : Cmp W) (ρ : Rho) (s : S) (i : Int) (h : b ρ s = .ok (.d (.int i)) s) (h2 : c ρ s = .ok (.d (.int j)) s) : eChain fLe fLt (eC (.int a)) b c ρ s = .ok (.d (.bl (decide (a ≤ i) && decide (i < j)))) s := by
  unfold eChain
  show ((b ρ s).bind fun y s2 => (fLe (.d (.int a)) y s2).bind fun z s3 => match asBool z with | some true => (c ρ s3).bind fun w s4 => fLt y w s4 | some false => .ok (.d (.bl false)) s3 | none => .no) = _
  rw [h]
  show ((fLe (.d (.int a)) (.d (.int i)) s).bind fun z s3 => match asBool z with | some true => (c ρ s3).bind fun w s4 => fLt (.d (.int i)) w s4 | some false => .ok (.d (.bl false)) s3 | none => .no) = _
  by_cases h : a ≤ i
  · simp [h, h2]
  · simp [h]
theorem chNg (a c : Int) (b : Cmp W) (ρ : Rho) (s : S) (i : Int) (h : b ρ s = .ok (.d (.int i)) s) : eChain fLe fLe (eUn fNeg (eC (.int a))) b (eC (.int c)) ρ s = .ok (.d (.bl (decide (-a ≤ i) && decide (i ≤ c)))) s := by
  have := chLL (-a) c b ρ s i h
  unfold eChain at *
  exact this
theorem dr_all (l : List Int) (s : S) : fAll (.d (.lst (l.map fun x => D.bl (decide (0 ≤ x) && decide (x ≤ 99))))) s = .ok (.d (.bl (drOk l))) s := by
  have := fAll_bls (l.map fun x => decide (0 ≤ x) && decide (x ≤ 99)) s
  rw [List.map_map, List.all_map] at this
  exact this
theorem dec_nat (a b : Nat) (n : Nat) : (decide ((a : Int) ≤ (n : Int)) && decide ((n : Int) ≤ (b : Int))) = (decide (a ≤ n) && decide (n ≤ b)) := by
  congr 1 <;> (rw [decide_eq_decide]; omega)
theorem fok_eq (f : Fa) (h : f.sz) (s : S) : f_v_law_fact_ok [.d f.d] s = .ok (.w (.d (.bl f.ok))) s := by
  rw [f_v_law_fact_ok, runF_eq]
  cases f with
  | blank c r =>
    have h : r.length ≤ 5000 := h
    have hl : r.length ≤ 16777216 := by omega
    have p1 := fun ρ s => chLL 0 5 (eBin fIx (eVar 0) (eC (.int 1))) (.w (.d (Fa.blank c r).d) :: ρ) s c (by simp [Fa.d, Fa.word, Fa.num, Fa.rest, -fIx_eq, fIx_tup])
    have p2 := fun ρ s => chLL 3 48 (eArgs (c1 fLen) (eCons (eBin fIx (eVar 0) (eC (.int 2))) eNil)) (.w (.d (Fa.blank c r).d) :: ρ) s r.length (by simp [Fa.d, Fa.word, Fa.num, Fa.rest, -fIx_eq, fIx_tup, hl])
    have e2 := dec_nat 3 48 r.length
    simp only [Fa.d, Fa.word, Fa.num, Fa.rest] at p1 p2
    simp only [Fa.d, Fa.word, Fa.num, Fa.rest, Fa.ok, ← e2]
    generalize (decide (0 ≤ c) && decide (c ≤ 5)) = g1 at *
    generalize (decide (((3 : Nat) : Int) ≤ (r.length : Int)) && decide ((r.length : Int) ≤ ((48 : Nat) : Int))) = g2 at *
    cases g1 <;> simp [b_v_law_fact_ok, p1, p2, wq_blank_blank_f, wq_blank_blank_t, wq_blank_cut_f, wq_blank_cut_t, wq_blank_mount_f, wq_blank_mount_t, wq_blank_foot_f, wq_blank_foot_t, wq_blank_lever_f, wq_blank_lever_t, wq_cut_blank_f, wq_cut_blank_t, wq_cut_cut_f, wq_cut_cut_t, wq_cut_mount_f, wq_cut_mount_t, wq_cut_foot_f, wq_cut_foot_t, wq_cut_lever_f, wq_cut_lever_t, wq_mount_blank_f, wq_mount_blank_t, wq_mount_cut_f, wq_mount_cut_t, wq_mount_mount_f, wq_mount_mount_t, wq_mount_foot_f, wq_mount_foot_t, wq_mount_lever_f, wq_mount_lever_t, wq_foot_blank_f, wq_foot_blank_t, wq_foot_cut_f, wq_foot_cut_t, wq_foot_mount_f, wq_foot_mount_t, wq_foot_foot_f, wq_foot_foot_t, wq_foot_lever_f, wq_foot_lever_t, wq_lever_blank_f, wq_lever_blank_t, wq_lever_cut_f, wq_lever_cut_t, wq_lever_mount_f, wq_lever_mount_t, wq_lever_foot_f, wq_lever_foot_t, wq_lever_lever_f, wq_lever_lever_t, wi_blank, wx_blank, wj_blank, wy_blank, wi_cut, wx_cut, wj_cut, wy_cut, wi_mount, wx_mount, wj_mount, wy_mount, wi_foot, wx_foot, wj_foot, wy_foot, wi_lever, wx_lever, wj_lever, wy_lever, wipeR, -rng1_eq, -fIx_eq, fIx_tup, fIx_lst, -eChain_eq]
    done
  | cut c k x =>
    have p1 := fun ρ s => chLL 0 5 (eBin fIx (eVar 0) (eC (.int 1))) (.w (.d (Fa.cut c k x).d) :: ρ) s c (by simp [Fa.d, Fa.word, Fa.num, Fa.rest, -fIx_eq, fIx_tup])
    have p2 := fun ρ s => chLL 0 47 (eBin fIx (eVar 0) (eC (.int 2))) (.w (.d (Fa.cut c k x).d) :: ρ) s k (by simp [Fa.d, Fa.word, Fa.num, Fa.rest, -fIx_eq, fIx_tup])
    simp only [Fa.d, Fa.word, Fa.num, Fa.rest] at p1 p2
    simp only [Fa.d, Fa.word, Fa.num, Fa.rest, Fa.ok]
    generalize (decide (0 ≤ c) && decide (c ≤ 5)) = g1 at *
    generalize (decide (0 ≤ k) && decide (k ≤ 47)) = g2 at *
    cases g1 <;> simp [b_v_law_fact_ok, p1, p2, wq_blank_blank_f, wq_blank_blank_t, wq_blank_cut_f, wq_blank_cut_t, wq_blank_mount_f, wq_blank_mount_t, wq_blank_foot_f, wq_blank_foot_t, wq_blank_lever_f, wq_blank_lever_t, wq_cut_blank_f, wq_cut_blank_t, wq_cut_cut_f, wq_cut_cut_t, wq_cut_mount_f, wq_cut_mount_t, wq_cut_foot_f, wq_cut_foot_t, wq_cut_lever_f, wq_cut_lever_t, wq_mount_blank_f, wq_mount_blank_t, wq_mount_cut_f, wq_mount_cut_t, wq_mount_mount_f, wq_mount_mount_t, wq_mount_foot_f, wq_mount_foot_t, wq_mount_lever_f, wq_mount_lever_t, wq_foot_blank_f, wq_foot_blank_t, wq_foot_cut_f, wq_foot_cut_t, wq_foot_mount_f, wq_foot_mount_t, wq_foot_foot_f, wq_foot_foot_t, wq_foot_lever_f, wq_foot_lever_t, wq_lever_blank_f, wq_lever_blank_t, wq_lever_cut_f, wq_lever_cut_t, wq_lever_mount_f, wq_lever_mount_t, wq_lever_foot_f, wq_lever_foot_t, wq_lever_lever_f, wq_lever_lever_t, wi_blank, wx_blank, wj_blank, wy_blank, wi_cut, wx_cut, wj_cut, wy_cut, wi_mount, wx_mount, wj_mount, wy_mount, wi_foot, wx_foot, wj_foot, wy_foot, wi_lever, wx_lever, wj_lever, wy_lever, wipeR, -rng1_eq, -fIx_eq, fIx_tup, fIx_lst, -eChain_eq]
  | mount c t m a =>
    have p1 := fun ρ s => chLL 0 5 (eBin fIx (eVar 0) (eC (.int 1))) (.w (.d (Fa.mount c t m a).d) :: ρ) s c (by simp [Fa.d, Fa.word, Fa.num, Fa.rest, -fIx_eq, fIx_tup])
    have p2 := fun ρ s => chNg 99 99 (eBin fIx (eVar 0) (eC (.int 2))) (.w (.d (Fa.mount c t m a).d) :: ρ) s t (by simp [Fa.d, Fa.word, Fa.num, Fa.rest, -fIx_eq, fIx_tup])
    have p3 := fun ρ s => chLL 1 99 (eBin fIx (eVar 0) (eC (.int 3))) (.w (.d (Fa.mount c t m a).d) :: ρ) s m (by simp [Fa.d, Fa.word, Fa.num, Fa.rest, -fIx_eq, fIx_tup])
    simp only [Fa.d, Fa.word, Fa.num, Fa.rest] at p1 p2 p3
    simp only [Fa.d, Fa.word, Fa.num, Fa.rest, Fa.ok]
    generalize (decide (0 ≤ c) && decide (c ≤ 5)) = g1 at *
    generalize (decide (-99 ≤ t) && decide (t ≤ 99)) = g2 at *
    generalize (decide (1 ≤ m) && decide (m ≤ 99)) = g3 at *
    cases g1 <;> cases g2 <;> simp [b_v_law_fact_ok, p1, p2, p3, wq_blank_blank_f, wq_blank_blank_t, wq_blank_cut_f, wq_blank_cut_t, wq_blank_mount_f, wq_blank_mount_t, wq_blank_foot_f, wq_blank_foot_t, wq_blank_lever_f, wq_blank_lever_t, wq_cut_blank_f, wq_cut_blank_t, wq_cut_cut_f, wq_cut_cut_t, wq_cut_mount_f, wq_cut_mount_t, wq_cut_foot_f, wq_cut_foot_t, wq_cut_lever_f, wq_cut_lever_t, wq_mount_blank_f, wq_mount_blank_t, wq_mount_cut_f, wq_mount_cut_t, wq_mount_mount_f, wq_mount_mount_t, wq_mount_foot_f, wq_mount_foot_t, wq_mount_lever_f, wq_mount_lever_t, wq_foot_blank_f, wq_foot_blank_t, wq_foot_cut_f, wq_foot_cut_t, wq_foot_mount_f, wq_foot_mount_t, wq_foot_foot_f, wq_foot_foot_t, wq_foot_lever_f, wq_foot_lever_t, wq_lever_blank_f, wq_lever_blank_t, wq_lever_cut_f, wq_lever_cut_t, wq_lever_mount_f, wq_lever_mount_t, wq_lever_foot_f, wq_lever_foot_t, wq_lever_lever_f, wq_lever_lever_t, wi_blank, wx_blank, wj_blank, wy_blank, wi_cut, wx_cut, wj_cut, wy_cut, wi_mount, wx_mount, wj_mount, wy_mount, wi_foot, wx_foot, wj_foot, wy_foot, wi_lever, wx_lever, wj_lever, wy_lever, wipeR, -rng1_eq, -fIx_eq, fIx_tup, fIx_lst, -eChain_eq]
  | foot f c l m =>
    have h : l.length ≤ 1000 := h
    have hl : l.length ≤ 16777216 := by omega
    have p1 := fun ρ s => chLL 1 9 (eArgs (c1 fLen) (eCons (eBin fIx (eVar 0) (eC (.int 3))) eNil)) (.w (.d (Fa.foot f c l m).d) :: ρ) s l.length (by simp [Fa.d, Fa.word, Fa.num, Fa.rest, -fIx_eq, fIx_tup, hl])
    have p2 := fun ρ s => chLL 0 7 (eBin fIx (eVar 0) (eC (.int 1))) (.w (.d (Fa.foot f c l m).d) :: ρ) s f (by simp [Fa.d, Fa.word, Fa.num, Fa.rest, -fIx_eq, fIx_tup])
    have p3 := fun ρ s => chLL 0 5 (eBin fIx (eVar 0) (eC (.int 2))) (.w (.d (Fa.foot f c l m).d) :: ρ) s c (by simp [Fa.d, Fa.word, Fa.num, Fa.rest, -fIx_eq, fIx_tup])
    have p4 := fun ρ s => chLt 0 l.length (eBin fIx (eVar 0) (eC (.int 4))) (eArgs (c1 fLen) (eCons (eBin fIx (eVar 0) (eC (.int 3))) eNil)) (.w (.d (Fa.foot f c l m).d) :: ρ) s m (by simp [Fa.d, Fa.word, Fa.num, Fa.rest, -fIx_eq, fIx_tup]) (by simp [Fa.d, Fa.word, Fa.num, Fa.rest, -fIx_eq, fIx_tup, hl])
    have dr := dr_all l
    have e1 : wD (l.map D.int) = l.map fun i => W.d (.int i) := by unfold wD; rw [List.map_map]; rfl
    have lc : ∀ ρ s, lcM (tgName 3) eYes (eChain fLe fLe (eC (.int 0)) (eVar 3) (eC (.int 99))) (.w (.d (Fa.foot f c l m).d) :: ρ) (wD (l.map D.int)) s = .ok (wD (l.map fun x => D.bl (decide (0 ≤ x) && decide (x ≤ 99)))) s ∨ ρ.length < 3 := fun ρ s => by
      by_cases hr : ρ.length < 3
      · exact .inr hr
      · left
        rw [e1, lcM_fn' (v := fun x => D.bl (decide (0 ≤ x) && decide (x ≤ 99)))]
        intro x hx
        refine ⟨_, rfl, chLL 0 99 (eVar 3) _ s x ?_⟩
        match ρ, hr with
        | a :: b :: c :: r, _ => simp
        | [], hr => simp at hr
        | [_], hr => simp at hr
        | [_, _], hr => simp at hr
    have lc3 : ∀ x y z s, lcM (tgName 3) eYes (eChain fLe fLe (eC (.int 0)) (eVar 3) (eC (.int 99))) [.w (.d (Fa.foot f c l m).d), x, y, z] (wD (l.map D.int)) s = .ok (wD (l.map fun x => D.bl (decide (0 ≤ x) && decide (x ≤ 99)))) s := fun x y z s => (lc [x, y, z] s).resolve_right (by simp)
    have e2 := dec_nat 1 9 l.length
    simp only [Fa.d, Fa.word, Fa.num, Fa.rest] at p1 p2 p3 p4 lc3
    simp only [Fa.d, Fa.word, Fa.num, Fa.rest, Fa.ok, ← e2]
    generalize (decide (((1 : Nat) : Int) ≤ (l.length : Int)) && decide ((l.length : Int) ≤ ((9 : Nat) : Int))) = g1 at *
    generalize (decide (0 ≤ f) && decide (f ≤ 7)) = g2 at *
    generalize (decide (0 ≤ c) && decide (c ≤ 5)) = g3 at *
    generalize (decide (0 ≤ m) && decide (m < (l.length : Int))) = g4 at *
    generalize drOk l = g5 at *
    have hml : (l.map fun x => D.bl (decide (0 ≤ x) && decide (x ≤ 99))).length ≤ 16777216 := by rw [List.length_map]; exact hl
    generalize (l.map fun x => D.bl (decide (0 ≤ x) && decide (x ≤ 99))) = LB at *
    cases g1 <;> cases g5 <;> cases g2 <;> cases g3 <;> simp [b_v_law_fact_ok, p1, p2, p3, p4, lc3, dr, hl, hml, wq_blank_blank_f, wq_blank_blank_t, wq_blank_cut_f, wq_blank_cut_t, wq_blank_mount_f, wq_blank_mount_t, wq_blank_foot_f, wq_blank_foot_t, wq_blank_lever_f, wq_blank_lever_t, wq_cut_blank_f, wq_cut_blank_t, wq_cut_cut_f, wq_cut_cut_t, wq_cut_mount_f, wq_cut_mount_t, wq_cut_foot_f, wq_cut_foot_t, wq_cut_lever_f, wq_cut_lever_t, wq_mount_blank_f, wq_mount_blank_t, wq_mount_cut_f, wq_mount_cut_t, wq_mount_mount_f, wq_mount_mount_t, wq_mount_foot_f, wq_mount_foot_t, wq_mount_lever_f, wq_mount_lever_t, wq_foot_blank_f, wq_foot_blank_t, wq_foot_cut_f, wq_foot_cut_t, wq_foot_mount_f, wq_foot_mount_t, wq_foot_foot_f, wq_foot_foot_t, wq_foot_lever_f, wq_foot_lever_t, wq_lever_blank_f, wq_lever_blank_t, wq_lever_cut_f, wq_lever_cut_t, wq_lever_mount_f, wq_lever_mount_t, wq_lever_foot_f, wq_lever_foot_t, wq_lever_lever_f, wq_lever_lever_t, wi_blank, wx_blank, wj_blank, wy_blank, wi_cut, wx_cut, wj_cut, wy_cut, wi_mount, wx_mount, wj_mount, wy_mount, wi_foot, wx_foot, wj_foot, wy_foot, wi_lever, wx_lever, wj_lever, wy_lever, wipeR, -rng1_eq, -fIx_eq, fIx_tup, fIx_lst, -eChain_eq]
  | lever n t =>
    have h : TD 12 t := h
    have p1 := fun ρ s => chLL 0 5 (eBin fIx (eVar 0) (eC (.int 1))) (.w (.d (Fa.lever n t).d) :: ρ) s n (by simp [Fa.d, Fa.word, Fa.num, Fa.rest, -fIx_eq, fIx_tup])
    have gt := fun s => good_eq t s h
    simp only [Fa.d, Fa.word, Fa.num, Fa.rest] at p1
    simp only [Fa.d, Fa.word, Fa.num, Fa.rest, Fa.ok]
    generalize (decide (0 ≤ n) && decide (n ≤ 5)) = g1 at *
    generalize goodT t = g2 at *
    cases g1 <;> simp [b_v_law_fact_ok, p1, gt, wq_blank_blank_f, wq_blank_blank_t, wq_blank_cut_f, wq_blank_cut_t, wq_blank_mount_f, wq_blank_mount_t, wq_blank_foot_f, wq_blank_foot_t, wq_blank_lever_f, wq_blank_lever_t, wq_cut_blank_f, wq_cut_blank_t, wq_cut_cut_f, wq_cut_cut_t, wq_cut_mount_f, wq_cut_mount_t, wq_cut_foot_f, wq_cut_foot_t, wq_cut_lever_f, wq_cut_lever_t, wq_mount_blank_f, wq_mount_blank_t, wq_mount_cut_f, wq_mount_cut_t, wq_mount_mount_f, wq_mount_mount_t, wq_mount_foot_f, wq_mount_foot_t, wq_mount_lever_f, wq_mount_lever_t, wq_foot_blank_f, wq_foot_blank_t, wq_foot_cut_f, wq_foot_cut_t, wq_foot_mount_f, wq_foot_mount_t, wq_foot_foot_f, wq_foot_foot_t, wq_foot_lever_f, wq_foot_lever_t, wq_lever_blank_f, wq_lever_blank_t, wq_lever_cut_f, wq_lever_cut_t, wq_lever_mount_f, wq_lever_mount_t, wq_lever_foot_f, wq_lever_foot_t, wq_lever_lever_f, wq_lever_lever_t, wi_blank, wx_blank, wj_blank, wy_blank, wi_cut, wx_cut, wj_cut, wy_cut, wi_mount, wx_mount, wj_mount, wy_mount, wi_foot, wx_foot, wj_foot, wy_foot, wi_lever, wx_lever, wj_lever, wy_lever, wipeR, -rng1_eq, -fIx_eq, fIx_tup, fIx_lst, -eChain_eq]
end TG

set_option linter.all false
set_option maxRecDepth 100000
namespace TG
open PySem L2
theorem numI (i : Int) (s : S) : f_is_number [.d (.int i)] s = .ok (.w (.d (.bl true))) s := isnum_eq (.int i) s (.inl ⟨i, rfl⟩)
theorem are_eq (l : List Int) (h : l.length ≤ 16777216) (s : S) : f_are_numbers [.d (.tup (l.map .int))] s = .ok (.w (.d (.bl true))) s := by
  have e1 : wD (l.map D.int) = l.map fun i => W.d (.int i) := by unfold wD; rw [List.map_map]; rfl
  have fa := fAll_bls (l.map fun _ => true) s
  rw [List.map_map] at fa
  have e2 : (l.map fun _ => true).all id = true := by simp
  rw [e2] at fa
  rw [f_are_numbers, runF_eq]
  simp [b_are_numbers, -rng1_eq, wipeR]
  rw [e1, lcM_fn' (v := fun _ => D.bl true)]
  rotate_left
  · intro i hi
    exact ⟨_, rfl, by simp [numI, wipeR]⟩
  have hL : (l.map fun _ => D.bl true).length ≤ 16777216 := by rw [List.length_map]; exact h
  have fa : fAll (.d (.lst (l.map fun _ => D.bl true))) s = .ok (.d (.bl true)) s := fa
  generalize (l.map fun _ => D.bl true) = LB at *
  simp [h, hL, fa, -rng1_eq, wipeR]
theorem are3 (a b c : Int) (s : S) : f_are_numbers [.d (.tup [.int a, .int b, .int c])] s = .ok (.w (.d (.bl true))) s := are_eq [a, b, c] (by simp) s
theorem are4 (a b c d : Int) (s : S) : f_are_numbers [.d (.tup [.int a, .int b, .int c, .int d])] s = .ok (.w (.d (.bl true))) s := are_eq [a, b, c, d] (by simp) s
theorem kinds_eq (f : Fa) (h : f.sz) (s : S) : f_good_kinds [.d f.d] s = .ok (.w (.d (.bl true))) s := by
  rw [f_good_kinds, runF_eq]
  have u1 : ∀ a b : D, cut [a, b] (some 1) none = [b] := fun a b => rfl
  cases f with
  | blank c r =>
    have h : r.length ≤ 5000 := h
    have ar := fun s => are_eq r (by omega) s
    simp only [Fa.d, Fa.word, Fa.num, Fa.rest]
    simp [b_good_kinds, numI, ar, wq_blank_blank_f, wq_blank_blank_t, wq_blank_cut_f, wq_blank_cut_t, wq_blank_mount_f, wq_blank_mount_t, wq_blank_foot_f, wq_blank_foot_t, wq_blank_lever_f, wq_blank_lever_t, wq_cut_blank_f, wq_cut_blank_t, wq_cut_cut_f, wq_cut_cut_t, wq_cut_mount_f, wq_cut_mount_t, wq_cut_foot_f, wq_cut_foot_t, wq_cut_lever_f, wq_cut_lever_t, wq_mount_blank_f, wq_mount_blank_t, wq_mount_cut_f, wq_mount_cut_t, wq_mount_mount_f, wq_mount_mount_t, wq_mount_foot_f, wq_mount_foot_t, wq_mount_lever_f, wq_mount_lever_t, wq_foot_blank_f, wq_foot_blank_t, wq_foot_cut_f, wq_foot_cut_t, wq_foot_mount_f, wq_foot_mount_t, wq_foot_foot_f, wq_foot_foot_t, wq_foot_lever_f, wq_foot_lever_t, wq_lever_blank_f, wq_lever_blank_t, wq_lever_cut_f, wq_lever_cut_t, wq_lever_mount_f, wq_lever_mount_t, wq_lever_foot_f, wq_lever_foot_t, wq_lever_lever_f, wq_lever_lever_t, wi_blank, wx_blank, wj_blank, wy_blank, wi_cut, wx_cut, wj_cut, wy_cut, wi_mount, wx_mount, wj_mount, wy_mount, wi_foot, wx_foot, wj_foot, wy_foot, wi_lever, wx_lever, wj_lever, wy_lever, wipeR, -rng1_eq, -fIx_eq, fIx_tup, fIx_lst, -eChain_eq]
  | cut c k x =>
    have q : cut [D.str "cut", .int c, .int k, .int x] (some 1) none = [.int c, .int k, .int x] := rfl
    simp only [Fa.d, Fa.word, Fa.num, Fa.rest]
    simp [b_good_kinds, q, are3, wq_blank_blank_f, wq_blank_blank_t, wq_blank_cut_f, wq_blank_cut_t, wq_blank_mount_f, wq_blank_mount_t, wq_blank_foot_f, wq_blank_foot_t, wq_blank_lever_f, wq_blank_lever_t, wq_cut_blank_f, wq_cut_blank_t, wq_cut_cut_f, wq_cut_cut_t, wq_cut_mount_f, wq_cut_mount_t, wq_cut_foot_f, wq_cut_foot_t, wq_cut_lever_f, wq_cut_lever_t, wq_mount_blank_f, wq_mount_blank_t, wq_mount_cut_f, wq_mount_cut_t, wq_mount_mount_f, wq_mount_mount_t, wq_mount_foot_f, wq_mount_foot_t, wq_mount_lever_f, wq_mount_lever_t, wq_foot_blank_f, wq_foot_blank_t, wq_foot_cut_f, wq_foot_cut_t, wq_foot_mount_f, wq_foot_mount_t, wq_foot_foot_f, wq_foot_foot_t, wq_foot_lever_f, wq_foot_lever_t, wq_lever_blank_f, wq_lever_blank_t, wq_lever_cut_f, wq_lever_cut_t, wq_lever_mount_f, wq_lever_mount_t, wq_lever_foot_f, wq_lever_foot_t, wq_lever_lever_f, wq_lever_lever_t, wi_blank, wx_blank, wj_blank, wy_blank, wi_cut, wx_cut, wj_cut, wy_cut, wi_mount, wx_mount, wj_mount, wy_mount, wi_foot, wx_foot, wj_foot, wy_foot, wi_lever, wx_lever, wj_lever, wy_lever, wipeR, -rng1_eq, -fIx_eq, fIx_tup, fIx_lst, -eChain_eq]
  | mount c t m a =>
    have q : cut [D.str "mount", .int c, .int t, .int m, .int a] (some 1) none = [.int c, .int t, .int m, .int a] := rfl
    simp only [Fa.d, Fa.word, Fa.num, Fa.rest]
    simp [b_good_kinds, q, are4, wq_blank_blank_f, wq_blank_blank_t, wq_blank_cut_f, wq_blank_cut_t, wq_blank_mount_f, wq_blank_mount_t, wq_blank_foot_f, wq_blank_foot_t, wq_blank_lever_f, wq_blank_lever_t, wq_cut_blank_f, wq_cut_blank_t, wq_cut_cut_f, wq_cut_cut_t, wq_cut_mount_f, wq_cut_mount_t, wq_cut_foot_f, wq_cut_foot_t, wq_cut_lever_f, wq_cut_lever_t, wq_mount_blank_f, wq_mount_blank_t, wq_mount_cut_f, wq_mount_cut_t, wq_mount_mount_f, wq_mount_mount_t, wq_mount_foot_f, wq_mount_foot_t, wq_mount_lever_f, wq_mount_lever_t, wq_foot_blank_f, wq_foot_blank_t, wq_foot_cut_f, wq_foot_cut_t, wq_foot_mount_f, wq_foot_mount_t, wq_foot_foot_f, wq_foot_foot_t, wq_foot_lever_f, wq_foot_lever_t, wq_lever_blank_f, wq_lever_blank_t, wq_lever_cut_f, wq_lever_cut_t, wq_lever_mount_f, wq_lever_mount_t, wq_lever_foot_f, wq_lever_foot_t, wq_lever_lever_f, wq_lever_lever_t, wi_blank, wx_blank, wj_blank, wy_blank, wi_cut, wx_cut, wj_cut, wy_cut, wi_mount, wx_mount, wj_mount, wy_mount, wi_foot, wx_foot, wj_foot, wy_foot, wi_lever, wx_lever, wj_lever, wy_lever, wipeR, -rng1_eq, -fIx_eq, fIx_tup, fIx_lst, -eChain_eq]
  | foot f c l m =>
    have h : l.length ≤ 1000 := h
    have ar := fun s => are_eq l (by omega) s
    have q : cut [D.str "foot", .int f, .int c, .tup (l.map .int), .int m] (some 1) (some 3) = [.int f, .int c] := rfl
    have q2 : cut [D.str "foot", .int f, .int c, .tup (l.map .int), .int m] (some 4) none = [.int m] := rfl
    simp only [Fa.d, Fa.word, Fa.num, Fa.rest]
    simp [b_good_kinds, q, q2, are3, ar, wq_blank_blank_f, wq_blank_blank_t, wq_blank_cut_f, wq_blank_cut_t, wq_blank_mount_f, wq_blank_mount_t, wq_blank_foot_f, wq_blank_foot_t, wq_blank_lever_f, wq_blank_lever_t, wq_cut_blank_f, wq_cut_blank_t, wq_cut_cut_f, wq_cut_cut_t, wq_cut_mount_f, wq_cut_mount_t, wq_cut_foot_f, wq_cut_foot_t, wq_cut_lever_f, wq_cut_lever_t, wq_mount_blank_f, wq_mount_blank_t, wq_mount_cut_f, wq_mount_cut_t, wq_mount_mount_f, wq_mount_mount_t, wq_mount_foot_f, wq_mount_foot_t, wq_mount_lever_f, wq_mount_lever_t, wq_foot_blank_f, wq_foot_blank_t, wq_foot_cut_f, wq_foot_cut_t, wq_foot_mount_f, wq_foot_mount_t, wq_foot_foot_f, wq_foot_foot_t, wq_foot_lever_f, wq_foot_lever_t, wq_lever_blank_f, wq_lever_blank_t, wq_lever_cut_f, wq_lever_cut_t, wq_lever_mount_f, wq_lever_mount_t, wq_lever_foot_f, wq_lever_foot_t, wq_lever_lever_f, wq_lever_lever_t, wi_blank, wx_blank, wj_blank, wy_blank, wi_cut, wx_cut, wj_cut, wy_cut, wi_mount, wx_mount, wj_mount, wy_mount, wi_foot, wx_foot, wj_foot, wy_foot, wi_lever, wx_lever, wj_lever, wy_lever, wipeR, -rng1_eq, -fIx_eq, fIx_tup, fIx_lst, -eChain_eq]
  | lever n t =>
    have h : TD 12 t := h
    have ht := h.tup
    match t, ht with
    | .tup l, _ =>
      simp only [Fa.d, Fa.word, Fa.num, Fa.rest]
      simp [b_good_kinds, numI, wq_blank_blank_f, wq_blank_blank_t, wq_blank_cut_f, wq_blank_cut_t, wq_blank_mount_f, wq_blank_mount_t, wq_blank_foot_f, wq_blank_foot_t, wq_blank_lever_f, wq_blank_lever_t, wq_cut_blank_f, wq_cut_blank_t, wq_cut_cut_f, wq_cut_cut_t, wq_cut_mount_f, wq_cut_mount_t, wq_cut_foot_f, wq_cut_foot_t, wq_cut_lever_f, wq_cut_lever_t, wq_mount_blank_f, wq_mount_blank_t, wq_mount_cut_f, wq_mount_cut_t, wq_mount_mount_f, wq_mount_mount_t, wq_mount_foot_f, wq_mount_foot_t, wq_mount_lever_f, wq_mount_lever_t, wq_foot_blank_f, wq_foot_blank_t, wq_foot_cut_f, wq_foot_cut_t, wq_foot_mount_f, wq_foot_mount_t, wq_foot_foot_f, wq_foot_foot_t, wq_foot_lever_f, wq_foot_lever_t, wq_lever_blank_f, wq_lever_blank_t, wq_lever_cut_f, wq_lever_cut_t, wq_lever_mount_f, wq_lever_mount_t, wq_lever_foot_f, wq_lever_foot_t, wq_lever_lever_f, wq_lever_lever_t, wi_blank, wx_blank, wj_blank, wy_blank, wi_cut, wx_cut, wj_cut, wy_cut, wi_mount, wx_mount, wj_mount, wy_mount, wi_foot, wx_foot, wj_foot, wy_foot, wi_lever, wx_lever, wj_lever, wy_lever, wipeR, -rng1_eq, -fIx_eq, fIx_tup, fIx_lst, -eChain_eq]
theorem gd_eq (l : List Int) (h : l.length ≤ 1000) (s : S) : f_good_drops [.d (.tup (l.map .int))] s = .ok (.w (.d (.bl (decide (1 ≤ l.length) && decide (l.length ≤ 9) && drOk l)))) s := by
  have hl : l.length ≤ 16777216 := by omega
  have p1 := fun ρ s => chLL 1 9 (eArgs (c1 fLen) (eCons (eVar 0) eNil)) (.w (.d (.tup (l.map .int))) :: ρ) s l.length (by simp [hl])
  have e2 := dec_nat 1 9 l.length
  have e1 : wD (l.map D.int) = l.map fun i => W.d (.int i) := by unfold wD; rw [List.map_map]; rfl
  have dr := dr_all l
  have lc3 : ∀ x s, lcM (tgName 1) eYes (eChain fLe fLe (eC (.int 0)) (eVar 1) (eC (.int 99))) [.w (.d (.tup (l.map .int))), x] (wD (l.map D.int)) s = .ok (wD (l.map fun x => D.bl (decide (0 ≤ x) && decide (x ≤ 99)))) s := fun x s => by
    rw [e1, lcM_fn' (v := fun x => D.bl (decide (0 ≤ x) && decide (x ≤ 99)))]
    intro x hx
    exact ⟨_, rfl, chLL 0 99 (eVar 1) _ s x (by simp)⟩
  rw [f_good_drops, runF_eq, ← e2]
  generalize (decide (((1 : Nat) : Int) ≤ (l.length : Int)) && decide ((l.length : Int) ≤ ((9 : Nat) : Int))) = g1 at *
  have hml : (l.map fun x => D.bl (decide (0 ≤ x) && decide (x ≤ 99))).length ≤ 16777216 := by rw [List.length_map]; exact hl
  generalize drOk l = g5 at *
  generalize (l.map fun x => D.bl (decide (0 ≤ x) && decide (x ≤ 99))) = LB at *
  cases g1 <;> simp [b_good_drops, p1, lc3, dr, hl, hml, wipeR, -rng1_eq, -fIx_eq, fIx_tup, fIx_lst, -eChain_eq]
theorem gf_eq (l : List Int) (m : Int) (h : l.length ≤ 1000) (s : S) : f_good_foot [.d (.tup (l.map .int)), .d (.int m)] s = .ok (.w (.d (.bl ((decide (1 ≤ l.length) && decide (l.length ≤ 9) && drOk l) && (decide (0 ≤ m) && decide (m < l.length)))))) s := by
  have hl : l.length ≤ 16777216 := by omega
  have g := fun s => gd_eq l h s
  have p4 := fun ρ s => chLt 0 l.length (eVar 1) (eArgs (c1 fLen) (eCons (eVar 0) eNil)) (.w (.d (.tup (l.map .int))) :: .w (.d (.int m)) :: ρ) s m (by simp) (by simp [hl])
  rw [f_good_foot, runF_eq]
  generalize (decide (1 ≤ l.length) && decide (l.length ≤ 9) && drOk l) = g1 at *
  generalize (decide (0 ≤ m) && decide (m < (l.length : Int))) = g4 at *
  cases g1 <;> simp [b_good_foot, g, p4, wipeR, -rng1_eq, -fIx_eq, fIx_tup, fIx_lst, -eChain_eq]
theorem abs_dec (t : Int) : decide ((if t < 0 then -t else t) ≤ 99) = (decide (-99 ≤ t) && decide (t ≤ 99)) := by
  rw [← Bool.decide_and, decide_eq_decide]
  split <;> omega
theorem things_eq (f : Fa) (h : f.sz) (s : S) : f_good_things [.d f.d] s = .ok (.w (.d (.bl f.ok))) s := by
  rw [f_good_things, runF_eq]
  cases f with
  | blank c r =>
    have h : r.length ≤ 5000 := h
    have p1 := fun ρ s => chLL 0 5 (eBin fIx (eVar 0) (eC (.int 1))) (.w (.d (Fa.blank c r).d) :: ρ) s c (by simp [Fa.d, Fa.word, Fa.num, Fa.rest, -fIx_eq, fIx_tup])
    have p2 := fun s => isRim_eq r s
    have e2 : isRimB r = (decide (3 ≤ r.length) && decide (r.length ≤ 48)) := by unfold isRimB; first | rfl | simp
    rw [e2] at p2
    simp only [Fa.d, Fa.word, Fa.num, Fa.rest] at p1
    simp only [Fa.d, Fa.word, Fa.num, Fa.rest, Fa.ok]
    generalize (decide (0 ≤ c) && decide (c ≤ 5)) = g1 at *
    generalize (decide (3 ≤ r.length) && decide (r.length ≤ 48)) = g2 at *
    cases g1 <;> simp [b_good_things, p1, p2, wq_blank_blank_f, wq_blank_blank_t, wq_blank_cut_f, wq_blank_cut_t, wq_blank_mount_f, wq_blank_mount_t, wq_blank_foot_f, wq_blank_foot_t, wq_blank_lever_f, wq_blank_lever_t, wq_cut_blank_f, wq_cut_blank_t, wq_cut_cut_f, wq_cut_cut_t, wq_cut_mount_f, wq_cut_mount_t, wq_cut_foot_f, wq_cut_foot_t, wq_cut_lever_f, wq_cut_lever_t, wq_mount_blank_f, wq_mount_blank_t, wq_mount_cut_f, wq_mount_cut_t, wq_mount_mount_f, wq_mount_mount_t, wq_mount_foot_f, wq_mount_foot_t, wq_mount_lever_f, wq_mount_lever_t, wq_foot_blank_f, wq_foot_blank_t, wq_foot_cut_f, wq_foot_cut_t, wq_foot_mount_f, wq_foot_mount_t, wq_foot_foot_f, wq_foot_foot_t, wq_foot_lever_f, wq_foot_lever_t, wq_lever_blank_f, wq_lever_blank_t, wq_lever_cut_f, wq_lever_cut_t, wq_lever_mount_f, wq_lever_mount_t, wq_lever_foot_f, wq_lever_foot_t, wq_lever_lever_f, wq_lever_lever_t, wi_blank, wx_blank, wj_blank, wy_blank, wi_cut, wx_cut, wj_cut, wy_cut, wi_mount, wx_mount, wj_mount, wy_mount, wi_foot, wx_foot, wj_foot, wy_foot, wi_lever, wx_lever, wj_lever, wy_lever, wipeR, -rng1_eq, -fIx_eq, fIx_tup, fIx_lst, -eChain_eq]
  | cut c k x =>
    have p1 := fun ρ s => chLL 0 5 (eBin fIx (eVar 0) (eC (.int 1))) (.w (.d (Fa.cut c k x).d) :: ρ) s c (by simp [Fa.d, Fa.word, Fa.num, Fa.rest, -fIx_eq, fIx_tup])
    have p2 := fun ρ s => chLt 0 48 (eBin fIx (eVar 0) (eC (.int 2))) (eC (.int 48)) (.w (.d (Fa.cut c k x).d) :: ρ) s k (by simp [Fa.d, Fa.word, Fa.num, Fa.rest, -fIx_eq, fIx_tup]) (by simp)
    have e2 : (decide (0 ≤ k) && decide (k < 48)) = (decide (0 ≤ k) && decide (k ≤ 47)) := by
      congr 1
      rw [decide_eq_decide]
      omega
    simp only [Fa.d, Fa.word, Fa.num, Fa.rest, e2] at p1 p2
    simp only [Fa.d, Fa.word, Fa.num, Fa.rest, Fa.ok]
    generalize (decide (0 ≤ c) && decide (c ≤ 5)) = g1 at *
    generalize (decide (0 ≤ k) && decide (k ≤ 47)) = g2 at *
    cases g1 <;> simp [b_good_things, p1, p2, wq_blank_blank_f, wq_blank_blank_t, wq_blank_cut_f, wq_blank_cut_t, wq_blank_mount_f, wq_blank_mount_t, wq_blank_foot_f, wq_blank_foot_t, wq_blank_lever_f, wq_blank_lever_t, wq_cut_blank_f, wq_cut_blank_t, wq_cut_cut_f, wq_cut_cut_t, wq_cut_mount_f, wq_cut_mount_t, wq_cut_foot_f, wq_cut_foot_t, wq_cut_lever_f, wq_cut_lever_t, wq_mount_blank_f, wq_mount_blank_t, wq_mount_cut_f, wq_mount_cut_t, wq_mount_mount_f, wq_mount_mount_t, wq_mount_foot_f, wq_mount_foot_t, wq_mount_lever_f, wq_mount_lever_t, wq_foot_blank_f, wq_foot_blank_t, wq_foot_cut_f, wq_foot_cut_t, wq_foot_mount_f, wq_foot_mount_t, wq_foot_foot_f, wq_foot_foot_t, wq_foot_lever_f, wq_foot_lever_t, wq_lever_blank_f, wq_lever_blank_t, wq_lever_cut_f, wq_lever_cut_t, wq_lever_mount_f, wq_lever_mount_t, wq_lever_foot_f, wq_lever_foot_t, wq_lever_lever_f, wq_lever_lever_t, wi_blank, wx_blank, wj_blank, wy_blank, wi_cut, wx_cut, wj_cut, wy_cut, wi_mount, wx_mount, wj_mount, wy_mount, wi_foot, wx_foot, wj_foot, wy_foot, wi_lever, wx_lever, wj_lever, wy_lever, wipeR, -rng1_eq, -fIx_eq, fIx_tup, fIx_lst, -eChain_eq]
  | mount c t m a =>
    have p1 := fun ρ s => chLL 0 5 (eBin fIx (eVar 0) (eC (.int 1))) (.w (.d (Fa.mount c t m a).d) :: ρ) s c (by simp [Fa.d, Fa.word, Fa.num, Fa.rest, -fIx_eq, fIx_tup])
    have p3 := fun ρ s => chLL 1 99 (eBin fIx (eVar 0) (eC (.int 3))) (.w (.d (Fa.mount c t m a).d) :: ρ) s m (by simp [Fa.d, Fa.word, Fa.num, Fa.rest, -fIx_eq, fIx_tup])
    simp only [Fa.d, Fa.word, Fa.num, Fa.rest] at p1 p3
    have gm : ∀ s, f_good_mount [.d (Fa.mount c t m a).d] s = .ok (.w (.d (.bl ((decide (-99 ≤ t) && decide (t ≤ 99)) && (decide (1 ≤ m) && decide (m ≤ 99)))))) s := fun s => by
      rw [f_good_mount, runF_eq]
      have ad := abs_dec t
      generalize (decide (-99 ≤ t) && decide (t ≤ 99)) = g2 at *
      generalize (decide (1 ≤ m) && decide (m ≤ 99)) = g3 at *
      simp only [Fa.d, Fa.word, Fa.num, Fa.rest]
      cases g2 <;> simp [b_good_mount, p3, ad, wipeR, -rng1_eq, -fIx_eq, fIx_tup, fIx_lst, -eChain_eq]
    simp only [Fa.d, Fa.word, Fa.num, Fa.rest] at gm
    simp only [Fa.d, Fa.word, Fa.num, Fa.rest, Fa.ok]
    generalize (decide (0 ≤ c) && decide (c ≤ 5)) = g1 at *
    generalize (decide (-99 ≤ t) && decide (t ≤ 99)) = g2 at *
    generalize (decide (1 ≤ m) && decide (m ≤ 99)) = g3 at *
    cases g1 <;> simp [b_good_things, p1, gm, wq_blank_blank_f, wq_blank_blank_t, wq_blank_cut_f, wq_blank_cut_t, wq_blank_mount_f, wq_blank_mount_t, wq_blank_foot_f, wq_blank_foot_t, wq_blank_lever_f, wq_blank_lever_t, wq_cut_blank_f, wq_cut_blank_t, wq_cut_cut_f, wq_cut_cut_t, wq_cut_mount_f, wq_cut_mount_t, wq_cut_foot_f, wq_cut_foot_t, wq_cut_lever_f, wq_cut_lever_t, wq_mount_blank_f, wq_mount_blank_t, wq_mount_cut_f, wq_mount_cut_t, wq_mount_mount_f, wq_mount_mount_t, wq_mount_foot_f, wq_mount_foot_t, wq_mount_lever_f, wq_mount_lever_t, wq_foot_blank_f, wq_foot_blank_t, wq_foot_cut_f, wq_foot_cut_t, wq_foot_mount_f, wq_foot_mount_t, wq_foot_foot_f, wq_foot_foot_t, wq_foot_lever_f, wq_foot_lever_t, wq_lever_blank_f, wq_lever_blank_t, wq_lever_cut_f, wq_lever_cut_t, wq_lever_mount_f, wq_lever_mount_t, wq_lever_foot_f, wq_lever_foot_t, wq_lever_lever_f, wq_lever_lever_t, wi_blank, wx_blank, wj_blank, wy_blank, wi_cut, wx_cut, wj_cut, wy_cut, wi_mount, wx_mount, wj_mount, wy_mount, wi_foot, wx_foot, wj_foot, wy_foot, wi_lever, wx_lever, wj_lever, wy_lever, wipeR, -rng1_eq, -fIx_eq, fIx_tup, fIx_lst, -eChain_eq]
  | foot f c l m =>
    have h : l.length ≤ 1000 := h
    have p2 := fun ρ s => chLL 0 7 (eBin fIx (eVar 0) (eC (.int 1))) (.w (.d (Fa.foot f c l m).d) :: ρ) s f (by simp [Fa.d, Fa.word, Fa.num, Fa.rest, -fIx_eq, fIx_tup])
    have p3 := fun ρ s => chLL 0 5 (eBin fIx (eVar 0) (eC (.int 2))) (.w (.d (Fa.foot f c l m).d) :: ρ) s c (by simp [Fa.d, Fa.word, Fa.num, Fa.rest, -fIx_eq, fIx_tup])
    have p4 := fun s => gf_eq l m h s
    simp only [Fa.d, Fa.word, Fa.num, Fa.rest] at p2 p3
    simp only [Fa.d, Fa.word, Fa.num, Fa.rest, Fa.ok]
    generalize (decide (1 ≤ l.length) && decide (l.length ≤ 9) && drOk l) = g1 at *
    generalize (decide (0 ≤ f) && decide (f ≤ 7)) = g2 at *
    generalize (decide (0 ≤ c) && decide (c ≤ 5)) = g3 at *
    generalize (decide (0 ≤ m) && decide (m < (l.length : Int))) = g4 at *
    cases g1 <;> cases g2 <;> cases g3 <;> simp [b_good_things, p2, p3, p4, wq_blank_blank_f, wq_blank_blank_t, wq_blank_cut_f, wq_blank_cut_t, wq_blank_mount_f, wq_blank_mount_t, wq_blank_foot_f, wq_blank_foot_t, wq_blank_lever_f, wq_blank_lever_t, wq_cut_blank_f, wq_cut_blank_t, wq_cut_cut_f, wq_cut_cut_t, wq_cut_mount_f, wq_cut_mount_t, wq_cut_foot_f, wq_cut_foot_t, wq_cut_lever_f, wq_cut_lever_t, wq_mount_blank_f, wq_mount_blank_t, wq_mount_cut_f, wq_mount_cut_t, wq_mount_mount_f, wq_mount_mount_t, wq_mount_foot_f, wq_mount_foot_t, wq_mount_lever_f, wq_mount_lever_t, wq_foot_blank_f, wq_foot_blank_t, wq_foot_cut_f, wq_foot_cut_t, wq_foot_mount_f, wq_foot_mount_t, wq_foot_foot_f, wq_foot_foot_t, wq_foot_lever_f, wq_foot_lever_t, wq_lever_blank_f, wq_lever_blank_t, wq_lever_cut_f, wq_lever_cut_t, wq_lever_mount_f, wq_lever_mount_t, wq_lever_foot_f, wq_lever_foot_t, wq_lever_lever_f, wq_lever_lever_t, wi_blank, wx_blank, wj_blank, wy_blank, wi_cut, wx_cut, wj_cut, wy_cut, wi_mount, wx_mount, wj_mount, wy_mount, wi_foot, wx_foot, wj_foot, wy_foot, wi_lever, wx_lever, wj_lever, wy_lever, wipeR, -rng1_eq, -fIx_eq, fIx_tup, fIx_lst, -eChain_eq]
  | lever n t =>
    have h : TD 12 t := h
    have p1 := fun ρ s => chLL 0 5 (eBin fIx (eVar 0) (eC (.int 1))) (.w (.d (Fa.lever n t).d) :: ρ) s n (by simp [Fa.d, Fa.word, Fa.num, Fa.rest, -fIx_eq, fIx_tup])
    have gt := fun s => isTree_eq t s h
    simp only [Fa.d, Fa.word, Fa.num, Fa.rest] at p1
    simp only [Fa.d, Fa.word, Fa.num, Fa.rest, Fa.ok]
    generalize (decide (0 ≤ n) && decide (n ≤ 5)) = g1 at *
    generalize goodT t = g2 at *
    cases g1 <;> simp [b_good_things, p1, gt, wq_blank_blank_f, wq_blank_blank_t, wq_blank_cut_f, wq_blank_cut_t, wq_blank_mount_f, wq_blank_mount_t, wq_blank_foot_f, wq_blank_foot_t, wq_blank_lever_f, wq_blank_lever_t, wq_cut_blank_f, wq_cut_blank_t, wq_cut_cut_f, wq_cut_cut_t, wq_cut_mount_f, wq_cut_mount_t, wq_cut_foot_f, wq_cut_foot_t, wq_cut_lever_f, wq_cut_lever_t, wq_mount_blank_f, wq_mount_blank_t, wq_mount_cut_f, wq_mount_cut_t, wq_mount_mount_f, wq_mount_mount_t, wq_mount_foot_f, wq_mount_foot_t, wq_mount_lever_f, wq_mount_lever_t, wq_foot_blank_f, wq_foot_blank_t, wq_foot_cut_f, wq_foot_cut_t, wq_foot_mount_f, wq_foot_mount_t, wq_foot_foot_f, wq_foot_foot_t, wq_foot_lever_f, wq_foot_lever_t, wq_lever_blank_f, wq_lever_blank_t, wq_lever_cut_f, wq_lever_cut_t, wq_lever_mount_f, wq_lever_mount_t, wq_lever_foot_f, wq_lever_foot_t, wq_lever_lever_f, wq_lever_lever_t, wi_blank, wx_blank, wj_blank, wy_blank, wi_cut, wx_cut, wj_cut, wy_cut, wi_mount, wx_mount, wj_mount, wy_mount, wi_foot, wx_foot, wj_foot, wy_foot, wi_lever, wx_lever, wj_lever, wy_lever, wipeR, -rng1_eq, -fIx_eq, fIx_tup, fIx_lst, -eChain_eq]
theorem need_eq (f : Fa) (h : f.sz) (s : S) : f_need_fact [.d f.d] s = (if f.ok = true then .ok (.w (.d .non)) s else .exc "BadFact" none s) := by
  have k := fun s => kinds_eq f h s
  have t := fun s => things_eq f h s
  rw [f_need_fact, runF_eq]
  generalize f.ok = g at *
  cases f <;> simp only [Fa.d, Fa.word, Fa.num, Fa.rest] at k t ⊢ <;> cases g <;> simp [b_need_fact, k, t, wq_blank_blank_f, wq_blank_blank_t, wq_blank_cut_f, wq_blank_cut_t, wq_blank_mount_f, wq_blank_mount_t, wq_blank_foot_f, wq_blank_foot_t, wq_blank_lever_f, wq_blank_lever_t, wq_cut_blank_f, wq_cut_blank_t, wq_cut_cut_f, wq_cut_cut_t, wq_cut_mount_f, wq_cut_mount_t, wq_cut_foot_f, wq_cut_foot_t, wq_cut_lever_f, wq_cut_lever_t, wq_mount_blank_f, wq_mount_blank_t, wq_mount_cut_f, wq_mount_cut_t, wq_mount_mount_f, wq_mount_mount_t, wq_mount_foot_f, wq_mount_foot_t, wq_mount_lever_f, wq_mount_lever_t, wq_foot_blank_f, wq_foot_blank_t, wq_foot_cut_f, wq_foot_cut_t, wq_foot_mount_f, wq_foot_mount_t, wq_foot_foot_f, wq_foot_foot_t, wq_foot_lever_f, wq_foot_lever_t, wq_lever_blank_f, wq_lever_blank_t, wq_lever_cut_f, wq_lever_cut_t, wq_lever_mount_f, wq_lever_mount_t, wq_lever_foot_f, wq_lever_foot_t, wq_lever_lever_f, wq_lever_lever_t, wi_blank, wx_blank, wj_blank, wy_blank, wi_cut, wx_cut, wj_cut, wy_cut, wi_mount, wx_mount, wj_mount, wy_mount, wi_foot, wx_foot, wj_foot, wy_foot, wi_lever, wx_lever, wj_lever, wy_lever, wipeR, -rng1_eq, -fIx_eq, fIx_tup, fIx_lst, -eChain_eq]
end TG

set_option linter.all false
set_option maxRecDepth 100000
namespace TG
open PySem L2
noncomputable def pos (x : Str) (L : List Nat) : Int := (((tl x).length - L.length : Nat) : Int)
section
variable {x : Str} {L : List Nat}
end
theorem take1_ok {l : List Nat} {x : Str} (h : SOk (tl x)) (hs : l <:+ tl x) : SOk (tl (mk (l.take 1))) := h.sub fun c hc => hs.subset (List.mem_of_mem_take hc)
theorem lit_ok {l : Str} (h : PyData.strOk l = true) : SOk (tl l) := SOk.of_strOk h
theorem nx (neg : Bool) (c : Nat) (lit : Str) (hl : tl lit = [c]) (hc : c < 1114112) {x : Str} {L : List Nat} (h : SOk (tl x)) (hs : L <:+ tl x) (s : S) :
    fEq neg (.d (.str (mk (L.take 1)))) (.d (.str lit)) s = .ok (.d (.bl (if neg then !decide (L.head? = some c) else decide (L.head? = some c)))) s := by
  rw [fEq_str neg s (take1_ok h hs) (by rw [hl]; intro d hd; rw [List.mem_singleton.mp hd]; exact hc)]
  have e : (tl (mk (L.take 1)) = tl lit) = (L.head? = some c) := by
    rw [tl_mk, hl]
    cases L with
    | nil => simp
    | cons a r => simp
  simp only [e]
end TG

set_option linter.all false
set_option maxRecDepth 100000
namespace TG
open PySem L2
theorem okP : ∀ {n : Nat} {t : D}, okT n t = true → t.plain = true ∧ t.slim = true ∧ t.dep ≤ n
  | 0, t, h => by cases h
  | n + 1, t, h => by
    rcases ok_cases h with ⟨i, i0, i1, rfl⟩ | ⟨d, hd, rfl⟩ | ⟨x, d, e, hx, hd, he, rfl⟩
    · have p0 : (D.str "foot").plain = true := by decide +kernel
      refine ⟨?_, rfl, ?_⟩
      · rw [plain_tup, plains_iff]
        intro y hy
        rcases List.mem_cons.mp hy with rfl | hy
        · exact p0
        · rw [List.mem_singleton.mp hy]; rfl
      · simp [D.dep, D.deps]
    · obtain ⟨h1, h2, h3⟩ := okP hd
      have p0 : (D.str "less").plain = true := by decide +kernel
      refine ⟨?_, ?_, ?_⟩
      · rw [plain_tup, plains_iff]
        intro y hy
        rcases List.mem_cons.mp hy with rfl | hy
        · exact p0
        · rw [List.mem_singleton.mp hy]; exact h1
      · simp [D.slim, D.slims, h2]
      · rw [dep_tup]
        simp [D.deps, D.dep]
        omega
    · obtain ⟨h1, h2, h3⟩ := okP hd
      obtain ⟨k1, k2, k3⟩ := okP he
      have p0 : (D.str x).plain = true := by rcases hx with rfl | rfl <;> decide +kernel
      refine ⟨?_, ?_, ?_⟩
      · rw [plain_tup, plains_iff]
        intro y hy
        rcases List.mem_cons.mp hy with rfl | hy
        · exact p0
        · rcases List.mem_cons.mp hy with rfl | hy
          · exact h1
          · rw [List.mem_singleton.mp hy]; exact k1
      · simp [D.slim, D.slims, h2, k2]
      · rw [dep_tup]
        simp [D.deps, D.dep]
        omega
end TG

set_option linter.all false
set_option maxRecDepth 100000
namespace TG
open PySem L2
section
variable {fr : Sem1} {n : Nat} {x : Str} {w : Str} {p : List Nat} {lw : Nat} {s : S}
end
end TG

set_option linter.all false
set_option maxRecDepth 100000
namespace TG
open PySem L2
theorem okT_deep : ∀ (n : Nat) (t : D) (m : Nat) (k : Nat), okT n t = true → n ≤ m → deepT m t ≤ k → okT k t = true
  | 0, t, m, k, h, _, _ => by cases h
  | n + 1, t, 0, k, h, hm, _ => by omega
  | n + 1, t, m + 1, 0, h, hm, hd => by
    have := deep_pos (m + 1) t (okT_le h hm)
    omega
  | n + 1, t, m + 1, k + 1, h, hm, hd => by
    rcases ok_cases h with ⟨i, i0, i1, rfl⟩ | ⟨d, hd', rfl⟩ | ⟨x, d, e, hx, hd', he, rfl⟩
    · exact ok_foot k i i0 (by omega)
    · rw [deepT, if_neg less_nf] at hd
      have := (maxI_leT (l := [deepT m d]) (by simp) k).mp (by simp only [List.map_cons, List.map_nil] at hd; omega) (deepT m d) (by simp)
      exact ok_less (okT_deep n d m k hd' (by omega) this)
    · have hf : x ≠ "foot" := by rcases hx with rfl | rfl; exact sum_nf; exact high_nf
      rw [deepT, if_neg hf] at hd
      have hm' := (maxI_leT (l := [deepT m d, deepT m e]) (by simp) k).mp (by simp only [List.map_cons, List.map_nil] at hd; omega)
      exact ok_two hx (okT_deep n d m k hd' (by omega) (hm' _ (by simp))) (okT_deep n e m k he (by omega) (hm' _ (by simp)))
theorem good_ok5 {t : D} (g : goodT t = true) : okT 5 t = true := by
  unfold goodT at g
  simp only [Bool.and_eq_true, decide_eq_true_eq] at g
  exact okT_deep 12 t 12 5 g.1 (Nat.le_refl _) g.2.1
noncomputable def TX (n : Nat) (x : Str) : Prop := (∀ c ∈ tl x, c < 128) ∧ (tl x).length ≤ n
theorem TX.len {n : Nat} {x : Str} (h : TX n x) (hn : n ≤ 100000) : x.length ≤ 16777216 := by rw [tl_len]; have := h.2; omega
theorem TX.cut {n : Nat} {x : Str} (h : TX n x) (i j : Option Int) : TX n (cutS x i j) := by
  refine ⟨fun c hc => h.1 c ?_, ?_⟩
  · rw [tl_cut] at hc; exact cut_mem _ i j c hc
  · have := cutS_length x i j
    rw [tl_len, tl_len] at this
    exact Nat.le_trans this h.2
theorem TX.up {n : Nat} {x : Str} (h : TX n x) : TX n (Txt.upper x) := by
  have e : Txt.upper x = mk ((tl x).map PyProof.Rows.up1) := by
    have := SX.upper_S (a := tl x) (by rw [List.all_eq_true]; intro c hc; exact decide_eq_true (h.1 c hc))
    rw [show SX.S (tl x) = x from mk_tl x] at this
    exact this
  rw [e]
  refine ⟨fun c hc => ?_, by rw [tl_mk, List.length_map]; exact h.2⟩
  rw [tl_mk] at hc
  obtain ⟨d, hd, rfl⟩ := List.mem_map.mp hc
  have := h.1 d hd
  unfold PyProof.Rows.up1
  split <;> omega
theorem TX.rev {n : Nat} {x : Str} (h : TX n x) : TX n (revS x) := by
  refine ⟨fun c hc => h.1 c ?_, ?_⟩
  · unfold revS Txt.sliceBy at hc
    split at hc
    · exact hc
    · have hc : c ∈ (Builtin.Str.strSliceIndices none none (-1) x.length).filterMap (x.cps[·]?) := hc
      obtain ⟨i, _, hi⟩ := List.mem_filterMap.mp hc
      exact Array.mem_toList_iff.mpr (Array.mem_of_getElem? hi)
  · have := Txt.sliceBy_le x none none (-1, 0) (by decide)
    rw [tl_len, tl_len] at this
    exact Nat.le_trans this h.2
end TG

set_option linter.all false
set_option maxRecDepth 100000
namespace TG
open PySem L2
end TG

set_option linter.all false
set_option maxRecDepth 100000
namespace TG
open PySem L2
end TG

set_option linter.all false
set_option maxRecDepth 100000
namespace TG
open PySem L2
end TG

set_option linter.all false
set_option maxRecDepth 100000
namespace TG
open PySem L2
@[simp] theorem eSortDI_eq (a : Cmp (List W)) (ρ : Rho) (s : S) : eSortDI a ρ s = (a ρ s).bind kSortDI := (rfl)
@[simp] theorem eLenDic_eq (a : Cmp (List W)) (ρ : Rho) (s : S) : eLenDic a ρ s = (a ρ s).bind kLenDic := (rfl)
@[simp] theorem eDictO_eq (a : Cmp (List W)) (ρ : Rho) (s : S) : eDictO a ρ s = (a ρ s).bind kDictO := (rfl)
@[simp] theorem eCellD_eq (a : Cmp (List (Key × W))) (ρ : Rho) (s : S) : eCellD a ρ s = (a ρ s).bind kCellD := (rfl)
@[simp] theorem kCellD_eq (l : List (Key × W)) (s : S) : kCellD l s = .ok (.r s.length) (s ++ [.dic l]) := (rfl)
@[simp] theorem sSetKC_eq (o i v : Cmp W) (ρ : Rho) (s : S) : sSetKC o i v ρ s = ebS (v ρ s) ρ (kSetKC o i) := (rfl)
@[simp] theorem kSetKC_eq (o i : Cmp W) (x : W) (ρ : Rho) (s : S) : kSetKC o i x ρ s = ebS (o ρ s) ρ (kSetKC2 i x) := (rfl)
@[simp] theorem kSetKC2_eq (i : Cmp W) (x y : W) (ρ : Rho) (s : S) : kSetKC2 i x y ρ s = ebS (i ρ s) ρ (kSetKC3 x y) := (rfl)
@[simp] theorem kSetKC3_eq (x y z : W) (ρ : Rho) (s : S) : kSetKC3 x y z ρ s = match setD y z x s with | some s' => .nx ρ s' | none => .no := (rfl)
@[simp] theorem ePopKC_eq (o i : Cmp W) (ρ : Rho) (s : S) : ePopKC o i ρ s = (o ρ s).bind (kPopKC i ρ) := (rfl)
@[simp] theorem kPopKC_eq (i : Cmp W) (ρ : Rho) (x : W) (s : S) : kPopKC i ρ x s = if isCD x s = true then (i ρ s).bind (kPopKC2 x) else .no := (rfl)
@[simp] theorem kPopKC2_eq (x i : W) (s : S) : kPopKC2 x i s = match popD x i s with | some (v, s') => .ok v s' | none => .no := (rfl)
@[simp] theorem sPopKO_eq (i : Nat) (e : Cmp W) (ρ : Rho) (s : S) : sPopKO i e ρ s = match (ρ[i]? : Option EV) with | some (.ownD l) => ebS (e ρ s) ρ (kPopKO i l) | _ => .no := (rfl)
@[simp] theorem eLenC_eq (c : Str) (f : Sem1) (a : Cmp W) (ρ : Rho) (s : S) : eLenC c f a ρ s = (a ρ s).bind (kLenC c f) := (rfl)
@[simp] theorem kLenC_eq (c : Str) (f : Sem1) (x : W) (s : S) : kLenC c f x s = if insOf c "__len__" x s = true then lenC (f [x] s) else .no := (rfl)
noncomputable abbrev FaL := List (Int × Fa)
noncomputable def fz (F : FaL) : List (Key × D) := F.map fun p => ((.inl p.1 : Key), p.2.d)
noncomputable def Srt (F : FaL) : Prop := (F.map fun p => p.1).Pairwise (· < ·)
noncomputable def holdD (F : FaL) (m : Int) : D := .ins "Hold" [("there", .dic (fz F)), ("many_told", .int m)]
noncomputable def pF (p : Int × Fa) : D := .tup [.int p.1, p.2.d]
noncomputable def lookF (F : FaL) (k : Int) : Option Fa := (F.find? fun p => decide (p.1 = k)).map fun p => p.2
theorem get_fz (F : FaL) (k : Int) : getK (wK (fz F)) (.inl k) = (lookF F k).map fun f => W.d f.d := by
  induction F with
  | nil => rfl
  | cons p F ih =>
    unfold lookF fz wK at *
    simp only [List.map_cons, getK, List.find?_cons]
    by_cases h : p.1 = k
    · subst h; simp
    · have h2 : ¬ ((.inl p.1 : Key) = .inl k) := fun z => h (by cases z; rfl)
      rw [if_neg h2, decide_eq_false h]
      exact ih
theorem look_mem {F : FaL} (hs : Srt F) : ∀ p ∈ F, lookF F p.1 = some p.2 := by
  induction F with
  | nil => intro p hp; cases hp
  | cons q F ih =>
    intro p hp
    unfold Srt at hs
    rw [List.map_cons, List.pairwise_cons] at hs
    unfold lookF
    rw [List.find?_cons]
    rcases List.mem_cons.mp hp with rfl | hp
    · simp
    · have := hs.1 p.1 (List.mem_map_of_mem hp)
      have h2 : ¬ q.1 = p.1 := by omega
      rw [decide_eq_false h2]
      exact ih hs.2 p hp
theorem look_some {F : FaL} {k : Int} {f : Fa} (h : lookF F k = some f) : (k, f) ∈ F := by
  unfold lookF at h
  rw [Option.map_eq_some_iff] at h
  obtain ⟨p, h1, rfl⟩ := h
  have := List.find?_some h1
  have hp := List.mem_of_find?_eq_some h1
  have e : p.1 = k := of_decide_eq_true this
  subst e
  exact hp
theorem keys_fz (F : FaL) : keysI (wK (fz F)) = some (F.map fun p => p.1) := by
  induction F with
  | nil => rfl
  | cons p F ih =>
    show (keysI (wK (fz F))).map (p.1 :: ·) = _
    rw [ih]
    rfl
theorem keys_sorted {F : FaL} (hs : Srt F) : (F.map fun p => p.1).mergeSort = F.map fun p => p.1 := by
  refine List.mergeSort_of_pairwise ?_
  exact hs.imp fun h => by simp; omega
theorem asDic_fz (F : FaL) (s : S) : asDic (.d (.dic (fz F))) s = some (wK (fz F)) := rfl
theorem sort_fz {F : FaL} (hs : Srt F) (s : S) : kSortDI [.d (.dic (fz F))] s = .ok (wD (F.map fun p => D.int p.1)) s := by
  show (match asDic (.d (.dic (fz F))) s with | some l => (match keysI l with | some ks => Res.ok (wD (ks.mergeSort.map D.int)) s | none => .no) | none => .no) = _
  rw [asDic_fz]
  show (match keysI (wK (fz F)) with | some ks => Res.ok (wD (ks.mergeSort.map D.int)) s | none => .no) = _
  rw [keys_fz]
  show Res.ok (wD (((F.map fun p => p.1).mergeSort).map D.int)) s = _
  rw [keys_sorted hs, List.map_map]
  rfl
structure Shop (s : S) (n i j : Nat) (hs gs : List D) : Prop where
  a : s[n]? = some (.ins "Workshop" [("times_kept", .r i), ("gone", .r j)])
  b : s[i]? = some (.lst (wD hs))
  c : s[j]? = some (.lst (wD gs))
section
variable {s : S} {n i j : Nat} {hs gs : List D} {F : FaL} {m : Int}
theorem Shop.f1 (h : Shop s n i j hs gs) : fldOf "Workshop" "times_kept" (.r n) s = some (.r i) := by
  show (match s[n]? with | some (.ins c' l) => if c' = "Workshop" then l.lookup ("times_kept" : Str) else none | _ => none) = _
  rw [h.a]
  show (if ("Workshop" : Str) = "Workshop" then _ else _) = _
  rw [if_pos rfl]
  rfl
theorem last_get {α : Type} (l : List α) (x : α) : (l ++ [x])[(l ++ [x]).length - 1]? = some x := by simp
theorem Shop.f2 (h : Shop s n i j (hs ++ [holdD F m]) gs) : fIx (.r i) (.d (.int (-1))) s = .ok (.d (holdD F m)) s := by
  have e : asSeq (.r i) s = some (wD (hs ++ [holdD F m])) := by
    show (match asTup (.r i) with | some l => some (wD l) | none => match asLst (.r i) s with | some l => some l | none => tupC (.r i) s) = _
    show (match (match s[i]? with | some (.lst l) => some l | _ => none) with | some l => some l | none => tupC (.r i) s) = _
    rw [h.b]
  rw [fIx_eq, e]
  show (match atI (wD (hs ++ [holdD F m])) (-1) with | some w => Res.ok w s | none => .no) = _
  rw [atI_m1]
  have : wD (hs ++ [holdD F m]) = wD hs ++ [.d (holdD F m)] := by unfold wD; simp
  rw [this, last_get]
theorem hold_f3 (F : FaL) (m : Int) (s : S) : fldOf "Hold" "there" (.d (holdD F m)) s = some (.d (.dic (fz F))) := rfl
theorem hold_f4 (F : FaL) (m : Int) (s : S) : fldOf "Hold" "many_told" (.d (holdD F m)) s = some (.d (.int m)) := by
  have k : (("many_told" : Str) == "there") = false := by decide +kernel
  show (if ("Hold" : Str) = "Hold" then ((([(("there" : Str), D.dic (fz F)), ("many_told", .int m)] : List (Str × D)).lookup ("many_told" : Str)).map W.d) else none) = _
  rw [if_pos rfl]
  simp [List.lookup, k]
theorem Shop.ins (h : Shop s n i j hs gs) (x : Str) (hx : x ≠ "times_kept" ∧ x ≠ "gone" := by decide +kernel) : insOf "Workshop" x (.r n) s = true := by
  show (match s[n]? with | some (.ins c' l) => decide (c' = "Workshop") && (l.lookup x).isNone | _ => false) = true
  rw [h.a]
  have k1 : (x == ("times_kept" : Str)) = false := by simpa using hx.1
  have k2 : (x == ("gone" : Str)) = false := by simpa using hx.2
  show (decide (("Workshop" : Str) = "Workshop") && (([("times_kept", W.r i), ("gone", .r j)] : List (Str × W)).lookup x).isNone) = true
  rw [decide_eq_true rfl]
  simp [List.lookup, k1, k2]
theorem facts_eq (h : Shop s n i j (hs ++ [holdD F m]) gs) (hF : Srt F) (hl : F.length ≤ 16777216) : f_Workshop_facts [.r n] s = .ok (.own (wD (F.map pF))) s := by
  have f1 := h.f1
  have f2 := h.f2
  have so := sort_fz hF
  have f3 := hold_f3 F m
  rw [f_Workshop_facts, runF_eq]
  generalize holdD F m = hd at *
  simp [b_Workshop_facts, f1, f2, f3, so, -fIx_eq, hl, wipeR, -rng1_eq]
  have e1 : wD (F.map fun p => D.int p.1) = F.map fun p => W.d (.int p.1) := by unfold wD; rw [List.map_map]; rfl
  rw [e1, lcM_fn' (v := pF)]
  rotate_left
  · intro p hp
    have g : ∀ s, fIx (.d (.dic (fz F))) (.d (.int p.1)) s = .ok (.d p.2.d) s := fun s => by
      show (match getK (wK (fz F)) (.inl p.1) with | some w => Res.ok w s | none => .no) = _
      rw [get_fz, look_mem hF p hp]
      rfl
    exact ⟨_, rfl, by simp [g, pF, -fIx_eq, wipeR]⟩
  generalize F.map pF = L at *
  simp
end
end TG

set_option linter.all false
set_option maxRecDepth 100000
namespace TG
open PySem L2
section
variable {s : S} {n i j : Nat} {hs gs : List D} {F : FaL} {m : Int}
theorem in_fz (F : FaL) (k : Int) (s : S) : fIn true (.d (.int k)) (.d (.dic (fz F))) s = .ok (.d (.bl (lookF F k).isNone)) s := by
  have q : fIn true (.d (.int k)) (.d (.dic (fz F))) s = .ok (.d (.bl (!(getK (wK (fz F)) (.inl k)).isSome))) s := rfl
  rw [q, get_fz]
  cases lookF F k <;> rfl
theorem ix_fz (F : FaL) (k : Int) (f : Fa) (s : S) (h : lookF F k = some f) : fIx (.d (.dic (fz F))) (.d (.int k)) s = .ok (.d f.d) s := by
  show (match getK (wK (fz F)) (.inl k) with | some w => Res.ok w s | none => .no) = _
  rw [get_fz, h]
  rfl
theorem factOf_eq (h : Shop s n i j (hs ++ [holdD F m]) gs) (k : Int) : f_Workshop_fact_of [.r n, .d (.int k)] s = (match lookF F k with | some f => .ok (.w (.d f.d)) s | none => .exc "NoFact" (some (.int k)) s) := by
  have f1 := h.f1
  have f2 := h.f2
  have f3 := hold_f3 F m
  have f5 := in_fz F k s
  have f6 := ix_fz F k
  rw [f_Workshop_fact_of, runF_eq]
  generalize holdD F m = hd at *
  cases e : lookF F k with
  | none =>
    rw [e] at f5
    simp [b_Workshop_fact_of, f1, f2, f3, f5, -fIx_eq]
  | some f =>
    have f6 := f6 f s e
    rw [e] at f5
    simp [b_Workshop_fact_of, f1, f2, f3, f5, f6, -fIx_eq]
noncomputable def holdG (G : List (Key × D)) (m : Int) : D := .ins "Hold" [("there", .dic G), ("many_told", .int m)]
theorem holdInit_eq (G : List (Key × D)) (m : Int) (s : S) : f_Hold_init [.r s.length, .d (.dic G), .d (.int m)] (s ++ [.ins "Hold" []]) = .ok (.w (.d .non)) (s ++ [.ins "Hold" [("there", .d (.dic G)), ("many_told", .d (.int m))]]) := by
  have e1 : setF "Hold" "there" (.r s.length) (.d (.dic G)) (s ++ [.ins "Hold" []]) = some (s ++ [.ins "Hold" [("there", .d (.dic G))]]) := by
    simp [setF, putW]
  have e2 : setF "Hold" "many_told" (.r s.length) (.d (.int m)) (s ++ [.ins "Hold" [("there", .d (.dic G))]]) = some (s ++ [.ins "Hold" [("there", .d (.dic G)), ("many_told", .d (.int m))]]) := by
    simp [setF, putW]
    decide
  rw [f_Hold_init, runF_eq]
  simp [b_Hold_init, e1, e2]
theorem hold_made (G : List (Key × D)) (m : Int) (s : S) : madeD "Hold" s (f_Hold_init [.r s.length, .d (.dic G), .d (.int m)] (s ++ [.ins "Hold" []])) = .ok (.d (holdG G m)) s := by
  rw [holdInit_eq]
  simp [madeD, allDataF, holdG]
noncomputable def upS (s : S) (n i : Nat) (hs : List D) : S := ((s.set i (Cell.lst (wD hs))) ++ [Cell.lst []]).set n (Cell.ins "Workshop" [("times_kept", .r i), ("gone", .r s.length)])
theorem Shop.lt (h : Shop s n i j hs gs) : n < s.length ∧ i < s.length ∧ j < s.length := ⟨(List.getElem?_eq_some_iff.mp h.a).1, (List.getElem?_eq_some_iff.mp h.b).1, (List.getElem?_eq_some_iff.mp h.c).1⟩
theorem Shop.ne (h : Shop s n i j hs gs) : i ≠ n ∧ j ≠ n := by
  refine ⟨fun z => ?_, fun z => ?_⟩
  · have := h.b; rw [z, h.a] at this; cases this
  · have := h.c; rw [z, h.a] at this; cases this
theorem up_other (s : S) (n i k : Nat) (hs : List D) (h1 : k ≠ n) (h2 : k ≠ i) (h3 : k < s.length) : (upS s n i hs)[k]? = s[k]? := by
  unfold upS
  rw [List.getElem?_set_ne h1.symm, List.getElem?_append_left (by simpa using h3), List.getElem?_set_ne h2.symm]
theorem Shop.up (h : Shop s n i j hs gs) (hs' : List D) : Shop (upS s n i hs') n i s.length hs' [] := by
  obtain ⟨l1, l2, l3⟩ := h.lt
  obtain ⟨n1, n2⟩ := h.ne
  refine ⟨?_, ?_, ?_⟩
  · unfold upS
    rw [List.getElem?_set_self (by simp; omega)]
  · unfold upS
    rw [List.getElem?_set_ne n1.symm, List.getElem?_append_left (by simpa using l2), List.getElem?_set_self l2]
  · unfold upS
    rw [List.getElem?_set_ne (by omega), List.getElem?_append_right (by simp)]
    simp [wD]
theorem app_shop (h : Shop s n i j hs gs) (v : D) (hl : hs.length < 16777216) : appC (.r i) (.d v) s = some (s.set i (Cell.lst (wD (hs ++ [v])))) := by
  show (match s[i]? with | some (.lst l) => if l.length < 16777216 then some (s.set i (Cell.lst (l ++ [W.d v]))) else none | _ => none) = _
  rw [h.b]
  show (if (wD hs).length < 16777216 then some (s.set i (Cell.lst (wD hs ++ [W.d v]))) else none) = _
  have e : (wD hs).length = hs.length := by unfold wD; simp
  have e2 : wD (hs ++ [v]) = wD hs ++ [W.d v] := by unfold wD; simp
  rw [if_pos (by rw [e]; exact hl), e2]
theorem isCL_shop (h : Shop s n i j hs gs) : isCL (.r i) s = true := by
  show (match s[i]? with | some (.lst _) => true | _ => false) = true
  rw [h.b]
theorem goOn_eq (h : Shop s n i j hs gs) (G : List (Key × D)) (m : Int) (hl : hs.length < 16777216) : f_Workshop_go_on [.r n, .d (.dic G), .d (.int m)] s = .ok (.w (.d .non)) (upS s n i (hs ++ [holdG G m])) := by
  obtain ⟨l1, l2, l3⟩ := h.lt
  obtain ⟨n1, n2⟩ := h.ne
  have f1 := h.f1
  have mk := hold_made G m s
  have ap := app_shop h (holdG G m) hl
  have ic := isCL_shop h
  have sf : setF "Workshop" "gone" (.r n) (.r (s.set i (Cell.lst (wD (hs ++ [holdG G m])))).length) (s.set i (Cell.lst (wD (hs ++ [holdG G m]))) ++ [Cell.lst []]) = some (upS s n i (hs ++ [holdG G m])) := by
    have e : (s.set i (Cell.lst (wD (hs ++ [holdG G m]))) ++ [Cell.lst []])[n]? = some (.ins "Workshop" [("times_kept", .r i), ("gone", .r j)]) := by
      rw [List.getElem?_append_left (by simpa using l1), List.getElem?_set_ne n1]
      exact h.a
    show (match (s.set i (Cell.lst (wD (hs ++ [holdG G m]))) ++ [Cell.lst []])[n]? with
      | some (.ins c' l) => if c' = "Workshop" ∧ l.length < 1000 then some ((s.set i (Cell.lst (wD (hs ++ [holdG G m]))) ++ [Cell.lst []]).set n (Cell.ins "Workshop" (putW "gone" (.r (s.set i (Cell.lst (wD (hs ++ [holdG G m])))).length) l))) else none
      | _ => none) = _
    rw [e]
    show (if ("Workshop" : Str) = "Workshop" ∧ 2 < 1000 then _ else none) = _
    rw [if_pos ⟨rfl, by decide⟩]
    unfold upS
    rw [List.length_set]
    rfl
  rw [f_Workshop_go_on, runF_eq]
  generalize holdG G m = v at *
  generalize upS s n i (hs ++ [v]) = s2 at *
  generalize s.set i (Cell.lst (wD (hs ++ [v]))) = s1 at *
  simp [b_Workshop_go_on, f1, mk, ap, ic, sf]
end
end TG

set_option linter.all false
set_option maxRecDepth 100000
namespace TG
open PySem L2
theorem data_wK : ∀ X : List (Key × D), allDataK (wK X) = some X
  | [] => rfl
  | p :: X => by
    have := data_wK X
    unfold wK at this ⊢
    rw [List.map_cons, allDataK, this]
    rfl
theorem kFrzD_wK (i : Nat) (b : Stm) (X : List (Key × D)) (ρ : Rho) (s : S) : kFrzD i b (wK X) ρ s = b (ρ.set i (.w (.d (.dic X)))) s := by
  unfold kFrzD
  rw [data_wK]
theorem kDictO_fz (F : FaL) (s : S) : kDictO [.d (.dic (fz F))] s = .ok (wK (fz F)) s := rfl
noncomputable def replF (F : FaL) (k : Int) (f : Fa) : FaL := F.map fun p => if p.1 = k then (p.1, f) else p
noncomputable def dropF (F : FaL) (k : Int) : FaL := F.filter fun p => decide (p.1 ≠ k)
theorem any_fz (F : FaL) (k : Int) : ((wK (fz F)).any fun kv => decide (kv.1 = (.inl k : Key))) = (lookF F k).isSome := by
  induction F with
  | nil => rfl
  | cons p F ih =>
    unfold lookF at ih ⊢
    have e : wK (fz (p :: F)) = (.inl p.1, W.d p.2.d) :: wK (fz F) := rfl
    rw [e, List.any_cons, List.find?_cons, ih]
    by_cases h : p.1 = k
    · subst h; simp
    · have h2 : ¬ ((.inl p.1 : Key) = .inl k) := fun z => h (by cases z; rfl)
      rw [decide_eq_false h, decide_eq_false h2]
      rfl
theorem put_new (F : FaL) (k : Int) (f : Fa) (h : lookF F k = none) : putDW (wK (fz F)) (.inl k) (.d f.d) = wK (fz (F ++ [(k, f)])) := by
  unfold putDW
  rw [any_fz, h, if_neg (by simp)]
  unfold wK fz
  rw [List.map_append, List.map_append]
  rfl
theorem put_old (F : FaL) (k : Int) (f : Fa) (h : (lookF F k).isSome = true) : putDW (wK (fz F)) (.inl k) (.d f.d) = wK (fz (replF F k f)) := by
  unfold putDW
  rw [any_fz, h, if_pos rfl]
  unfold wK fz replF
  rw [List.map_map, List.map_map, List.map_map, List.map_map]
  refine List.map_congr_left fun p _ => ?_
  show (if (.inl p.1 : Key) = .inl k then ((.inl p.1 : Key), W.d f.d) else (.inl p.1, W.d p.2.d)) = _
  by_cases c : p.1 = k
  · rw [if_pos (by rw [c])]; simp [c]
  · rw [if_neg (fun z => c (by cases z; rfl))]; simp [c]
theorem drop_fz (F : FaL) (k : Int) : dropDW (wK (fz F)) (.inl k) = wK (fz (dropF F k)) := by
  unfold dropDW wK fz dropF
  rw [List.filter_map, List.filter_map]
  congr 2
  refine List.filter_congr fun p _ => ?_
  show decide ((.inl p.1 : Key) ≠ .inl k) = decide (p.1 ≠ k)
  rw [decide_eq_decide]
  exact ⟨fun h z => h (by rw [z]), fun h z => h (by cases z; rfl)⟩
theorem val_fz (F : FaL) (k : Int) : valDW (wK (fz F)) (.inl k) = (lookF F k).map fun f => W.d f.d := by
  induction F with
  | nil => rfl
  | cons p F ih =>
    unfold valDW lookF at *
    have e : wK (fz (p :: F)) = (.inl p.1, W.d p.2.d) :: wK (fz F) := rfl
    rw [e, List.find?_cons, List.find?_cons]
    by_cases h : p.1 = k
    · subst h; simp
    · have h2 : ¬ ((.inl p.1 : Key) = .inl k) := fun z => h (by cases z; rfl)
      rw [decide_eq_false h, decide_eq_false h2]
      exact ih
theorem len_wK (F : FaL) : (wK (fz F)).length = F.length := by unfold wK fz; rw [List.length_map, List.length_map]
theorem holdG_D (F : FaL) (m : Int) : holdG (fz F) m = holdD F m := rfl
section
variable {s : S} {n i j : Nat} {hs gs : List D} {F : FaL} {m : Int}
theorem tell_eq (h : Shop s n i j (hs ++ [holdD F m]) gs) (f : Fa) (hn : ∀ s, f_need_fact [.d f.d] s = .ok (.w (.d .non)) s) (hm : m < 100) (hk : lookF F (m + 1) = none) (hl : hs.length < 16777215) (hF : F.length < 16777216) :
    f_Workshop_tell [.r n, .d f.d] s = .ok (.w (.d (.int (m + 1)))) (upS s n i (hs ++ [holdD F m] ++ [holdD (F ++ [(m + 1, f)]) (m + 1)])) := by
  have f1 := h.f1
  have f2 := h.f2
  have f3 := hold_f3 F m
  have f4 := hold_f4 F m
  have go := goOn_eq h (fz (F ++ [(m + 1, f)])) (m + 1) (by simp; omega)
  have pn := put_new F (m + 1) f hk
  have ins := h.ins "go_on"
  have fr := fun b ρ s => kFrzD_wK 3 b (fz (F ++ [(m + 1, f)])) ρ s
  have hm' : ¬ 100 ≤ m := by omega
  have hF2 : (wK (fz F)).length < 16777216 := by rw [len_wK]; exact hF
  have pn : putDW (wK (fz F)) (keyI (m + 1)) (.d f.d) = wK (fz (F ++ [(m + 1, f)])) := pn
  have d0 := kDictO_fz F
  rw [holdG_D] at go
  rw [f_Workshop_tell, runF_eq]
  generalize holdD F m = hd at *
  generalize holdD (F ++ [(m + 1, f)]) (m + 1) = hd2 at *
  generalize fz (F ++ [(m + 1, f)]) = z2 at *
  simp [b_Workshop_tell, hn, f1, f2, f3, f4, hm', d0, hF2, pn, fr, ins, go, -fIx_eq]
  done
theorem fix0 (f : Fa) (s : S) : fIx (.d f.d) (.d (.int 0)) s = .ok (.d (.str f.word)) s := by unfold Fa.d; simp
theorem fword_ok (f : Fa) : SOk (tl f.word) := by
  have h : ∀ x : Str, PyData.strOk x = true → SOk (tl x) := fun x h => lit_ok h
  cases f
  · exact h "blank" (by decide +kernel)
  · exact h "cut" (by decide +kernel)
  · exact h "mount" (by decide +kernel)
  · exact h "foot" (by decide +kernel)
  · exact h "lever" (by decide +kernel)
theorem word_eq (neg : Bool) (f g : Fa) (s : S) : fEq neg (.d (.str f.word)) (.d (.str g.word)) s = .ok (.d (.bl (if neg then !decide (f.word = g.word) else decide (f.word = g.word)))) s := by
  rw [fEq_str neg s (fword_ok f) (fword_ok g)]
  have : (tl f.word = tl g.word) = (f.word = g.word) := propext eq_tl.symm
  simp only [this]
theorem right_eq (h : Shop s n i j (hs ++ [holdD F m]) gs) (k : Int) (f f0 : Fa) (hk : lookF F k = some f0) (hn : ∀ s, f_need_fact [.d f.d] s = .ok (.w (.d .non)) s) (hw : f.word = f0.word) (hl : hs.length < 16777215) (hF : F.length < 16777216) :
    f_Workshop_right [.r n, .d (.int k), .d f.d] s = .ok (.w (.d f0.d)) (upS s n i (hs ++ [holdD F m] ++ [holdD (replF F k f) m])) := by
  have fo := factOf_eq h k
  rw [hk] at fo
  have ins0 := h.ins "fact_of"
  have ins := h.ins "go_on"
  have we := word_eq true f f0
  simp [hw] at we
  have f1 := h.f1
  have f2 := h.f2
  have f3 := hold_f3 F m
  have f4 := hold_f4 F m
  have go := goOn_eq h (fz (replF F k f)) m (by simp; omega)
  have pn := put_old F k f (by rw [hk]; rfl)
  have fr := fun b ρ s => kFrzD_wK 5 b (fz (replF F k f)) ρ s
  have hF2 : (wK (fz F)).length < 16777216 := by rw [len_wK]; exact hF
  have pn : putDW (wK (fz F)) (keyI k) (.d f.d) = wK (fz (replF F k f)) := pn
  have d0 := kDictO_fz F
  rw [holdG_D] at go
  rw [f_Workshop_right, runF_eq]
  generalize holdD F m = hd at *
  generalize holdD (replF F k f) m = hd2 at *
  generalize fz (replF F k f) = z2 at *
  have xf : ∀ s, fIx (.d f.d) (.d (.int 0)) s = .ok (.d (.str f0.word)) s := fun s => by rw [fix0, hw]
  simp [b_Workshop_right, fo, ins0, hn, fix0, xf, we, f1, f2, f3, f4, d0, hF2, pn, fr, ins, go, -fIx_eq]
theorem strike_eq (h : Shop s n i j (hs ++ [holdD F m]) gs) (k : Int) (f0 : Fa) (hk : lookF F k = some f0) (hl : hs.length < 16777215) :
    f_Workshop_strike [.r n, .d (.int k)] s = .ok (.w (.d f0.d)) (upS s n i (hs ++ [holdD F m] ++ [holdD (dropF F k) m])) := by
  have fo := factOf_eq h k
  rw [hk] at fo
  have ins0 := h.ins "fact_of"
  have ins := h.ins "go_on"
  have f1 := h.f1
  have f2 := h.f2
  have f3 := hold_f3 F m
  have f4 := hold_f4 F m
  have go := goOn_eq h (fz (dropF F k)) m (by simp; omega)
  have fr := fun b ρ s => kFrzD_wK 4 b (fz (dropF F k)) ρ s
  have pk : ∀ ρ s, kPopKO 4 (wK (fz F)) (.d (.int k)) ρ s = .nx (ρ.set 4 (.ownD (wK (fz (dropF F k))))) s := fun ρ s => by
    show (if (valDW (wK (fz F)) (.inl k)).isSome = true then RS.nx (ρ.set 4 (.ownD (dropDW (wK (fz F)) (.inl k)))) s else .no) = _
    rw [val_fz, hk, drop_fz]
    rfl
  have d0 := kDictO_fz F
  rw [holdG_D] at go
  rw [f_Workshop_strike, runF_eq]
  generalize holdD F m = hd at *
  generalize holdD (dropF F k) m = hd2 at *
  generalize fz (dropF F k) = z2 at *
  simp [b_Workshop_strike, fo, ins0, f1, f2, f3, f4, d0, pk, fr, ins, go, -fIx_eq]
end
end TG

set_option linter.all false
set_option maxRecDepth 100000
namespace TG
open PySem L2
noncomputable def GoodFa (F : FaL) : Prop := ∀ p ∈ F, p.2.ok = true ∧ p.2.sz
section
variable {s : S} {n i j : Nat} {hs gs : List D} {F : FaL} {m : Int}
end
end TG

set_option linter.all false
set_option maxRecDepth 100000
namespace TG
open PySem L2
structure Mod (s : S) (p q : Nat) (F : FaL) (m : Int) : Prop where
  a : s[p]? = some (.dic (wK (fz F)))
  b : s[q]? = some (.dic [(.inr "facts", .r p), (.inr "told", .d (.int m))])
theorem asDic_r {s : S} {n : Nat} {l : List (Key × W)} (h : s[n]? = some (.dic l)) : asDic (.r n) s = some l := by
  show (match s[n]? with | some (.dic l) => some l | _ => none) = _
  rw [h]
theorem asSeq_rd {s : S} {n : Nat} {l : List (Key × W)} (h : s[n]? = some (.dic l)) : asSeq (.r n) s = none := by
  show (match asTup (.r n) with | some l => some (wD l) | none => match asLst (.r n) s with | some l => some l | none => tupC (.r n) s) = _
  show (match (match s[n]? with | some (.lst l) => some l | _ => none) with | some l => some l | none => (match s[n]? with | some (.tup l) => some l | _ => none)) = _
  rw [h]
theorem fIx_rd {s : S} {n : Nat} {l : List (Key × W)} (h : s[n]? = some (.dic l)) (d : D) (k : Key) (hk : keyD d = some k) (w : W) (hw : getK l k = some w) : fIx (.r n) (.d d) s = .ok w s := by
  rw [fIx_eq, asSeq_rd h, asDic_r h]
  show (match keyD d with | some k => (match getK l k with | some w => Res.ok w s | none => .no) | none => .no) = _
  rw [hk]
  show (match getK l k with | some w => Res.ok w s | none => .no) = _
  rw [hw]
theorem told_ne : ¬ ((.inr "facts" : Key) = .inr "told") := fun z => by
  have : ("facts" : Str) = "told" := by cases z
  exact absurd this (by decide +kernel)
section
variable {s : S} {p q : Nat} {F : FaL} {m : Int}
theorem Mod.xf (h : Mod s p q F m) : fIx (.r q) (.d (.str "facts")) s = .ok (.r p) s := fIx_rd h.b _ _ rfl _ (by simp [getK])
theorem Mod.xt (h : Mod s p q F m) : fIx (.r q) (.d (.str "told")) s = .ok (.d (.int m)) s := fIx_rd h.b _ _ rfl _ (by show (if (.inr "facts" : Key) = .inr "told" then some (W.r p) else if (.inr "told" : Key) = .inr "told" then some (W.d (.int m)) else none) = _; rw [if_neg told_ne, if_pos rfl])
theorem Mod.get (h : Mod s p q F m) (k : Int) (f : Fa) (hk : lookF F k = some f) : fIx (.r p) (.d (.int k)) s = .ok (.d f.d) s := fIx_rd h.a _ _ rfl _ (by rw [get_fz, hk]; rfl)
end
end TG

set_option linter.all false
set_option maxRecDepth 100000
namespace TG
open PySem L2
section
variable {s : S} {p q : Nat} {F : FaL} {m : Int}
end
end TG

set_option linter.all false
set_option maxRecDepth 100000
namespace TG
open PySem L2
theorem fa_plain {f : Fa} (h : f.ok = true) : f.d.plain = true ∧ f.d.slim = true ∧ f.d.dep ≤ 6 := by
  cases f with
  | blank c r =>
    simp [Fa.ok] at h
    have p0 : (D.str "blank").plain = true := by decide +kernel
    refine ⟨?_, ?_, ?_⟩
    · simp [Fa.d, Fa.word, Fa.num, Fa.rest, D.plains, p0]
    · simp [Fa.d, Fa.word, Fa.num, Fa.rest, D.slim, D.slims]
      exact ⟨by omega, slims_iff.mpr (by simp [D.slim])⟩
    · simp [Fa.d, Fa.word, Fa.num, Fa.rest, D.dep, D.deps, deps_ints]
  | cut c k x =>
    have p0 : (D.str "cut").plain = true := by decide +kernel
    exact ⟨by simp [Fa.d, Fa.word, Fa.num, Fa.rest, D.plains, p0], by simp [Fa.d, Fa.word, Fa.num, Fa.rest, D.slim, D.slims], by simp [Fa.d, Fa.word, Fa.num, Fa.rest, D.dep, D.deps]⟩
  | mount c t m a =>
    have p0 : (D.str "mount").plain = true := by decide +kernel
    exact ⟨by simp [Fa.d, Fa.word, Fa.num, Fa.rest, D.plains, p0], by simp [Fa.d, Fa.word, Fa.num, Fa.rest, D.slim, D.slims], by simp [Fa.d, Fa.word, Fa.num, Fa.rest, D.dep, D.deps]⟩
  | foot f c l m =>
    simp [Fa.ok] at h
    have p0 : (D.str "foot").plain = true := by decide +kernel
    refine ⟨?_, ?_, ?_⟩
    · simp [Fa.d, Fa.word, Fa.num, Fa.rest, D.plains, p0]
    · simp [Fa.d, Fa.word, Fa.num, Fa.rest, D.slim, D.slims]
      exact ⟨by omega, slims_iff.mpr (by simp [D.slim])⟩
    · simp [Fa.d, Fa.word, Fa.num, Fa.rest, D.dep, D.deps, deps_ints]
  | lever n t =>
    simp [Fa.ok] at h
    have p0 : (D.str "lever").plain = true := by decide +kernel
    obtain ⟨h1, h2, h3⟩ := okP (good_ok5 h.2)
    exact ⟨by simp [Fa.d, Fa.word, Fa.num, Fa.rest, D.plains, p0, h1], by simp [Fa.d, Fa.word, Fa.num, Fa.rest, D.slim, D.slims, h2], by simp [Fa.d, Fa.word, Fa.num, Fa.rest, D.dep, D.deps]; omega⟩
section
variable {s : S} {n i j p q : Nat} {hs gs : List D} {F : FaL} {m : Int}
end
end TG

set_option linter.all false
set_option maxRecDepth 100000
namespace TG
open PySem L2
inductive De where
  | tell (d : D) | strike (k : Int) | right (k : Int) (d : D)
noncomputable def De.d : De → D
  | .tell d => .tup [.str "tell", d] | .strike k => .tup [.str "strike", .int k] | .right k d => .tup [.str "right", .int k, d]
inductive Due (F : FaL) (m : Int) : De → List D → FaL → Int → Prop
  | tellBad {d : D} (h : (∀ s, f_v_law_fact_ok [.d d] s = .ok (.w (.d (.bl false))) s) ∧ ∀ s, f_need_fact [.d d] s = .exc "BadFact" none s) : Due F m (.tell d) [.str "BadFact", .non] F m
  | tell {f : Fa} (h : f.ok = true ∧ f.sz) (hm : m < 100) : Due F m (.tell f.d) [.str "", .int (m + 1)] (F ++ [(m + 1, f)]) (m + 1)
  | strikeNo {k : Int} (h : lookF F k = none) : Due F m (.strike k) [.str "NoFact", .int k] F m
  | strike {k : Int} {f : Fa} (h : lookF F k = some f) : Due F m (.strike k) [.str "", f.d] (dropF F k) m
  | rightNo {k : Int} {d : D} (h : lookF F k = none) : Due F m (.right k d) [.str "NoFact", .int k] F m
  | rightBad {k : Int} {d : D} {f : Fa} (h0 : lookF F k = some f) (h : (∀ s, f_v_law_fact_ok [.d d] s = .ok (.w (.d (.bl false))) s) ∧ ∀ s, f_need_fact [.d d] s = .exc "BadFact" none s) : Due F m (.right k d) [.str "BadFact", .non] F m
  | rightOther {k : Int} {f f0 : Fa} (h0 : lookF F k = some f0) (h : f.ok = true ∧ f.sz) (hw : f.word ≠ f0.word) : Due F m (.right k f.d) [.str "Other", .non] F m
  | right {k : Int} {f f0 : Fa} (h0 : lookF F k = some f0) (h : f.ok = true ∧ f.sz) (hw : f.word = f0.word) : Due F m (.right k f.d) [.str "", f0.d] (replF F k f) m
structure Fit (F : FaL) (m : Int) : Prop where
  srt : Srt F
  good : GoodFa F
  rng : ∀ p ∈ F, 1 ≤ p.1 ∧ p.1 ≤ m
  len : (F.length : Int) ≤ m
  m0 : 0 ≤ m
theorem Fit.new {F : FaL} {m : Int} (h : Fit F m) : lookF F (m + 1) = none := by
  cases e : lookF F (m + 1) with
  | none => rfl
  | some f => have := (h.rng _ (look_some e)).2; have e2 : ((m + 1, f) : Int × Fa).1 = m + 1 := rfl; omega
theorem drop_srt {F : FaL} (h : Srt F) (k : Int) : Srt (dropF F k) := by
  unfold Srt dropF at *
  exact h.sublist (List.filter_sublist.map _)
theorem replF_keys (F : FaL) (k : Int) (f : Fa) : (replF F k f).map (fun p => p.1) = F.map fun p => p.1 := by
  unfold replF
  rw [List.map_map]
  refine List.map_congr_left fun p _ => ?_
  show (if p.1 = k then (p.1, f) else p).1 = p.1
  split <;> rfl
theorem Due.fit {F F' : FaL} {m m' : Int} {e : De} {du : List D} (h : Due F m e du F' m') (fit : Fit F m) : Fit F' m' ∧ m' ≤ m + 1 := by
  cases h with
  | tell h hm =>
    refine ⟨⟨?_, ?_, ?_, ?_, by have := fit.m0; omega⟩, by omega⟩
    · unfold Srt
      rw [List.map_append, List.pairwise_append]
      refine ⟨fit.srt, by simp, fun a ha b hb => ?_⟩
      obtain ⟨p, hp, rfl⟩ := List.mem_map.mp ha
      have := (fit.rng p hp).2
      simp at hb
      omega
    · intro p hp
      rcases List.mem_append.mp hp with hp | hp
      · exact fit.good p hp
      · rw [List.mem_singleton.mp hp]; exact h
    · intro p hp
      rcases List.mem_append.mp hp with hp | hp
      · have := fit.rng p hp; omega
      · rw [List.mem_singleton.mp hp]; have := fit.m0; show 1 ≤ m + 1 ∧ m + 1 ≤ m + 1; omega
    · have := fit.len; simp; omega
  | strike h =>
    refine ⟨⟨drop_srt fit.srt _, fun p hp => fit.good p (List.mem_filter.mp hp).1, fun p hp => fit.rng p (List.mem_filter.mp hp).1, ?_, fit.m0⟩, by omega⟩
    have h2 := fit.len
    unfold dropF
    exact Int.le_trans (Int.ofNat_le.mpr (List.length_filter_le _ _)) h2
  | right h0 h hw =>
    refine ⟨⟨?_, ?_, ?_, ?_, fit.m0⟩, by omega⟩
    · unfold Srt; rw [replF_keys]; exact fit.srt
    · intro p hp
      obtain ⟨x, hx, rfl⟩ := List.mem_map.mp hp
      split
      · exact h
      · exact fit.good x hx
    · intro p hp
      obtain ⟨x, hx, rfl⟩ := List.mem_map.mp hp
      split
      · exact fit.rng x hx
      · exact fit.rng x hx
    · have := fit.len; unfold replF; rw [List.length_map]; exact this
  | tellBad h => exact ⟨fit, by omega⟩
  | strikeNo h => exact ⟨fit, by omega⟩
  | rightNo h => exact ⟨fit, by omega⟩
  | rightBad h0 h => exact ⟨fit, by omega⟩
  | rightOther h0 h hw => exact ⟨fit, by omega⟩
theorem setD_r {s : S} {n : Nat} {l : List (Key × W)} (h : s[n]? = some (.dic l)) (d : D) (k : Key) (hk : keyD d = some k) (v : W) (hl : l.length < 16777216) : setD (.r n) (.d d) v s = some (s.set n (.dic (putDW l k v))) := by
  unfold setD
  show (match (W.r n), keyD d with
    | .r n, some k => (match s[n]? with | some (.dic l) => if l.length < 16777216 then some (s.set n (.dic (putDW l k v))) else none | _ => none)
    | _, _ => none) = _
  rw [hk]
  show (match s[n]? with | some (.dic l) => if l.length < 16777216 then some (s.set n (.dic (putDW l k v))) else none | _ => none) = _
  rw [h]
  exact if_pos hl
section
variable {s : S} {p q : Nat} {F : FaL} {m : Int}
theorem Mod.ne (h : Mod s p q F m) (h2 : p ≠ q) : True := trivial
theorem Mod.lt (h : Mod s p q F m) : p < s.length ∧ q < s.length := ⟨(List.getElem?_eq_some_iff.mp h.a).1, (List.getElem?_eq_some_iff.mp h.b).1⟩
noncomputable def mdS (s : S) (p q : Nat) (F : FaL) (m : Int) : S := (s.set q (Cell.dic [(.inr "facts", .r p), (.inr "told", .d (.int m))])).set p (Cell.dic (wK (fz F)))
theorem mdS_other (s : S) (p q k : Nat) (F : FaL) (m : Int) (h1 : k ≠ p) (h2 : k ≠ q) : (mdS s p q F m)[k]? = s[k]? := by
  unfold mdS
  rw [List.getElem?_set_ne h1.symm, List.getElem?_set_ne h2.symm]
theorem Mod.md (h : Mod s p q F m) (hpq : p ≠ q) (F' : FaL) (m' : Int) : Mod (mdS s p q F' m') p q F' m' := by
  obtain ⟨l1, l2⟩ := h.lt
  refine ⟨?_, ?_⟩
  · unfold mdS; rw [List.getElem?_set_self (by simpa using l1)]
  · unfold mdS; rw [List.getElem?_set_ne hpq, List.getElem?_set_self l2]
theorem Mod.same (h : Mod s p q F m) (F' : FaL) : mdS s p q F' m = s.set p (Cell.dic (wK (fz F'))) := by
  unfold mdS
  have : s.set q (Cell.dic [(.inr "facts", .r p), (.inr "told", .d (.int m))]) = s := by
    refine List.ext_getElem? fun i => ?_
    by_cases c : q = i
    · subst c
      rw [List.getElem?_set_self h.lt.2, h.b]
    · rw [List.getElem?_set_ne c]
  rw [this]
theorem Mod.self (h : Mod s p q F m) : mdS s p q F m = s := by
  rw [h.same]
  refine List.ext_getElem? fun i => ?_
  by_cases c : p = i
  · subst c
    rw [List.getElem?_set_self h.lt.1, h.a]
  · rw [List.getElem?_set_ne c]
theorem in_r (h : Mod s p q F m) (k : Int) : fIn true (.d (.int k)) (.r p) s = .ok (.d (.bl (lookF F k).isNone)) s := by
  have a1 := asSeq_rd h.a
  have a2 := asDic_r h.a
  show (match asSeq (.r p) s with
    | some l => (match allData l with
      | some ds => if flatD (.int k) = true ∧ ds.all flatD = true then Res.ok (W.d (.bl (if true then !inD (.int k) ds else inD (.int k) ds))) s else .no
      | none => .no)
    | none => match asDic (.r p) s with
      | some kvs => (match keyD (.int k) with | some k => Res.ok (W.d (.bl (if true then !(getK kvs k).isSome else (getK kvs k).isSome))) s | none => .no)
      | none => .no) = _
  rw [a1, a2]
  show Res.ok (W.d (.bl (!(getK (wK (fz F)) (.inl k)).isSome))) s = _
  rw [get_fz]
  cases lookF F k <;> rfl
end
end TG

set_option linter.all false
set_option maxRecDepth 100000
namespace TG
open PySem L2
theorem ext_md {s s' : S} {p q : Nat} {F : FaL} {m : Int} (h1 : p < s.length) (h2 : q < s.length) (hpq : p ≠ q) (hp : s'[p]? = some (Cell.dic (wK (fz F)))) (hq : s'[q]? = some (Cell.dic [(.inr "facts", .r p), (.inr "told", .d (.int m))])) (ho : ∀ k, k ≠ p → k ≠ q → s'[k]? = s[k]?) : s' = mdS s p q F m := by
  refine List.ext_getElem? fun k => ?_
  by_cases c1 : k = p
  · subst c1
    unfold mdS
    rw [List.getElem?_set_self (by simpa using h1)]
    exact hp
  · by_cases c2 : k = q
    · subst c2
      unfold mdS
      rw [List.getElem?_set_ne hpq, List.getElem?_set_self h2]
      exact hq
    · rw [ho k c1 c2, mdS_other s p q k F m c1 c2]
section
variable {s : S} {p q : Nat} {F F' : FaL} {m m' : Int}
theorem put_told (p : Nat) (m m' : Int) : putDW [((.inr "facts" : Key), W.r p), (.inr "told", .d (.int m))] (.inr "told") (.d (.int m')) = [((.inr "facts" : Key), W.r p), (.inr "told", .d (.int m'))] := by
  unfold putDW
  have e : ([((.inr "facts" : Key), W.r p), (.inr "told", .d (.int m))].any fun kv => decide (kv.1 = (.inr "told" : Key))) = true := by
    simp
  rw [if_pos e]
  show [(if (.inr "facts" : Key) = .inr "told" then ((.inr "facts" : Key), W.d (.int m')) else (.inr "facts", W.r p)), (if (.inr "told" : Key) = .inr "told" then ((.inr "told" : Key), W.d (.int m')) else (.inr "told", W.d (.int m)))] = _
  rw [if_neg told_ne, if_pos rfl]
theorem Mod.put_m (h : Mod s p q F m) (hpq : p ≠ q) (m' : Int) : setD (.r q) (.d (.str "told")) (.d (.int m')) s = some (mdS s p q F m') := by
  rw [setD_r h.b _ (.inr "told") rfl _ (by show 2 < 16777216; decide), put_told]
  refine congrArg some (ext_md h.lt.1 h.lt.2 hpq ?_ ?_ ?_)
  · rw [List.getElem?_set_ne hpq.symm]; exact h.a
  · rw [List.getElem?_set_self h.lt.2]
  · intro k h1 h2
    rw [List.getElem?_set_ne h2.symm]
theorem md_md (hpq : p ≠ q) (h1 : p < s.length) (h2 : q < s.length) (F' : FaL) (m m' : Int) : mdS (mdS s p q F m) p q F' m' = mdS s p q F' m' := by
  refine ext_md h1 h2 hpq ?_ ?_ ?_
  · unfold mdS; rw [List.getElem?_set_self (by simpa using h1)]
  · unfold mdS; rw [List.getElem?_set_ne hpq, List.getElem?_set_self (by simpa using h2)]
  · intro k k1 k2
    rw [mdS_other _ _ _ _ _ _ k1 k2, mdS_other _ _ _ _ _ _ k1 k2]
theorem Mod.put_f (h : Mod s p q F m) (k : Int) (f : Fa) (hl : F.length < 16777216) (F' : FaL) (hF : putDW (wK (fz F)) (.inl k) (.d f.d) = wK (fz F')) : setD (.r p) (.d (.int k)) (.d f.d) s = some (mdS s p q F' m) := by
  rw [setD_r h.a _ (.inl k) rfl _ (by rw [len_wK]; exact hl), hF, h.same]
theorem Mod.pop (h : Mod s p q F m) (k : Int) (f : Fa) (hk : lookF F k = some f) : popD (.r p) (.d (.int k)) s = some (.d f.d, mdS s p q (dropF F k) m) := by
  unfold popD
  show (match (W.r p), (keyW (.d (.int k))) with
    | .r n, some k => (match s[n]? with | some (.dic l) => (valDW l k).map (fun v => (v, s.set n (.dic (dropDW l k)))) | _ => none)
    | _, _ => none) = _
  show (match s[p]? with | some (.dic l) => (valDW l (.inl k)).map (fun v => (v, s.set p (.dic (dropDW l (.inl k))))) | _ => none) = _
  rw [h.a]
  show (valDW (wK (fz F)) (.inl k)).map (fun v => (v, s.set p (.dic (dropDW (wK (fz F)) (.inl k))))) = _
  rw [val_fz, hk, drop_fz, h.same]
  rfl
theorem isCD_r {s : S} {n : Nat} {l : List (Key × W)} (h : s[n]? = some (.dic l)) : isCD (.r n) s = true := by
  show (match s[n]? with | some (.dic _) => true | _ => false) = true
  rw [h]
theorem done_eq {e : De} {du : List D} (h : Mod s p q F m) (hpq : p ≠ q) (hl : F.length < 16777216) (hn : lookF F (m + 1) = none) (hd : Due F m e du F' m') :
    f_v_law_done [.r q, .d e.d] s = .ok (.own (wD du)) (mdS s p q F' m') := by
  have xf := h.xf
  have xt := h.xt
  have inr := in_r h
  have icd := isCD_r h.a
  cases hd with
  | tellBad hb =>
    obtain ⟨h1, h2⟩ := hb
    rw [f_v_law_done, runF_eq, h.self]
    simp [b_v_law_done, De.d, xf, xt, h1, wD, wipeR, -rng1_eq, -fIx_eq, fIx_tup, dq_tell_tell_t, dq_tell_tell_f, dq_tell_strike_f, dq_tell_right_f, dq_tell_strike_t, dq_tell_right_t, dq_right_tell_t, dq_right_tell_f, dq_right_right_t, dq_right_right_f, dq_right_strike_f, dq_right_strike_t, dq_strike_tell_t, dq_strike_tell_f, dq_strike_strike_t, dq_strike_strike_f, dq_strike_right_f, dq_strike_right_t]
  | @tell f hf hm =>
    have g1 := h.put_m hpq (m + 1)
    have hmd := h.md hpq F (m + 1)
    have hk := put_new F (m + 1) f hn
    have g2 := hmd.put_f (m + 1) f hl _ hk
    rw [md_md hpq h.lt.1 h.lt.2] at g2
    have xt1 := hmd.xt
    have xt2 := (h.md hpq (F ++ [(m + 1, f)]) (m + 1)).xt
    have ok := fok_eq f hf.2
    rw [hf.1] at ok
    have hm' : ¬ 99 < m := by omega
    rw [f_v_law_done, runF_eq]
    simp [b_v_law_done, De.d, xf, xt, ok, hm', g1, g2, xt1, xt2, wD, wipeR, -rng1_eq, -fIx_eq, fIx_tup, dq_tell_tell_t, dq_tell_tell_f, dq_tell_strike_f, dq_tell_right_f, dq_tell_strike_t, dq_tell_right_t, dq_right_tell_t, dq_right_tell_f, dq_right_right_t, dq_right_right_f, dq_right_strike_f, dq_right_strike_t, dq_strike_tell_t, dq_strike_tell_f, dq_strike_strike_t, dq_strike_strike_f, dq_strike_right_f, dq_strike_right_t]
  | @strikeNo k hk =>
    have i1 := inr k
    rw [hk] at i1
    rw [f_v_law_done, runF_eq, h.self]
    simp [b_v_law_done, De.d, xf, xt, i1, wD, wipeR, -rng1_eq, -fIx_eq, fIx_tup, dq_tell_tell_t, dq_tell_tell_f, dq_tell_strike_f, dq_tell_right_f, dq_tell_strike_t, dq_tell_right_t, dq_right_tell_t, dq_right_tell_f, dq_right_right_t, dq_right_right_f, dq_right_strike_f, dq_right_strike_t, dq_strike_tell_t, dq_strike_tell_f, dq_strike_strike_t, dq_strike_strike_f, dq_strike_right_f, dq_strike_right_t]
  | @strike k f hk =>
    have i1 := inr k
    rw [hk] at i1
    have g := h.pop k f hk
    rw [f_v_law_done, runF_eq]
    simp [b_v_law_done, De.d, xf, xt, i1, icd, g, wD, wipeR, -rng1_eq, -fIx_eq, fIx_tup, dq_tell_tell_t, dq_tell_tell_f, dq_tell_strike_f, dq_tell_right_f, dq_tell_strike_t, dq_tell_right_t, dq_right_tell_t, dq_right_tell_f, dq_right_right_t, dq_right_right_f, dq_right_strike_f, dq_right_strike_t, dq_strike_tell_t, dq_strike_tell_f, dq_strike_strike_t, dq_strike_strike_f, dq_strike_right_f, dq_strike_right_t]
  | @rightNo k d hk =>
    have i1 := inr k
    rw [hk] at i1
    rw [f_v_law_done, runF_eq, h.self]
    simp [b_v_law_done, De.d, xf, xt, i1, wD, wipeR, -rng1_eq, -fIx_eq, fIx_tup, dq_tell_tell_t, dq_tell_tell_f, dq_tell_strike_f, dq_tell_right_f, dq_tell_strike_t, dq_tell_right_t, dq_right_tell_t, dq_right_tell_f, dq_right_right_t, dq_right_right_f, dq_right_strike_f, dq_right_strike_t, dq_strike_tell_t, dq_strike_tell_f, dq_strike_strike_t, dq_strike_strike_f, dq_strike_right_f, dq_strike_right_t]
  | @rightBad k d f hk hb =>
    obtain ⟨h1, h2⟩ := hb
    have i1 := inr k
    rw [hk] at i1
    rw [f_v_law_done, runF_eq, h.self]
    simp [b_v_law_done, De.d, xf, xt, i1, h1, wD, wipeR, -rng1_eq, -fIx_eq, fIx_tup, dq_tell_tell_t, dq_tell_tell_f, dq_tell_strike_f, dq_tell_right_f, dq_tell_strike_t, dq_tell_right_t, dq_right_tell_t, dq_right_tell_f, dq_right_right_t, dq_right_right_f, dq_right_strike_f, dq_right_strike_t, dq_strike_tell_t, dq_strike_tell_f, dq_strike_strike_t, dq_strike_strike_f, dq_strike_right_f, dq_strike_right_t]
  | @rightOther k f f0 hk hf hw =>
    have i1 := inr k
    rw [hk] at i1
    have gt := h.get k f0 hk
    have ok := fok_eq f hf.2
    rw [hf.1] at ok
    have we := word_eq true f0 f
    simp [Ne.symm hw] at we
    rw [f_v_law_done, runF_eq, h.self]
    have x0 := fix0
    generalize hg : f.d = fd at *
    generalize hg0 : f0.d = fd0 at *
    have x1 : ∀ s, fIx (.d fd) (.d (.int 0)) s = .ok (.d (.str f.word)) s := fun s => by rw [← hg]; exact x0 f s
    have x2 : ∀ s, fIx (.d fd0) (.d (.int 0)) s = .ok (.d (.str f0.word)) s := fun s => by rw [← hg0]; exact x0 f0 s
    simp [b_v_law_done, De.d, hg, xf, xt, i1, ok, gt, x1, x2, we, wD, wipeR, -rng1_eq, -fIx_eq, fIx_tup, dq_tell_tell_t, dq_tell_tell_f, dq_tell_strike_f, dq_tell_right_f, dq_tell_strike_t, dq_tell_right_t, dq_right_tell_t, dq_right_tell_f, dq_right_right_t, dq_right_right_f, dq_right_strike_f, dq_right_strike_t, dq_strike_tell_t, dq_strike_tell_f, dq_strike_strike_t, dq_strike_strike_f, dq_strike_right_f, dq_strike_right_t]
  | @right k f f0 hk hf hw =>
    have i1 := inr k
    rw [hk] at i1
    have gt := h.get k f0 hk
    have ok := fok_eq f hf.2
    rw [hf.1] at ok
    have we := word_eq true f f
    simp at we
    have g := h.put_f k f hl (replF F k f) (put_old F k f (by rw [hk]; rfl))
    rw [f_v_law_done, runF_eq]
    have x0 := fix0
    generalize hg : f.d = fd at *
    generalize hg0 : f0.d = fd0 at *
    have x1 : ∀ s, fIx (.d fd) (.d (.int 0)) s = .ok (.d (.str f.word)) s := fun s => by rw [← hg]; exact x0 f s
    have x2 : ∀ s, fIx (.d fd0) (.d (.int 0)) s = .ok (.d (.str f.word)) s := fun s => by rw [← hg0, hw]; exact x0 f0 s
    simp [b_v_law_done, De.d, hg, xf, xt, i1, ok, gt, x1, x2, we, g, wD, wipeR, -rng1_eq, -fIx_eq, fIx_tup, dq_tell_tell_t, dq_tell_tell_f, dq_tell_strike_f, dq_tell_right_f, dq_tell_strike_t, dq_tell_right_t, dq_right_tell_t, dq_right_tell_f, dq_right_right_t, dq_right_right_f, dq_right_strike_f, dq_right_strike_t, dq_strike_tell_t, dq_strike_tell_f, dq_strike_strike_t, dq_strike_strike_f, dq_strike_right_f, dq_strike_right_t]
end
end TG

set_option linter.all false
set_option maxRecDepth 100000
namespace TG
open PySem L2
section
variable {s : S} {n i j : Nat} {hs gs : List D} {F F' : FaL} {m m' : Int}
end
end TG

set_option linter.all false
set_option maxRecDepth 100000
namespace TG
open PySem L2
inductive GDe : De → Prop
  | tell (f : Fa) (h : f.ok = true ∧ f.sz) : GDe (.tell f.d)
  | strike (k : Int) : GDe (.strike k)
  | right (k : Int) (f : Fa) (h : f.ok = true ∧ f.sz) : GDe (.right k f.d)
end TG

set_option linter.all false
set_option maxRecDepth 100000
namespace TG
open PySem L2
theorem tail_of {s : S} {c : Cell} (h : s[0]? = some c) : s = c :: s.tail := by
  cases s with
  | nil => cases h
  | cons a s => simp at h; subst h; rfl
section
variable {s : S} {n i j p q : Nat} {hs gs : List D} {F F' : FaL} {m m' : Int}
theorem Shop.bag {b : Bag} {t : S} (h : Shop (b.cell :: t) (n + 1) (i + 1) (j + 1) hs gs) (b' : Bag) : Shop (b'.cell :: t) (n + 1) (i + 1) (j + 1) hs gs := ⟨h.a, h.b, h.c⟩
theorem Mod.bag {b : Bag} {t : S} (h : Mod (b.cell :: t) (p + 1) (q + 1) F m) (b' : Bag) : Mod (b'.cell :: t) (p + 1) (q + 1) F m := ⟨h.a, h.b⟩
theorem Shop.md (h : Shop s n i j hs gs) (F : FaL) (m : Int) (h1 : n ≠ p ∧ n ≠ q) (h2 : i ≠ p ∧ i ≠ q) (h3 : j ≠ p ∧ j ≠ q) : Shop (mdS s p q F m) n i j hs gs := by
  refine ⟨?_, ?_, ?_⟩
  · rw [mdS_other _ _ _ _ _ _ h1.1 h1.2]; exact h.a
  · rw [mdS_other _ _ _ _ _ _ h2.1 h2.2]; exact h.b
  · rw [mdS_other _ _ _ _ _ _ h3.1 h3.2]; exact h.c
end
noncomputable def I24 (L : Nat) (t : S) : Prop := ∃ (j : Nat) (hs gs : List D) (F : FaL) (m : Int), (∀ b : Bag, Shop (b.cell :: t) 1 2 (j + 1) (hs ++ [holdD F m]) gs) ∧ (∀ b : Bag, Mod (b.cell :: t) 4 5 F m) ∧ Fit F m ∧ m ≤ L ∧ hs.length ≤ L ∧ j ≠ 3 ∧ j ≠ 4
end TG

set_option linter.all false
set_option maxRecDepth 100000
namespace TG
open PySem L2
theorem I24.mono {L L' : Nat} {t : S} (h : I24 L t) (hl : L ≤ L') : I24 L' t := by
  obtain ⟨j, hs, gs, F, m, hS, hM, fit, hm, hl1, j3, j4⟩ := h
  exact ⟨j, hs, gs, F, m, hS, hM, fit, by omega, by omega, j3, j4⟩
@[simp] theorem madeC_ok (s1 s2 : S) : madeC s1 (.ok (.w (.d .non)) s2) = .ok (.r s1.length) s2 := (rfl)
end TG

set_option Elab.async false
set_option linter.all false
set_option maxRecDepth 100000
set_option maxHeartbeats 4000000
namespace TG
open PySem PySem.Spec PyProof.Rows L2
structure TruAt (P : Program) (w : World) (K : PySem.W.Frag) (mg : Str → Option Value) (base : Heap) (cl : Str → Option Addr) (k : Nat) (c : Str) (ps : List Str) (f : Sem1) : Prop where
  ex : ∃ (C a : Addr) (fd : FuncData), cl c = some C ∧ PySem.W.findIn K (.ref C) "__len__" = some (some (.ref a)) ∧ PySem.W.isFn K (.ref a) = true ∧ Binds K fd ps [] ∧ FnOk P w K mg base (L2.CX P w) k a fd ps (spOf K cl f) ∧
    PySem.W.findIn K (.ref C) "__bool__" = some none
theorem TruAt.mono {P : Program} {w : World} {K : PySem.W.Frag} {mg : Str → Option Value} {base : Heap} {cl : Str → Option Addr} {j k : Nat} {c : Str} {ps : List Str} {f : Sem1} (F : TruAt P w K mg base cl j c ps f) (h : j ≤ k) : TruAt P w K mg base cl k c ps f := by
  obtain ⟨C, a, fd, h1, h2, h3, h4, h5, h6⟩ := F.ex
  exact ⟨C, a, fd, h1, h2, h3, h4, h5.mono h, h6⟩
noncomputable def rTruC (K : PySem.W.Frag) (cl : Str → Option Addr) (c : Str) (f : Sem1) : V → Hp → (Bool → Hp → Prop) → Prop := fun v H Q =>
  ∃ (x : TG.W) (n : Int) (H0 : Hp) (m : List Addr) (s s' : S), Stt K cl H0 H m s ∧ RepW K cl H0 m v x ∧ insOf c "__len__" x s = true ∧ f [x] s = .ok (.w (.d (.int n))) s' ∧ 0 ≤ n ∧ n < 1000 ∧
    ∀ H0' H' m', GoE H0 H m H0' H' m' → Stt K cl H0' H' m' s' → Q (decide (n ≠ 0)) H'
section
variable {X : Cx} {cl : Str → Option Addr} {k : Nat} {ps : List Str} {f : Sem1} {c : Str}
theorem sp_none {prog : Program} {w : World} {A : Around} {E : Value → Shared → Prop} {s : Shared} {K : PySem.W.Frag} {p C : Addr} {ox : Obj} {od : Option Obj} {name : Str} {args : List Value} {Q : Option Value → Shared → Prop} (X : K.In s.heap) (I : PySem.W.InstAt s.heap p ox C od) (hf : PySem.W.findIn K (.ref C) name = some none) (h : Q none s) :
    wpAny (model prog w) A (callSpecial? (.ref p) name args) Q E s := by
  unfold callSpecial? specialOf
  exact wpAny_bind (wpAny_bind (I.type.here ((PySem.W.looks_findIn X hf).here (wpAny_pure h))))
theorem pt_tru {a : Expr} {ta : TE} {r : V → Hp → (Bool → Hp → Prop) → Prop} (ha : PE X a ta) (hr : TruR X r) (he : ∀ whole, isTrue a X.env whole = (do let v ← whole; standAt a.pos; holding [v] (truthy v))) :
    PT X a (fun σ H Q => ta σ H fun x H' => r x H' Q) :=
  ⟨fun pins s σ H Q I h => isTrue_plain (thn (ha.run pins s σ H _ I h) fun v s1 ⟨x, H1, I1, r1, q1⟩ => hr pins s1 σ H1 x v Q I1 r1 q1) (he _)⟩
theorem tru_lenC (F : TruAt X.prog X.w X.K X.mg X.base cl k c ps f) (hr : Room (k + 2) X.A) : TruR X (rTruC X.K cl c f) := by
  intro pins s σ H v u Q I ru h
  obtain ⟨x, n, H0, m, s0, s1, st, rp, hin, hf, n0, n1, q⟩ := h
  obtain ⟨C, a, fd, h1, h2, h3, h4, h5, h6⟩ := F.ex
  obtain ⟨p, dx, fs, rfl, hp, _⟩ := insOf_ok h1 st rp hin
  obtain rfl : u = Value.ref p := ru
  obtain ⟨mA, J, _⟩ := ins_get I.hok hp
  obtain ⟨od, J, _⟩ := J.look
  have hsp : spOf X.K cl f [.ref p] H (fun v H' => v = .int n ∧ Q (decide (n ≠ 0)) H') E0 := by
    refine ⟨H0, m, s0, [x], st, .cons rp .nil, ?_⟩
    rw [hf]
    intro v H0' H' m' g st' rr
    have rr : RepW X.K cl H0' m' v (.d (.int n)) := rr
    cases rr
    exact ⟨rfl, q _ _ _ g st'⟩
  have hl := h5.len _ _ _ _ hsp
  have r2 : Vals [V.ref p] [Value.ref p] := .cons rfl .nil
  have e0 : Env0 X.prog X.w X.K X.mg X.base X.A.in1 X.stack s H := by
    have e := I.env0
    exact ⟨e.frames, e.mod, e.bs, e.bsz, e.funs, e.frf, e.hok, e.bare⟩
  have body : wpAny (model X.prog X.w) X.A.in1 (Builtin.«len» ⟨[.ref p], []⟩) (fun fin s' => ∃ r, fin = .done (.ret r) ∧ ((∃ t, r = .int n t) ∧ TP X pins σ Q (decide (n ≠ 0)) s')) X.xe s := by
    unfold Builtin.«len»
    refine wpAny_bind (m := oneArg "len" _) (wpAny_pure (wpAny_bind (m := callSpecial? (.ref p) (PySem.Str.ofString "__len__")) (PySem.W.special_fn I.kIn J h2 (beq_iff_eq.mp h3) ?_)))
    refine wpAny_call (codeAny_mono (h5.run X.A.in1 X.stack s H ⟨[.ref p], []⟩ [.ref p] [.ref p] _ E0 ((hr.mono (by omega) : Room (k + 1) X.A).in1) e0 (by
      have := h4 s [.ref p] I.kIn (by simpa using hl)
      simpa using this) r2 hsp) fun r s' hq => ?_)
    cases r with
    | error e => exact noPass pins σ H s e s' I hq
    | ok fl =>
      cases fl with
      | ret w =>
        obtain ⟨z, H', I', rz, ez, ex⟩ := I.after hq
        subst ez
        obtain ⟨t, rfl⟩ := (show ∃ t, w = Value.int n t from rz)
        refine wpAny_bind (wpAny_holding (wpAny_pure (wpAny_bind (wpAny_letGo ?_))))
        show wpAny _ _ (if (n : Int) < 0 then _ else _) _ _ _
        rw [if_neg (show ¬ n < 0 by omega)]
        show wpAny _ _ (if (n : Int) ≥ 2 ^ 63 then _ else _) _ _ _
        rw [if_neg (show ¬ n ≥ 2 ^ 63 by omega)]
        exact wpAny_bind (wpAny_mkInt (wpAny_pure ⟨_, rfl, ⟨_, rfl⟩, H', I'.tok _, ex⟩))
      | next => exact False.elim hq
      | brk => exact False.elim hq
      | cont => exact False.elim hq
  have key : wpAny (model X.prog X.w) X.A (runValue (.builtin "len" ⟨[.ref p], []⟩)) (fun r s' => (∃ t, r = .int n t) ∧ TP X pins σ Q (decide (n ≠ 0)) s') X.xe s := by
    refine wpAny_runValue (codeAny_builtin entry_len ?_)
    rw [Around.under_plainId plain_len _]
    exact wpAny_mono body (fun fin s' h' => by obtain ⟨r, rfl, hq⟩ := h'; exact hq) fun _ _ e => e
  have hsl : ∀ {Q' : Option Value → Shared → Prop}, Q' (some (.ref a)) s → wpAny (model X.prog X.w) X.A (specialOf (.ref p) "__len__") Q' X.xe s := fun q => by
    unfold specialOf
    exact wpAny_bind (J.type.here ((PySem.W.looks_findIn I.kIn h2).here q))
  have hne : (n != 0) = decide (n ≠ 0) := by
    by_cases h : n = 0 <;> simp [h]
  unfold truthy
  first
    | refine wpAny_bind (sp_none (name := PySem.Str.ofString "__bool__") I.kIn J h6 ?_)
    | refine wpAny_bind (wpAny_pure (wpAny_bind (sp_none (name := PySem.Str.ofString "__bool__") I.kIn J h6 ?_)))
  first
    | refine wpAny_bind (hsl ?_)
    | refine wpAny_bind (wpAny_pure (wpAny_bind (hsl ?_)))
  first
    | exact wpAny_bind (wpAny_mono key (fun r s' h' => by obtain ⟨⟨t, rfl⟩, hq⟩ := h'; exact wpAny_pure (hne ▸ hq)) fun _ _ e => e)
    | exact wpAny_bind (wpAny_pure (wpAny_bind (wpAny_mono key (fun r s' h' => by obtain ⟨⟨t, rfl⟩, hq⟩ := h'; exact wpAny_pure (hne ▸ hq)) fun _ _ e => e)))
noncomputable def truC : Res RV → Res Bool
  | .ok (.w (.d (.int n))) s => if 0 ≤ n ∧ n < 1000 then .ok (decide (n ≠ 0)) s else .no
  | _ => .no
noncomputable def kTruC (c : Str) (f : Sem1) : TG.W → S → Res Bool := fun x s => if insOf c "__len__" x s = true then truC (f [x] s) else .no
noncomputable def eTruC (c : Str) (f : Sem1) (a : Cmp TG.W) : Cmp Bool := fun ρ s => (a ρ s).bind (kTruC c f)
variable {Wx : WX} {e : Expr} {ea : Cmp TG.W}
theorem jt_truC (F : TruAt X.prog X.w X.K X.mg X.base cl k c ps f) (hr : Room (k + 2) X.A) (ha : JE cl Wx X e ea) (he : ∀ whole, isTrue e X.env whole = (do let v ← whole; standAt e.pos; holding [v] (truthy v)) := by intro _; rfl) : JT cl Wx X e (eTruC c f ea) :=
  PT.weaken (pt_tru ha (tru_lenC F hr) he) fun σ H Q ⟨H0, m, ow, s, ρ, cx, h⟩ => ⟨H0, m, ow, s, ρ, cx, RunE.bind h fun a s1 v H1 H1' m1 g st rr h2 => by
    have h2 : RunE X.K cl rrB Wx H1 H1' m1 σ Q (if insOf c "__len__" a s1 = true then truC (f [a] s1) else .no) := h2
    split at h2
    · rename_i hi
      cases ef : f [a] s1 with
      | no => rw [ef] at h2; exact h2.elim
      | exc d z s2 => rw [ef] at h2; exact h2.elim
      | ok rv s2 =>
        rw [ef] at h2
        unfold truC at h2
        split at h2
        · rename_i n s3 e3
          cases e3
          split at h2
          · rename_i hn
            exact ⟨a, n, H1, m1, s1, s2, st, rr, hi, ef, hn.1, hn.2, fun H0' H' m' g' st' => h2 _ H0' H' m' g' st' rfl⟩
          · exact h2.elim
        · exact h2.elim
    · exact h2.elim⟩
end
end TG

set_option linter.all false
set_option maxRecDepth 100000
namespace TG
open PySem L2
end TG

set_option linter.all false
set_option maxRecDepth 100000
namespace TG
open PySem L2
structure Both (t : S) (j : Nat) (ks gs : List D) (F : FaL) (m : Int) : Prop where
  sh : ∀ b : Bag, Shop (b.cell :: t) 1 2 (j + 1) ks gs
  md : ∀ b : Bag, Mod (b.cell :: t) 4 5 F m
  j3 : j ≠ 3
  j4 : j ≠ 4
  j1 : j ≠ 1
section
variable {t : S} {j : Nat} {ks gs hs : List D} {F F' : FaL} {m m' : Int}
theorem Both.mdl (h : Both t j ks gs F m) (F' : FaL) (m' : Int) (b : Bag) : ∃ t1, mdS (b.cell :: t) 4 5 F' m' = b.cell :: t1 ∧ Both t1 j ks gs F' m' := by
  have j3 := h.j3
  have j4 := h.j4
  have j1 := h.j1
  have hM1 := (h.md b).md (by decide) F' m'
  have hS1 := (h.sh b).md (p := 4) (q := 5) F' m' ⟨by decide, by decide⟩ ⟨by decide, by decide⟩ ⟨by omega, by omega⟩
  have z1 : (mdS (b.cell :: t) 4 5 F' m')[0]? = some b.cell := by rw [mdS_other _ _ _ _ _ _ (by decide) (by decide)]; rfl
  generalize mdS (b.cell :: t) 4 5 F' m' = s1 at *
  have es1 := tail_of z1
  generalize s1.tail = t1 at *
  subst es1
  exact ⟨t1, rfl, fun b => hS1.bag b, fun b => hM1.bag b, j3, j4, j1⟩
theorem Both.up (h : Both t j ks gs F m) (ks' : List D) (b : Bag) : ∃ t1 j1, upS (b.cell :: t) 1 2 ks' = b.cell :: t1 ∧ Both t1 j1 ks' [] F m := by
  have hS2 := (h.sh b).up ks'
  have hM := h.md b
  have hM2 : Mod (upS (b.cell :: t) 1 2 ks') 4 5 F m := by
    refine ⟨?_, ?_⟩
    · rw [up_other _ _ _ _ _ (by decide) (by decide) hM.lt.1]; exact hM.a
    · rw [up_other _ _ _ _ _ (by decide) (by decide) hM.lt.2]; exact hM.b
  have z2 : (upS (b.cell :: t) 1 2 ks')[0]? = some b.cell := by
    rw [up_other _ _ _ _ _ (by decide) (by decide) (by simp)]; rfl
  have l2 := hM.lt.2
  have ej : (b.cell :: t).length = t.length + 1 := rfl
  rw [ej] at hS2 l2
  generalize upS (b.cell :: t) 1 2 ks' = s2 at *
  have es2 := tail_of z2
  generalize s2.tail = t2 at *
  subst es2
  exact ⟨t2, t.length, rfl, fun b => hS2.bag b, fun b => hM2.bag b, by omega, by omega, by omega⟩
theorem Both.deed (h : Both t j ks gs F m) {e : De} {du : List D} (hd : Due F m e du F' m') (fit : Fit F m) (hm : m ≤ 100) (ks' : List D) (b : Bag) : ∃ t1 t2 j', upS (b.cell :: t) 1 2 ks' = b.cell :: t1 ∧
    f_v_law_done [.r 5, .d e.d] (b.cell :: t1) = .ok (.own (wD du)) (b.cell :: t2) ∧ Both t2 j' ks' [] F' m' := by
  have fl := fit.len
  obtain ⟨t1, j1, e1, h1⟩ := h.up ks' b
  have d := done_eq (h1.md b) (by decide) (by omega) fit.new hd
  obtain ⟨t2, e2, h2⟩ := h1.mdl F' m' b
  rw [e2] at d
  exact ⟨t1, t2, j1, e1, d, h2⟩
@[simp] theorem ePopC_eq (o : Cmp W) (ρ : Rho) (s : S) : ePopC o ρ s = (o ρ s).bind kPopC := (rfl)
@[simp] theorem kPopC_eq (x : W) (s : S) : kPopC x s = match popL x s with | some (v, s') => .ok v s' | none => .no := (rfl)
end
end TG

set_option linter.all false
set_option maxRecDepth 100000
namespace TG
open PySem L2
section
variable {t : S} {j : Nat} {ks gs hs : List D} {F F' : FaL} {m m' : Int}
end
structure Kept (d : Nat) (t : S) (F : FaL) (m : Int) : Prop where
  ex : ∃ (j : Nat) (hs gs : List D), Both t j (hs ++ [holdD F m]) gs F m ∧ hs.length = d ∧ (∃ r, hs ++ [holdD F m] = holdD [] 0 :: r) ∧ gs = []
  fit : Fit F m
  m1 : m ≤ 100
theorem kept_up {hs gs : List D} {F F' : FaL} {m m' : Int} (h : (∃ r, hs ++ [holdD F m] = holdD [] 0 :: r) ∧ gs = []) : (∃ r, (hs ++ [holdD F m]) ++ [holdD F' m'] = holdD [] 0 :: r) ∧ ([] : List D) = [] := by
  obtain ⟨⟨r, h⟩, _⟩ := h
  exact ⟨⟨r ++ [holdD F' m'], by rw [h]; rfl⟩, rfl⟩
section
variable {t : S} {d : Nat} {F : FaL} {m : Int}
theorem Kept.tell (h : Kept d t F m) (f : Fa) (hf : f.ok = true ∧ f.sz) (hm : m < 100) (hd : d ≤ 1000) (b : Bag) : ∃ t1 t2, f_Workshop_tell [.r 1, .d f.d] (b.cell :: t) = .ok (.w (.d (.int (m + 1)))) (b.cell :: t1) ∧
    f_v_law_done [.r 5, .d (De.tell f.d).d] (b.cell :: t1) = .ok (.own (wD [.str "", .int (m + 1)])) (b.cell :: t2) ∧ Kept (d + 1) t2 (F ++ [(m + 1, f)]) (m + 1) := by
  obtain ⟨j, hs, gs, hb, rfl, hr⟩ := h.ex
  have fl := h.fit.len
  have hd' : Due F m (.tell f.d) [.str "", .int (m + 1)] (F ++ [(m + 1, f)]) (m + 1) := .tell hf hm
  obtain ⟨t1, t2, j', e1, e2, h2⟩ := hb.deed hd' h.fit h.m1 (hs ++ [holdD F m] ++ [holdD (F ++ [(m + 1, f)]) (m + 1)]) b
  have g := tell_eq (hb.sh b) f (fun s => by rw [need_eq f hf.2, if_pos hf.1]) hm h.fit.new (by omega) (by omega)
  rw [e1] at g
  exact ⟨t1, t2, g, e2, ⟨j', _, _, h2, by simp, kept_up hr⟩, (hd'.fit h.fit).1, by omega⟩
theorem Kept.strike (h : Kept d t F m) (k : Int) (f : Fa) (hk : lookF F k = some f) (hd : d ≤ 1000) (b : Bag) : ∃ t1 t2, f_Workshop_strike [.r 1, .d (.int k)] (b.cell :: t) = .ok (.w (.d f.d)) (b.cell :: t1) ∧
    f_v_law_done [.r 5, .d (De.strike k).d] (b.cell :: t1) = .ok (.own (wD [.str "", f.d])) (b.cell :: t2) ∧ Kept (d + 1) t2 (dropF F k) m := by
  obtain ⟨j, hs, gs, hb, rfl, hr⟩ := h.ex
  have fl := h.fit.len
  have hd' : Due F m (.strike k) [.str "", f.d] (dropF F k) m := .strike hk
  obtain ⟨t1, t2, j', e1, e2, h2⟩ := hb.deed hd' h.fit h.m1 (hs ++ [holdD F m] ++ [holdD (dropF F k) m]) b
  have g := strike_eq (hb.sh b) k f hk (by omega)
  rw [e1] at g
  exact ⟨t1, t2, g, e2, ⟨j', _, _, h2, by simp, kept_up hr⟩, (hd'.fit h.fit).1, h.m1⟩
theorem Kept.right (h : Kept d t F m) (k : Int) (f : Fa) (hk : lookF F k = some f) (hd : d ≤ 1000) (b : Bag) : ∃ t1 t2, f_Workshop_right [.r 1, .d (.int k), .d f.d] (b.cell :: t) = .ok (.w (.d f.d)) (b.cell :: t1) ∧
    f_v_law_done [.r 5, .d (De.right k f.d).d] (b.cell :: t1) = .ok (.own (wD [.str "", f.d])) (b.cell :: t2) ∧ Kept (d + 1) t2 (replF F k f) m := by
  obtain ⟨j, hs, gs, hb, rfl, hr⟩ := h.ex
  have fl := h.fit.len
  have hf := h.fit.good _ (look_some hk)
  have m1 := h.m1
  have hd' : Due F m (.right k f.d) [.str "", f.d] (replF F k f) m := .right hk hf rfl
  obtain ⟨t1, t2, j', e1, e2, h2⟩ := hb.deed hd' h.fit h.m1 (hs ++ [holdD F m] ++ [holdD (replF F k f) m]) b
  have g := right_eq (hb.sh b) k f f hk (fun s => by rw [need_eq f hf.2, if_pos hf.1]) rfl (by omega) (by omega)
  rw [e1] at g
  exact ⟨t1, t2, g, e2, ⟨j', _, _, h2, by simp, kept_up hr⟩, (hd'.fit h.fit).1, h.m1⟩
end
end TG

set_option linter.all false
set_option maxRecDepth 100000
namespace TG
open PySem L2
@[simp] theorem eTruC_eq (c : Str) (f : Sem1) (a : Cmp W) (ρ : Rho) (s : S) : eTruC c f a ρ s = (a ρ s).bind (kTruC c f) := (rfl)
@[simp] theorem kTruC_eq (c : Str) (f : Sem1) (x : W) (s : S) : kTruC c f x s = if insOf c "__len__" x s = true then truC (f [x] s) else .no := (rfl)
theorem truC_int (n : Int) (s : S) (h0 : 0 ≤ n) (h1 : n < 1000) : truC (.ok (.w (.d (.int n))) s) = .ok (decide (n ≠ 0)) s := if_pos ⟨h0, h1⟩
end TG

set_option Elab.async false
set_option linter.all false
set_option maxRecDepth 100000
set_option maxHeartbeats 4000000
namespace TG
open PySem PySem.Spec PyProof.Rows L2
structure MethAtK (P : Program) (w : World) (K : PySem.W.Frag) (mg : Str → Option Value) (base : Heap) (cl : Str → Option Addr) (k : Nat) (c m : Str) (ps : List Str) (f : Sem1) (n : Nat) (ks : List Str) (pk : List Pk) (ds : List Int) : Prop where
  ex : ∃ (C a : Addr) (fd : FuncData) (its : List Value), cl c = some C ∧ Cls K C ∧ Meth K C m a ∧ KBn K fd ps n ks (fun us ws => pkU pk its us ws) (fun vs zs => pkV pk (ds.map V.int) vs zs) ∧ FnOk P w K mg base (L2.CX P w) k a fd ps (spOf K cl f)
theorem MethAtK.mono {P : Program} {w : World} {K : PySem.W.Frag} {mg : Str → Option Value} {base : Heap} {cl : Str → Option Addr} {j k : Nat} {c m : Str} {ps : List Str} {f : Sem1} {n : Nat} {ks : List Str} {pk : List Pk} {ds : List Int} (F : MethAtK P w K mg base cl j c m ps f n ks pk ds) (h : j ≤ k) : MethAtK P w K mg base cl k c m ps f n ks pk ds := by
  obtain ⟨C, a, fd, its, h1, h2, h3, h4, h5⟩ := F.ex
  exact ⟨C, a, fd, its, h1, h2, h3, h4, h5.mono h⟩
section
variable {X : Cx} {CX : CXT} {k n : Nat} {f C : Addr} {fd : FuncData} {ps ks : List Str} {sp : Sp} {E : XK} {m : Str} {apos pos : Pos} {e o : Expr} {es : List Expr} {kws : List Keyword} {ta : TE} {t tk : TA} {g : List Value → List Value → List Value} {gV : List V → List V → List V}
end
section
variable {X : Cx} {cl : Str → Option Addr} {e o : Expr} {es : List Expr} {kws : List Keyword} {pos apos : Pos} {eo : Cmp TG.W} {el ek : Cmp (List TG.W)} {k n : Nat} {c m : Str} {ps ks : List Str} {f : Sem1} {pk : List Pk} {ds : List Int} {pl : Sem Bool}
end
end TG

set_option linter.all false
set_option maxRecDepth 100000
namespace TG
open PySem L2
end TG

set_option linter.all false
set_option maxRecDepth 100000
namespace TG
open PySem L2
end TG

set_option linter.all false
set_option maxRecDepth 100000
namespace TG
open PySem L2
section
variable {s : S} {n i j p q : Nat} {hs gs : List D} {F : FaL} {m : Int}
end
end TG

set_option linter.all false
set_option maxRecDepth 100000
namespace TG
open PySem L2
noncomputable def gO (z : List (Key × Option Int)) (i : Int) : Option Int := (getK z (.inl i)).join
noncomputable def dO (z : List (Key × Option Int)) : D := .dic (z.map fun p => (p.1, ofO p.2))
@[simp] theorem kGet1_dO (z : List (Key × Option Int)) (b : Cmp W) (ρ : Rho) (s : S) : kGet1 b ρ (.d (dO z)) s = (b ρ s).bind (fGet1 (.d (dO z))) := (rfl)
theorem getKO_wk (z : List (Key × Option Int)) (k : Key) : getK (wK (z.map fun p => (p.1, ofO p.2))) k = (getK z k).map fun i => W.d (ofO i) := by
  induction z with
  | nil => rfl
  | cons p z ih =>
    obtain ⟨k', i⟩ := p
    simp only [wK, getK, List.map_cons] at ih ⊢
    by_cases e : k' = k
    · simp [e]
    · simp only [e, if_false]; exact ih
@[simp] theorem get_dO (z : List (Key × Option Int)) (i : Int) (s : S) : fGet1 (.d (dO z)) (.d (.int i)) s = .ok (.d (ofO (gO z i))) s := by
  have q : fGet1 (.d (dO z)) (.d (.int i)) s = .ok ((getK (wK (z.map fun p => (p.1, ofO p.2))) (.inl i)).getD (.d .non)) s := rfl
  rw [q, getKO_wk]
  unfold gO
  cases getK z (.inl i) <;> rfl
end TG

set_option linter.all false
set_option maxRecDepth 100000
namespace TG
open PySem L2
end TG

set_option linter.all false
set_option maxRecDepth 100000
namespace TG
open PySem L2
@[simp] theorem eDictP_eq (a : Cmp (List W)) (ρ : Rho) (s : S) : eDictP a ρ s = (a ρ s).bind kDictP := (rfl)
end TG

set_option linter.all false
set_option maxRecDepth 100000
namespace TG
open PySem L2
section
variable {s : S} {n i j p q : Nat} {hs gs : List D} {F : FaL} {m : Int}
end
end TG

set_option linter.all false
set_option maxRecDepth 100000
namespace TG
open PySem L2
section
variable {s : S} {n i j p q : Nat} {hs gs : List D} {F : FaL} {m : Int}
end
end TG

set_option linter.all false
set_option maxRecDepth 100000
namespace TG
open PySem L2
section
variable {s : S} {n i j p q : Nat} {hs gs : List D} {F : FaL} {m : Int}
end
end TG

set_option linter.all false
set_option maxRecDepth 100000
namespace TG
open PySem L2
section
variable {s : S} {p q : Nat} {F : FaL} {m : Int}
end
end TG

set_option linter.all false
set_option maxRecDepth 100000
namespace TG
open PySem L2
section
variable {s : S} {n i j p q : Nat} {hs gs : List D} {F : FaL} {m : Int}
end
end TG

set_option linter.all false
set_option maxRecDepth 100000
namespace TG
open PySem L2
section
variable {s : S} {p q : Nat} {F F' : FaL} {m m' : Int}
end
end TG

set_option linter.all false
set_option maxRecDepth 100000
namespace TG
open PySem L2
end TG

set_option linter.all false
set_option maxRecDepth 100000
namespace TG
open PySem L2
end TG

set_option linter.all false
set_option maxRecDepth 100000
namespace TG
open PySem L2
section
variable {s : S} {n i j : Nat} {hs gs : List D} {F : FaL} {m : Int}
end
end TG

set_option linter.all false
set_option maxRecDepth 100000
namespace TG
open PySem L2
end TG

set_option linter.all false
set_option maxRecDepth 100000
namespace TG
open PySem L2
end TG

set_option linter.all false
set_option maxRecDepth 100000
namespace TG
open PySem L2
end TG

set_option Elab.async false
set_option linter.all false
set_option maxRecDepth 100000
set_option maxHeartbeats 4000000
namespace TG
open PySem PySem.Spec PyProof.Rows L2
section
variable {X : Cx} {cl : Str → Option Addr} {Wx : WX} {a : Expr} {ea : Cmp W} {pos : Pos} {ta : TE}
end
end TG

set_option linter.all false
set_option maxRecDepth 100000
namespace TG
open PySem L2
end TG

set_option linter.all false
set_option maxRecDepth 100000
namespace TG
open PySem L2
section
variable {s : S} {n i j : Nat} {hs gs : List D} {F : FaL} {m : Int}
end
end TG

set_option linter.all false
set_option maxRecDepth 100000
namespace TG
open PySem L2
section
variable {s : S} {n : Nat} {a b : W}
end
end TG

set_option linter.all false
set_option maxRecDepth 100000
namespace TG
open PySem L2
section
variable {n : Nat} {f : Int → Int} {t : Int}
end
end TG

set_option linter.all false
set_option maxRecDepth 100000
namespace TG
open PySem L2
end TG

set_option linter.all false
set_option maxRecDepth 100000
namespace TG
open PySem L2
end TG

set_option linter.all false
set_option maxRecDepth 100000
namespace TG
open PySem L2
end TG

set_option linter.all false
set_option maxRecDepth 100000
namespace TG
open PySem L2
@[simp] theorem eCallO_eq (f : Sem1) (a : Cmp (List W)) (ρ : Rho) (s : S) : eCallO f a ρ s = (a ρ s).bind (kCallO f) := (rfl)
@[simp] theorem kCallO_eq (f : Sem1) (ws : List W) (s : S) : kCallO f ws s = if ws.all isDat = true then outO (f ws []) s else .no := (rfl)
@[simp] theorem isDat_d (x : D) : isDat (.d x) = true := (rfl)
@[simp] theorem outO_ok (d : D) (s : S) : outO (.ok (.w (.d d)) []) s = if d.noLst = true then .ok (.d d) s else .no := (rfl)
noncomputable def kOwnA (ds : List D) : List W → S → Res (List W) := fun ws s => .ok (.d (.lst ds) :: ws) s
@[simp] theorem kOwnA_eq (ds : List D) (ws : List W) (s : S) : kOwnA ds ws s = .ok (.d (.lst ds) :: ws) s := (rfl)
section
variable {t : S} {j : Nat} {gs hs : List D} {F : FaL} {m : Int}
end
end TG

set_option linter.all false
set_option maxRecDepth 100000
namespace TG
open PySem L2
noncomputable def smI (x : Int) : Prop := x.natAbs < 1000000000000000000000000000000
noncomputable def Fa.sml : Fa → Prop
  | .blank _ r => ∀ x ∈ r, smI x
  | .cut _ _ x => smI x
  | .mount _ _ _ a => smI a
  | _ => True
noncomputable def SmF (F : FaL) : Prop := ∀ p ∈ F, p.2.sml
inductive GDeS : De → Prop
  | tell (f : Fa) (h : f.ok = true ∧ f.sz) (s : f.sml) : GDeS (.tell f.d)
  | strike (k : Int) : GDeS (.strike k)
  | right (k : Int) (f : Fa) (h : f.ok = true ∧ f.sz) (s : f.sml) : GDeS (.right k f.d)
theorem GDeS.g {e : De} (h : GDeS e) : GDe e := by cases h <;> constructor <;> assumption
end TG

set_option Elab.async false
set_option linter.all false
set_option maxRecDepth 100000
set_option maxHeartbeats 4000000
namespace TG
open PySem PySem.Spec PyProof.Rows L2
structure EqAtC (P : Program) (w : World) (K : PySem.W.Frag) (mg : Str → Option Value) (base : Heap) (cl : Str → Option Addr) (k : Nat) (c : Str) (ps : List Str) (f : Sem1) : Prop where
  ex : ∃ (C a : Addr) (fd : FuncData), cl c = some C ∧ PySem.W.findIn K (.ref C) "__eq__" = some (some (.ref a)) ∧ PySem.W.isFn K (.ref a) = true ∧ Binds K fd ps [] ∧ FnOk P w K mg base (L2.CX P w) k a fd ps (spOf K cl f)
theorem EqAtC.mono {P : Program} {w : World} {K : PySem.W.Frag} {mg : Str → Option Value} {base : Heap} {cl : Str → Option Addr} {j k : Nat} {c : Str} {ps : List Str} {f : Sem1} (F : EqAtC P w K mg base cl j c ps f) (h : j ≤ k) : EqAtC P w K mg base cl k c ps f := by
  obtain ⟨C, a, fd, h1, h2, h3, h4, h5⟩ := F.ex
  exact ⟨C, a, fd, h1, h2, h3, h4, h5.mono h⟩
noncomputable def rEqC (K : PySem.W.Frag) (cl : Str → Option Addr) (c : Str) (f : Sem1) : R2 := fun v u H Q =>
  ∃ (x y : TG.W) (b : Bool) (H0 : Hp) (m : List Addr) (s s' : S), Stt K cl H0 H m s ∧ RepW K cl H0 m v x ∧ RepW K cl H0 m u y ∧ insOf c "__eq__" x s = true ∧ insOf c "__eq__" y s = true ∧ f [x, y] s = .ok (.w (.d (.bl b))) s' ∧
    ∀ H0' H' m', GoE H0 H m H0' H' m' → Stt K cl H0' H' m' s' → Q (.bl b) H'
section
variable {X : Cx} {cl : Str → Option Addr} {k : Nat} {ps : List Str} {f : Sem1} {c : Str}
theorem op_eqC (F : EqAtC X.prog X.w X.K X.mg X.base cl k c ps f) (hr : Room (k + 2) X.A) : OpR X (compareOp .Eq) (rEqC X.K cl c f) := by
  intro pins s σ H v u vv uu Q I rv ru h
  obtain ⟨x, y, b, H0, m, s0, s1, st, rx, ry, hx, hy, hf, q⟩ := h
  obtain ⟨C, a, fd, h1, h2, h3, h4, h5⟩ := F.ex
  obtain ⟨p, dx, fs, rfl, hp, _⟩ := insOf_ok h1 st rx hx
  obtain ⟨p', dy, gs, rfl, hp', _⟩ := insOf_ok h1 st ry hy
  obtain rfl : vv = Value.ref p := rv
  obtain rfl : uu = Value.ref p' := ru
  obtain ⟨mA, J, _⟩ := ins_get I.hok hp
  obtain ⟨mB, J', _⟩ := ins_get I.hok hp'
  obtain ⟨od, J, _⟩ := J.look
  obtain ⟨od', J', _⟩ := J'.look
  obtain ⟨mm, hF⟩ := I.fr
  have hsp : spOf X.K cl f [.ref p, .ref p'] H (fun v H' => v = .bl b ∧ Q (.bl b) H') E0 := by
    refine ⟨H0, m, s0, [x, y], st, .cons rx (.cons ry .nil), ?_⟩
    rw [hf]
    intro v H0' H' m' g st' rr
    have rr : RepW X.K cl H0' m' v (.d (.bl b)) := rr
    cases rr
    exact ⟨rfl, q _ _ _ g st'⟩
  have hl := h5.len _ _ _ _ hsp
  have r2 : Vals [V.ref p, V.ref p'] [Value.ref p, Value.ref p'] := .cons rfl (.cons rfl .nil)
  show wpAny _ _ (richCompare .Eq (.ref p) (.ref p')) _ _ _
  refine PySem.W.cmp_K (op := .Eq) (tb := .ref C) hr.units0 hF I.ok.mod.kin J J'.type (by simp [PySem.W.notFirst]) h2 h3 (wpAny_call (codeAny_mono (h5.run X.A X.stack s H ⟨[.ref p, .ref p'], []⟩ [.ref p, .ref p'] [.ref p, .ref p'] _ E0 (hr.mono (by omega)) I.env0 (by
    have := h4 s [.ref p, .ref p'] I.kIn (by simpa using hl)
    simpa using this) r2 hsp) fun r s' hq => ?_))
  cases r with
  | error e => exact noPass pins σ H s e s' I hq
  | ok fl =>
    cases fl with
    | ret w =>
      obtain ⟨z, H', I', rz, ez, ex⟩ := I.after hq
      subst ez
      cases rz
      exact ⟨.bl b, H', I', rfl, ex⟩
    | next => exact False.elim hq
    | brk => exact False.elim hq
    | cont => exact False.elim hq
noncomputable def eqC : Res RV → Res TG.W
  | .ok (.w (.d (.bl b))) s => .ok (.d (.bl b)) s
  | _ => .no
noncomputable def fEqC (c : Str) (f : Sem1) : TG.W → TG.W → S → Res TG.W := fun x y s => if insOf c "__eq__" x s = true ∧ insOf c "__eq__" y s = true then eqC (f [x, y] s) else .no
theorem ops_eqC {K : PySem.W.Frag} : OpS K cl (rEqC K cl c f) (fEqC c f) := by
  intro Wx σ H0 H m s v u x y Q st rx ry h
  unfold fEqC at h
  split at h
  · rename_i hi
    cases ef : f [x, y] s with
    | no => rw [ef] at h; exact h.elim
    | exc d z s2 => rw [ef] at h; exact h.elim
    | ok rv s2 =>
      rw [ef] at h
      unfold eqC at h
      split at h
      · rename_i b s3 e3
        cases e3
        exact ⟨x, y, b, H0, m, s, s2, st, rx, ry, hi.1, hi.2, ef, fun H0' H' m' g st' => h (.bl b) H0' H' m' g st' .bl⟩
      · exact h.elim
  · exact h.elim
end
end TG

set_option Elab.async false
set_option linter.all false
set_option maxRecDepth 100000
set_option maxHeartbeats 4000000
namespace TG
open PySem PySem.Spec PyProof.Rows L2
noncomputable def isSL (w : TG.W) (s : S) : Bool := match w with | .d (.str _) => true | .d (.lst _) => true | _ => false
noncomputable def fIsOC (c : Str) : W → S → Res W := fun x s => if insOf c "__eq__" x s = true then .ok (.d (.bl true)) s else if isSL x s = true then .ok (.d (.bl false)) s else .no
section
variable {X : Cx} {cl : Str → Option Addr} {Wx : WX} {e : Expr} {pos p q : Pos} {ea : Cmp W} {x y : Str}
end
end TG

set_option Elab.async false
set_option linter.all false
set_option maxRecDepth 100000
set_option maxHeartbeats 4000000
namespace TG
open PySem PySem.Spec PyProof.Rows L2
section
variable {X : Cx} {cl : Str → Option Addr} {Wx : WX} {a e elt tg iter : Expr} {ifs : List Expr} {es : List Expr} {pos p py spos : Pos} {ea ee : Cmp W} {el ec : Cmp (List W)} {et : Cmp Bool} {t : Tgt} {sl : List Nat} {own : List (Str × Nat)} {scope : Scope}
end
end TG

set_option Elab.async false
set_option linter.all false
set_option maxRecDepth 100000
set_option maxHeartbeats 4000000
namespace TG
open PySem PySem.Spec PyProof.Rows L2
open Classical
structure WalksC (K : PySem.W.Frag) (cl : Str → Option Addr) (J : It) (n : Nat) (l : List W) (Ha : Hp) (ma : List Addr) : Prop where
  stop : ∀ (i : Nat) H0 H m s, Same Ha H0 → ma <+: m → Stt K cl H0 H m s → s[n]? = some (.lst l) → l.length ≤ i → J.stop i H
  go : ∀ (i : Nat) H0 H m s, Same Ha H0 → ma <+: m → Stt K cl H0 H m s → s[n]? = some (.lst l) → i < l.length → J.go i H
  yld : ∀ (i : Nat) H0 H m s x H', Same Ha H0 → ma <+: m → Stt K cl H0 H m s → s[n]? = some (.lst l) → i < l.length → J.yld i H x H' → ∃ H0', GoE H0 H m H0' H' m ∧ Stt K cl H0' H' m s ∧ ∃ w, l[i]? = some w ∧ RepW K cl H0' m x w
noncomputable def rrIC (K : PySem.W.Frag) (cl : Str → Option Addr) : RRT It (Nat × List W) := fun _ H0 _ m J q => WalksC K cl J q.1 q.2 H0 m
instance {K cl} : Early (rrIC K cl) := ⟨fun _ h => h⟩
section
variable {X : Cx} {cl : Str → Option Addr} {Wx : WX} {tg e c elt : Expr} {es : List Expr} {st : Stmt} {sts sts' : List Stmt} {pos : Pos} {ea : Cmp W} {el ec : Cmp (List W)} {ecc : Cmp (Nat × List W)} {et : Cmp Bool} {a b : Stm} {t : Tgt} {sl sl' : List Nat}
end
section
variable {X : Cx} {cl : Str → Option Addr} {Wx : WX} {a tg e c elt iter : Expr} {ifs : List Expr} {es : List Expr} {pos p py spos : Pos} {ea ee : Cmp W} {el ec : Cmp (List W)} {ecc : Cmp (Nat × List W)} {et : Cmp Bool} {t : Tgt} {sl : List Nat} {own : List (Str × Nat)} {scope : Scope}
end
end TG

set_option Elab.async false
set_option linter.all false
set_option maxRecDepth 100000
set_option maxHeartbeats 4000000
namespace PySem
open Sem (wp)
structure ZApart (z TI TO i1 i2 : Addr) (f1 f2 : List Addr) : Prop where
  TIz : TI ≠ z
  TOz : TO ≠ z
  i1z : i1 ≠ z
  i2z : i2 ≠ z
  TITO : TI ≠ TO
  TIi1 : TI ≠ i1
  TIi2 : TI ≠ i2
  TOi1 : TO ≠ i1
  TOi2 : TO ≠ i2
  i12 : i1 ≠ i2
  zf1 : z ∉ f1
  zf2 : z ∉ f2
  TOf1 : TO ∉ f1
  TOf2 : TO ∉ f2
  i1f2 : i1 ∉ f2
  i2f1 : i2 ∉ f1
section
variable {prog : Program} {w : World} {A : Around} {E : Value → Shared → Prop} {s : Shared}
structure DrawsA (prog : Program) (w : World) (it : Addr) (fp : List Addr) (n : Nat) (P : Nat → Value → Prop) (St : Nat → Heap → Prop) : Prop where
  d : ∀ B : Around, B.handled = none → Draws prog w B it fp n P St
  e : ∀ B : Around, B.handled = none → ∀ (i : Nat) (s : Shared) (Q : Value → Shared → Prop) (E : Value → Shared → Prop), n ≤ i → St i s.heap →
    (∀ h' e, Heap.ExtBut it s.heap h' → (∃ o, h'.get? e = some o ∧ o.cls = .type "StopIteration") → E (.ref e) { s with heap := h' }) → wpAny (model prog w) B (Builtin.SmallTypes.nextOf (.ref it)) Q E s
theorem DrawsA.tuple {prog : Program} {w : World} (it t : Addr) (hne : t ≠ it) (items : Array Value) : DrawsA prog w it [it, t] items.size (fun i v => items[i]? = some v) (fun i h => h.IsTupleIter it t i ∧ h.IsTuple t items) :=
  ⟨fun B hB => Draws.tuple hB it t hne items, fun B hB i s Q E hi st hE => wpAny_nextOf_tuple_end hB st.1 st.2 (Array.getElem?_eq_none hi) hE⟩
theorem DrawsA.list {prog : Program} {w : World} (it l : Addr) (hne : l ≠ it) (items : Array Value) : DrawsA prog w it [it, l] items.size (fun i v => items[i]? = some v) (fun i h => h.IsListIter it l i ∧ h.IsList l items) :=
  ⟨fun B hB => Draws.list hB it l hne items, fun B hB i s Q E hi st hE => wpAny_nextOf_list_end hB st.1 st.2 (Array.getElem?_eq_none hi) hE⟩
theorem DrawsA.text {prog : Program} {w : World} (it : Addr) (x : Str) (t : Tok) : DrawsA prog w it [it] x.cps.size (fun i v => ∃ c u, x.cps[i]? = some c ∧ v = .str ⟨#[c]⟩ u) (fun i h => h.IsStrIter it (strIterType x) x t i) := by
  refine ⟨fun B hB => Draws.text hB it x t, fun B hB i s Q E hi st hE => ?_⟩
  have hx : x.cps[i]? = none := Array.getElem?_eq_none hi
  cases ha : x.cps.all (· < 128)
  · simp only [strIterType, ha, Bool.false_eq_true, if_false] at st
    exact wpAny_nextOf_wide_end hB st hx hE
  · simp only [strIterType, ha, if_true] at st
    exact wpAny_nextOf_ascii_end hB st hx hE
theorem DrawsA.but {it : Addr} {fp : List Addr} {n : Nat} {P : Nat → Value → Prop} {St : Nat → Heap → Prop} (D : DrawsA prog w it fp n P St) (hh : A.handled = none) {i : Nat} {h h' : Heap} {b : Addr} (st : St i h) (hb : b ∉ fp) (e : Heap.ExtBut b h h') : St i h' :=
  (D.d A hh).frame i h h' st fun c hc o q => e c o (fun z => hb (z ▸ hc)) q
theorem noe_ditem {it : Addr} {fp : List Addr} {n i : Nat} {P : Nat → Value → Prop} {St : Nat → Heap → Prop} {Q : Option Value → Shared → Prop} (D : DrawsA prog w it fp n P St) (hh : A.handled = none) (st : St i s.heap) (hi : i < n)
    (hQ : ∀ x h' tk, P i x → St (i + 1) h' → Heap.SameBut it s.heap h' → Q (some x) { s with heap := h', toks := tk }) : wpAny (model prog w) A (Builtin.SmallTypes.nextOrEnd (.ref it)) Q E s := by
  unfold Builtin.SmallTypes.nextOrEnd
  exact wpAny_bind (wpAny_attempt ((D.d _ hh).item i s _ _ hi st fun x h' tk a b c => wpAny_pure (hQ x h' tk a b c)))
theorem noe_dend {it : Addr} {fp : List Addr} {n : Nat} {P : Nat → Value → Prop} {St : Nat → Heap → Prop} {Q : Option Value → Shared → Prop} (D : DrawsA prog w it fp n P St) (hh : A.handled = none) {i : Nat} (hi : n ≤ i) (st : St i s.heap)
    (hQ : ∀ h', Heap.ExtBut it s.heap h' → Q none { s with heap := h' }) : wpAny (model prog w) A (Builtin.SmallTypes.nextOrEnd (.ref it)) Q E s := by
  unfold Builtin.SmallTypes.nextOrEnd
  refine wpAny_bind (wpAny_attempt ((D.e _ hh) i s _ _ hi st fun h' e hk he => ?_))
  obtain ⟨o, ho, hc⟩ := he
  refine wpAny_bind (wpAny_isInstance (T := "StopIteration") (b := true) ⟨o, ho, hc⟩ isSubtype_stop ?_)
  exact wpAny_pure (hQ h' hk)
variable {z TI TO i1 i2 : Addr} {f1 f2 : List Addr} {n1 n2 k : Nat} {P1 P2 : Nat → Value → Prop} {S1 S2 : Nat → Heap → Prop} {a b : Value}
theorem zipD_item {Q : Value → Shared → Prop} (hh : A.handled = none) (D1 : DrawsA prog w i1 f1 n1 P1 S1) (D2 : DrawsA prog w i2 f2 n2 P2 S2) (D : ZApart z TI TO i1 i2 f1 f2)
    (hz : IsZipS s.heap z TI TO .none) (hTI : IsPair s.heap TI (.ref i1) (.ref i2)) (hTO : IsPair s.heap TO a b) (h1 : S1 k s.heap) (h2 : S2 k s.heap) (hk1 : k < n1) (hk2 : k < n2)
    (hQ : ∀ h' x y tk, P1 k x → P2 k y → IsZipS h' z TI TO (rawInt s.heap.objs.size) → IsPair h' TO x y → S1 (k + 1) h' → S2 (k + 1) h' → IsPair h' s.heap.objs.size x y → h'.objs.size = s.heap.objs.size + 1 →
      (∀ c o, c ≠ z → c ≠ TO → c ≠ i1 → c ≠ i2 → s.heap.get? c = some o → h'.get? c = some o) → Q (.ref s.heap.objs.size) { s with heap := h', toks := tk }) :
    wpAny (model prog w) A (Builtin.«zip.__next__» ⟨[.ref z], []⟩) (fun fin s' => ∃ v, fin = .done (.ret v) ∧ Q v s') E s := by
  show wpAny _ _ (field (.ref z) 2 >>= _) _ _ _
  refine wpAny_bind (wpAny_field hz rfl (x := .bool true) rfl ?_)
  show wpAny _ _ (field (.ref z) 3 >>= _) _ _ _
  refine wpAny_bind (wpAny_field hz rfl (x := .ref TI) rfl (wpAny_bind (wpAny_seqItems hTI rfl ?_)))
  show wpAny _ _ (Builtin.SmallTypes.ownedTupleIsFree (.ref z) >>= _) _ _ _
  refine wpAny_bind ?_
  unfold Builtin.SmallTypes.ownedTupleIsFree
  refine wpAny_bind (wpAny_field hz rfl (x := .none) rfl (wpAny_pure ?_))
  simp only [if_true]
  refine wpAny_bind (wpAny_rule (wpAny_bind (wpAny_field hz rfl (x := .ref TO) rfl (wpAny_bind (wpAny_setField_rec hz (by simp) fun h₁ hz₁ hs₁ => ?_)))))
  replace hz₁ : IsZipS h₁ z TI TO .ellipsis := hz₁
  refine wpAny_bind ?_
  simp only [List.zipIdx_cons, List.zipIdx_nil, List.forIn_cons, List.forIn_nil]
  refine wpAny_bind (wpAny_bind (wpAny_onRaise ?_))
  show wpAny _ _ (Builtin.SmallTypes.nextOrEnd (.ref i1)) _ _ _
  refine noe_ditem D1 hh (D1.but hh h1 D.zf1 hs₁.extBut) hk1 fun x h₂ t2 px h1₂ hs₂ => ?_
  have hTO₂ : IsPair h₂ TO a b := hs₂.extBut _ _ D.TOi1 (hs₁.extBut _ _ D.TOz hTO)
  refine wpAny_bind (wpAny_seqItems hTO₂ rfl (wpAny_bind (wpAny_updateSeq_pair hTO₂ fun h₃ hTO₃ hs₃ => ?_)))
  replace hTO₃ : IsPair h₃ TO x b := hTO₃
  refine wpAny_bind (wpAny_letGo (wpAny_pure ?_))
  refine wpAny_bind (wpAny_bind (wpAny_onRaise ?_))
  show wpAny _ _ (Builtin.SmallTypes.nextOrEnd (.ref i2)) _ _ _
  refine noe_ditem D2 hh (D2.but hh (D2.but hh (D2.but hh h2 D.zf2 hs₁.extBut) D.i1f2 hs₂.extBut) D.TOf2 hs₃.extBut) hk2 fun y h₄ t4 py h2₄ hs₄ => ?_
  have hTO₄ : IsPair h₄ TO x b := hs₄.extBut _ _ D.TOi2 hTO₃
  refine wpAny_bind (wpAny_seqItems hTO₄ rfl (wpAny_bind (wpAny_updateSeq_pair hTO₄ fun h₅ hTO₅ hs₅ => ?_)))
  replace hTO₅ : IsPair h₅ TO x y := hTO₅
  refine wpAny_bind (wpAny_letGo (wpAny_pure (wpAny_pure ?_)))
  refine wpAny_bind (wpAny_seqItems hTO₅ rfl (wpAny_bind (wpAny_newTuple ?_)))
  have hsz : h₅.objs.size = s.heap.objs.size := by rw [hs₅.1, hs₄.1, hs₃.1, hs₂.1, hs₁.1]
  have hz₅ : IsZipS h₅ z TI TO .ellipsis := hs₅.extBut _ _ D.TOz.symm (hs₄.extBut _ _ D.i2z.symm (hs₃.extBut _ _ D.TOz.symm (hs₂.extBut _ _ D.i1z.symm hz₁)))
  have hk₅ : ∀ c o, c ≠ z → c ≠ TO → c ≠ i1 → c ≠ i2 → s.heap.get? c = some o → h₅.get? c = some o := fun c o c1 c2 c3 c4 e =>
    hs₅.extBut _ _ c2 (hs₄.extBut _ _ c4 (hs₃.extBut _ _ c2 (hs₂.extBut _ _ c3 (hs₁.extBut _ _ c1 e))))
  have h1₅ : S1 (k + 1) h₅ := D1.but hh (D1.but hh (D1.but hh h1₂ D.TOf1 hs₃.extBut) D.i2f1 hs₄.extBut) D.TOf1 hs₅.extBut
  have h2₅ : S2 (k + 1) h₅ := D2.but hh h2₄ D.TOf2 hs₅.extBut
  have hzlt : z < h₅.objs.size := Heap.lt_size hz₅
  show wpAny _ _ (Builtin.SmallTypes.ownedTupleHandOut (.ref z) (.ref h₅.objs.size) >>= _) _ _ _
  refine wpAny_bind ?_
  unfold Builtin.SmallTypes.ownedTupleHandOut
  have hz₆ : IsZipS (h₅.push { cls := .type "tuple", data := .seq #[x, y] }) z TI TO .ellipsis := Heap.get?_push_of_some _ hz₅
  refine wpAny_bind (wpAny_setField_rec hz₆ (by simp) fun h₇ hz₇ hs₇ => ?_)
  replace hz₇ : IsZipS h₇ z TI TO (rawInt h₅.objs.size) := hz₇
  refine wpAny_setField_rec hz₇ (by simp) fun h₈ hz₈ hs₈ => ?_
  replace hz₈ : IsZipS h₈ z TI TO (rawInt h₅.objs.size) := hz₈
  have up : ∀ c o, c ≠ z → h₅.get? c = some o → h₈.get? c = some o := fun c o c1 e => hs₈.extBut _ _ c1 (hs₇.extBut _ _ c1 (Heap.get?_push_of_some _ e))
  have hT₈ : IsPair h₈ h₅.objs.size x y := hs₈.extBut _ _ (Nat.ne_of_gt hzlt) (hs₇.extBut _ _ (Nat.ne_of_gt hzlt) (Heap.get?_push_size _ rfl))
  have hz8 : h₈.objs.size = h₅.objs.size + 1 := by rw [hs₈.1, hs₇.1, Heap.size_push]
  rw [hsz] at hz₈ hT₈ hz8
  refine wpAny_pure ⟨_, rfl, ?_⟩
  show Q (.ref h₅.objs.size) _
  rw [hsz]
  exact hQ h₈ x y _ px py hz₈ (up _ _ D.TOz hTO₅) ((D1.d A hh).frame _ _ _ h1₅ fun c hc o e => up c o (fun q => D.zf1 (q ▸ hc)) e) ((D2.d A hh).frame _ _ _ h2₅ fun c hc o e => up c o (fun q => D.zf2 (q ▸ hc)) e) hT₈ hz8 fun c o c1 c2 c3 c4 e => up c o c1 (hk₅ c o c1 c2 c3 c4 e)
theorem zipD_end {Q : Fin → Shared → Prop} (hh : A.handled = none) (D1 : DrawsA prog w i1 f1 n1 P1 S1) (D2 : DrawsA prog w i2 f2 n2 P2 S2) (hk1 : n1 ≤ k) (hk2 : n2 ≤ k) (D : ZApart z TI TO i1 i2 f1 f2)
    (hz : IsZipS s.heap z TI TO .none) (hTI : IsPair s.heap TI (.ref i1) (.ref i2)) (h1 : S1 k s.heap) (h2 : S2 k s.heap) (hTO : IsPair s.heap TO a b)
    (hE : ∀ h' e, (∀ c o, c ≠ z → c ≠ TO → c ≠ i1 → c ≠ i2 → s.heap.get? c = some o → h'.get? c = some o) → (∃ o, h'.get? e = some o ∧ o.cls = .type "StopIteration") → E (.ref e) { s with heap := h' }) :
    wpAny (model prog w) A (Builtin.«zip.__next__» ⟨[.ref z], []⟩) Q E s := by
  show wpAny _ _ (field (.ref z) 2 >>= _) _ _ _
  refine wpAny_bind (wpAny_field hz rfl (x := .bool true) rfl ?_)
  show wpAny _ _ (field (.ref z) 3 >>= _) _ _ _
  refine wpAny_bind (wpAny_field hz rfl (x := .ref TI) rfl (wpAny_bind (wpAny_seqItems hTI rfl ?_)))
  show wpAny _ _ (Builtin.SmallTypes.ownedTupleIsFree (.ref z) >>= _) _ _ _
  refine wpAny_bind ?_
  unfold Builtin.SmallTypes.ownedTupleIsFree
  refine wpAny_bind (wpAny_field hz rfl (x := .none) rfl (wpAny_pure ?_))
  simp only [if_true]
  refine wpAny_bind (wpAny_rule (wpAny_bind (wpAny_field hz rfl (x := .ref TO) rfl (wpAny_bind (wpAny_setField_rec hz (by simp) fun h₁ hz₁ hs₁ => ?_)))))
  replace hz₁ : IsZipS h₁ z TI TO .ellipsis := hz₁
  refine wpAny_bind ?_
  simp only [List.zipIdx_cons, List.zipIdx_nil, List.forIn_cons, List.forIn_nil]
  refine wpAny_bind (wpAny_bind (wpAny_onRaise ?_))
  show wpAny _ _ (Builtin.SmallTypes.nextOrEnd (.ref i1)) _ _ _
  refine noe_dend D1 hh hk1 (D1.but hh h1 D.zf1 hs₁.extBut) fun h₂ hs₂ => ?_
  have hz₂ : IsZipS h₂ z TI TO .ellipsis := hs₂ _ _ D.i1z.symm hz₁
  refine wpAny_bind (wpAny_setField_rec hz₂ (by simp) fun h₃ hz₃ hs₃ => ?_)
  have st2 : S2 k h₃ := D2.but hh (D2.but hh (D2.but hh h2 D.zf2 hs₁.extBut) D.i1f2 hs₂) D.zf2 hs₃.extBut
  have kk : ∀ c o, c ≠ z → c ≠ i1 → s.heap.get? c = some o → h₃.get? c = some o := fun c o c1 c3 e => hs₃.extBut _ _ c1 (hs₂ _ _ c3 (hs₁.extBut _ _ c1 e))
  refine wpAny_bind ?_
  show wpAny _ _ (forIn [((Value.ref i2, 1) : Value × Nat)] PUnit.unit _ >>= _) _ _ _
  simp only [List.forIn_cons, List.forIn_nil]
  refine wpAny_bind (wpAny_bind ?_)
  show wpAny _ _ (Builtin.SmallTypes.nextOrEnd (.ref i2) >>= _) _ _ _
  refine wpAny_bind (noe_dend D2 hh hk2 st2 fun h₄ hs₄ => ?_)
  rw [if_neg (by simp)]
  refine wpAny_pure (wpAny_pure ?_)
  refine wpAny_bind (wpAny_rule (stop_now hh fun h₅ e hk he => ?_))
  exact hE h₅ e (fun c o c1 c2 c3 c4 q => hk _ _ (hs₄ _ _ c4 (kk c o c1 c3 q))) he
theorem pyNext_zipD_item {Q : Option Value → Shared → Prop} (hh : A.handled = none) (D1 : DrawsA prog w i1 f1 n1 P1 S1) (D2 : DrawsA prog w i2 f2 n2 P2 S2) (D : ZApart z TI TO i1 i2 f1 f2)
    (hz : IsZipS s.heap z TI TO .none) (hTI : IsPair s.heap TI (.ref i1) (.ref i2)) (hTO : IsPair s.heap TO a b) (h1 : S1 k s.heap) (h2 : S2 k s.heap) (hk1 : k < n1) (hk2 : k < n2)
    (hQ : ∀ h' x y tk, P1 k x → P2 k y → IsZipS h' z TI TO (rawInt s.heap.objs.size) → IsPair h' TO x y → S1 (k + 1) h' → S2 (k + 1) h' → IsPair h' s.heap.objs.size x y → h'.objs.size = s.heap.objs.size + 1 →
      (∀ c o, c ≠ z → c ≠ TO → c ≠ i1 → c ≠ i2 → s.heap.get? c = some o → h'.get? c = some o) → Q (some (.ref s.heap.objs.size)) { s with heap := h', toks := tk }) : wpAny (model prog w) A (pyNext (.ref z)) Q E s := by
  have hT : s.TypeIs (.ref z) "zip" := ⟨_, hz, rfl⟩
  unfold pyNext
  exact wpAny_bind (wpAny_attempt (wpAny_callSpecial?_slot (name := Str.ofString "__next__") hT F.slot_zip_next (wpAny_call_entry F.slot_zip_next hT F.entry_zip_next
    (zipD_item hh D1 D2 D hz hTI hTO h1 h2 hk1 hk2 fun h' x y tk p1 p2 a1 a2 a3 a4 a5 a6 a7 => wpAny_pure (hQ h' x y tk p1 p2 a1 a2 a3 a4 a5 a6 a7)) (F.args_zip_next_1 _))))
theorem pyNext_zipD_end {Q : Option Value → Shared → Prop} (hh : A.handled = none) (D1 : DrawsA prog w i1 f1 n1 P1 S1) (D2 : DrawsA prog w i2 f2 n2 P2 S2) (hk1 : n1 ≤ k) (hk2 : n2 ≤ k) (D : ZApart z TI TO i1 i2 f1 f2)
    (hz : IsZipS s.heap z TI TO .none) (hTI : IsPair s.heap TI (.ref i1) (.ref i2)) (h1 : S1 k s.heap) (h2 : S2 k s.heap) (hTO : IsPair s.heap TO a b)
    (hQ : ∀ h', (∀ c o, c ≠ z → c ≠ TO → c ≠ i1 → c ≠ i2 → s.heap.get? c = some o → h'.get? c = some o) → Q none { s with heap := h' }) : wpAny (model prog w) A (pyNext (.ref z)) Q E s := by
  have hT : s.TypeIs (.ref z) "zip" := ⟨_, hz, rfl⟩
  unfold pyNext
  refine wpAny_bind (wpAny_attempt (wpAny_callSpecial?_slot (name := Str.ofString "__next__") hT F.slot_zip_next
    (wpAny_call_entry F.slot_zip_next hT F.entry_zip_next (zipD_end hh D1 D2 hk1 hk2 D hz hTI h1 h2 hTO fun h' e hk he => ?_) (F.args_zip_next_1 _))))
  obtain ⟨o, ho, hc⟩ := he
  exact wpAny_bind (wpAny_isInstance (T := "StopIteration") (b := true) ⟨o, ho, hc⟩ isSubtype_stop (wpAny_pure (hQ _ hk)))
end
end PySem

set_option Elab.async false
set_option linter.all false
set_option maxRecDepth 100000
set_option maxHeartbeats 4000000
namespace PySem
open Sem (wp)
noncomputable abbrev zg1 (h : Heap) (o1 : Obj) : Heap := h.push o1
noncomputable abbrev zg2 (h : Heap) (o1 o2 : Obj) : Heap := (zg1 h o1).push o2
noncomputable abbrev zg3 (h : Heap) (o1 o2 : Obj) : Heap := (zg2 h o1 o2).push { cls := .type "tuple", data := .seq #[.ref h.objs.size, .ref (zg1 h o1).objs.size] }
noncomputable abbrev zg4 (h : Heap) (o1 o2 : Obj) : Heap := (zg3 h o1 o2).push { cls := .type "tuple", data := .seq #[.none, .none] }
noncomputable abbrev zg5 (h : Heap) (o1 o2 : Obj) : Heap := (zg4 h o1 o2).push { cls := .type "zip", data := .fields #[.none, .bool false, .bool true, .ref (zg2 h o1 o2).objs.size, .ref (zg3 h o1 o2).objs.size] }
theorem meets_zipG_new (v1 v2 : Value) (o1 o2 : Obj) (H1 H2 : Heap → Prop) (B1 : Begins v1 o1 H1) (B2 : Begins v2 o2 H2) :
    Meets (Builtin.«zip.__new__» ⟨[.type "zip", v1, v2], [(Str.ofString "strict", .bool true)]⟩) (fun _ R s => H1 s.heap ∧ H2 s.heap ∧
      R (.ok (.ret (.ref (zg4 s.heap o1 o2).objs.size))) { s with heap := zg5 s.heap o1 o2 }) :=
  .of_wp fun prog w A R s h => by
    obtain ⟨hp, g, d, tk, os⟩ := s; obtain ⟨hl1, hl2, h⟩ := h
    have hsub := sub_zip
    have hL1 : H1 (Shared.heap ⟨hp, g, d, tk, os⟩) := hl1
    have hL2 : H2 (Shared.heap ⟨hp.push o1, g, d, tk, os⟩) := B2.keeps _ _ hl2 fun b o' e => Heap.get?_push_of_some _ e
    have e2 : (Str.ofString "strict" != ("strict" : Str)) = false := by decide +kernel
    have I1 := fun (A : Around) (E : Value → Shared → Prop) (Q : Value → Shared → Prop) q => B1.iter prog w A E ⟨hp, g, d, tk, os⟩ Q hL1 q
    have I2 := fun (A : Around) (E : Value → Shared → Prop) (Q : Value → Shared → Prop) q => B2.iter prog w A E ⟨hp.push o1, g, d, tk, os⟩ Q hL2 q
    wp_walk using I1, I2
    exact ⟨_, rfl, h⟩
section
variable {prog : Program} {w : World} {A : Around} {E : Value → Shared → Prop} {s : Shared}
theorem call_zipG {v1 v2 : Value} {o1 o2 : Obj} {H1 H2 : Heap → Prop} {Q : Value → Shared → Prop} (B1 : Begins v1 o1 H1) (B2 : Begins v2 o2 H2) (h1 : H1 s.heap) (h2 : H2 s.heap)
    (h : ∀ h', IsZipS h' (s.heap.objs.size + 4) (s.heap.objs.size + 2) (s.heap.objs.size + 3) .none → IsPair h' (s.heap.objs.size + 2) (.ref s.heap.objs.size) (.ref (s.heap.objs.size + 1)) →
      IsPair h' (s.heap.objs.size + 3) .none .none → h'.get? s.heap.objs.size = some o1 → h'.get? (s.heap.objs.size + 1) = some o2 → (∀ c o, s.heap.get? c = some o → h'.get? c = some o) → Q (.ref (s.heap.objs.size + 4)) { s with heap := h' }) :
    wpAny (model prog w) A (call (.type "zip") [v1, v2] [(Str.ofString "strict", .bool true)]) Q E s := by
  refine callType_newKw F.called_zip (by decide) (F.typeCall_zip_strict _ _ _) (F.newCall_zip_strict _ _ _) (fun obj => F.args_init_strict obj _ _ _) F.entry_zip_new (meets_zipG_new v1 v2 o1 o2 H1 H2 B1 B2) ⟨h1, h2, ?_⟩
  have z1 : (zg1 s.heap o1).objs.size = s.heap.objs.size + 1 := Heap.size_push ..
  have z2 : (zg2 s.heap o1 o2).objs.size = s.heap.objs.size + 2 := by rw [Heap.size_push, z1]
  have z3 : (zg3 s.heap o1 o2).objs.size = s.heap.objs.size + 3 := by rw [Heap.size_push, z2]
  have z4 : (zg4 s.heap o1 o2).objs.size = s.heap.objs.size + 4 := by rw [Heap.size_push, z3]
  have g5 : (zg5 s.heap o1 o2).get? (zg4 s.heap o1 o2).objs.size = some _ := Heap.get?_push_size _ rfl
  have g4 : (zg5 s.heap o1 o2).get? (zg3 s.heap o1 o2).objs.size = some _ := Heap.get?_push_of_some _ (Heap.get?_push_size _ rfl)
  have g3 : (zg5 s.heap o1 o2).get? (zg2 s.heap o1 o2).objs.size = some _ := Heap.get?_push_of_some _ (Heap.get?_push_of_some _ (Heap.get?_push_size _ rfl))
  have g2 : (zg5 s.heap o1 o2).get? (zg1 s.heap o1).objs.size = some o2 := Heap.get?_push_of_some _ (Heap.get?_push_of_some _ (Heap.get?_push_of_some _ (Heap.get?_push_size _ B2.free)))
  have g1 : (zg5 s.heap o1 o2).get? s.heap.objs.size = some o1 := Heap.get?_push_of_some _ (Heap.get?_push_of_some _ (Heap.get?_push_of_some _ (Heap.get?_push_of_some _ (Heap.get?_push_size _ B1.free))))
  show _ ∧ _
  rw [z2, z3, z4] at g5
  rw [z1, z2] at g3
  rw [z3] at g4
  rw [z1] at g2
  rw [z4]
  exact ⟨⟨_, g5, rfl⟩, h _ g5 g3 g4 g1 g2 fun c o e => Heap.get?_push_of_some _ (Heap.get?_push_of_some _ (Heap.get?_push_of_some _ (Heap.get?_push_of_some _ (Heap.get?_push_of_some _ e))))⟩
end
theorem zapart (n b : Addr) (hb : b < n) : ZApart (n + 4) (n + 2) (n + 3) n (n + 1) [n] [n + 1, b] := by
  have e : ∀ k : Nat, n + k ≠ b := fun k h => absurd (Nat.lt_of_lt_of_le hb (Nat.le_add_right n k)) (by rw [h]; exact Nat.lt_irrefl _)
  have ne : ∀ i j : Nat, i ≠ j → n + i ≠ n + j := fun i j h q => h (Nat.add_left_cancel q)
  have n0 : ∀ i : Nat, i ≠ 0 → n + i ≠ n := fun i h q => h (Nat.add_eq_left.mp q)
  have nb : n ≠ b := by have := e 0; simpa using this
  constructor
  · exact ne 2 4 (by decide)
  · exact ne 3 4 (by decide)
  · exact (n0 4 (by decide)).symm
  · exact ne 1 4 (by decide)
  · exact ne 2 3 (by decide)
  · exact n0 2 (by decide)
  · exact ne 2 1 (by decide)
  · exact n0 3 (by decide)
  · exact ne 3 1 (by decide)
  · exact (n0 1 (by decide)).symm
  · exact fun h => n0 4 (by decide) (List.mem_singleton.mp h)
  · intro h
    rcases List.mem_cons.mp h with h | h
    · exact ne 4 1 (by decide) h
    · exact e 4 (List.mem_singleton.mp h)
  · exact fun h => n0 3 (by decide) (List.mem_singleton.mp h)
  · intro h
    rcases List.mem_cons.mp h with h | h
    · exact ne 3 1 (by decide) h
    · exact e 3 (List.mem_singleton.mp h)
  · intro h
    rcases List.mem_cons.mp h with h | h
    · exact n0 1 (by decide) h.symm
    · exact nb (List.mem_singleton.mp h)
  · exact fun h => n0 1 (by decide) (List.mem_singleton.mp h)
end PySem
namespace TG
open PySem L2 PyProof.Rows
noncomputable def zipTD (z : Str) (r : List D) : List W := (z.cps.toList.zip r).map fun p => W.d (.tup [.str ⟨#[p.1]⟩, p.2])

noncomputable def kZipST : List W → S → Res (List W) := fun ws s => match ws with
  | [.d (.str z), .d (.tup r)] => if z.cps.size = r.length then .ok (zipTD z r) s else .no
  | _ => .no
noncomputable def eZipST (a : Cmp (List W)) : Cmp (List W) := fun ρ s => (a ρ s).bind kZipST
section
variable {X : Cx} {cl : Str → Option Addr} {Wx : WX} {e e2 : Expr} {elts : List Expr} {kk j : Nat} {tpos pos p kp cp : Pos} {el : Cmp (List W)}
end

section
variable {X : Cx} {cl : Str → Option Addr} {Wx : WX} {e e2 : Expr} {elts : List Expr} {kk j : Nat} {tpos pos p kp cp : Pos} {el : Cmp (List W)}
end
end TG

set_option Elab.async false
set_option linter.all false
set_option maxRecDepth 100000
set_option maxHeartbeats 4000000
namespace TG
open PySem PySem.Spec PyProof.Rows L2
section
variable {X : Cx} {d : Addr} {es : Array DictEntry} {n : Nat} {l : List (Str × Str)}
variable {cl : Str → Option Addr} {Wx : WX} {e : Expr} {pos p : Pos} {ea : Cmp TG.W} {nm : Str}
variable {pos p : Pos}
end
end TG

set_option linter.all false
set_option maxRecDepth 100000
namespace TG
open PySem L2
end TG

set_option linter.all false
set_option maxRecDepth 100000
namespace TG
open PySem L2
noncomputable def sI (i : Int) : Str := Str.ofString (toString i)
theorem smI_log {i : Int} (h : smI i) : i.natAbs.log2 < 1920 := by
  unfold smI at h
  by_cases h0 : i.natAbs = 0
  · rw [h0]; decide
  · rw [Nat.log2_lt h0]
    refine Nat.lt_of_lt_of_le h ?_
    rw [show (2 : Nat) ^ 1920 = 2 ^ 100 * 2 ^ 1820 from (Nat.pow_add 2 100 1820).symm ▸ rfl]
    exact Nat.le_trans (by decide) (Nat.le_mul_of_pos_right _ (Nat.two_pow_pos _))
theorem sI_len {i : Int} (h : smI i) : (sI i).length ≤ 31 := by
  unfold sI
  rw [ofString_length]
  exact int_text_length_le10 (k := 30) (by decide) h
theorem fStr_sI {i : Int} (h : smI i) (s : S) : fStr (.d (.int i)) s = .ok (.d (.str (sI i))) s := by
  show (if i.natAbs.log2 < 1920 then Res.ok (W.d (.str (Str.ofString (toString i)))) s else .no) = _
  rw [if_pos (smI_log h)]
  rfl
theorem sum_le (ps : List Str) (B : Nat) (h : ∀ p ∈ ps, p.length ≤ B) : (ps.map fun z : Str => z.length).sum ≤ ps.length * B := by
  induction ps with
  | nil => simp
  | cons p r ih =>
    have h1 := h p (by simp)
    have h2 := ih fun q hq => h q (List.mem_cons_of_mem _ hq)
    simp only [List.map_cons, List.sum_cons, List.length_cons]
    have : (r.length + 1) * B = r.length * B + B := Nat.succ_mul _ _
    omega
theorem kJoin2_strs (y : Str) (l : List Str) (s : S) (h : (l.map fun z : Str => z.length).sum + l.length * y.length ≤ 16777216) : kJoin2 y (.d (.lst (l.map .str))) s = .ok (.d (.str (Txt.join y l))) s := by
  show (match asStrs (wD (l.map .str)) with | some ys => if (ys.map fun z : Str => z.length).sum + ys.length * y.length ≤ 16777216 then Res.ok (W.d (.str (Txt.join y ys))) s else .no | none => .no) = _
  have : asStrs (wD (l.map D.str)) = some l := by
    clear h
    induction l with
    | nil => rfl
    | cons d l ih =>
      show (asStrs (wD (l.map D.str))).map (d :: ·) = _
      rw [ih]
      rfl
  rw [this]
  dsimp only
  rw [if_pos h]
inductive Part where
  | n (i : Int) | l (r : List Int) | t (d : D)
noncomputable def Part.d : Part → D | .n i => .int i | .l r => .tup (r.map .int) | .t d => d
noncomputable def Part.k : Part → Nat | .n _ => 110 | .l _ => 108 | .t _ => 116
noncomputable def Part.ok : Part → Prop | .n i => smI i | .l r => (∀ x ∈ r, smI x) ∧ 1 ≤ r.length ∧ r.length ≤ 48 | .t d => goodT d = true
theorem smI_small {i : Int} (h0 : -1000 ≤ i) (h1 : i ≤ 1000) : smI i := by unfold smI; omega
end TG

set_option linter.all false
set_option maxRecDepth 100000
namespace TG
open PySem L2
@[simp] theorem eZipST_eq (a : Cmp (List W)) (ρ : Rho) (s : S) : eZipST a ρ s = (a ρ s).bind kZipST := (rfl)
theorem addLst (k l : List D) (s : S) (h : k.length + l.length ≤ 16777216) : fAdd (.d (.lst k)) (.d (.lst l)) s = .ok (.d (.lst (k ++ l))) s := by
  have e : fAdd (.d (.lst k)) (.d (.lst l)) s = catL (wD k) (wD l) s := rfl
  rw [e]
  have e2 : catL (wD k) (wD l) s = if (wD k).length + (wD l).length ≤ 16777216 then (match allData (wD k ++ wD l) with | some ds => Res.ok (W.d (.lst ds)) s | none => .no) else .no := rfl
  rw [e2, if_pos (by unfold wD; simp; omega)]
  have e3 : wD k ++ wD l = wD (k ++ l) := by unfold wD; simp
  rw [e3, allData_wD]
@[simp] theorem pd_n (i : Int) : (Part.n i).d = .int i := (rfl)
@[simp] theorem pd_l (r : List Int) : (Part.l r).d = .tup (r.map .int) := (rfl)
@[simp] theorem pd_t (d : D) : (Part.t d).d = d := (rfl)
end TG

set_option linter.all false
set_option maxRecDepth 100000
namespace TG
open PySem L2
theorem ok_ofString (x : String) : PyData.strOk (Str.ofString x) = true := by
  unfold PyData.strOk
  rw [← Array.all_toList, List.all_eq_true]
  intro c hc
  have e := TL.tl_ofString x
  have hc : c ∈ TL.tl (Str.ofString x) := hc
  rw [e] at hc
  obtain ⟨k, _, rfl⟩ := List.mem_map.mp hc
  have := k.valid
  have h2 : k.toNat < 1114112 := by
    rcases k.valid with h | h
    · exact Nat.lt_trans h (by decide)
    · exact h.2
  exact decide_eq_true h2
theorem ok_join (y : Str) : ∀ ps : List Str, PyData.strOk y = true → (∀ p ∈ ps, PyData.strOk p = true) → PyData.strOk (Txt.join y ps) = true
  | [], _, _ => by
    rw [TL.join_eq]
    show PyData.strOk "" = true
    decide +kernel
  | [p], _, h => by rw [TL.join_eq]; exact h p (by simp)
  | p :: q :: r, hy, h => by
    have ih := ok_join y (q :: r) hy fun z hz => h z (List.mem_cons_of_mem _ hz)
    rw [TL.join_eq] at ih ⊢
    show PyData.strOk (p ++ y ++ Str.join y (q :: r)) = true
    rw [strOk_app, strOk_app, h p (by simp), hy, ih]
    rfl
section
variable {s : S} {n i j p q : Nat} {hs gs : List D} {F : FaL} {m : Int}
end
end TG

set_option linter.all false
set_option maxRecDepth 100000
namespace TG
open PySem L2
end TG

set_option Elab.async false
set_option linter.all false
set_option maxRecDepth 100000
set_option maxHeartbeats 4000000
namespace TG
open PySem PySem.Spec PyProof.Rows L2
section
variable {X : Cx} {cl : Str → Option Addr} {Wx : WX} {e o tg : Expr} {p2 p3 : Pos} {eo ea : Cmp TG.W}
end
end TG

set_option Elab.async false
set_option linter.all false
set_option maxRecDepth 100000
set_option maxHeartbeats 4000000
namespace TG
open PySem PySem.Spec PyProof.Rows L2
noncomputable def dicAll (es : List (Key × TG.D)) : List (Key × TG.D) → Bool
  | [] => true
  | (k, d) :: r => match getK es k with | none => false | some e => PyData.eqv d.py e.py && dicAll es r
noncomputable def dicEqB (ds es : List (Key × TG.D)) : Bool := (ds.length == es.length) && dicAll es ds
inductive KDp (K : PySem.W.Frag) (H : Hp) : List (Key × V) → List (Key × TG.D) → Prop
  | nil : KDp K H [] []
  | cons {k : Key} {v : V} {d : TG.D} {vs : List (Key × V)} {l : List (Key × TG.D)} (h : Dp K H v d.py) (t : KDp K H vs l) : KDp K H ((k, v) :: vs) ((k, d) :: l)
theorem KDp.length {K : PySem.W.Frag} {H : Hp} : ∀ {vs l}, KDp K H vs l → vs.length = l.length
  | _, _, .nil => rfl
  | _, _, .cons _ t => by simp [t.length]
theorem KDp.val {K : PySem.W.Frag} {H : Hp} (k : Key) : ∀ {vs l}, KDp K H vs l → (valV vs k = none ∧ getK l k = none) ∨ ∃ v d, valV vs k = some v ∧ getK l k = some d ∧ Dp K H v d.py ∧ ∃ q, (q, d) ∈ l
  | _, _, .nil => .inl ⟨rfl, rfl⟩
  | _, _, .cons (k := k') (v := v) (d := d) (vs := vs) (l := l) h t => by
    by_cases e : k' = k
    · subst e
      exact .inr ⟨v, d, by simp [valV], by simp [getK], h, k', by simp⟩
    · rcases t.val k with ⟨a, b⟩ | ⟨v', d', a, b, c, q, hq⟩
      · exact .inl ⟨by simp [valV, e] at a ⊢; exact a, by simp [getK, e, b]⟩
      · exact .inr ⟨v', d', by simp [valV, e] at a ⊢; exact a, by simp [getK, e, b], c, q, List.mem_cons_of_mem _ hq⟩
section
variable {X : Cx} {cl : Str → Option Addr} {Wx : WX} {o : Expr} {apos pos : Pos} {eo : Cmp TG.W} {k : Nat} {c m : Str} {ps : List Str} {f : Sem1} {pl : Sem Bool}
end
end TG

set_option linter.all false
set_option maxRecDepth 100000
namespace TG
open PySem L2
noncomputable def b_Workshop_eq : Stm :=
  (sRet (eAndV (eUn (fIsOC "Workshop") (eVar 1)) (eBin (fEq false) (eMeth "Workshop" "facts" f_Workshop_facts (eVar 0) eNil) (eMeth "Workshop" "facts" f_Workshop_facts (eVar 1) eNil))))
noncomputable def f_Workshop_eq : Sem1 := runF 2 2 b_Workshop_eq
end TG

set_option Elab.async false
set_option linter.all false
set_option maxRecDepth 100000
set_option maxHeartbeats 4000000
namespace TG
open PySem PySem.Spec PyProof.Rows L2
noncomputable def textOf (d : TG.D) : Option Str := match d with
  | .lst l => if SeqAt.shaped (TG.D.lst l).py = true ∧ (TG.D.lst l).py.showable = true ∧ (TG.D.lst l).py.shown.length ≤ 16777216 then some (TG.D.lst l).py.shown else none
  | _ => none
section
variable {K : PySem.W.Frag} {cl : Str → Option Addr} {H0 H : Hp} {m : List Addr} {s : S}
end
noncomputable def rRepr (K : PySem.W.Frag) : List V → Hp → VK → Prop := fun xs H Q => ∃ (p : Addr) (d : PyData), xs = [.ref p] ∧ Dp K H (.ref p) d ∧ SeqAt.shaped d = true ∧ d.showable = true ∧ d.shown.length ≤ 16777216 ∧ Q (.str d.shown) H
theorem call_reprD {X : Cx} (hg : X.A.guards = some []) (hu : X.A.units + 65 < cLine) : CallR X (.builtin "repr") (rRepr X.K) := by
  intro pins s σ H xs us Q I r h
  obtain ⟨p, d, rfl, dp, sh, sw, sz, q⟩ := h
  obtain ⟨u, rfl, ru⟩ := vals1 r
  obtain rfl : u = Value.ref p := ru
  obtain ⟨as, rd⟩ := Dp.reads I d (.ref p) (.ref p) dp rfl
  have c0 := SeqAt.canLay_of_shaped sh
  have dd : d.depth ≤ 64 := by
    have := sh
    unfold SeqAt.shaped at this
    simp only [Bool.and_eq_true, decide_eq_true_eq] at this
    omega
  refine repr_of_reads' rd sw (PyData.noDict_hsm (PyData.hasDict_of_canLay d c0)) hg (by omega) (fun _ _ e => e) (fun h' u tk k => ?_) (by rw [sizeLine_eq]; exact sz)
  exact ⟨.str d.shown, H, I.kept k, ⟨u, rfl⟩, q⟩
structure FnOkG (P : Program) (w : World) (K : PySem.W.Frag) (mg : Str → Option Value) (base : Heap) (CX : CXT) (k : Nat) (f : Addr) (fd : FuncData) (ps : List Str) (sp : Sp) : Prop where
  len : ∀ vs H Q E, sp vs H Q E → vs.length = ps.length
  run : ∀ (A : Around) (outer : List Env) (s : Shared) (H : Hp) (args : Args) (us : List Value) (vs : List V) (Q : VK) (E : XK), A.guards = some [] → Room k A → Env0 P w K mg base A outer s H → BindsTo s fd args (ps.zip us) → Vals vs us → sp vs H Q E →
    codeAny (model P w) A (.call (.ref f) args) (CR CX outer P w H s Q E) s
theorem FnOkG.imp {P : Program} {w : World} {K : PySem.W.Frag} {mg : Str → Option Value} {base : Heap} {CX : CXT} {k : Nat} {f : Addr} {fd : FuncData} {ps : List Str} {sp sp' : Sp} (F : FnOkG P w K mg base CX k f fd ps sp)
    (h : ∀ vs H Q E, sp' vs H Q E → sp vs H Q E) : FnOkG P w K mg base CX k f fd ps sp' :=
  ⟨fun vs H Q E q => F.len vs H Q E (h _ _ _ _ q), fun A outer s H args us vs Q E hg hr he hb hv hs => F.run A outer s H args us vs Q E hg hr he hb hv (h _ _ _ _ hs)⟩
section
variable {P : Program} {w : World} {K : PySem.W.Frag} {mg : Str → Option Value} {base : Heap} {cl : Str → Option Addr}
theorem funG {x qual : Str} {st : Stmt} {f : Addr} {fd : FuncData} {N ps : List Str} {k : Nat} {sp : Sp} (F : L2.Fun K x qual st f fd) (S : FnScope N ps (defScope st)) (hlen : ∀ vs H Q E, sp vs H Q E → vs.length = ps.length)
    (hb : ∀ (cdv : Value) (A : Around) (outer : List Env) (s : Shared) (H : Hp) (vs : List V) (Q : VK) (E : XK), A.guards = some [] → Room k (A.deeper (envOfC qual (defScope st) s.heap.objs.size f cdv)) → sp vs H Q E →
      ∃ t, PSs (cxOf (L2.CX P w) P w K mg base N qual (defScope st) f cdv A outer s H E) (defBody st) t ∧ t { nx := fun _ H' => Q .non H', rt := Q } (start N vs) H) : FnOkG P w K mg base (L2.CX P w) (k + 1) f fd ps sp := by
  obtain ⟨oc, od, kV, doc, pm, an, cdv, ct, osl, rfl, lk, hcd⟩ := F.ex
  constructor
  · exact hlen
  intro A outer s0 H args us vs Q E gd room env bnd rel hsp
  have elen := hlen _ _ _ _ hsp
  have inK := env.mod.kin.keeps (h' := s0.heap) (fun b o z => (env.bs b o z).1)
  have nol := env.mod.nolimit.keeps (h' := s0.heap) (fun b o z => (env.bs b o z).1)
  have vis : ∀ y ∈ ps.zip us, (defScope st).names.lookup y.1 = some .local ∨ ((defScope st).names.lookup y.1 = some .cell ∧ ((cellsFrom (s0.heap.objs.size + 1) (defScope st).names []).lookup y.1).isSome = true) := by
    rintro ⟨n, v⟩ hy
    cases S.par n (List.of_mem_zip hy).1 with
    | inl q => exact Or.inl q
    | inr q => exact Or.inr ⟨q, PySem.W.cellsFrom_some _ _ _ (Or.inl q)⟩
  apply codeAny_call_function room.depth (inK _ _ lk) rfl S.co S.gen rfl (PySem.W.codeRec_of inK hcd) (bnd _ _ _ _ _)
  apply wpAny_newFunctionEnv_cells S.kind vis
  intro en hen s1 made
  cases hen
  refine ⟨nol.keeps made.toInCall.keep, codeAny_func ?_⟩
  obtain ⟨t, run, post⟩ := hb cdv A outer s0 H vs Q E gd (room.deeper _) hsp
  have inv := inv_start (CX := L2.CX P w) (E := E) S room.hd env elen rel made
  refine wpAny_mono (run.run [] s1 (start N vs) H _ inv post) ?_ (fun _ _ z => z)
  intro fl s' hs
  cases fl with
  | brk => obtain ⟨_, _, _, z⟩ := hs; exact z.elim
  | cont => obtain ⟨_, _, _, z⟩ := hs; exact z.elim
  | next =>
    obtain ⟨σ', H', J, z⟩ := hs
    exact ⟨.non, H', J.os, J.bare, J.base, J.hok, rfl, z⟩
  | ret u =>
    obtain ⟨v, σ', H', J, rv, z⟩ := hs
    exact ⟨v, H', J.os, J.bare, J.base, J.hok, rv, z⟩
theorem fn_okG {x qual : Str} {st : Stmt} {f : Addr} {fd : FuncData} {N ps : List Str} {k : Nat} {b : Stm} (F : L2.Fun K x qual st f fd) (S : FnScope N ps (defScope st))
    (h : ∀ (cdv : Value) (A : Around) (outer : List Env) (s : Shared) (H : Hp) (E : XK), A.guards = some [] → Room k (A.deeper (envOfC qual (defScope st) s.heap.objs.size f cdv)) →
      XOk (cxOf (L2.CX P w) P w K mg base N qual (defScope st) f cdv A outer s H E) (wxE E) → JB cl (wxE E) (cxOf (L2.CX P w) P w K mg base N qual (defScope st) f cdv A outer s H E) (defBody st) b) :
    FnOkG P w K mg base (L2.CX P w) (k + 1) f fd ps (spOf K cl (runF ps.length N.length b)) := by
  have len : ∀ {vs : List V} {H : Hp} {Q : VK} {E : XK}, spOf K cl (runF ps.length N.length b) vs H Q E → vs.length = ps.length := fun {vs H Q E} ⟨H0, m, s, ws, _, r, q⟩ => by
    by_cases hl : ws.length = ps.length
    · rw [r.length, hl]
    · unfold runF at q
      rw [if_neg hl] at q
      exact q.elim
  refine funG F S (fun vs H Q E h => len h) fun cdv A outer s H vs Q E gd hr hsp => ?_
  have hl := len hsp
  refine ⟨_, h cdv A outer s H E gd hr ⟨takes_of rfl rfl rfl rfl, passes_of rfl, S.nd⟩, ?_⟩
  obtain ⟨H0, m, s', ws, st', rw', q⟩ := hsp
  have hlw : ws.length = ps.length := by rw [← rw'.length]; exact hl
  unfold runF at q
  rw [if_pos hlw] at q
  refine ⟨H0, m, [], s', ws.map .w ++ List.replicate (N.length - ps.length) .no, ⟨st', ?_⟩, ?_⟩
  · show EnvR K cl H0 H m [] (vs.map some ++ List.replicate (N.length - vs.length) none) _
    rw [hl]
    exact rw'.slot _
  · have g0 : ∀ {H0' H' : Hp} {m' ow' : List Addr}, Go H0 H m [] H0' H' m' ow' → GoE H0 H m H0' H' m' := fun g => ⟨g.s0, g.pre, g.fr, g.dom, g.n0, g.nm, fun a z => by cases z⟩
    cases e1 : b (ws.map .w ++ List.replicate (N.length - ps.length) .no) s' with
    | nx ρ s2 => rw [e1] at q; exact fun σ' H0' H' m' ow' g c => q _ _ _ _ (g0 g) c.st Rep.non
    | ret v s2 => rw [e1] at q; exact fun u H0' H' m' ow' g st r => q u _ _ _ (g0 g) st r
    | exc c x ρ s2 => rw [e1] at q; exact fun cv dd σ' H0' H' m' ow' g c e => q _ _ _ _ _ (g0 g) c.st e
    | brk ρ s2 => rw [e1] at q; exact q.elim
    | cnt ρ s2 => rw [e1] at q; exact q.elim
    | no => rw [e1] at q; exact q.elim
theorem law_okG {k : Nat} {f : Addr} {fd : FuncData} {ps : List Str} {g : Sem1} (F : FnOkG P w K mg base (L2.CX P w) k f fd ps (spOf K cl g)) (h : ∀ ns : List Int, ns.length ≤ 63 → ∃ s', g [.d (.scr (ns.map D.int))] [] = .ok (.w (.d (.bl true))) s') :
    FnOkG P w K mg base (L2.CX P w) k f fd ps (spLaw K) := F.imp fun vs H Q E ⟨a, ns, e, hS, hl, q⟩ => by
  subst e
  obtain ⟨s', e⟩ := h ns hl
  refine ⟨H, [], [], [.d (.scr (ns.map D.int))], ⟨Same.refl _, rfl, by simp, fun n a c h1 h2 => by simp at h1⟩, .cons (Rep.scr hS (Reps.ints ns)) .nil, ?_⟩
  rw [e]
  intro v H0' H' m' g st r
  cases r
  exact q H'
end
end TG

set_option Elab.async false
set_option linter.all false
set_option maxRecDepth 100000
set_option maxHeartbeats 4000000
namespace TG
open PySem PySem.Spec PyProof.Rows L2
section
variable {P : Program} {w : World} {K : PySem.W.Frag} {mg mb : Str → Option Value} {k : Nat} {fa a : Addr} {fd : FuncData} {x : Str} {s1 : Shared} {ns : List Int} {sp : Sp}
structure Alone (K : PySem.W.Frag) (H : Hp) (h : Heap) (a : Addr) : Prop where
  one : ∀ b, H b ≠ none → b = a
  out : H a ≠ none → K.lookup a = none
theorem Alone.none {H : Hp} {h : Heap} (z : Alone K H h a) {b : Addr} (hb : b ≠ a) : H b = none := Classical.byContradiction fun q => hb (z.one b q)
theorem callG_at {H : Hp} {items : Array Value} (KX : K.In s1.heap) (hns : s1.heap.Ns mainGlobals mg) (hb : s1.heap.Ns builtinsNs mb) (hbb : ∀ x : Str, x ≠ "__name__" → mb x = bootBuiltins x) (hlim : s1.heap.NoLimit) (hg : s1.gens = #[])
    (ha : s1.heap.get? a = some { cls := .type "list", data := .seq items }) (hr : Room k callerA) (hbind : ∀ (s : Shared) (u : Value), BindsTo s fd ⟨[u], []⟩ [(x, u)])
    (F : ∀ base : Heap, K.In base → base.Ns mainGlobals mg → FnOkG P w K mg base (L2.CX P w) k fa fd [x] sp) (hO : Only H) (al : Alone K H s1.heap a) (hok : HOk P w H s1.heap)
    (hsp : sp [.ref a] H (fun v _ => v = .bl true) fun _ _ _ => False) :
    codeAny (model P w) callerA (.call (.ref fa) ⟨[.ref a], []⟩) (fun r s' => r = .ok (.ret (.bool true)) ∧ OldK s1.heap s'.heap ∧ s'.os = s1.os ∧ AllBare s'.gens) s1 := by
  have dictFree : ∀ {b : Addr} {o : Obj} {es : Array DictEntry} {n : Nat}, s1.heap.get? b = some o → o.data = .dict es n → H b = none := by
    intro b o es n h1 h2
    apply al.none
    rintro rfl
    rw [ha] at h1
    injection h1 with h1
    subst h1
    cases h2
  have ns' : ∀ {b : Addr} {f : Str → Option Value}, s1.heap.Ns b f → (hidT s1.heap H).Ns b f := by
    rintro b f ⟨o, es, n, h1, h2, h3⟩
    exact ⟨o, es, n, hidT_get h1 (dictFree h1 h2), h2, h3⟩
  have kin : K.In (hidT s1.heap H) := by
    intro b o hb
    refine hidT_get (KX b o hb) (Classical.byContradiction fun q => ?_)
    have e := al.one b q
    subst e
    rw [al.out q] at hb
    cases hb
  obtain ⟨ml, hl1, hl2⟩ := hlim
  have env : Env0 P w K mg (hidT s1.heap H) callerA [] s1 H :=
    { frames := rfl, mod := ⟨kin, ns' hns, ⟨mb, ns' hb, hbb⟩, ⟨ml, ns' hl1, hl2⟩⟩, bs := (fun b o e => of_hidT e), bsz := Nat.le_of_eq (hidT_size _ _), funs := trivial, frf := (fun b hb => by cases hb), hok := hok, bare := .of_eq hg }
  refine codeAny_mono ((F _ kin (ns' hns)).run callerA [] s1 H ⟨[.ref a], []⟩ [.ref a] [.ref a] _ _ rfl hr env (hbind s1 (.ref a)) (.cons rfl .nil) hsp) ?_
  intro r s' out
  cases r with
  | error e => exact (cx_false H s1 e s' out).elim
  | ok fl =>
    cases fl with
    | brk => exact out.elim
    | cont => exact out.elim
    | next => exact out.elim
    | ret u =>
      obtain ⟨v, H', e1, e2, un, ok', rv, e3⟩ := out
      have e3 : v = .bl true := e3
      subst e3
      have rv : u = Value.bool true := rv
      subst rv
      refine ⟨rfl, OldK.of_keep ?_, e1, e2⟩
      intro b o hbo
      rcases hO b with q | ⟨ob, xs, q⟩
      · exact un.keep b o hbo q (fun z => by cases z) (fun z => by cases z)
      · have h1 := (hok b _ q).1
        have h2 := (ok' b _ (un.frzs b ob _ q)).1
        rw [hbo] at h1
        injection h1 with h1
        rw [h2, h1]
theorem callG {vs : List Value} (KX : K.In s1.heap) (hns : s1.heap.Ns mainGlobals mg) (hb : s1.heap.Ns builtinsNs mb) (hbb : ∀ x : Str, x ≠ "__name__" → mb x = bootBuiltins x) (hlim : s1.heap.NoLimit) (hg : s1.gens = #[])
    (ha : s1.heap.get? a = some { cls := .type "list", data := .seq vs.toArray }) (hi : IntsAre vs ns) (hn : ns.length ≤ sizeLine) (hr : Room k callerA) (hbind : ∀ (s : Shared) (u : Value), BindsTo s fd ⟨[u], []⟩ [(x, u)])
    (F : ∀ base : Heap, K.In base → base.Ns mainGlobals mg → FnOkG P w K mg base (L2.CX P w) k fa fd [x] sp)
    (hsp : ∀ H : Hp, Only H → SqL K H a (ns.map V.int) → sp [.ref a] H (fun v _ => v = .bl true) fun _ _ _ => False) :
    codeAny (model P w) callerA (.call (.ref fa) ⟨[.ref a], []⟩) (fun r s' => r = .ok (.ret (.bool true)) ∧ OldK s1.heap s'.heap ∧ s'.os = s1.os ∧ AllBare s'.gens) s1 := by
  have rv := vals_ints hi
  by_cases hk : K.lookup a = none
  · let H : Hp := fun b => if b = a then some (.frz { cls := .type "list", data := .seq vs.toArray } (.lst (ns.map V.int))) else none
    have at_ : H a = some (.frz { cls := .type "list", data := .seq vs.toArray } (.lst (ns.map V.int))) := if_pos rfl
    have off : ∀ {b}, b ≠ a → H b = none := fun h => if_neg h
    have only : Only H := fun b => by
      by_cases e : b = a
      · subst e; exact Or.inr ⟨_, _, at_⟩
      · exact Or.inl (off e)
    refine callG_at (H := H) KX hns hb hbb hlim hg ha hr hbind F only ⟨fun b q => Classical.byContradiction fun e => q (off e), fun _ => hk⟩ ?_ (hsp H only (.inl (.inr ⟨_, at_⟩)))
    intro b u hu
    by_cases e : b = a
    · subst e
      rw [at_] at hu
      injection hu with hu
      subst hu
      exact ⟨ha, by rw [List.length_map]; exact hn, vs, _, rv, ha⟩
    · rw [off e] at hu
      cases hu
  · obtain ⟨o, ho⟩ := Option.ne_none_iff_exists'.mp hk
    have eo := KX a o ho
    rw [ha] at eo
    injection eo with eo
    subst eo
    let H : Hp := fun _ => none
    refine callG_at (H := H) KX hns hb hbb hlim hg ha hr hbind F (fun _ => Or.inl rfl) ⟨fun b q => (q rfl).elim, fun q => (q rfl).elim⟩ (fun b u hu => by cases hu) (hsp H (fun _ => Or.inl rfl) (.inr ⟨_, vs.toArray, _, ho, rfl, rfl, rfl, ?_, ?_⟩))
    · rw [List.size_toArray, hi.length]; exact hn
    · simpa using rv
end
end TG

set_option Elab.async false
set_option linter.all false
set_option maxRecDepth 100000
set_option maxHeartbeats 4000000
namespace TG
open PySem PySem.Spec PyProof.Rows L2
noncomputable def tupW (x : TG.W) (s : S) : Option (List TG.W) := match asTup x with | some l => some (wD l) | none => tupC x s
noncomputable def kUnp (n : Nat) (u : List TG.W → Rho → Option Rho) : TG.W → Stm := fun x ρ s => match tupW x s with
  | some l => if l.length = n then (match u l ρ with | some ρ' => .nx ρ' s | none => .no) else .no
  | none => .no
noncomputable def sUnp (n : Nat) (u : List TG.W → Rho → Option Rho) (e : Cmp TG.W) : Stm := fun ρ s => ebS (e ρ s) ρ (kUnp n u)
noncomputable def clrL (x : TG.W) (s : S) : Option S := match x with
  | .r n => (match s[n]? with | some (.lst _) => some (s.set n (.lst [])) | _ => none)
  | _ => none
noncomputable def kClrC : TG.W → S → Res TG.W := fun x s => match clrL x s with | some s' => .ok (.d .non) s' | none => .no
noncomputable def eClrC (o : Cmp TG.W) : Cmp TG.W := fun ρ s => (o ρ s).bind kClrC
section
variable {X : Cx} {cl : Str → Option Addr} {Wx : WX} {e o tg : Expr} {es : List Expr} {sts : List Stmt} {pos apos : Pos} {ea eo : Cmp TG.W} {el : Cmp (List TG.W)} {u : List TG.W → Rho → Option Rho} {sl : List Nat} {t : Tgt} {b : Stm}
theorem RepWs.tail {K : PySem.W.Frag} {cl : Str → Option Addr} {H0 : Hp} {m : List Addr} {vs : List V} {w : TG.W} {l : List TG.W} (h : RepWs K cl H0 m vs (w :: l)) : ∃ v us, vs = v :: us ∧ RepW K cl H0 m v w ∧ RepWs K cl H0 m us l := by
  cases h with
  | cons a b => exact ⟨_, _, rfl, a, b⟩
end
end TG

set_option Elab.async false
set_option linter.all false
set_option maxRecDepth 100000
set_option maxHeartbeats 4000000
namespace TG
open PySem PySem.Spec PyProof.Rows L2
theorem RepWs.reverse {K : PySem.W.Frag} {cl : Str → Option Addr} {H0 : Hp} {m : List Addr} {vs : List V} {l : List TG.W} (h : RepWs K cl H0 m vs l) : RepWs K cl H0 m vs.reverse l.reverse := by
  induction h with
  | nil => exact .nil
  | cons h1 _ ih => rw [List.reverse_cons, List.reverse_cons]; exact ih.append (.cons h1 .nil)
noncomputable def fNeC (c : Str) (f : Sem1) : TG.W → TG.W → S → Res TG.W := fun x y s => if insOf c "__eq__" x s = true ∧ insOf c "__eq__" y s = true then (match eqC (f [x, y] s) with | .ok (.d (.bl b)) s' => .ok (.d (.bl (!b))) s' | _ => .no) else .no
noncomputable def rNeC (K : PySem.W.Frag) (cl : Str → Option Addr) (c : Str) (f : Sem1) : R2 := fun v u H Q =>
  ∃ (x y : TG.W) (b : Bool) (H0 : Hp) (m : List Addr) (s s' : S), Stt K cl H0 H m s ∧ RepW K cl H0 m v x ∧ RepW K cl H0 m u y ∧ insOf c "__eq__" x s = true ∧ insOf c "__eq__" y s = true ∧ f [x, y] s = .ok (.w (.d (.bl b))) s' ∧
    ∀ H0' H' m', GoE H0 H m H0' H' m' → Stt K cl H0' H' m' s' → Q (.bl (!b)) H'
structure NeAtC (K : PySem.W.Frag) (cl : Str → Option Addr) (c : Str) : Prop where
  ex : ∀ C, cl c = some C → PySem.W.findIn K (.ref C) "__ne__" = some (some (.builtin "object.__ne__")) ∧ PySem.W.mroIn K C (.type "object") = some true
section
variable {X : Cx} {cl : Str → Option Addr} {k : Nat} {ps : List Str} {f : Sem1} {c : Str}
theorem op_neC (F : EqAtC X.prog X.w X.K X.mg X.base cl k c ps f) (N : NeAtC X.K cl c) (hr : Room (k + 2) X.A) : OpR X (compareOp .NotEq) (rNeC X.K cl c f) := by
  intro pins s σ H v u vv uu Q I rv ru h
  obtain ⟨x, y, b, H0, m, s0, s1, st, rx, ry, hx, hy, hf, q⟩ := h
  obtain ⟨C, a, fd, h1, h2, h3, h4, h5⟩ := F.ex
  obtain ⟨n1, n2⟩ := N.ex C h1
  obtain ⟨p, dx, fs, rfl, hp, _⟩ := insOf_ok h1 st rx hx
  obtain ⟨p', dy, gs, rfl, hp', _⟩ := insOf_ok h1 st ry hy
  obtain rfl : vv = Value.ref p := rv
  obtain rfl : uu = Value.ref p' := ru
  obtain ⟨mA, J, _⟩ := ins_get I.hok hp
  obtain ⟨mB, J', _⟩ := ins_get I.hok hp'
  obtain ⟨od, J, _⟩ := J.look
  obtain ⟨od', J', _⟩ := J'.look
  have hsp : spOf X.K cl f [.ref p, .ref p'] H (fun v H' => v = .bl b ∧ Q (.bl (!b)) H') E0 := by
    refine ⟨H0, m, s0, [x, y], st, .cons rx (.cons ry .nil), ?_⟩
    rw [hf]
    intro v H0' H' m' g st' rr
    have rr : RepW X.K cl H0' m' v (.d (.bl b)) := rr
    cases rr
    exact ⟨rfl, q _ _ _ g st'⟩
  have hl := h5.len _ _ _ _ hsp
  have r2 : Vals [V.ref p, V.ref p'] [Value.ref p, Value.ref p'] := .cons rfl (.cons rfl .nil)
  have hu : X.A.units + 1 < cLine := by have := hr.un; omega
  show wpAny _ _ (richCompare .NotEq (.ref p) (.ref p')) _ _ _
  refine NE.rc_neB I.kIn J J'.type n2 n1 h2 h3 hu (wpAny_call (codeAny_mono (h5.run X.A.in1 X.stack s H ⟨[.ref p, .ref p'], []⟩ [.ref p, .ref p'] [.ref p, .ref p'] _ E0 (hr.in1.mono (by omega)) I.env0.in1 (by
    have := h4 s [.ref p, .ref p'] I.kIn (by simpa using hl)
    simpa using this) r2 hsp) fun r s' hq => ?_))
  cases r with
  | error e => exact noPass pins σ H s e s' I hq
  | ok fl =>
    cases fl with
    | ret w =>
      obtain ⟨z, H', I', rz, ez, ex⟩ := I.after hq
      subst ez
      cases rz
      exact ⟨b, rfl, .bl (!b), H', I', rfl, ex⟩
    | next => exact False.elim hq
    | brk => exact False.elim hq
    | cont => exact False.elim hq
theorem ops_neC {K : PySem.W.Frag} : OpS K cl (rNeC K cl c f) (fNeC c f) := by
  intro Wx σ H0 H m s v u x y Q st rx ry h
  unfold fNeC at h
  split at h
  · rename_i hi
    cases ef : f [x, y] s with
    | no => rw [ef] at h; exact h.elim
    | exc d z s2 => rw [ef] at h; exact h.elim
    | ok rv s2 =>
      rw [ef] at h
      cases rv with
      | w z =>
        cases z with
        | r n => exact h.elim
        | d z =>
          cases z with
          | bl b => exact ⟨x, y, b, H0, m, s, s2, st, rx, ry, hi.1, hi.2, ef, fun H0' H' m' g st' => h (.bl (!b)) H0' H' m' g st' .bl⟩
          | _ => exact h.elim
      | _ => exact h.elim
  · exact h.elim
end
end TG

set_option Elab.async false
set_option linter.all false
set_option maxRecDepth 100000
set_option maxHeartbeats 4000000
namespace TG
open PySem PySem.Spec PyProof.Rows L2
section
variable {X : Cx}
end
end TG

set_option linter.all false
set_option maxRecDepth 100000
namespace TG
open PySem L2
end TG

set_option linter.all false
set_option maxRecDepth 100000
namespace TG
open PySem L2
section
variable {s : S} {n i j p q : Nat} {hs gs : List D} {F : FaL} {m : Int}
end
end TG

set_option linter.all false
set_option maxRecDepth 100000
namespace TG
open PySem L2
mutual
noncomputable def D.nb : D → Bool
  | .int _ => true | .str _ => true | .tup l => D.nbs l | .lst l => D.nbs l
  | _ => false
noncomputable def D.nbs : List D → Bool
  | [] => true
  | x :: r => D.nb x && D.nbs r
end
mutual
theorem nb_eqv : ∀ a b : D, a.nb = true → b.nb = true → (PyData.eqv a.py b.py = true ↔ a = b)
  | .int i, b, _, hb => by
    cases b <;> first | (cases hb; done) | simp [D.py, PyData.eqv]
  | .str x, b, _, hb => by
    cases b <;> first | (cases hb; done) | simp [D.py, PyData.eqv]
  | .tup l, b, ha, hb => by
    cases b with
    | tup r => simp only [D.py, PyData.eqv, D.tup.injEq]; exact nbs_eqv l r (by simpa [D.nb] using ha) (by simpa [D.nb] using hb)
    | int i => simp [D.py, PyData.eqv]
    | str i => simp [D.py, PyData.eqv]
    | lst i => simp [D.py, PyData.eqv]
    | non => cases hb
    | bl => cases hb
    | dic => cases hb
    | ins => cases hb
    | scr => cases hb
  | .lst l, b, ha, hb => by
    cases b with
    | lst r => simp only [D.py, PyData.eqv, D.lst.injEq]; exact nbs_eqv l r (by simpa [D.nb] using ha) (by simpa [D.nb] using hb)
    | int i => simp [D.py, PyData.eqv]
    | str i => simp [D.py, PyData.eqv]
    | tup i => simp [D.py, PyData.eqv]
    | non => cases hb
    | bl => cases hb
    | dic => cases hb
    | ins => cases hb
    | scr => cases hb
  | .non, _, ha, _ => by cases ha
  | .bl _, _, ha, _ => by cases ha
  | .dic _, _, ha, _ => by cases ha
  | .ins _ _, _, ha, _ => by cases ha
  | .scr _, _, ha, _ => by cases ha
theorem nbs_eqv : ∀ l r : List D, D.nbs l = true → D.nbs r = true → (PyData.eqvAll (D.pys l) (D.pys r) = true ↔ l = r)
  | [], [], _, _ => by simp [D.pys, PyData.eqvAll]
  | [], b :: r, _, _ => by simp [D.pys, PyData.eqvAll]
  | a :: l, [], _, _ => by simp [D.pys, PyData.eqvAll]
  | a :: l, b :: r, ha, hb => by
    simp only [D.nbs, Bool.and_eq_true] at ha hb
    simp only [D.pys, PyData.eqvAll, Bool.and_eq_true, List.cons.injEq, nb_eqv a b ha.1 hb.1, nbs_eqv l r ha.2 hb.2]
end
theorem nbs_iff {l : List D} : D.nbs l = true ↔ ∀ x ∈ l, x.nb = true := by
  induction l with
  | nil => simp [D.nbs]
  | cons a r ih => simp [D.nbs, ih]
theorem nbs_ints (l : List Int) : D.nbs (l.map D.int) = true := nbs_iff.mpr fun x hx => by
  obtain ⟨i, _, rfl⟩ := List.mem_map.mp hx
  rfl
theorem inR_nb {d : D} (h : inR d = true) : d.nb = true := by cases d <;> first | rfl | cases h
theorem okT_nb : ∀ (n : Nat) (d : D), okT n d = true → d.nb = true
  | 0, _, h => by simp [okT] at h
  | n + 1, .tup (.str x :: l), h => by
    unfold okT at h
    cases e : ar x with
    | none => rw [e] at h; cases h
    | some a =>
      rw [e] at h
      have h : (if l.length = a then (if x = "foot" then l.all inR else l.all fun d => isTupD d && okT n d) else false) = true := h
      split at h
      · split at h
        · have : D.nbs l = true := nbs_iff.mpr fun y hy => inR_nb (List.all_eq_true.mp h y hy)
          simp [D.nb, D.nbs, this]
        · have : D.nbs l = true := nbs_iff.mpr fun y hy => by
            have := List.all_eq_true.mp h y hy
            simp only [Bool.and_eq_true] at this
            exact okT_nb n y this.2
          simp [D.nb, D.nbs, this]
      · cases h
  | n + 1, .tup [], h => by simp [okT] at h
  | n + 1, .tup (.int _ :: _), h => by simp [okT] at h
  | n + 1, .tup (.non :: _), h => by simp [okT] at h
  | n + 1, .tup (.bl _ :: _), h => by simp [okT] at h
  | n + 1, .tup (.tup _ :: _), h => by simp [okT] at h
  | n + 1, .tup (.lst _ :: _), h => by simp [okT] at h
  | n + 1, .tup (.dic _ :: _), h => by simp [okT] at h
  | n + 1, .tup (.ins _ _ :: _), h => by simp [okT] at h
  | n + 1, .tup (.scr _ :: _), h => by simp [okT] at h
  | n + 1, .int _, h => by simp [okT] at h
  | n + 1, .non, h => by simp [okT] at h
  | n + 1, .bl _, h => by simp [okT] at h
  | n + 1, .str _, h => by simp [okT] at h
  | n + 1, .lst _, h => by simp [okT] at h
  | n + 1, .dic _, h => by simp [okT] at h
  | n + 1, .ins _ _, h => by simp [okT] at h
  | n + 1, .scr _, h => by simp [okT] at h
theorem fa_nb {f : Fa} (h : f.ok = true) : f.d.nb = true := by
  cases f with
  | blank c r => simp [Fa.d, Fa.rest, D.nb, D.nbs, nbs_ints]
  | cut c k x => simp [Fa.d, Fa.rest, D.nb, D.nbs]
  | mount c t m a => simp [Fa.d, Fa.rest, D.nb, D.nbs]
  | foot f c l m => simp [Fa.d, Fa.rest, D.nb, D.nbs, nbs_ints]
  | lever n t =>
    have : goodT t = true := by
      unfold Fa.ok at h
      simp only [Bool.and_eq_true] at h
      exact h.2
    simp [Fa.d, Fa.rest, D.nb, D.nbs, okT_nb 12 t (good_get this).1]
theorem pF_nb {F : FaL} (h : GoodFa F) : D.nbs (F.map pF) = true := nbs_iff.mpr fun x hx => by
  obtain ⟨p, hp, rfl⟩ := List.mem_map.mp hx
  simp [pF, D.nb, D.nbs, fa_nb (h p hp).1]
theorem srt_cons {p : Int × Fa} {F : FaL} (h : Srt (p :: F)) : Srt F ∧ ∀ q ∈ F, p.1 < q.1 := by
  unfold Srt at h ⊢
  simp only [List.map_cons, List.pairwise_cons] at h
  exact ⟨h.2, fun q hq => h.1 q.1 (List.mem_map_of_mem hq)⟩
theorem sub_len : ∀ (G F : FaL), Srt F → Srt G → (∀ p ∈ F, ∃ q ∈ G, q.1 = p.1) → F.length ≤ G.length
  | [], F, _, _, h => by
    cases F with
    | nil => exact Nat.le_refl _
    | cons p F => obtain ⟨q, hq, _⟩ := h p (by simp); cases hq
  | g :: G, [], _, _, _ => Nat.zero_le _
  | g :: G, p :: F, hF, hG, h => by
    obtain ⟨hF', hp⟩ := srt_cons hF
    obtain ⟨hG', hg⟩ := srt_cons hG
    have key : ∀ q ∈ F, ∃ r ∈ G, r.1 = q.1 := fun q hq => by
      obtain ⟨r, hr, e⟩ := h q (List.mem_cons_of_mem _ hq)
      rcases List.mem_cons.mp hr with rfl | hr
      · obtain ⟨r2, hr2, e2⟩ := h p (by simp)
        have := hp q hq
        rcases List.mem_cons.mp hr2 with rfl | hr2
        · omega
        · have := hg r2 hr2; omega
      · exact ⟨r, hr, e⟩
    have := sub_len G F hF' hG' key
    simp only [List.length_cons]
    omega
theorem getK_mem {l : List (Key × D)} {k : Key} {d : D} (h : getK l k = some d) : (k, d) ∈ l := by
  induction l with
  | nil => cases h
  | cons a l ih =>
    obtain ⟨k', x⟩ := a
    unfold getK at h
    split at h
    · rename_i e; cases h; subst e; exact List.mem_cons_self
    · exact List.mem_cons_of_mem _ (ih h)
theorem same_srt : ∀ (F G : FaL), Srt F → Srt G → F.length = G.length → (∀ p ∈ F, ∃ q ∈ G, q.1 = p.1 ∧ q.2.d = p.2.d) → F.map pF = G.map pF
  | [], G, _, _, hl, _ => by
    cases G with
    | nil => rfl
    | cons _ _ => cases hl
  | p :: F, [], _, _, hl, _ => by cases hl
  | p :: F, g :: G, hF, hG, hl, h => by
    obtain ⟨hF', hp⟩ := srt_cons hF
    obtain ⟨hG', hg⟩ := srt_cons hG
    have hl' : F.length = G.length := by simpa using hl
    obtain ⟨r, hr, e1, e2⟩ := h p (by simp)
    rcases List.mem_cons.mp hr with rfl | hr
    · have ih := same_srt F G hF' hG' hl' fun q hq => by
        obtain ⟨r2, hr2, e3, e4⟩ := h q (List.mem_cons_of_mem _ hq)
        have := hp q hq
        rcases List.mem_cons.mp hr2 with rfl | hr2
        · omega
        · exact ⟨r2, hr2, e3, e4⟩
      simp only [List.map_cons, ih, pF, e1, e2]
    · exfalso
      have := sub_len G (p :: F) hF hG' fun q hq => by
        obtain ⟨r2, hr2, e3, _⟩ := h q hq
        rcases List.mem_cons.mp hr2 with z | hr2
        · have hgr := hg r hr
          rw [z] at e3
          rcases List.mem_cons.mp hq with rfl | hq
          · omega
          · have := hp q hq; omega
        · exact ⟨r2, hr2, e3⟩
      simp at this
      omega
theorem getK_fz : ∀ (F : FaL) (k : Int), getK (fz F) (.inl k) = (lookF F k).map Fa.d
  | [], _ => rfl
  | (a, f) :: F, k => by
    have ih := getK_fz F k
    have e : getK (fz ((a, f) :: F)) (.inl k) = if (.inl a : Key) = .inl k then some f.d else getK (fz F) (.inl k) := rfl
    have e2 : lookF ((a, f) :: F) k = if a = k then some f else lookF F k := by
      unfold lookF
      rw [List.find?_cons]
      by_cases c : a = k <;> simp [c]
    rw [e, e2, ih]
    by_cases c : a = k
    · subst c; simp
    · rw [if_neg c, if_neg (fun z => c (by injection z))]
theorem fz_mem {F : FaL} {k : Key} {d : D} (h : (k, d) ∈ fz F) : ∃ p ∈ F, k = .inl p.1 ∧ d = p.2.d := by
  obtain ⟨p, hp, e⟩ := List.mem_map.mp h
  cases e
  exact ⟨p, hp, rfl, rfl⟩
theorem dicAll_iff (es : List (Key × D)) : ∀ l : List (Key × D), dicAll es l = true ↔ ∀ p ∈ l, ∃ e, getK es p.1 = some e ∧ PyData.eqv p.2.py e.py = true
  | [] => by simp [dicAll]
  | (k, d) :: r => by
    unfold dicAll
    cases e : getK es k with
    | none => simp [e]
    | some x => simp [e, dicAll_iff es r]
theorem dicEq_iff {F G : FaL} (hF : Srt F) (hG : Srt G) (gF : GoodFa F) (gG : GoodFa G) : dicEqB (fz F) (fz G) = true ↔ F.map pF = G.map pF := by
  unfold dicEqB
  rw [Bool.and_eq_true, dicAll_iff]
  constructor
  · rintro ⟨h1, h2⟩
    refine same_srt F G hF hG (by simpa [fz] using h1) fun p hp => ?_
    obtain ⟨e, h3, h4⟩ := h2 (.inl p.1, p.2.d) (List.mem_map_of_mem hp)
    obtain ⟨q, hq, e1, e2⟩ := fz_mem (getK_mem h3)
    refine ⟨q, hq, ?_, ?_⟩
    · injection e1 with e1; exact e1.symm
    · have := (nb_eqv _ _ (fa_nb (gF p hp).1) (e2 ▸ fa_nb (gG q hq).1)).mp h4
      rw [← e2]; exact this.symm
  · intro h
    have hl : F.length = G.length := by simpa using congrArg List.length h
    have e : fz F = fz G := by
      have : fz F = (F.map pF).map fun d => match d with | .tup [.int i, x] => ((.inl i : Key), x) | _ => (.inl 0, .non) := by
        rw [List.map_map]; rfl
      rw [this, h, List.map_map]; rfl
    refine ⟨by simp [e], fun p hp => ?_⟩
    obtain ⟨k, d⟩ := p
    obtain ⟨q, hq, rfl, rfl⟩ := fz_mem hp
    rw [e] at hp
    obtain ⟨r, hr, e1, e2⟩ := fz_mem hp
    injection e1 with e1
    refine ⟨q.2.d, ?_, (nb_eqv _ _ (fa_nb (gF q hq).1) (fa_nb (gF q hq).1)).mpr rfl⟩
    have := look_mem hG r hr
    show getK (fz G) (.inl q.1) = some q.2.d
    rw [e1, getK_fz, this, e2]
    rfl
theorem facts_shaped {F : FaL} (hg : GoodFa F) : SeqAt.shaped (D.lst (F.map pF)).py = true := by
  refine shaped_of (d := .lst (F.map pF)) ?_ ?_
  · rw [plain_lst, plains_iff]
    intro x hx
    obtain ⟨p, hp, rfl⟩ := List.mem_map.mp hx
    simp [pF, D.plains, (fa_plain (hg p hp).1).1]
  · rw [dep_lst]
    have : D.deps (F.map pF) ≤ 8 := deps_le.mpr fun x hx => by
      obtain ⟨p, hp, rfl⟩ := List.mem_map.mp hx
      have := (fa_plain (hg p hp).1).2.2
      simp [pF, D.dep, D.deps]
      omega
    omega
theorem fEq_facts {F G : FaL} (neg : Bool) (s : S) (hF : Srt F) (hG : Srt G) (gF : GoodFa F) (gG : GoodFa G) : fEq neg (.d (.lst (F.map pF))) (.d (.lst (G.map pF))) s = .ok (.d (.bl (if neg then !dicEqB (fz F) (fz G) else dicEqB (fz F) (fz G)))) s := by
  have h3 : PyData.eqv (D.lst (F.map pF)).py (D.lst (G.map pF)).py = dicEqB (fz F) (fz G) := by
    have a := nbs_eqv _ _ (pF_nb gF) (pF_nb gG)
    have b := dicEq_iff hF hG gF gG
    rw [← b] at a
    simp only [D.py, PyData.eqv]
    exact Bool.eq_iff_iff.mpr a
  have h1 := facts_shaped gF
  have h2 := facts_shaped gG
  cases neg <;> simp [fEq, asData, eqD, h1, h2, h3]
theorem shopEq_eq {s : S} {n i j n' i' j' : Nat} {hs gs hs' gs' : List D} {F G : FaL} {m m' : Int} (h : Shop s n i j (hs ++ [holdD F m]) gs) (h' : Shop s n' i' j' (hs' ++ [holdD G m']) gs') (hF : Srt F) (hG : Srt G) (hl : F.length ≤ 16777216) (hl' : G.length ≤ 16777216) (gF : GoodFa F) (gG : GoodFa G) :
    f_Workshop_eq [.r n, .r n'] s = .ok (.w (.d (.bl (dicEqB (fz F) (fz G))))) s := by
  have i1 := h.ins "facts"
  have i2 := h'.ins "facts"
  have i3 := h'.ins "__eq__"
  have e1 := facts_eq h hF hl
  have e2 := facts_eq h' hG hl'
  have fe := fEq_facts false s hF hG gF gG
  rw [f_Workshop_eq, runF_eq]
  simp [b_Workshop_eq, i1, i2, i3, e1, e2, fe, fIsOC, wipeR, -rng1_eq, -fIx_eq, fIx_tup]
end TG

set_option linter.all false
set_option maxRecDepth 100000
namespace TG
open PySem L2
section
variable {s : S} {n i j : Nat} {hs gs : List D} {F F' : FaL} {m m' : Int}
end
noncomputable def I30 (L : Nat) (t : S) : Prop := ∃ (j : Nat) (hs gs : List D) (F : FaL) (m : Int), Both t j (hs ++ [holdD F m]) gs F m ∧ Fit F m ∧ SmF F ∧ m ≤ L ∧ hs.length ≤ L
theorem I30.mono {L L' : Nat} {t : S} (h : I30 L t) (hl : L ≤ L') : I30 L' t := by
  obtain ⟨j, hs, gs, F, m, hb, fit, sm, hm, h2⟩ := h
  exact ⟨j, hs, gs, F, m, hb, fit, sm, by omega, by omega⟩
end TG

set_option linter.all false
set_option maxRecDepth 100000
namespace TG
open PySem L2
noncomputable def upN {α : Type} (F : Nat → α) (k : Nat) (x : α) : Nat → α := fun c => if c = k then x else F c
structure T37 (t : S) (F : Nat → FaL) (m : Nat → Int) (G : Nat → FaL) (n : Nat → Int) (L : Nat) : Prop where
  ls : ∀ b : Bag, (b.cell :: t)[10]? = some (.lst [.r 1, .r 4, .r 7])
  ml : ∀ b : Bag, (b.cell :: t)[17]? = some (.lst [.r 12, .r 14, .r 16])
  sh : ∀ k, k < 3 → ∃ (j : Nat) (hs gs : List D), (∀ b : Bag, Shop (b.cell :: t) (1 + 3 * k) (2 + 3 * k) j (hs ++ [holdD (F k) (m k)]) gs) ∧ (j = 3 ∨ j = 6 ∨ j = 9 ∨ 18 ≤ j) ∧ hs.length ≤ L
  md : ∀ k, k < 3 → ∀ b : Bag, Mod (b.cell :: t) (11 + 2 * k) (12 + 2 * k) (G k) (n k)
  fit : ∀ k, k < 3 → Fit (F k) (m k) ∧ SmF (F k) ∧ m k ≤ L
section
variable {t : S} {F G : Nat → FaL} {m n : Nat → Int} {L : Nat}
theorem consT {α : Type} (a a' : α) (t : List α) (q : Nat) (hq : 0 < q) : (a :: t)[q]? = (a' :: t)[q]? := by
  obtain ⟨q, rfl⟩ : ∃ r, q = r + 1 := ⟨q - 1, by omega⟩
  rfl
theorem T37.len (h : T37 t F m G n L) (b : Bag) : 17 < (b.cell :: t).length := (List.getElem?_eq_some_iff.mp (h.ml b)).1
theorem T37.mono {L' : Nat} (h : T37 t F m G n L) (hl : L ≤ L') : T37 t F m G n L' := by
  refine ⟨h.ls, h.ml, fun k hk => ?_, h.md, fun k hk => ?_⟩
  · obtain ⟨j, hs, gs, a, a2, a3⟩ := h.sh k hk
    exact ⟨j, hs, gs, a, a2, by omega⟩
  · obtain ⟨a, b, c⟩ := h.fit k hk
    exact ⟨a, b, by omega⟩
theorem T37.up (h : T37 t F m G n L) {k : Nat} (hk : k < 3) {F' : FaL} {m' : Int} (fit : Fit F' m' ∧ SmF F' ∧ m' ≤ L + 1) (b : Bag) (hs : List D) (hl : hs.length ≤ L) :
    ∃ t1, upS (b.cell :: t) (1 + 3 * k) (2 + 3 * k) (hs ++ [holdD (F k) (m k)] ++ [holdD F' m']) = b.cell :: t1 ∧ T37 t1 (upN F k F') (upN m k m') G n (L + 1) := by
  obtain ⟨jk, hsk, gsk, hsh, hjk, hlk⟩ := h.sh k hk
  have hup := (hsh b).up (hs ++ [holdD (F k) (m k)] ++ [holdD F' m'])
  have len := h.len b
  have oth : ∀ q, q ≠ 1 + 3 * k → q ≠ 2 + 3 * k → q < (b.cell :: t).length → (upS (b.cell :: t) (1 + 3 * k) (2 + 3 * k) (hs ++ [holdD (F k) (m k)] ++ [holdD F' m']))[q]? = (b.cell :: t)[q]? := fun q h1 h2 h3 => up_other _ _ _ _ _ h1 h2 h3
  have z := tail_of (show (upS (b.cell :: t) (1 + 3 * k) (2 + 3 * k) (hs ++ [holdD (F k) (m k)] ++ [holdD F' m']))[0]? = some b.cell by rw [oth 0 (by omega) (by omega) (by omega)]; rfl)
  generalize upS (b.cell :: t) (1 + 3 * k) (2 + 3 * k) (hs ++ [holdD (F k) (m k)] ++ [holdD F' m']) = s2 at *
  generalize s2.tail = t1 at *
  subst z
  have mv : ∀ (b' : Bag) (q : Nat), 0 < q → q ≠ 1 + 3 * k → q ≠ 2 + 3 * k → ∀ c, (b'.cell :: t)[q]? = some c → (b'.cell :: t1)[q]? = some c := fun b' q hq h1 h2 c e => by
    rw [consT b'.cell b.cell t q hq] at e
    rw [consT b'.cell b.cell t1 q hq, oth q h1 h2 (List.getElem?_eq_some_iff.mp e).1, e]
  refine ⟨t1, rfl, fun b' => mv b' 10 (by omega) (by omega) (by omega) _ (h.ls b'), fun b' => mv b' 17 (by omega) (by omega) (by omega) _ (h.ml b'), fun c hc => ?_, fun c hc b' => ?_, fun c hc => ?_⟩
  · unfold upN
    by_cases e : c = k
    · subst e
      simp only [if_pos]
      refine ⟨(b.cell :: t).length, hs ++ [holdD (F c) (m c)], [], fun b' => ?_, by omega, by simp; omega⟩
      exact ⟨by rw [consT b'.cell b.cell t1 _ (by omega)]; exact hup.a, by rw [consT b'.cell b.cell t1 _ (by omega)]; exact hup.b, by rw [consT b'.cell b.cell t1 _ (by omega)]; exact hup.c⟩
    · simp only [if_neg e]
      obtain ⟨j, hs1, gs1, a1, a2, a3⟩ := h.sh c hc
      refine ⟨j, hs1, gs1, fun b' => ?_, a2, by omega⟩
      exact ⟨mv b' _ (by omega) (by omega) (by omega) _ (a1 b').a, mv b' _ (by omega) (by omega) (by omega) _ (a1 b').b, mv b' _ (by omega) (by omega) (by omega) _ (a1 b').c⟩
  · have a := h.md c hc b'
    exact ⟨mv b' _ (by omega) (by omega) (by omega) _ a.a, mv b' _ (by omega) (by omega) (by omega) _ a.b⟩
  · unfold upN
    by_cases e : c = k
    · subst e; simpa using fit
    · simp only [if_neg e]
      obtain ⟨a, b, c⟩ := h.fit c hc
      exact ⟨a, b, by omega⟩
theorem T37.mdl (h : T37 t F m G n L) {k : Nat} (hk : k < 3) (F' : FaL) (m' : Int) (b : Bag) :
    ∃ t1, mdS (b.cell :: t) (11 + 2 * k) (12 + 2 * k) F' m' = b.cell :: t1 ∧ T37 t1 F m (upN G k F') (upN n k m') L := by
  have hup := (h.md k hk b).md (by omega) F' m'
  have len := h.len b
  have oth : ∀ q, q ≠ 11 + 2 * k → q ≠ 12 + 2 * k → (mdS (b.cell :: t) (11 + 2 * k) (12 + 2 * k) F' m')[q]? = (b.cell :: t)[q]? := fun q h1 h2 => mdS_other _ _ _ _ _ _ h1 h2
  have z := tail_of (show (mdS (b.cell :: t) (11 + 2 * k) (12 + 2 * k) F' m')[0]? = some b.cell by rw [oth 0 (by omega) (by omega)]; rfl)
  generalize mdS (b.cell :: t) (11 + 2 * k) (12 + 2 * k) F' m' = s2 at *
  generalize s2.tail = t1 at *
  subst z
  have mv : ∀ (b' : Bag) (q : Nat), 0 < q → q ≠ 11 + 2 * k → q ≠ 12 + 2 * k → ∀ c, (b'.cell :: t)[q]? = some c → (b'.cell :: t1)[q]? = some c := fun b' q hq h1 h2 c e => by
    rw [consT b'.cell b.cell t q hq] at e
    rw [consT b'.cell b.cell t1 q hq, oth q h1 h2, e]
  refine ⟨t1, rfl, fun b' => mv b' 10 (by omega) (by omega) (by omega) _ (h.ls b'), fun b' => mv b' 17 (by omega) (by omega) (by omega) _ (h.ml b'), fun c hc => ?_, fun c hc b' => ?_, h.fit⟩
  · obtain ⟨j, hs1, gs1, a1, a2, a3⟩ := h.sh c hc
    refine ⟨j, hs1, gs1, fun b' => ?_, a2, by omega⟩
    exact ⟨mv b' _ (by omega) (by omega) (by omega) _ (a1 b').a, mv b' _ (by omega) (by omega) (by omega) _ (a1 b').b, mv b' _ (by omega) (by omega) (by omega) _ (a1 b').c⟩
  · unfold upN
    by_cases e : c = k
    · subst e
      simp only [if_pos]
      exact ⟨by rw [consT b'.cell b.cell t1 _ (by omega)]; exact hup.a, by rw [consT b'.cell b.cell t1 _ (by omega)]; exact hup.b⟩
    · simp only [if_neg e]
      have a := h.md c hc b'
      exact ⟨mv b' _ (by omega) (by omega) (by omega) _ a.a, mv b' _ (by omega) (by omega) (by omega) _ a.b⟩
end
end TG

set_option linter.all false
set_option maxRecDepth 100000
namespace TG
open PySem L2
noncomputable def Ag (s s' : S) (X : List Nat) : Prop := ∀ k c, s[k]? = some c → k ∉ X → s'[k]? = some c
noncomputable def noDic (s : S) (X : List Nat) : Prop := ∀ k ∈ X, ∀ l, s[k]? ≠ some (.dic l)
theorem Ag.refl (s : S) (X : List Nat) : Ag s s X := fun _ _ h _ => h
theorem Ag.set (s : S) (n : Nat) (c : Cell) {X : List Nat} (hn : n ∈ X) : Ag s (s.set n c) X := fun k c' h hk => by
  rw [List.getElem?_set_ne (show n ≠ k from fun e => hk (e ▸ hn))]; exact h
theorem Ag.trans {s s1 s2 : S} {X : List Nat} (h : Ag s s1 X) (h' : Ag s1 s2 X) : Ag s s2 X := fun k c e hk => h' k c (h k c e hk) hk
theorem Ag.mono {s s' : S} {X Y : List Nat} (h : Ag s s' X) (hXY : ∀ k ∈ X, k ∈ Y) : Ag s s' Y := fun k c e hk => h k c e fun z => hk (hXY k z)
noncomputable abbrev Md := Nat × FaL × Int
noncomputable def hdM (x : Md) : D := holdD x.2.1 x.2.2
noncomputable def rfM (x : Md) : W := .r x.1
structure MdOk (s : S) (L : Nat) (x : Md) : Prop where
  md : ∃ p, Mod s p x.1 x.2.1 x.2.2 ∧ p ≠ x.1
  fit : Fit x.2.1 x.2.2
  le : x.2.2 ≤ L
  sm : SmF x.2.1
theorem MdOk.ag {s s' : S} {L L' : Nat} {X : List Nat} {x : Md} (h : MdOk s L x) (a : Ag s s' X) (n : noDic s X) (hl : L ≤ L') : MdOk s' L' x := by
  obtain ⟨⟨p, m, hp⟩, f, l, sm⟩ := h
  exact ⟨⟨p, ⟨a _ _ m.a fun z => n _ z _ m.a, a _ _ m.b fun z => n _ z _ m.b⟩, hp⟩, f, by omega, sm⟩
structure Rec where
  n : Nat
  i : Nat
  j : Nat
  q : Nat
  d : Nat
  g : Nat
noncomputable def Rec.cells (r : Rec) : List Nat := [r.n, r.i, r.j, r.q, r.d, r.g]
structure RecOk (s : S) (L : Nat) (r : Rec) (dn gn : List Md) : Prop where
  sh : Shop s r.n r.i r.j (dn.map hdM) (gn.map hdM)
  q : s[r.q]? = some (.tup [.r r.d, .r r.g])
  d : s[r.d]? = some (.lst (dn.map rfM))
  g : s[r.g]? = some (.lst (gn.map rfM))
  md : ∀ x ∈ dn ++ gn, MdOk s L x
  first : ∃ x rest, dn = x :: rest ∧ x.2 = ([], 0)
  len : dn.length + gn.length ≤ L + 1
theorem RecOk.ag {s s' : S} {L L' : Nat} {X : List Nat} {r : Rec} {dn gn : List Md} (h : RecOk s L r dn gn) (a : Ag s s' X) (n : noDic s X) (hX : ∀ k ∈ r.cells, k ∉ X) (hl : L ≤ L') : RecOk s' L' r dn gn := by
  have z : ∀ k c, k ∈ r.cells → s[k]? = some c → s'[k]? = some c := fun k c hk e => a k c e (hX k hk)
  exact ⟨⟨z _ _ (by simp [Rec.cells]) h.sh.a, z _ _ (by simp [Rec.cells]) h.sh.b, z _ _ (by simp [Rec.cells]) h.sh.c⟩, z _ _ (by simp [Rec.cells]) h.q, z _ _ (by simp [Rec.cells]) h.d, z _ _ (by simp [Rec.cells]) h.g,
    fun x hx => (h.md x hx).ag a n hl, h.first, by have := h.len; omega⟩
theorem RecOk.lt {s : S} {L : Nat} {r : Rec} {dn gn : List Md} (h : RecOk s L r dn gn) : ∀ k ∈ r.cells, k < s.length := by
  intro k hk
  have lt : ∀ {k : Nat} {c : Cell}, s[k]? = some c → k < s.length := fun e => (List.getElem?_eq_some_iff.mp e).1
  simp only [Rec.cells, List.mem_cons, List.not_mem_nil, or_false] at hk
  rcases hk with rfl | rfl | rfl | rfl | rfl | rfl
  · exact lt h.sh.a
  · exact lt h.sh.b
  · exact lt h.sh.c
  · exact lt h.q
  · exact lt h.d
  · exact lt h.g
theorem RecOk.noDic {s : S} {L : Nat} {r : Rec} {dn gn : List Md} (h : RecOk s L r dn gn) : TG.noDic s r.cells := by
  intro k hk l e
  simp only [Rec.cells, List.mem_cons, List.not_mem_nil, or_false] at hk
  rcases hk with rfl | rfl | rfl | rfl | rfl | rfl
  · rw [h.sh.a] at e; cases e
  · rw [h.sh.b] at e; cases e
  · rw [h.sh.c] at e; cases e
  · rw [h.q] at e; cases e
  · rw [h.d] at e; cases e
  · rw [h.g] at e; cases e
noncomputable abbrev RM := Rec × List Md × List Md
structure I28 (s : S) (L ls qs : Nat) (rs : List RM) : Prop where
  a : s[ls]? = some (.lst (rs.map fun x => .r x.1.n))
  b : s[qs]? = some (.lst (rs.map fun x => .r x.1.q))
  ne : ls ≠ qs ∧ ls ≠ 0 ∧ qs ≠ 0
  nd : ∀ x ∈ rs, x.1.cells.Nodup ∧ 0 ∉ x.1.cells ∧ ls ∉ x.1.cells ∧ qs ∉ x.1.cells
  apart : rs.Pairwise fun x y => ∀ k ∈ x.1.cells, k ∉ y.1.cells
  ok : ∀ x ∈ rs, RecOk s L x.1 x.2.1 x.2.2
  two : 2 ≤ rs.length
section
variable {s s' : S} {L L' ls qs : Nat} {A B rs : List RM} {r r' : Rec} {dn gn dn' gn' : List Md}
theorem I28.ag (h : I28 s L ls qs rs) {X : List Nat} (a : Ag s s' X) (n : noDic s X) (hX : ls ∉ X ∧ qs ∉ X ∧ ∀ x ∈ rs, ∀ k ∈ x.1.cells, k ∉ X) (hl : L ≤ L') : I28 s' L' ls qs rs :=
  ⟨a _ _ h.a hX.1, a _ _ h.b hX.2.1, h.ne, h.nd, h.apart, fun x hx => (h.ok x hx).ag a n (hX.2.2 x hx) hl, h.two⟩
theorem I28.put (h : I28 s L ls qs (A ++ (r, dn, gn) :: B)) (a : Ag s s' r.cells) (ok : RecOk s' L' r' dn' gn') (hn : r'.n = r.n) (hq : r'.q = r.q) (hc : ∀ k ∈ r'.cells, k ∈ r.cells ∨ s.length ≤ k) (hnd : r'.cells.Nodup) (hl : L ≤ L') :
    I28 s' L' ls qs (A ++ (r', dn', gn') :: B) := by
  have mem : (r, dn, gn) ∈ A ++ (r, dn, gn) :: B := by simp
  have ok0 := h.ok _ mem
  have nd0 := h.nd _ mem
  have lt : ∀ x ∈ A ++ (r, dn, gn) :: B, ∀ k ∈ x.1.cells, k < s.length := fun x hx => (h.ok x hx).lt
  have lls : ls < s.length := (List.getElem?_eq_some_iff.mp h.a).1
  have lqs : qs < s.length := (List.getElem?_eq_some_iff.mp h.b).1
  have ap := h.apart
  rw [List.pairwise_append, List.pairwise_cons] at ap
  obtain ⟨apA, ⟨apr, apB⟩, apAB⟩ := ap
  have other : ∀ x ∈ A ++ B, (∀ k ∈ x.1.cells, k ∉ r.cells) ∧ x ∈ A ++ (r, dn, gn) :: B := by
    intro x hx
    rcases List.mem_append.mp hx with hx | hx
    · exact ⟨apAB x hx (r, dn, gn) (by simp), by simp [hx]⟩
    · exact ⟨fun k hk hk2 => apr x hx k hk2 hk, by simp [hx]⟩
  refine ⟨?_, ?_, h.ne, ?_, ?_, ?_, ?_⟩
  · have := a _ _ h.a nd0.2.2.1
    rw [this]
    simp [hn]
  · have := a _ _ h.b nd0.2.2.2
    rw [this]
    simp [hq]
  · intro x hx
    have : x = (r', dn', gn') ∨ x ∈ A ++ B := by
      simp only [List.mem_append, List.mem_cons] at hx ⊢
      rcases hx with h | h | h
      · exact .inr (.inl h)
      · exact .inl h
      · exact .inr (.inr h)
    rcases this with rfl | hx
    · have lt0 : 0 < s.length := by omega
      refine ⟨hnd, fun z => ?_, fun z => ?_, fun z => ?_⟩
      · rcases hc _ z with q | q
        · exact nd0.2.1 q
        · omega
      · rcases hc _ z with q | q
        · exact nd0.2.2.1 q
        · omega
      · rcases hc _ z with q | q
        · exact nd0.2.2.2 q
        · omega
    · exact h.nd x (other x hx).2
  · rw [List.pairwise_append, List.pairwise_cons]
    refine ⟨apA, ⟨fun x hx k hk hk2 => ?_, apB⟩, fun x hx y hy k hk hk2 => ?_⟩
    · have hx' := other x (by simp [hx])
      rcases hc k hk with q | q
      · exact hx'.1 k hk2 q
      · have := lt x hx'.2 k hk2; omega
    · rcases List.mem_cons.mp hy with rfl | hy
      · have hx' := other x (by simp [hx])
        rcases hc k hk2 with q | q
        · exact hx'.1 k hk q
        · have := lt x hx'.2 k hk; omega
      · exact apAB x hx y (List.mem_cons_of_mem _ hy) k hk hk2
  · intro x hx
    have : x = (r', dn', gn') ∨ x ∈ A ++ B := by
      simp only [List.mem_append, List.mem_cons] at hx ⊢
      rcases hx with h | h | h
      · exact .inr (.inl h)
      · exact .inl h
      · exact .inr (.inr h)
    rcases this with rfl | hx
    · exact ok
    · exact (h.ok x (other x hx).2).ag a ok0.noDic (other x hx).1 hl
  · have := h.two
    simp at this ⊢
    omega
end
theorem I28.bag {b b' : Bag} {t : S} {L ls qs : Nat} {rs : List RM} (h : I28 (b.cell :: t) L ls qs rs) : I28 (b'.cell :: t) L ls qs rs := by
  have a : Ag (b.cell :: t) (b'.cell :: t) [0] := fun k c e hk => by
    cases k with
    | zero => exact absurd (by simp) hk
    | succ k => exact e
  refine h.ag a (fun k hk l e => ?_) ⟨by simpa using h.ne.2.1, by simpa using h.ne.2.2, fun x hx k hk z => ?_⟩ (Nat.le_refl _)
  · simp at hk
    subst hk
    have : some b.cell = some (Cell.dic l) := e
    cases this
  · simp at z
    subst z
    exact (h.nd x hx).2.1 hk
end TG

set_option linter.all false
set_option maxRecDepth 100000
namespace TG
open PySem L2
section
variable {s s' : S} {n i j : Nat} {ks gs : List D} {d : D}
end
section
variable {s s' : S} {n : Nat} {w : W}
end
end TG

set_option linter.all false
set_option maxRecDepth 100000
namespace TG
open PySem L2
@[simp] theorem kUnp_eq (n : Nat) (u : List W → Rho → Option Rho) (x : W) (ρ : Rho) (s : S) : kUnp n u x ρ s = (match tupW x s with
  | some l => if l.length = n then (match u l ρ with | some ρ' => .nx ρ' s | none => .no) else .no
  | none => .no) := (rfl)
@[simp] theorem sUnp_eq (n : Nat) (u : List W → Rho → Option Rho) (e : Cmp W) (ρ : Rho) (s : S) : sUnp n u e ρ s = ebS (e ρ s) ρ (kUnp n u) := (rfl)
@[simp] theorem eTupC_eq (a : Cmp (List W)) (ρ : Rho) (s : S) : eTupC a ρ s = (a ρ s).bind kTupC := (rfl)
@[simp] theorem kTupC_eq (ws : List W) (s : S) : kTupC ws s = if ws.length ≤ 16777216 then .ok (.r s.length) (s ++ [.tup ws]) else .no := (rfl)
@[simp] theorem eClrC_eq (o : Cmp W) (ρ : Rho) (s : S) : eClrC o ρ s = (o ρ s).bind kClrC := (rfl)
@[simp] theorem kClrC_eq (x : W) (s : S) : kClrC x s = (match clrL x s with | some s' => .ok (.d .non) s' | none => .no) := (rfl)
noncomputable def PT (s0 : S) (L ls qs : Nat) (rs0 : List RM) (r : Rec) (v : RV) (s : S) : Prop := ∃ (b : Bag) (t : S) (rs : List RM), v = .w (.d (.bl true)) ∧ s = b.cell :: t ∧ I28 (b.cell :: t) (L + 1) ls qs rs ∧ rs.length = rs0.length ∧ Ag s0 (b.cell :: t) (0 :: r.cells) ∧ ∀ x ∈ rs, ∀ k ∈ x.1.cells, (∃ y ∈ rs0, k ∈ y.1.cells) ∨ s0.length ≤ k
section
variable {t : S} {L ls qs : Nat} {A B : List RM} {r : Rec} {dn gn : List Md}
end
end TG

set_option linter.all false
set_option maxRecDepth 100000
namespace TG
open PySem L2
end TG

set_option linter.all false
set_option maxRecDepth 100000
namespace TG
open PySem L2
theorem textFrom_le : ∀ (ts : List Str) (k : Nat) (acc : Str), (textFrom k acc ts).length ≤ acc.length + piled ts
  | [], _, acc => by simp [textFrom, piled]
  | t :: r, k, acc => by
    have ih := textFrom_le r (k + 1) (acc ++ (if k > 0 then ", " else "" : String) ++ t)
    have e : (acc ++ (if k > 0 then ", " else "" : String) ++ t).length ≤ acc.length + 2 + t.length := by
      rw [strLen_append, strLen_append]
      split
      · exact Nat.le_refl _
      · show acc.length + 0 + t.length ≤ _; omega
    have p : piled (t :: r) = t.length + 2 + piled r := by simp [piled]
    rw [p]
    show (textFrom (k + 1) _ r).length ≤ _
    omega
theorem listText_le (ts : List Str) : (listText ts).length ≤ piled ts + 2 := by
  unfold listText
  rw [strLen_append]
  have := textFrom_le ts 0 "["
  have e1 : (("[" : String) : Str).length = 1 := rfl
  have e2 : (("]" : String) : Str).length = 1 := rfl
  rw [e2]
  rw [e1] at this
  omega
theorem tupleText_le (ts : List Str) : (tupleText ts).length ≤ piled ts + 3 := by
  unfold tupleText
  rw [strLen_append, strLen_append]
  have e1 : (("(" : String) : Str).length = 1 := rfl
  have e3 : (((if ts.length == 1 then ",)" else ")" : String) : Str)).length ≤ 2 := by split <;> decide
  rw [e1]
  cases ts with
  | nil => have : (Str.join ", " ([] : List Str)).length = 0 := rfl; omega
  | cons a r => have := join_length_add (a :: r) (by simp); omega
theorem textFrom_ok : ∀ (ts : List Str) (k : Nat) (acc : Str), PyData.strOk acc = true → (∀ t ∈ ts, PyData.strOk t = true) → PyData.strOk (textFrom k acc ts) = true
  | [], _, acc, h, _ => h
  | t :: r, k, acc, h, h2 => by
    refine textFrom_ok r (k + 1) _ ?_ fun x hx => h2 x (List.mem_cons_of_mem _ hx)
    rw [strOk_app, strOk_app, h, h2 t (by simp)]
    have : PyData.strOk ((if k > 0 then ", " else "" : String) : Str) = true := ok_ofString _
    rw [this]
    rfl
theorem listText_ok (ts : List Str) (h : ∀ t ∈ ts, PyData.strOk t = true) : PyData.strOk (listText ts) = true := by
  unfold listText
  rw [strOk_app, textFrom_ok ts 0 "[" (ok_ofString _) h]
  have : PyData.strOk (("]" : String) : Str) = true := ok_ofString _
  rw [this]
  rfl
theorem tupleText_ok (ts : List Str) (h : ∀ t ∈ ts, PyData.strOk t = true) : PyData.strOk (tupleText ts) = true := by
  unfold tupleText
  rw [strOk_app, strOk_app]
  have e1 : PyData.strOk (("(" : String) : Str) = true := ok_ofString _
  have e2 : PyData.strOk (((if ts.length == 1 then ",)" else ")" : String) : Str)) = true := ok_ofString _
  have e3 := ok_join ", " ts (ok_ofString _) h
  rw [TL.join_eq] at e3
  rw [e1, e2, e3]
  rfl
mutual
noncomputable def D.shw : D → Nat
  | .int _ => 32 | .str _ => 20 | .tup l => 4 + D.shws l | .lst l => 4 + D.shws l | _ => 0
noncomputable def D.shws : List D → Nat
  | [] => 0
  | x :: r => D.shw x + 2 + D.shws r
end
mutual
noncomputable def D.ssm : D → Bool
  | .int i => decide (i.natAbs < 1000000000000000000000000000000) | .str x => decide ((reprText x).length ≤ 20) && PyData.strOk (reprText x) | .tup l => D.ssms l | .lst l => D.ssms l | _ => false
noncomputable def D.ssms : List D → Bool
  | [] => true
  | x :: r => D.ssm x && D.ssms r
end
mutual
theorem shw_le : ∀ d : D, d.ssm = true → d.py.shown.length ≤ d.shw ∧ d.py.showable = true ∧ PyData.strOk d.py.shown = true
  | .int i, h => by
    have h : smI i := by simpa [D.ssm, smI] using h
    have e : (D.int i).py.shown = sI i := by simp [D.py, PyData.shown, sI]
    have := sI_len h
    refine ⟨by rw [e]; show _ ≤ 32; omega, by simp only [D.py, PyData.showable]; exact decide_eq_true (smI_log h), by rw [e]; exact ok_ofString _⟩
  | .str x, h => by
    have h : (reprText x).length ≤ 20 ∧ PyData.strOk (reprText x) = true := by simpa [D.ssm] using h
    exact ⟨by simp only [D.py, PyData.shown]; exact h.1, by simp [D.py, PyData.showable], by simp only [D.py, PyData.shown]; exact h.2⟩
  | .tup l, h => by
    have h : D.ssms l = true := by simpa [D.ssm] using h
    obtain ⟨a, b, c⟩ := shws_le l h
    have := tupleText_le (PyData.shownAll (D.pys l))
    refine ⟨?_, by simp only [D.py, PyData.showable]; exact b, by simp only [D.py, PyData.shown]; exact tupleText_ok _ c⟩
    simp only [D.py, PyData.shown, D.shw]
    omega
  | .lst l, h => by
    have h : D.ssms l = true := by simpa [D.ssm] using h
    obtain ⟨a, b, c⟩ := shws_le l h
    have := listText_le (PyData.shownAll (D.pys l))
    refine ⟨?_, by simp only [D.py, PyData.showable]; exact b, by simp only [D.py, PyData.shown]; exact listText_ok _ c⟩
    simp only [D.py, PyData.shown, D.shw]
    omega
  | .non, h => by cases h
  | .bl _, h => by cases h
  | .dic _, h => by cases h
  | .ins _ _, h => by cases h
  | .scr _, h => by cases h
theorem shws_le : ∀ l : List D, D.ssms l = true → piled (PyData.shownAll (D.pys l)) ≤ D.shws l ∧ PyData.showableAll (D.pys l) = true ∧ ∀ t ∈ PyData.shownAll (D.pys l), PyData.strOk t = true
  | [], _ => by simp [D.pys, PyData.shownAll, PyData.showableAll, piled, D.shws]
  | x :: r, h => by
    simp only [D.ssms, Bool.and_eq_true] at h
    obtain ⟨a, b, b2⟩ := shw_le x h.1
    obtain ⟨c, d, d2⟩ := shws_le r h.2
    refine ⟨?_, by simp only [D.pys, PyData.showableAll, b, d, Bool.and_self], fun t ht => ?_⟩
    rotate_left
    · simp only [D.pys, PyData.shownAll, List.mem_cons] at ht
      rcases ht with rfl | ht
      · exact b2
      · exact d2 t ht
    have : piled (PyData.shownAll (D.pys (x :: r))) = x.py.shown.length + 2 + piled (PyData.shownAll (D.pys r)) := by simp [D.pys, PyData.shownAll, piled]
    rw [this]
    simp only [D.shws]
    omega
end
theorem ssms_iff {l : List D} : D.ssms l = true ↔ ∀ x ∈ l, x.ssm = true := by
  induction l with
  | nil => simp [D.ssms]
  | cons a r ih => simp [D.ssms, ih]
theorem shws_bnd (l : List D) (B : Nat) (h : ∀ x ∈ l, x.shw ≤ B) : D.shws l ≤ l.length * (B + 2) := by
  induction l with
  | nil => simp [D.shws]
  | cons a r ih =>
    have h1 := h a (by simp)
    have h2 := ih fun x hx => h x (by simp [hx])
    simp only [D.shws, List.length_cons, Nat.succ_mul]
    omega
theorem ssm_int {i : Int} (h : smI i) : (D.int i).ssm = true := by simpa [D.ssm, smI] using h
theorem ints_ssm {l : List Int} (h : ∀ x ∈ l, smI x) : (D.tup (l.map .int)).ssm = true ∧ (D.tup (l.map .int)).shw ≤ 4 + l.length * 34 := by
  refine ⟨?_, ?_⟩
  · simp only [D.ssm]
    rw [ssms_iff]
    intro x hx
    obtain ⟨i, hi, rfl⟩ := List.mem_map.mp hx
    exact ssm_int (h i hi)
  · have := shws_bnd (l.map D.int) 32 (fun x hx => by obtain ⟨i, hi, rfl⟩ := List.mem_map.mp hx; exact Nat.le_refl _)
    simp only [D.shw]
    simp at this
    omega
theorem ar_ssm {x : Str} {a : Nat} (h : ar x = some a) : (D.str x).ssm = true ∧ a ≤ 2 := by
  unfold ar at h
  split at h
  · rename_i e; subst e; cases h; exact ⟨by decide +kernel, by decide⟩
  · split at h
    · rename_i e; subst e; cases h; exact ⟨by decide +kernel, by decide⟩
    · split at h
      · rename_i e; subst e; cases h; exact ⟨by decide +kernel, by decide⟩
      · split at h
        · rename_i e; subst e; cases h; exact ⟨by decide +kernel, by decide⟩
        · cases h
theorem tree_ssm : ∀ (n : Nat) (t : D), okT n t = true → t.ssm = true ∧ (t.shw : Int) ≤ 100 * partsT n t := by
  intro n
  induction n with
  | zero => intro t h; cases h
  | succ n ih =>
    intro t h
    obtain ⟨k, x, l, a, e, rfl, ha, hl, hh⟩ := ok_get h
    cases e
    obtain ⟨xs, a2⟩ := ar_ssm ha
    rcases hh with ⟨rfl, i, rfl, i0, i1⟩ | ⟨hx, hd⟩
    · refine ⟨by simp only [D.ssm, D.ssms, Bool.and_true, Bool.and_eq_true]; exact ⟨by simpa [D.ssm] using xs, by simp; omega⟩, ?_⟩
      simp [partsT, D.shw, D.shws]
    · refine ⟨?_, ?_⟩
      · simp only [D.ssm]
        rw [ssms_iff]
        intro y hy
        rcases List.mem_cons.mp hy with rfl | hy
        · exact xs
        · exact (ih y (hd y hy)).1
      · have key : ∀ l : List D, (∀ d ∈ l, okT n d = true) → (D.shws l : Int) ≤ 100 * (l.map (partsT n)).sum + 2 * l.length := by
          intro l
          induction l with
          | nil => intro _; simp [D.shws]
          | cons b r ih2 =>
            intro hd
            have h1 := (ih b (hd b (by simp))).2
            have h2 := ih2 fun d hd' => hd d (by simp [hd'])
            simp only [D.shws, List.map_cons, List.sum_cons, List.length_cons]
            omega
        have := key l hd
        simp only [partsT, if_neg hx, D.shw, D.shws]
        omega
theorem fa_ssm {f : Fa} (h : f.ok = true) (hs : f.sml) : f.d.ssm = true ∧ f.d.shw ≤ 3000 := by
  have sm : ∀ i : Int, -1000 ≤ i → i ≤ 1000 → (D.int i).ssm = true := fun i a b => ssm_int (smI_small a b)
  cases f with
  | blank c r =>
    simp [Fa.ok] at h
    obtain ⟨a, b⟩ := ints_ssm (l := r) hs
    have w : (D.str "blank").ssm = true := by decide +kernel
    refine ⟨?_, ?_⟩
    · simp only [Fa.d, Fa.word, Fa.num, Fa.rest, D.ssm, D.ssms, Bool.and_true, Bool.and_eq_true]
      exact ⟨by simpa [D.ssm] using w, by simp; omega, by simpa [D.ssm] using a⟩
    · simp only [Fa.d, Fa.word, Fa.num, Fa.rest, D.shw, D.shws] at b ⊢
      omega
  | cut c k x =>
    simp [Fa.ok] at h
    have hs : smI x := hs
    have w : (D.str "cut").ssm = true := by decide +kernel
    refine ⟨?_, by simp [Fa.d, Fa.word, Fa.num, Fa.rest, D.shw, D.shws]⟩
    simp only [Fa.d, Fa.word, Fa.num, Fa.rest, D.ssm, D.ssms, Bool.and_true, Bool.and_eq_true]
    exact ⟨by simpa [D.ssm] using w, by simp; omega, by simp; omega, by simpa [D.ssm] using ssm_int hs⟩
  | mount c t m a =>
    simp [Fa.ok] at h
    have hs : smI a := hs
    have w : (D.str "mount").ssm = true := by decide +kernel
    refine ⟨?_, by simp [Fa.d, Fa.word, Fa.num, Fa.rest, D.shw, D.shws]⟩
    simp only [Fa.d, Fa.word, Fa.num, Fa.rest, D.ssm, D.ssms, Bool.and_true, Bool.and_eq_true]
    exact ⟨by simpa [D.ssm] using w, by simp; omega, by simp; omega, by simp; omega, by simpa [D.ssm] using ssm_int hs⟩
  | foot f c l m =>
    simp [Fa.ok] at h
    have w : (D.str "foot").ssm = true := by decide +kernel
    have dr : ∀ x ∈ l, 0 ≤ x ∧ x ≤ 99 := fun x hx => by
      have := h.1.1.1.2
      unfold drOk at this
      simpa using List.all_eq_true.mp this x hx
    obtain ⟨a, b⟩ := ints_ssm (l := l) fun x hx => smI_small (by have := dr x hx; omega) (by have := dr x hx; omega)
    refine ⟨?_, ?_⟩
    · simp only [Fa.d, Fa.word, Fa.num, Fa.rest, D.ssm, D.ssms, Bool.and_true, Bool.and_eq_true]
      exact ⟨by simpa [D.ssm] using w, by simp; omega, by simp; omega, by simpa [D.ssm] using a, by simp; omega⟩
    · simp only [Fa.d, Fa.word, Fa.num, Fa.rest, D.shw, D.shws] at b ⊢
      omega
  | lever n t =>
    simp [Fa.ok] at h
    have w : (D.str "lever").ssm = true := by decide +kernel
    obtain ⟨g1, g2⟩ := good_get h.2
    obtain ⟨a, b⟩ := tree_ssm 12 t g1
    refine ⟨?_, ?_⟩
    · simp only [Fa.d, Fa.word, Fa.num, Fa.rest, D.ssm, D.ssms, Bool.and_true, Bool.and_eq_true]
      exact ⟨by simpa [D.ssm] using w, by simp; omega, a⟩
    · simp only [Fa.d, Fa.word, Fa.num, Fa.rest, D.shw, D.shws]
      omega
theorem facts_ssm {F : FaL} (hg : GoodFa F) (hs : SmF F) (hn : ∀ p ∈ F, smI p.1) (hl : F.length ≤ 200) : (D.lst (F.map pF)).ssm = true ∧ (D.lst (F.map pF)).shw ≤ 700000 := by
  have one : ∀ x ∈ F.map pF, x.ssm = true ∧ x.shw ≤ 3100 := fun x hx => by
    obtain ⟨p, hp, rfl⟩ := List.mem_map.mp hx
    obtain ⟨a, b⟩ := fa_ssm (hg p hp).1 (hs p hp)
    refine ⟨?_, ?_⟩
    · simp only [pF, D.ssm, D.ssms, Bool.and_true, Bool.and_eq_true]
      exact ⟨by simpa [D.ssm] using ssm_int (hn p hp), a⟩
    · simp only [pF, D.shw, D.shws]
      omega
  refine ⟨by simp only [D.ssm]; rw [ssms_iff]; exact fun x hx => (one x hx).1, ?_⟩
  have := shws_bnd (F.map pF) 3100 fun x hx => (one x hx).2
  simp only [D.shw]
  rw [List.length_map] at this
  have h2 : F.length * (3100 + 2) ≤ 200 * (3100 + 2) := Nat.mul_le_mul_right _ hl
  omega
theorem facts_text (Fs : List FaL) (h : ∀ F ∈ Fs, GoodFa F ∧ SmF F ∧ (∀ p ∈ F, smI p.1) ∧ F.length ≤ 200) (hl : Fs.length ≤ 4) : ∃ t, textOf (.lst (Fs.map fun F => .lst (F.map pF))) = some t ∧ PyData.strOk t = true := by
  have one : ∀ x ∈ Fs.map fun F => D.lst (F.map pF), x.ssm = true ∧ x.shw ≤ 700000 := fun x hx => by
    obtain ⟨F, hF, rfl⟩ := List.mem_map.mp hx
    obtain ⟨a, b, c, d⟩ := h F hF
    exact facts_ssm a b c d
  have s1 : (D.lst (Fs.map fun F => .lst (F.map pF))).ssm = true := by
    simp only [D.ssm]
    rw [ssms_iff]
    exact fun x hx => (one x hx).1
  obtain ⟨a, b, c⟩ := shw_le _ s1
  have l1 := shws_bnd (Fs.map fun F => D.lst (F.map pF)) 700000 fun x hx => (one x hx).2
  have l2 : (D.lst (Fs.map fun F => .lst (F.map pF))).py.shown.length ≤ 16777216 := by
    refine Nat.le_trans a ?_
    simp only [D.shw]
    rw [List.length_map] at l1
    omega
  have sh : SeqAt.shaped (D.lst (Fs.map fun F => .lst (F.map pF))).py = true := by
    refine shaped_of ?_ ?_
    · rw [plain_lst, plains_iff]
      intro x hx
      obtain ⟨F, hF, rfl⟩ := List.mem_map.mp hx
      rw [plain_lst, plains_iff]
      intro y hy
      obtain ⟨p, hp, rfl⟩ := List.mem_map.mp hy
      simp [pF, D.plains, (fa_plain ((h F hF).1 p hp).1).1]
    · rw [dep_lst]
      have : D.deps (Fs.map fun F => .lst (F.map pF)) ≤ 10 := deps_le.mpr fun x hx => by
        obtain ⟨F, hF, rfl⟩ := List.mem_map.mp hx
        rw [dep_lst]
        have : D.deps (F.map pF) ≤ 8 := deps_le.mpr fun y hy => by
          obtain ⟨p, hp, rfl⟩ := List.mem_map.mp hy
          have := (fa_plain ((h F hF).1 p hp).1).2.2
          simp [pF, D.dep, D.deps]
          omega
        omega
      omega
  refine ⟨_, ?_, c⟩
  unfold textOf
  exact if_pos ⟨sh, b, l2⟩
end TG

set_option Elab.async false
set_option linter.all false
set_option maxRecDepth 100000
set_option maxHeartbeats 4000000
namespace TG
open PySem PySem.Spec PyProof.Rows L2
section
variable {Z : Hd} {w : World} {K : PySem.W.Frag}
theorem SaysT.fact (c : SaysT Z w K) (i : Nat) {f : Tst} (h : Z.fs[i]? = some f) : f K = true := by
  have c1 := (He.ba (show (Z.fs.all (fun f => f K) && Z.fn.all fun d => d.ok K) = true from congrArg (fun z : AlT => z.1) c)).1
  exact List.all_eq_true.mp c1 f (List.mem_of_getElem? h)
theorem SaysT.fn (c : SaysT Z w K) (i : Nat) {d : He.DefD} (h : Z.fn[i]? = some d) :
    ∃ oc od osl dV kV doc pm an cdv ct, K.lookup (He.fAd K d.at_) = some ⟨oc, od, .func (PySem.W.fnOf d.name d.qual d.params d.body d.scope dV kV doc pm an cdv ct), osl⟩ ∧ PySem.W.codeIn K cdv d.qual = true ∧ He.dflB K dV (d.dvs K) = true ∧ PySem.W.keepIn K (.ref (He.fAd K d.at_)) = true := by
  have c2 := List.all_eq_true.mp (He.ba (show (Z.fs.all (fun f => f K) && Z.fn.all fun d => d.ok K) = true from congrArg (fun z : AlT => z.1) c)).2 d (List.mem_of_getElem? h)
  have e : Z.fn.map (fun d => He.fnW K d.at_) = Z.fn.map He.DefD.val := congrArg (fun z : AlT => z.2.1) c
  have e2 : (Z.fn.map fun d => He.fnW K d.at_)[i]? = (Z.fn.map He.DefD.val)[i]? := by rw [e]
  rw [List.getElem?_map, List.getElem?_map, h] at e2
  have e : He.fnW K d.at_ = d.val := Option.some.inj e2
  obtain ⟨kp, c2⟩ := He.ba (show (PySem.W.keepIn K (.ref (He.fAd K d.at_)) && (match K.lookup (He.fAd K d.at_) with
    | some ⟨_, _, .func fd, _⟩ => PySem.W.codeIn K fd.code d.qual && (He.dflB K fd.defaults (d.dvs K) && He.kwdB K fd.kwdefaults (d.kws K))
    | _ => false)) = true from c2)
  unfold He.fnW at e
  cases q : K.lookup (He.fAd K d.at_) with
  | none =>
    rw [q] at c2
    cases c2
  | some o =>
    obtain ⟨oc, od, dt, osl⟩ := o
    rw [q] at c2 e
    cases dt with
    | func fd =>
      obtain ⟨n1, n2, n3, n4, n5, n6, n7, n8, n9, n10, n11, n12, n13, n14, n15⟩ := fd
      have e2 : (some (n1, n2, n3, n4, n5, n6, n7, n15) : He.FnW) = some (d.name, d.qual, d.params, .stmts d.body, d.scope, mainGlobals, [], builtinsNs) := e
      simp only [Option.some.injEq, Prod.mk.injEq] at e2
      obtain ⟨h1, h2, h3, h4, h5, h6, h7, h8⟩ := e2
      subst h1 h2 h3 h4 h5 h6 h7 h8
      have c3 : (PySem.W.codeIn K n13 d.qual && (He.dflB K n8 (d.dvs K) && He.kwdB K n9 (d.kws K))) = true := c2
      obtain ⟨k1, k2⟩ := He.ba c3
      obtain ⟨k3, k4⟩ := He.ba k2
      exact ⟨oc, od, osl, n8, n9, n10, n11, n12, n13, n14, rfl, k1, k3, kp⟩
    | _ => cases c2
theorem dfl0 {dV : Value} (h : He.dflB K dV [] = true) : dV = .none := by
  cases dV <;> first | rfl | cases h
theorem dflN {dV : Value} {v : V} {vs : List V} (h : He.dflB K dV (v :: vs) = true) : ∃ T oc od its n osl, dV = .ref T ∧ K.lookup T = some ⟨oc, od, .seq its n, osl⟩ ∧ He.relAll (v :: vs) its.toList = true := by
  cases dV with
  | ref T =>
    have h1 : (match K.lookup T with
      | some ⟨_, _, .seq its _, _⟩ => He.relAll (v :: vs) its.toList
      | _ => false) = true := h
    cases q : K.lookup T with
    | none => rw [q] at h1; cases h1
    | some o =>
      obtain ⟨oc, od, dt, osl⟩ := o
      rw [q] at h1
      cases dt with
      | seq its n => exact ⟨T, oc, od, its, n, osl, rfl, q, h1⟩
      | _ => cases h1
  | _ => cases h
theorem dfl1 {dV : Value} {i : Int} (h : He.dflB K dV [.int i] = true) : ∃ T cT dT n sT t, dV = .ref T ∧ K.lookup T = some ⟨cT, dT, .seq #[.int i t] n, sT⟩ := by
  obtain ⟨T, oc, od, ⟨its⟩, n, osl, e1, e2, e3⟩ := dflN h
  have rr := He.relAll_ok (us := its) e3
  clear e3
  cases rr with
  | cons r0 rr =>
    obtain ⟨t, rfl⟩ := r0
    cases rr
    exact ⟨T, oc, od, n, osl, t, e1, e2⟩
theorem SaysT.dic (c : SaysT Z w K) (i : Nat) {x : Str × List Str} (h : Z.dk[i]? = some x) :
    ∃ es nn, K.lookup (He.ga K x.1) = some ⟨.type "dict", none, .dict es nn, #[]⟩ ∧ es.toList.map He.keyOf = He.keysIn w.params x.2 ∧ (He.ga K x.1 == sysModules) = false := by
  have e : (Z.dk.map fun x => He.dicW K (He.ga K x.1)) = Z.dk.map fun x => some (He.keysIn w.params x.2) := congrArg (fun z : AlT => z.2.2) c
  have e2 : (Z.dk.map fun x => He.dicW K (He.ga K x.1))[i]? = (Z.dk.map fun x => some (He.keysIn w.params x.2))[i]? := by rw [e]
  rw [List.getElem?_map, List.getElem?_map, h] at e2
  have h : He.dicW K (He.ga K x.1) = some (He.keysIn w.params x.2) := Option.some.inj e2
  generalize He.ga K x.1 = a at *
  unfold He.dicW at h
  cases q : K.lookup a with
  | none =>
    rw [q] at h
    cases h
  | some o =>
    obtain ⟨oc, od, dt, osl⟩ := o
    rw [q] at h
    cases oc with
    | type c =>
      cases od with
      | none =>
        cases dt with
        | dict es n =>
          have h1 : (match decide (c = "dict") && (osl.isEmpty && !(a == sysModules)) with
            | true => some (es.toList.map He.keyOf)
            | false => none) = some (He.keysIn w.params x.2) := h
          cases z : decide (c = "dict") && (osl.isEmpty && !(a == sysModules)) with
          | false =>
            rw [z] at h1
            cases h1
          | true =>
            rw [z] at h1
            obtain ⟨z1, z2⟩ := He.ba z
            obtain ⟨z3, z4⟩ := He.ba z2
            have e1 : c = "dict" := of_decide_eq_true z1
            have e2 : osl = #[] := Array.isEmpty_iff.mp z3
            have e3 : (a == sysModules) = false := by
              cases y : a == sysModules with
              | false => rfl
              | true =>
                rw [y] at z4
                cases z4
            subst e1 e2
            exact ⟨es, n, rfl, Option.some.inj h1, e3⟩
        | _ => cases h
      | some b => cases dt <;> cases h
    | _ => cases od <;> cases dt <;> cases h
theorem isIB_ok {x : Str} {i : Int} (h : isIB K x i = true) : ∃ t, PySem.W.nsIn K mainGlobals x = some (some (.int i t)) := by
  unfold isIB at h
  cases e : PySem.W.nsIn K mainGlobals x with
  | none => rw [e] at h; cases h
  | some o =>
    rw [e] at h
    cases o with
    | none => cases h
    | some v =>
      cases v with
      | int j t =>
        have ej : j = i := of_decide_eq_true h
        exact ⟨t, by rw [ej]⟩
      | _ => cases h
end
theorem walkGE {l : PySem.W.OpenLaw} {n k : Nat} {q : Program} {loose : List Str} {XP : (Str → Option Value) → Heap → Prop} {YP : World → Heap → Prop} {d : DefRec} {x : Str}
    (hn : l.most = some n) (hn2 : n ≤ sizeLine) (hdf : d.params.defaults = []) (hr : Room k callerA)
    (F : ∀ (w : World) (mg : Str → Option Value) (fa : Addr) (h : Heap), YP w h → h.Ns mainGlobals mg → mg d.name = some (.ref fa) →
      ∃ (K : PySem.W.Frag) (fd : FuncData) (sp : Sp), K.In h ∧ (∀ (s : Shared) (u : Value), BindsTo s fd ⟨[u], []⟩ [(x, u)]) ∧
        (∀ (H : Hp) (a : Addr) (ns : List Int), ns.length ≤ n → Only H → SqL K H a (ns.map V.int) → sp [.ref a] H (fun v _ => v = .bl true) fun _ _ _ => False) ∧
        ∀ base : Heap, K.In base → base.Ns mainGlobals mg → FnOkG l.prog w K mg base (L2.CX l.prog w) k fa fd [x] sp) :
    PySem.W.WalkO q loose XP YP l.row.toRowW d [] (fun f vs => PySem.call f vs) := by
  apply Att.attach_call hn hdf
  intro w s0 s1 mg mb fa o pm cd doc a vs ns G Y _ _ _ hmg hobj hints hlen hgens
  obtain ⟨K, fd, sp, KX, hb, hsp, hF⟩ := F w mg fa _ Y G.T.g hmg
  exact callG KX G.T.g G.T.b G.T.builtins G.T.nolimit hgens hobj hints (Nat.le_trans hlen hn2) hr hb hF fun H h1 h2 => hsp H a ns hlen h1 h2
end TG

set_option Elab.async false
set_option linter.all false
set_option maxRecDepth 100000
set_option maxHeartbeats 2000000
namespace TG
open PySem L2 PyProof.Rows
structure StrAt (P : Program) (w : World) (K : PySem.W.Frag) (mg : Str → Option Value) (base : Heap) (cl : Str → Option Addr) (k : Nat) (c : Str) (ps : List Str) (f : Sem1) : Prop where
  ex : ∃ (C a : Addr) (fd : FuncData), cl c = some C ∧ PySem.W.findIn K (.ref C) "__str__" = some (some (.ref a)) ∧ PySem.W.isFn K (.ref a) = true ∧ Binds K fd ps [] ∧ FnOk P w K mg base (L2.CX P w) k a fd ps (spOf K cl f)
noncomputable def rStrI (K : PySem.W.Frag) (cl : Str → Option Addr) (c : Str) (f : Sem1) : List V → Hp → VK → Prop := fun xs H Q =>
  ∃ (v : V) (l : List (Str × D)) (z : Str) (H0 : Hp), xs = [v] ∧ Same H0 H ∧ Rep K cl H0 v (.ins c l) ∧ f [.d (.ins c l)] [] = .ok (.w (.d (.str z))) [] ∧ ∀ H', Ext H H' → Q (.str z) H'
section
variable {X : Cx} {cl : Str → Option Addr} {k : Nat} {ps : List Str} {f : Sem1} {c : Str}
theorem call_strI (F : StrAt X.prog X.w X.K X.mg X.base cl k c ps f) (hr : Room (k + 3) X.A) : CallR X (.type "str") (rStrI X.K cl c f) := by
  intro pins s σ H xs us Q I r h
  obtain ⟨v, l, z, H0, rfl, sm, rp, hf, q⟩ := h
  obtain ⟨C, a, fd, h1, h2, h3, h4, h5⟩ := F.ex
  obtain ⟨u, rfl, ru⟩ := vals1 r
  have rp0 := rp
  cases rp with
  | ins a1 a2 a3 =>
    rw [h1] at a2
    cases a2
    rename_i p dx fs
    obtain rfl : u = Value.ref p := ru
    obtain ⟨mA, J, _⟩ := ins_get I.hok (sm _ _ a1)
    obtain ⟨od, J, _⟩ := J.look
    have hsp : spOf X.K cl f [.ref p] H (fun v H' => v = .str z ∧ Ext H H') E0 := by
      refine ⟨H0, [], [], [.d (.ins c l)], ⟨sm, rfl, List.nodup_nil, fun n a c h => by simp at h⟩, .cons rp0 .nil, ?_⟩
      rw [hf]
      intro v H0' H' m' g st rr
      have rr : RepW X.K cl H0' m' v (.d (.str z)) := rr
      cases rr
      exact ⟨rfl, fun a o h => g.fr a o h (by simp) (by simp)⟩
    have hl := h5.len _ _ _ _ hsp
    have r2 : Vals [V.ref p] [Value.ref p] := .cons rfl .nil
    have rm : Room k X.A.in1.in1 := ((hr.mono (by omega) : Room (k + 2) X.A).in1).in1
    refine PySem.W.kso_call (by have := rm.units; have := rm.units0; omega) I.kIn J h2 h3 ?_
    have e0 : Env0 X.prog X.w X.K X.mg X.base X.A.in1.in1 X.stack s H := by
      have e := I.env0
      exact ⟨e.frames, e.mod, e.bs, e.bsz, e.funs, e.frf, e.hok, e.bare⟩
    refine wpAny_call (codeAny_mono (h5.run X.A.in1.in1 X.stack s H ⟨[.ref p], []⟩ [.ref p] [.ref p] _ E0 rm e0 (by
      have := h4 s [.ref p] I.kIn (by simpa using hl)
      simpa using this) r2 hsp) fun r s' hq => ?_)
    cases r with
    | error e => exact noPass pins σ H s e s' I hq
    | ok fl =>
      cases fl with
      | ret w =>
        obtain ⟨zz, H', I', rz, ez, ex⟩ := I.after hq
        subst ez
        obtain ⟨t, rfl⟩ := (show ∃ t, w = Value.str z t from rz)
        exact ⟨.str z, H', I', ⟨t, rfl⟩, q H' ex⟩
      | next => exact False.elim hq
      | brk => exact False.elim hq
      | cont => exact False.elim hq
theorem runE_ext {K : PySem.W.Frag} {H0 H : Hp} {m : List Addr} {s : S} {Wx : WX} {σ : L2.St} {Q : VK} {x : D} {v : V} (h : RunE K cl (rrW K cl) Wx H0 H m σ Q (.ok (.d x) s)) (st : Stt K cl H0 H m s) (hx : ∀ H0, Rep K cl H0 v x) : ∀ H', Ext H H' → Q v H' := fun H' e =>
  h v H0 H' m ⟨Same.refl _, List.prefix_rfl, fun a o h _ _ => e a o h, fun a h => by
    cases q : H a with
    | none => exact absurd q h
    | some o => rw [e a o q]; simp, fun _ _ _ _ h => h, fun _ h => .inl h, fun _ h => .inl h⟩ ⟨st.sub.trans e, st.len, st.nd, fun n a c q1 q2 => by
    obtain ⟨z1, z2⟩ := st.cell n a c q1 q2
    exact ⟨z1, z2.mono (Same.refl _) List.prefix_rfl fun o q => e a o q⟩⟩ (hx _)
noncomputable def strOfR : Res RV → S → Res W
  | .ok (.w (.d (.str z))) [] => fun s => .ok (.d (.str z)) s
  | _ => fun _ => .no
noncomputable def strW (c : Str) (f : Sem1) : W → S → Res W
  | .d (.ins c' l) => fun s => if c' = c then strOfR (f [.d (.ins c l)] []) s else .no
  | _ => fun _ => .no
noncomputable def eStrI (c : Str) (f : Sem1) (a : Cmp W) : Cmp W := fun ρ s => (a ρ s).bind (strW c f)
variable {Wx : WX} {e : Expr} {pos p : Pos} {ea : Cmp W} {x : Str}
theorem strW_run {K : PySem.W.Frag} {H0 H : Hp} {m : List Addr} {s : S} {σ : L2.St} {Q : VK} {a : W} {v : V} (st : Stt K cl H0 H m s) (rr : RepW K cl H0 m v a) (h2 : RunE K cl (rrW K cl) Wx H0 H m σ Q (strW c f a s)) : rStrI K cl c f [v] H Q := by
  cases a with
  | r n => exact h2.elim
  | d z =>
    cases z with
    | ins c2 l =>
      by_cases hcc : c2 = c
      · subst hcc
        have h2 : RunE K cl (rrW K cl) Wx H0 H m σ Q (if c2 = c2 then strOfR (f [.d (.ins c2 l)] []) s else .no) := h2
        rw [if_pos rfl] at h2
        generalize ef : f [.d (.ins c2 l)] [] = fr at h2
        unfold strOfR at h2
        split at h2
        · exact ⟨v, l, _, H0, rfl, st.sub, rr, ef, runE_ext h2 st fun _ => .str⟩
        · exact h2.elim
      · have h2 : RunE K cl (rrW K cl) Wx H0 H m σ Q (if c2 = c then strOfR (f [.d (.ins c l)] []) s else .no) := h2
        rw [if_neg hcc] at h2
        exact h2.elim
    | _ => exact h2.elim
theorem je_strI (F : StrAt X.prog X.w X.K X.mg X.base cl k c ps f) (hr : Room (k + 3) X.A) (hg : Gl X x) (hm : X.mg x = none) (hv : bootBuiltins x = some (.type "str")) (ha : JE cl Wx X e ea)
    (n1 : x ≠ Str.ofString "__name__" := by decide) (n2 : (x == Str.ofString "__debug__") = false := by decide)
    (hs : starEach [e] X.env = (false, eval e X.env) :: starEach [] X.env := by rfl) (h4 : ((backTo pos (starEach [] X.env)).any fun x => x.fst) = false := by rfl) :
    JE cl Wx X (.Call (.Name x p) [e] [] pos) (eStrI c f ea) :=
  PE.weaken (pe_callTy (call_strI F hr) hg hm hv (pa_cons ha pa_nil hs) n1 n2 hs h4) fun σ H Q ⟨H0, m, ow, s, ρ, cx, h⟩ => ⟨H0, m, ow, s, ρ, cx, RunE.bind h fun a s1 v H1 H1' m1 g st rr h2 => strW_run st rr h2⟩
structure ReprAt (P : Program) (w : World) (K : PySem.W.Frag) (mg : Str → Option Value) (base : Heap) (cl : Str → Option Addr) (k : Nat) (c : Str) (ps : List Str) (f : Sem1) : Prop where
  ex : ∃ (C a : Addr) (fd : FuncData), cl c = some C ∧ PySem.W.findIn K (.ref C) "__repr__" = some (some (.ref a)) ∧ PySem.W.isFn K (.ref a) = true ∧ Binds K fd ps [] ∧ FnOkG P w K mg base (L2.CX P w) k a fd ps (spOf K cl f)
theorem call_reprI (F : ReprAt X.prog X.w X.K X.mg X.base cl k c ps f) (gd : X.A.guards = some []) (hr : Room (k + 3) X.A) : CallR X (.builtin "repr") (rStrI X.K cl c f) := by
  intro pins s σ H xs us Q I r h
  obtain ⟨v, l, z, H0, rfl, sm, rp, hf, q⟩ := h
  obtain ⟨C, a, fd, h1, h2, h3, h4, h5⟩ := F.ex
  obtain ⟨u, rfl, ru⟩ := vals1 r
  have rp0 := rp
  cases rp with
  | ins a1 a2 a3 =>
    rw [h1] at a2
    cases a2
    rename_i p dx fs
    obtain rfl : u = Value.ref p := ru
    obtain ⟨mA, J, _⟩ := ins_get I.hok (sm _ _ a1)
    obtain ⟨od, J, _⟩ := J.look
    have hsp : spOf X.K cl f [.ref p] H (fun v H' => v = .str z ∧ Ext H H') E0 := by
      refine ⟨H0, [], [], [.d (.ins c l)], ⟨sm, rfl, List.nodup_nil, fun n a c h => by simp at h⟩, .cons rp0 .nil, ?_⟩
      rw [hf]
      intro v H0' H' m' g st rr
      have rr : RepW X.K cl H0' m' v (.d (.str z)) := rr
      cases rr
      exact ⟨rfl, fun a o h => g.fr a o h (by simp) (by simp)⟩
    have hl := h5.len _ _ _ _ hsp
    have r2 : Vals [V.ref p] [Value.ref p] := .cons rfl .nil
    have rm : Room k X.A.in1 := ((hr.mono (by omega) : Room (k + 1) X.A).in1)
    have e0 : Env0 X.prog X.w X.K X.mg X.base X.A.in1 X.stack s H := by
      have e := I.env0
      exact ⟨e.frames, e.mod, e.bs, e.bsz, e.funs, e.frf, e.hok, e.bare⟩
    have hcall : wpAny (model X.prog X.w) X.A.in1 (call (.ref a) [.ref p]) (fun r s' => ∃ m tk, r = .str m tk ∧ EP X pins σ Q (.str m tk) s') X.xe s := by
      refine wpAny_call (codeAny_mono (h5.run X.A.in1 X.stack s H ⟨[.ref p], []⟩ [.ref p] [.ref p] _ E0 gd rm e0 (by
        have := h4 s [.ref p] I.kIn (by simpa using hl)
        simpa using this) r2 hsp) fun r s' hq => ?_)
      cases r with
      | error e => exact noPass pins σ H s e s' I hq
      | ok fl =>
        cases fl with
        | ret w =>
          obtain ⟨zz, H', I', rz, ez, ex⟩ := I.after hq
          subst ez
          obtain ⟨t, rfl⟩ := (show ∃ t, w = Value.str z t from rz)
          exact ⟨_, _, rfl, .str z, H', I', ⟨t, rfl⟩, q H' ex⟩
        | next => exact False.elim hq
        | brk => exact False.elim hq
        | cont => exact False.elim hq
    refine Calls.call_function_entry PySem.F.kind_repr PySem.F.plain_repr PySem.F.entry_repr (PySem.F.args_repr1 _) ?_
    unfold Builtin.«repr»
    refine wpAny_bind (m := oneArg "repr" _) (wpAny_pure ?_)
    refine wpAny_bind (wpAny_cRoomFor (by have := rm.units; have := rm.units0; omega) ?_)
    have hsl : ∀ {Q' : Option Value → Shared → Prop}, Q' (some (.ref a)) s → wpAny (model X.prog X.w) X.A.in1 (specialOf (.ref p) "__repr__") Q' X.xe s := fun q => by
      unfold specialOf
      exact wpAny_bind (J.type.here ((PySem.W.looks_findIn I.kIn h2).here q))
    refine wpAny_bind (hsl ?_)
    show wpAny _ _ (if (some (Value.ref a)).isNone = true then _ else _) _ _ _
    rw [if_neg (by simp)]
    refine wpAny_bind (m := callSpecialIfBound? (.ref p) (Str.ofString "__repr__") _) (PySem.W.ifBound_K I.kIn J h2 h3 (wpAny_mono hcall (fun r s' hr => ?_) fun _ _ y => y))
    obtain ⟨m, tk, rfl, hq⟩ := hr
    refine wpAny_bind (wpAny_isInstance (typeIs_str _ _ _) isSubtype_str_str ?_)
    first
      | exact wpAny_pure ⟨_, rfl, hq⟩
      | (rw [if_pos rfl]; exact wpAny_pure ⟨_, rfl, hq⟩)
      | (simp only [if_true]; exact wpAny_pure ⟨_, rfl, hq⟩)
theorem je_reprI (F : ReprAt X.prog X.w X.K X.mg X.base cl k c ps f) (gd : X.A.guards = some []) (hr : Room (k + 3) X.A) (hg : Gl X x) (hm : X.mg x = none) (hv : bootBuiltins x = some (.builtin "repr")) (ha : JE cl Wx X e ea)
    (n1 : x ≠ "__name__" := by decide) (n2 : (x == ("__debug__" : Str)) = false := by decide)
    (hs : starEach [e] X.env = (false, eval e X.env) :: starEach [] X.env := by rfl) (h4 : ((backTo pos (starEach [] X.env)).any fun x => x.fst) = false := by rfl) :
    JE cl Wx X (.Call (.Name x p) [e] [] pos) (eStrI c f ea) :=
  PE.weaken (pe_callB (call_reprI F gd hr) hg hm hv (pa_cons ha pa_nil hs) n1 n2 hs h4) fun σ H Q ⟨H0, m, ow, s, ρ, cx, h⟩ => ⟨H0, m, ow, s, ρ, cx, RunE.bind h fun a s1 v H1 H1' m1 g st rr h2 => strW_run st rr h2⟩
end
end TG

set_option Elab.async false
set_option linter.all false
set_option maxRecDepth 100000
set_option maxHeartbeats 2000000
namespace TG
open PySem PySem.Spec PyProof.Rows L2
noncomputable def textTup (d : TG.D) : Option Str := match d with
  | .tup l => if SeqAt.shaped (TG.D.tup l).py = true ∧ (TG.D.tup l).py.showable = true ∧ (TG.D.tup l).py.shown.length ≤ 16777216 then some (TG.D.tup l).py.shown else none
  | _ => none
theorem textTup_ok {d : TG.D} {t : Str} (h : textTup d = some t) : ∃ l, d = .tup l ∧ SeqAt.shaped d.py = true ∧ d.py.showable = true ∧ d.py.shown.length ≤ 16777216 ∧ t = d.py.shown := by
  unfold textTup at h
  split at h
  · split at h
    · rename_i q; cases h; exact ⟨_, rfl, q.1, q.2.1, q.2.2, rfl⟩
    · cases h
  · cases h
noncomputable def fFmt : TG.W → S → Res TG.W := fun w s => match w with
  | .d (.str y) => if y.length ≤ 16777216 then .ok (.d (.str y)) s else .no
  | .d (.int i) => if i.natAbs.log2 < 1920 then .ok (.d (.str (Str.ofString (toString i)))) s else .no
  | .d d => (match textTup d with | some t => .ok (.d (.str t)) s | none => .no)
  | .r _ => .no
noncomputable def eFmt (a : Cmp TG.W) : Cmp TG.W := fun ρ s => (a ρ s).bind fFmt
noncomputable def fReprT : TG.W → S → Res TG.W := fun w s => match w with
  | .d d => (match textTup d with | some t => .ok (.d (.str t)) s | none => .no)
  | .r _ => .no
section
variable {X : Cx} {cl : Str → Option Addr} {Wx : WX} {e v1 v2 : Expr} {es rest : List Expr} {pos : Pos} {ea : Cmp TG.W}
theorem dd_of {d : PyData} (sh : SeqAt.shaped d = true) : d.depth ≤ 64 := by
  unfold SeqAt.shaped at sh
  simp only [Bool.and_eq_true, decide_eq_true_eq] at sh
  omega
theorem tup_dp {K : PySem.W.Frag} {H0 H : Hp} {m : List Addr} {s : S} {v : V} {d : TG.D} {t : Str} (st : Stt K cl H0 H m s) (rr : RepW K cl H0 m v (.d d)) (h : textTup d = some t) : ∃ p, v = .ref p ∧ Dp K H (.ref p) d.py := by
  obtain ⟨l, rfl, h1, _⟩ := textTup_ok h
  have dp := Rep.dp st.sub rr (SeqAt.canLay_of_shaped h1)
  have rr : Rep K cl H0 v (.tup l) := rr
  cases rr
  exact ⟨_, rfl, dp⟩
theorem je_fmt (hg : X.A.guards = some []) (hu : X.A.units + 70 < cLine) (he : JE cl Wx X e ea) : JE cl Wx X (.FormattedValue e (-1) none pos) (eFmt ea) := by
  refine ⟨fun pins s σ H Q I h => ?_⟩
  obtain ⟨H0, m, ow, s0, ρ, cx, h⟩ := h
  refine wpAny_FormattedValue_plain (thn (he.run pins s σ H (fun v H' => ∃ (x : TG.W) (H0' : Hp) (m' : List Addr) (s1 : S), Stt X.K cl H0' H' m' s1 ∧ RepW X.K cl H0' m' v x ∧ RunE X.K cl (rrW X.K cl) Wx H0' H' m' σ Q (fFmt x s1)) I ⟨H0, m, ow, s0, ρ, cx, RunE.bind h fun x s1 v H1 H1' m1 g st rr h2 => ⟨x, H1, m1, s1, st, rr, h2⟩⟩) fun v s1 hv => ?_)
  obtain ⟨x, H1, I1, r1, w, H0', m', s2, st, rr, h2⟩ := hv
  cases w with
  | r n => exact h2.elim
  | d d =>
    have viaT : ∀ d : TG.D, RepW X.K cl H0' m' x (.d d) → (RunE X.K cl (rrW X.K cl) Wx H0' H1 m' σ Q (match textTup d with | some t => .ok (.d (.str t)) s2 | none => .no)) → wpAny (model X.prog X.w) X.A (formatField v Str.empty) (EP X pins σ Q) X.xe s1 := fun d rr h2 => by
      cases e1 : textTup d with
      | none => rw [e1] at h2; exact h2.elim
      | some t =>
        rw [e1] at h2
        obtain ⟨p, rfl, dp⟩ := tup_dp st rr e1
        obtain ⟨l, _, k1, k2, k3, rfl⟩ := textTup_ok e1
        obtain rfl : v = Value.ref p := r1
        obtain ⟨as, rd⟩ := Dp.reads I1 d.py (.ref p) (.ref p) dp rfl
        have c0 := SeqAt.canLay_of_shaped k1
        have dd := dd_of k1
        have q := RunE.done (RR := rrW X.K cl) h2 st (Rep.str : Rep X.K cl H0' (.str d.py.shown) (.str d.py.shown))
        exact formatField_of_reads rd k2 (PyData.noDict_hsm (PyData.hasDict_of_canLay d.py c0)) hg (by omega) (fun _ _ e => e) (fun h' u tk k => ⟨.str d.py.shown, H1, I1.kept k, ⟨u, rfl⟩, q⟩) (by rw [sizeLine_eq]; exact k3)
    cases d with
    | str y =>
      have h2 : RunE X.K cl (rrW X.K cl) Wx H0' H1 m' σ Q (if y.length ≤ 16777216 then .ok (.d (.str y)) s2 else .no) := h2
      by_cases hz : y.length ≤ 16777216
      · rw [if_pos hz] at h2
        have rr : Rep X.K cl H0' x (.str y) := rr
        cases rr
        obtain ⟨t, rfl⟩ := r1
        have q := RunE.done (RR := rrW X.K cl) h2 st (Rep.str : Rep X.K cl H0' (.str y) (.str y))
        exact wpAny_formatField_str ⟨.str y, H1, I1, ⟨t, rfl⟩, q⟩ ⟨.str y, H1, I1.tok _, ⟨_, rfl⟩, q⟩ (by rw [sizeLine_eq]; exact hz)
      · rw [if_neg hz] at h2; exact h2.elim
    | int i =>
      have h2 : RunE X.K cl (rrW X.K cl) Wx H0' H1 m' σ Q (if i.natAbs.log2 < 1920 then .ok (.d (.str (Str.ofString (toString i)))) s2 else .no) := h2
      by_cases hz : i.natAbs.log2 < 1920
      · rw [if_pos hz] at h2
        have rr : Rep X.K cl H0' x (.int i) := rr
        cases rr
        obtain ⟨t, rfl⟩ := r1
        have q := RunE.done (RR := rrW X.K cl) h2 st (Rep.str : Rep X.K cl H0' (.str (Str.ofString (toString i))) (.str (Str.ofString (toString i))))
        exact wpAny_formatField_int hz ⟨.str (toString i), H1, I1.tok _, ⟨_, rfl⟩, q⟩
      · rw [if_neg hz] at h2; exact h2.elim
    | tup l => exact viaT _ rr h2
    | non => exact viaT _ rr h2
    | bl b => exact viaT _ rr h2
    | lst l => exact viaT _ rr h2
    | dic l => exact viaT _ rr h2
    | ins c l => exact viaT _ rr h2
    | scr l => exact viaT _ rr h2
noncomputable def jsK (k : Str → Cmp TG.W) (acc : Str) (ρ : Rho) : TG.W → S → Res TG.W := fun w s => match w with
  | .d (.str y) => if (acc ++ y).length ≤ 16777216 then k (acc ++ y) ρ s else .no
  | _ => .no
noncomputable def jsE : List (Cmp TG.W) → Str → Cmp TG.W
  | [], acc => fun _ s => .ok (.d (.str acc)) s
  | c :: cs, acc => fun ρ s => (c ρ s).bind (jsK (jsE cs) acc ρ)
inductive JPs (cl : Str → Option Addr) (Wx : WX) (X : Cx) : List Expr → List (Cmp TG.W) → Prop where
  | nil : JPs cl Wx X [] []
  | cons {e : Expr} {c : Cmp TG.W} {es : List Expr} {cs : List (Cmp TG.W)} (h : JE cl Wx X e c) (r : JPs cl Wx X es cs) : JPs cl Wx X (e :: es) (c :: cs)
theorem jps_pj {cs : List (Cmp TG.W)} (h : JPs cl Wx X es cs) : PJ X es (cs.map fun c => Tof X.K cl (rrW X.K cl) Wx c) := by
  induction h with
  | nil => exact .nil
  | cons h _ ih => exact .cons h ih
theorem js_run {K : PySem.W.Frag} {σ : L2.St} {Q : VK} : ∀ (cs : List (Cmp TG.W)) (acc : Str) {H0 H : Hp} {m ow : List Addr} {s : S} {ρ : Rho}, Ctx K cl H0 H m ow s σ ρ → RunE K cl (rrW K cl) Wx H0 H m σ Q (jsE cs acc ρ s) →
    tJs (cs.map fun c => Tof K cl (rrW K cl) Wx c) acc σ H fun out H1 => Q (.str out) H1
  | [], acc, H0, H, m, ow, s, ρ, cx, h => RunE.done (RR := rrW K cl) h cx.st (Rep.str : Rep K cl H0 (.str acc) (.str acc))
  | c :: cs, acc, H0, H, m, ow, s, ρ, cx, h => by
    refine ⟨H0, m, ow, s, ρ, cx, ?_⟩
    refine RunE.bind h fun x s1 v H1 H1' m1 g st rr h2 => ?_
    cases x with
    | r n => exact h2.elim
    | d x =>
      cases x with
      | str y =>
        have h2 : RunE K cl (rrW K cl) Wx H1 H1' m1 σ Q (if (acc ++ y).length ≤ 16777216 then jsE cs (acc ++ y) ρ s1 else .no) := h2
        by_cases hz : (acc ++ y).length ≤ 16777216
        · rw [if_pos hz] at h2
          have rr : Rep K cl H1 v (.str y) := rr
          cases rr
          exact ⟨y, rfl, by rw [sizeLine_eq]; exact hz, js_run cs (acc ++ y) (cx.go g st) h2⟩
        · rw [if_neg hz] at h2; exact h2.elim
      | _ => exact h2.elim
theorem je_joined {cs : List (Cmp TG.W)} (h : JPs cl Wx X (v1 :: v2 :: rest) cs) : JE cl Wx X (.JoinedStr (v1 :: v2 :: rest) pos) (jsE cs Str.empty) :=
  PE.weaken (pe_joined (jps_pj h)) fun σ H Q ⟨H0, m, ow, s, ρ, cx, h⟩ => js_run cs Str.empty cx h
theorem calls_reprT {K : PySem.W.Frag} {cl : Str → Option Addr} : CallS K cl (rRepr K) (c1 fReprT) := calls1 fun Wx σ H0 H m s x wx Q st rx h => by
  cases wx with
  | r n => exact h.elim
  | d d =>
    have h : RunE K cl (rrW K cl) Wx H0 H m σ Q (match textTup d with | some t => .ok (.d (.str t)) s | none => .no) := h
    cases e2 : textTup d with
    | none => rw [e2] at h; exact h.elim
    | some t =>
      rw [e2] at h
      obtain ⟨p, rfl, dp⟩ := tup_dp st rx e2
      obtain ⟨l, _, h1, h2, h3, rfl⟩ := textTup_ok e2
      exact ⟨p, _, rfl, dp, h1, h2, h3, RunE.done (RR := rrW K cl) h st .str⟩
end
end TG

set_option Elab.async false
set_option linter.all false
set_option maxRecDepth 100000
set_option maxHeartbeats 4000000
namespace PySem.SeqAt
open AutoSeq1 (wpAny_loadPart')
open MeetsSeq MeetsSeq2 MeetsSeq3 SeqRoads2
section
variable {prog : Program} {w : World} {l : Addr} {items : Array Value} {x : Value} {J : Shared → Prop} {e : Nat → Bool}
noncomputable def InJ (prog : Program) (w : World) (l : Addr) (items : Array Value) (x : Value) (J : Shared → Prop) (e : Nat → Bool) (i : Nat) : Spec := fun A R s =>
  J s ∧ (∀ s, J s → ∃ n dd sl, s.heap.get? l = some { cls := .type "list", dict := dd, data := .seq items n, slots := sl }) ∧
  (∀ (j : Nat) (hj : j < items.size) (s : Shared) (Q : Bool → Shared → Prop), J s → (∀ s', J s' → Q (e j) s') → wpAny (model prog w) A.in1 (eqBool items[j] x) Q (fun e s' => R (.error e) s') s) ∧
  ∀ s', J s' → R (.ok (.ret (.bool ((List.range' i (items.size - i)).any e)))) s'
theorem contains_loopJ (k : Nat) : ∀ i : Nat, items.size - i = k → MeetsIn prog w (Builtin.«list.__contains__.loop» ⟨[.ref l, x, rawInt i], []⟩) (InJ prog w l items x J e i) := by
  induction k with
  | zero =>
    intro i hk A R s h
    obtain ⟨hJ, hl, he, h⟩ := h
    obtain ⟨n, dd, sl, hl1⟩ := hl s hJ
    have h := h s hJ
    obtain ⟨hp, g, d, tk, os⟩ := s
    wp_walk using wpAny_loadPart' hl1
    have hi : items[((i : Nat) : Int).toNat]? = none := by simp; omega
    rw [hk] at h
    rw [hi]
    wp_walk
    exact h
  | succ k ih =>
    intro i hk A R s h
    obtain ⟨hJ, hl, he, h⟩ := h
    obtain ⟨n, dd, sl, hl1⟩ := hl s hJ
    have hlt : i < items.size := by omega
    have ev := he i hlt
    have hd : List.range' i (items.size - i) = i :: List.range' (i + 1) (items.size - (i + 1)) := by
      rw [show items.size - i = (items.size - (i + 1)) + 1 by omega]
      rfl
    rw [hd] at h
    simp only [List.any_cons] at h
    have h0 := h
    obtain ⟨hp, g, d, tk, os⟩ := s
    wp_walk using wpAny_loadPart' hl1
    have hi : items[((i : Nat) : Int).toNat]? = some items[i] := by simp [hlt]
    rw [hi]
    refine wpAny_bind (ev _ _ hJ fun s' hJ' => ?_)
    have h := h s' hJ'
    cases hb : e i with
    | true =>
      rw [hb] at h
      wp_walk
      exact h
    | false =>
      rw [hb] at h
      have hc : ((i : Int) + 1) = ((i + 1 : Nat) : Int) := by push_cast; rfl
      wp_walk
      rw [hc]
      exact ⟨plainId_quiet plain_contains_loop _, codeAny_builtin entry_contains_loop (by
        rw [Around.under_plainId plain_contains_loop _]
        exact ih (i + 1) (by omega) A R _ ⟨hJ', hl, he, fun s2 h2 => by
          have := h0 s2 h2
          rw [hb] at this
          simpa using this⟩)⟩
theorem list_containsJ : MeetsIn prog w (Builtin.«list.__contains__» ⟨[.ref l, x], []⟩) (InJ prog w l items x J e 0) := by
  intro A R s h
  have hh := h
  obtain ⟨hJ, hl, he, h⟩ := h
  obtain ⟨n, dd, sl, hl1⟩ := hl s hJ
  obtain ⟨hp, g, d, tk, os⟩ := s
  wp_walk using wpAny_loadPart' hl1
  exact ⟨plainId_quiet plain_contains_loop _, codeAny_builtin entry_contains_loop (by
    rw [Around.under_plainId plain_contains_loop _]
    exact contains_loopJ _ 0 rfl A R _ hh)⟩
theorem notIn_J {A : Around} {E : Value → Shared → Prop} {Q : Value → Shared → Prop} {s : Shared} (hJ : J s) (hl : ∀ s, J s → ∃ n dd sl, s.heap.get? l = some { cls := .type "list", dict := dd, data := .seq items n, slots := sl })
    (he : ∀ (j : Nat) (hj : j < items.size) (s : Shared) (Q : Bool → Shared → Prop), J s → (∀ s', J s' → Q (e j) s') → wpAny (model prog w) A.in1 (eqBool items[j] x) Q E s)
    (h : ∀ s', J s' → Q (.bool (!(List.range' 0 items.size).any e)) s') : wpAny (model prog w) A (compareOp .NotIn x (.ref l)) Q E s := by
  obtain ⟨n, dd, sl, hl1⟩ := hl s hJ
  show wpAny _ A (do return .bool (!(← PySem.contains (.ref l) x))) Q E s
  refine wpAny_bind (wpAny_contains_slot ⟨_, hl1, rfl⟩ F.slot_list_contains (wpAny_mono (call_meetsIn (E := E) (Q := fun v s' => ∃ b, v = .bool b ∧ Q (.bool (!b)) s') F.slot_list_contains ⟨_, hl1, rfl⟩ F.entry_list_contains (F.args_list_contains_2 _ _) (list_containsJ (items := items) (J := J) (e := e)) ⟨hJ, hl, he, fun s' h' => ⟨_, rfl, h s' h'⟩⟩) (fun v s' hv => ?_) fun _ _ e => e))
  obtain ⟨b, rfl, hq⟩ := hv
  exact wpAny_truthy_bool (wpAny_pure hq)
end
end PySem.SeqAt
namespace TG
open PySem PySem.Spec PyProof.Rows L2
theorem eqBool_same {M : Model} {A : Around} {Q : Bool → Shared → Prop} {E : Value → Shared → Prop} {s : Shared} {l : Addr} (h : Q true s) : wpAny M A (eqBool (.ref l) (.ref l)) Q E s := by
  unfold eqBool
  refine wpAny_holding ?_
  rw [if_pos (by simp)]
  wp_walk
  exact h
noncomputable def eqsI (c : Str) (f : Sem1) (x : TG.D) : List TG.D → Option (List Bool)
  | [] => some []
  | .ins c' ly :: r => if c' = c then (match f [.d (.ins c ly), .d x] [], eqsI c f x r with
    | .ok (.w (.d (.bl b))) [], some bs => some (b :: bs)
    | _, _ => none) else none
  | _ => none
noncomputable def fNiI (c : Str) (f : Sem1) : TG.W → TG.W → S → Res TG.W := fun x y s => match x, y with
  | .d (.ins cx lx), .d (.lst l) => if cx = c then (match eqsI c f (.ins c lx) l with
    | some bs => if bs.any id = true then .ok (.d (.bl false)) s else .no
    | none => .no) else .no
  | _, _ => .no
noncomputable def rNiI (K : PySem.W.Frag) (cl : Str → Option Addr) (c : Str) (f : Sem1) : R2 := fun v u H Q =>
  ∃ (lx : List (Str × TG.D)) (l : List TG.D) (bs : List Bool) (H0 : Hp), Same H0 H ∧ Rep K cl H0 v (.ins c lx) ∧ Rep K cl H0 u (.lst l) ∧ eqsI c f (.ins c lx) l = some bs ∧ bs.any id = true ∧ ∀ H', Ext H H' → Q (.bl false) H'
theorem eqsI_at {c : Str} {f : Sem1} {x : TG.D} : ∀ {l : List TG.D} {bs : List Bool}, eqsI c f x l = some bs → l.length = bs.length ∧ ∀ j (h : j < l.length) (h' : j < bs.length), ∃ ly, l[j] = .ins c ly ∧ f [.d (.ins c ly), .d x] [] = .ok (.w (.d (.bl bs[j]))) []
  | [], bs, h => by cases h; exact ⟨rfl, fun j h => absurd h (Nat.not_lt_zero _)⟩
  | d :: r, bs, h => by
    unfold eqsI at h
    split at h
    · cases ‹_ = []›
    · rename_i c' ly r' e
      cases e
      split at h
      · rename_i hc
        subst hc
        split at h
        · rename_i b bs2 e1 e2
          cases h
          obtain ⟨k1, k2⟩ := eqsI_at e2
          refine ⟨by simp [k1], fun j h h' => ?_⟩
          cases j with
          | zero => exact ⟨ly, rfl, e1⟩
          | succ j => exact k2 j (by simpa using h) (by simpa using h')
        · cases h
      · cases h
    · cases h
theorem reps_len {K : PySem.W.Frag} {cl : Str → Option Addr} {H0 : Hp} : ∀ {vs : List V} {l : List TG.D}, Reps K cl H0 vs l → vs.length = l.length
  | _, _, .nil => rfl
  | _, _, .cons _ b => by simp [reps_len b]
theorem reps_at {K : PySem.W.Frag} {cl : Str → Option Addr} {H0 : Hp} : ∀ {vs : List V} {l : List TG.D}, Reps K cl H0 vs l → ∀ j (h : j < vs.length) (h' : j < l.length), Rep K cl H0 vs[j] l[j]
  | _, _, .nil, j, h, _ => absurd h (Nat.not_lt_zero _)
  | _, _, .cons a b, 0, _, _ => a
  | _, _, .cons a b, j + 1, h, h' => reps_at b j (by simpa using h) (by simpa using h')
theorem vals_at : ∀ {vs : List V} {is : List Value}, Vals vs is → ∀ j (h : j < vs.length) (h' : j < is.length), RelV vs[j] is[j]
  | _, _, .nil, j, h, _ => absurd h (Nat.not_lt_zero _)
  | _, _, .cons a b, 0, _, _ => a
  | _, _, .cons a b, j + 1, h, h' => vals_at b j (by simpa using h) (by simpa using h')
theorem vals_refs : ∀ {vs : List V} {is1 is2 : List Value}, (∀ v ∈ vs, ∃ a, v = V.ref a) → Vals vs is1 → Vals vs is2 → is1 = is2
  | _, _, _, _, .nil, .nil => rfl
  | _, _, _, h, .cons a b, .cons c d => by
    obtain ⟨x, rfl⟩ := h _ (List.mem_cons_self ..)
    have a : _ = Value.ref x := a
    have c : _ = Value.ref x := c
    rw [a, c, vals_refs (fun v hv => h v (List.mem_cons_of_mem _ hv)) b d]
section
variable {X : Cx} {cl : Str → Option Addr} {k : Nat} {ps : List Str} {f : Sem1} {c : Str}
noncomputable def RTwoI (K : PySem.W.Frag) (cl : Str → Option Addr) (c : Str) (f : Sem1) : Addr → Addr → Hp → Bool → Prop := fun a b H r =>
  ∃ (lx ly : List (Str × TG.D)) (H0 : Hp), Same H0 H ∧ Rep K cl H0 (.ref a) (.ins c lx) ∧ Rep K cl H0 (.ref b) (.ins c ly) ∧ f [.d (.ins c lx), .d (.ins c ly)] [] = .ok (.w (.d (.bl r))) []
theorem op_niI (F : EqAtC X.prog X.w X.K X.mg X.base cl k c ps f) (hr : Room (k + 2) X.A) : OpR X (compareOp .NotIn) (rNiI X.K cl c f) := by
  intro pins s σ H v u vv uu Q I rv ru h
  obtain ⟨lx, l, bs, H0, sm, rx, ry, e1, e2, q⟩ := h
  obtain ⟨C, a, fd, h1, h2, h3, h4, h5⟩ := F.ex
  have G : FnOk X.prog X.w X.K X.mg X.base (L2.CX X.prog X.w) k a fd ps (spEqB (RTwoI X.K cl c f)) := h5.imp fun vs H Q E ⟨x, y, b, e, ⟨lx, ly, H0, s, r1, r2, hf⟩, q⟩ => by
    subst e
    refine ⟨H0, [], [], [.d (.ins c lx), .d (.ins c ly)], ⟨s, rfl, List.nodup_nil, fun n a c h => by simp at h⟩, .cons r1 (.cons r2 .nil), ?_⟩
    rw [hf]
    intro v H0' H' m' g st rr
    have e : v = .bl b := by
      have rr : RepW X.K cl H0' m' v (.d (.bl b)) := rr
      cases rr
      rfl
    subst e
    exact q H' fun a o h => g.fr a o h (by simp) (by simp)
  obtain ⟨k1, k2⟩ := eqsI_at e1
  cases ry with
  | lst a1 a2 =>
    rename_i p vs
    obtain rfl : uu = Value.ref p := ru
    have rx0 := rx
    cases rx with
    | ins b1 b2 b3 =>
      rw [h1] at b2
      cases b2
      rename_i px dx fs
      obtain rfl : vv = Value.ref px := rv
      obtain ⟨z, its, kk, r, e⟩ := I.hok p _ (sm _ _ a1)
      have len1 : vs.length = l.length := reps_len a2
      have len2 : vs.length = its.length := r.length
      have item : ∀ j (hv : j < vs.length), ∃ (q dy : Addr) (gs : List (Str × V)) (ly : List (Str × TG.D)), vs[j] = .ref q ∧ H q = some (.ins C dy gs) ∧ Rep X.K cl H0 (.ref q) (.ins c ly) ∧ f [.d (.ins c ly), .d (.ins c lx)] [] = .ok (.w (.d (.bl (bs.getD j false)))) [] := fun j hv => by
        have hl : j < l.length := by omega
        have hb : j < bs.length := by omega
        obtain ⟨ly, g1, g2⟩ := k2 j hl hb
        have rj := reps_at a2 j hv hl
        rw [g1] at rj
        have rj0 := rj
        generalize vs[j] = vj at rj rj0
        cases rj with
        | ins c1 c2 c3 =>
          rw [h1] at c2
          cases c2
          exact ⟨_, _, _, ly, rfl, sm _ _ c1, rj0, by rw [g2]; simp [List.getD, hb]⟩
      have refs : ∀ v ∈ vs, ∃ a, v = V.ref a := fun v hv => by
        obtain ⟨j, hj, rfl⟩ := List.getElem_of_mem hv
        obtain ⟨q, _, _, _, g, _⟩ := item j hj
        exact ⟨q, g⟩
      have hat : ∀ s', LoopI X pins σ H s' → ∃ n dd sl, s'.heap.get? p = some { cls := .type "list", dict := dd, data := .seq its.toArray n, slots := sl } := fun s' ⟨H1, I1, ex⟩ => by
        obtain ⟨z2, its2, kk2, r2, e2⟩ := I1.hok p _ (ex _ _ (sm _ _ a1))
        cases vals_refs refs r r2
        exact ⟨_, _, _, e2⟩
      refine PySem.SeqAt.notIn_J (items := its.toArray) (J := LoopI X pins σ H) (e := fun j => bs.getD j false || decide (vs[j]? = some (.ref px))) ⟨H, I, Ext.rfl'⟩ hat (fun j hj s' Q' ⟨H1, I1, ex⟩ qq => ?_) (fun s' ⟨H1, I1, ex⟩ => ?_)
      · have hj2 : j < vs.length := by simpa [len2] using hj
        obtain ⟨qa, dy, gs, ly, g1, g2, g3, g4⟩ := item j hj2
        have hit : its.toArray[j] = Value.ref qa := by
          have := vals_at r j hj2 (by omega)
          rw [g1] at this
          have this : its[j] = Value.ref qa := this
          simpa using this
        rw [hit]
        by_cases hq : qa = px
        · subst hq
          refine eqBool_same ?_
          have := qq s' ⟨H1, I1, ex⟩
          simpa [g1, hj2] using this
        · refine GQ.eqBool_refG hq ?_
          have sb : Sub X k X.A.in1 := ⟨hr.in1.mono (by omega), rfl⟩
          refine wpAny_mono (rc_eqInsB G h2 h3 h4 noPass sb I1 (ex _ _ g2) (ex _ _ (sm _ _ b1)) ⟨ly, lx, H0, sm.trans ex, g3, rx0, g4⟩) (fun v s2 hv => ?_) fun _ _ e => e
          obtain ⟨rfl, H2, I2, ex2⟩ := hv
          refine ⟨_, rfl, ?_⟩
          have := qq s2 ⟨H2, I2, ex.trans ex2⟩
          simpa [g1, hj2, hq] using this
      · have hany : (List.range' 0 its.toArray.size).any (fun j => bs.getD j false || decide (vs[j]? = some (V.ref px))) = true := by
          rw [List.any_eq_true] at e2 ⊢
          obtain ⟨b, hb, hb2⟩ := e2
          obtain ⟨j, hj, rfl⟩ := List.getElem_of_mem hb
          refine ⟨j, ?_, ?_⟩
          · simp only [List.mem_range'_1, List.size_toArray]; omega
          · have hb2 : bs[j] = true := hb2
            simp [List.getD, hj, hb2]
        rw [hany]
        exact ⟨.bl false, H1, I1, rfl, q H1 ex⟩
theorem ops_niI {K : PySem.W.Frag} : OpS K cl (rNiI K cl c f) (fNiI c f) := by
  intro Wx σ H0 H m s v u x y Q st rx ry h
  unfold fNiI at h
  split at h
  · rename_i cx lx l
    split at h
    · rename_i hc
      subst hc
      split at h
      · rename_i bs e1
        split at h
        · rename_i e2
          exact ⟨lx, l, bs, H0, st.sub, rx, ry, e1, e2, runE_ext h st fun _ => .bl⟩
        · exact h.elim
      · exact h.elim
    · exact h.elim
  · exact h.elim
end
end TG

set_option Elab.async false
set_option linter.all false
set_option maxRecDepth 100000
set_option maxHeartbeats 4000000
namespace TG
open PySem PySem.Spec PyProof.Rows L2
theorem hu70 {A : Around} {k : Nat} (hr : Room k A) : A.units + 70 < cLine := by have := hr.un; omega
noncomputable def isTu (w : TG.W) (s : S) : Bool := match w with | .d (.tup _) => true | _ => false
noncomputable def fIsOT (c : Str) : W → S → Res W := fun x s => if insOf c "__eq__" x s = true then .ok (.d (.bl true)) s else if isTu x s = true then .ok (.d (.bl false)) s else .no
structure IsCT (K : PySem.W.Frag) (mg : Str → Option Value) (cl : Str → Option Addr) (c : Str) : Prop where
  ex : ∃ C, cl c = some C ∧ mg c = some (.ref C) ∧ C8.InsC K C ∧ PySem.W.kitOne K (.type "tuple") (.ref C) = some false
theorem call_isCT {X : Cx} {C : Addr} (c : C8.InsC X.K C) (n1 : PySem.W.kitOne X.K (.type "tuple") (.ref C) = some false) :
    CallR X (.builtin "isinstance") (fun xs H Q => ∃ v, xs = [v, .ref C] ∧ ((∃ a dx fs, v = .ref a ∧ H a = some (.ins C dx fs) ∧ Q (.bl true) H) ∨ (TyOf X.K H v (.type "tuple") ∧ Q (.bl false) H))) := by
  intro pins s σ H xs us Q I r h
  obtain ⟨v, rfl, h⟩ := h
  obtain ⟨u, w', rfl, ru, rw'⟩ := vals2 r
  cases rw'
  rcases h with ⟨a, dx, fs, rfl, ha, q⟩ | ⟨ty, q⟩
  · exact isinst_ok I ru (TyOf.ins ha c.cl c.ha c.hn c.htk c.hm) c.me fun tk => ⟨.bl true, H, I.tok _, rfl, q⟩
  · exact isinst_ok I ru ty n1 fun tk => ⟨.bl false, H, I.tok _, rfl, q⟩
structure EqAtT (K : PySem.W.Frag) (cl : Str → Option Addr) (c : Str) : Prop where
  ex : ∀ C, cl c = some C → PySem.W.notFirst K C (.type "tuple") = true
noncomputable def fEqT (c : Str) (f : Sem1) : TG.W → TG.W → S → Res TG.W := fun x y s => if insOf c "__eq__" x s = true ∧ isTu y s = true then eqC (f [x, y] s) else .no
noncomputable def rEqT (K : PySem.W.Frag) (cl : Str → Option Addr) (c : Str) (f : Sem1) : R2 := fun v u H Q =>
  ∃ (x y : TG.W) (b : Bool) (H0 : Hp) (m : List Addr) (s s' : S), Stt K cl H0 H m s ∧ RepW K cl H0 m v x ∧ RepW K cl H0 m u y ∧ insOf c "__eq__" x s = true ∧ isTu y s = true ∧ f [x, y] s = .ok (.w (.d (.bl b))) s' ∧
    ∀ H0' H' m', GoE H0 H m H0' H' m' → Stt K cl H0' H' m' s' → Q (.bl b) H'
section
variable {X : Cx} {cl : Str → Option Addr} {Wx : WX} {e : Expr} {pos p q : Pos} {ea : Cmp W} {x y : Str}
theorem je_isOT (c : Str) (hg : Gl X x) (hm : X.mg x = none) (hv : bootBuiltins x = some (.builtin "isinstance")) (hg2 : Gl X c) (F : IsCT X.K X.mg cl c) (ha : JE cl Wx X e ea)
    (n1 : x ≠ "__name__" := by decide) (n2 : (x == ("__debug__" : Str)) = false := by decide) (n4 : (c == ("__debug__" : Str)) = false := by decide)
    (hs : starEach [e, .Name c q] X.env = (false, eval e X.env) :: starEach [.Name c q] X.env := by rfl) (hs2 : starEach [.Name c q] X.env = (false, eval (.Name c q) X.env) :: starEach [] X.env := by rfl) (h4 : ((backTo pos (starEach [.Name c q] X.env)).any fun x => x.fst) = false := by rfl) :
    JE cl Wx X (.Call (.Name x p) [e, .Name c q] [] pos) (eUn (fIsOT c) ea) := by
  obtain ⟨C, hC, hm2, hc, k1⟩ := F.ex
  exact PE.weaken (pe_callB (call_isCT hc k1) hg hm hv (pa_cons ha (pa_cons (pe_glob hg2 hm2 (v := .ref C) rfl n4) pa_nil hs2) hs) n1 n2 hs h4) fun σ H Q ⟨H0, m, ow, s, ρ, cx, h⟩ => ⟨H0, m, ow, s, ρ, cx, RunE.bind h fun a s1 v H1 H1' m1 g st rr h2 => by
    have h2 : RunE X.K cl (rrW X.K cl) Wx H1 H1' m1 σ Q (if insOf c "__eq__" a s1 = true then .ok (.d (.bl true)) s1 else if isTu a s1 = true then .ok (.d (.bl false)) s1 else .no) := h2
    split at h2
    · rename_i hi
      obtain ⟨p, dx, fs, rfl, k1, k2⟩ := insOf_ok hC st rr hi
      exact ⟨_, rfl, .inl ⟨_, _, _, rfl, k1, RunE.done (RR := rrW X.K cl) h2 st (Rep.bl : Rep X.K cl H1 (.bl true) (.bl true))⟩⟩
    · split at h2
      · rename_i hs
        have done := RunE.done (RR := rrW X.K cl) h2 st (Rep.bl : Rep X.K cl H1 (.bl false) (.bl false))
        cases a with
        | r n => cases hs
        | d z =>
          cases z with
          | tup l =>
            cases rr with
            | tup a1 a2 => exact ⟨_, rfl, .inr ⟨.tup (st.sub _ _ a1), done⟩⟩
          | _ => cases hs
      · exact h2.elim⟩
variable {k : Nat} {ps : List Str} {f : Sem1} {c : Str}
theorem op_eqT (F : EqAtC X.prog X.w X.K X.mg X.base cl k c ps f) (N : EqAtT X.K cl c) (hr : Room (k + 2) X.A) : OpR X (compareOp .Eq) (rEqT X.K cl c f) := by
  intro pins s σ H v u vv uu Q I rv ru h
  obtain ⟨x, y, b, H0, m, s0, s1, st, rx, ry, hx, hy, hf, q⟩ := h
  obtain ⟨C, a, fd, h1, h2, h3, h4, h5⟩ := F.ex
  have nf := N.ex C h1
  obtain ⟨p, dx, fs, rfl, hp, _⟩ := insOf_ok h1 st rx hx
  obtain rfl : vv = Value.ref p := rv
  obtain ⟨mA, J, _⟩ := ins_get I.hok hp
  obtain ⟨od, J, _⟩ := J.look
  obtain ⟨mm, hF⟩ := I.fr
  have hsp : spOf X.K cl f [.ref p, u] H (fun v H' => v = .bl b ∧ Q (.bl b) H') E0 := by
    refine ⟨H0, m, s0, [x, y], st, .cons rx (.cons ry .nil), ?_⟩
    rw [hf]
    intro v H0' H' m' g st' rr
    have rr : RepW X.K cl H0' m' v (.d (.bl b)) := rr
    cases rr
    exact ⟨rfl, q _ _ _ g st'⟩
  have hl := h5.len _ _ _ _ hsp
  have r2 : Vals [V.ref p, u] [Value.ref p, uu] := .cons rfl (.cons ru .nil)
  have lk : PySem.W.Looks (model X.prog X.w) s.heap (typeOf uu) (.type "tuple") := by
    cases y with
    | r n => cases hy
    | d z =>
      cases z with
      | tup l =>
        cases ry with
        | tup a1 a2 =>
          obtain rfl : uu = Value.ref _ := ru
          obtain ⟨its, ri, ⟨o, o1, o2, o3⟩, _⟩ := I.tuple (sqT_of (K := X.K) (st.sub _ _ a1))
          exact fun A Q E s' kk qq => wpAny_typeOf (show s'.TypeIs _ "tuple" from ⟨o, kk _ _ o1, o2⟩) qq
      | _ => cases hy
  show wpAny _ _ (richCompare .Eq (.ref p) uu) _ _ _
  refine PySem.W.cmp_K (op := .Eq) (tb := .type "tuple") hr.units0 hF I.ok.mod.kin J lk nf h2 h3 (wpAny_call (codeAny_mono (h5.run X.A X.stack s H ⟨[.ref p, uu], []⟩ [.ref p, uu] [.ref p, u] _ E0 (hr.mono (by omega)) I.env0 (by
    have := h4 s [.ref p, uu] I.kIn (by simpa using hl)
    simpa using this) r2 hsp) fun r s' hq => ?_))
  cases r with
  | error e => exact noPass pins σ H s e s' I hq
  | ok fl =>
    cases fl with
    | ret w =>
      obtain ⟨z, H', I', rz, ez, ex⟩ := I.after hq
      subst ez
      cases rz
      exact ⟨.bl b, H', I', rfl, ex⟩
    | next => exact False.elim hq
    | brk => exact False.elim hq
    | cont => exact False.elim hq
theorem ops_eqT {K : PySem.W.Frag} : OpS K cl (rEqT K cl c f) (fEqT c f) := by
  intro Wx σ H0 H m s v u x y Q st rx ry h
  unfold fEqT at h
  split at h
  · rename_i hi
    cases ef : f [x, y] s with
    | no => rw [ef] at h; exact h.elim
    | exc d z s2 => rw [ef] at h; exact h.elim
    | ok rv s2 =>
      rw [ef] at h
      unfold eqC at h
      split at h
      · rename_i b s3 e3
        cases e3
        exact ⟨x, y, b, H0, m, s, s2, st, rx, ry, hi.1, hi.2, ef, fun H0' H' m' g st' => h (.bl b) H0' H' m' g st' .bl⟩
      · exact h.elim
  · exact h.elim
end
end TG

set_option Elab.async false
set_option linter.all false
set_option maxRecDepth 100000
set_option maxHeartbeats 4000000
namespace TG
open PySem PySem.Spec PyProof.Rows L2
noncomputable def tMakeS (C : Addr) (sp : Sp) (E : L2.St → XK) (t : TA) : TE := fun σ H Q => t σ H fun vs H1 => ∀ x dx, H1 x = none → H1 dx = none → dx ≠ x →
  sp (.ref x :: vs) (upd (upd H1 dx (.own x)) x (.ins C dx [])) (fun v H2 => v = .non ∧ Q (.ref x) H2) (E σ)
section
variable {X : Cx} {CX : CXT} {k : Nat} {f C : Addr} {fd : FuncData} {ps : List Str} {sp : Sp} {E : L2.St → XK} {x : Str} {p pos : Pos} {e : Expr} {es : List Expr} {t : TA}
theorem run_makeS {E : XK} {pins : List (Addr × Obj)} {σ : L2.St} {H : Hp} {s : Shared} {Q : VK} {us : List Value} {vs : List V} (M : Mk X.K C f) (F : FnOk X.prog X.w X.K X.mg X.base CX k f fd ps sp) (hr : Room (k + 1) X.A) (hb : Binds X.K fd ps []) (hx : PassesAt CX X σ E) (I : Inv X pins σ H s) (r : Vals vs us)
    (h : ∀ x dx, H x = none → H dx = none → dx ≠ x → sp (.ref x :: vs) (upd (upd H dx (.own x)) x (.ins C dx [])) (fun v H2 => v = .non ∧ Q (.ref x) H2) E) :
    wpAny (model X.prog X.w) X.A (call (.ref C) us) (EP X pins σ Q) X.xe s := by
  have hq := h (s.heap.objs.size + 1) s.heap.objs.size (I.hok.fresh (Nat.le_succ _)) (I.hok.fresh (Nat.le_refl _)) (Nat.ne_of_lt (Nat.lt_succ_self _))
  have I2 := Inv.made (C := C) I
  have r2 : Vals (V.ref (s.heap.objs.size + 1) :: vs) (Value.ref (s.heap.objs.size + 1) :: us) := .cons rfl r
  have hl : (Value.ref (s.heap.objs.size + 1) :: us).length = ps.length := by
    have e := r2.length
    rw [F.len _ _ _ _ hq] at e
    exact e.symm
  refine wpAny_call (make_map (f := f) I.kIn M.makes M.init (beq_iff_eq.mp M.fn) (codeAny_mono (F.run _ X.stack _ _ ⟨Value.ref (s.heap.objs.size + 1) :: us, []⟩ (Value.ref (s.heap.objs.size + 1) :: us) _ _ E (hr.make C us [])
    (I2.env0.make C us []) (by
      have := hb _ (Value.ref (s.heap.objs.size + 1) :: us) I2.kIn (by simpa using hl)
      simpa using this) r2 hq) fun r s' hq' => ?_))
  cases r with
  | error e => exact hx pins _ _ e s' I2 hq'
  | ok fl =>
    cases fl with
    | ret u =>
      obtain ⟨v, H', I3, rv, ev, q3⟩ := I2.after hq'
      subst ev
      exact ⟨rv, ⟨V.ref (s.heap.objs.size + 1), H', I3, rfl, q3⟩⟩
    | next => exact False.elim hq'
    | brk => exact False.elim hq'
    | cont => exact False.elim hq'
theorem pe_makeS (M : Mk X.K C f) (F : FnOk X.prog X.w X.K X.mg X.base CX k f fd ps sp) (hr : Room (k + 1) X.A) (hg : Gl X x) (hm : X.mg x = some (.ref C)) (hb : Binds X.K fd ps []) (hx : ∀ σ, PassesAt CX X σ (E σ))
    (ha : PA X (e :: es) t) (hdb : (x == ("__debug__" : Str)) = false := by decide) (he : starEach (e :: es) X.env = (false, eval e X.env) :: starEach es X.env := by rfl) (hpl : (backTo pos (starEach es X.env)).any (·.1) = false := by rfl) :
    PE X (.Call (.Name x p) (e :: es) [] pos) (tMakeS C sp E t) := by
  refine ⟨fun pins s σ H Q I h => ?_⟩
  refine wpAny_Call_Name_kw (ld_glob I hg hm ?_ hdb)
  refine PySem.W.callWith_K (h₀ := X.base) I.ok.mod.kin M.kp (thn (ha.run pos pins s σ H _ I h) fun us s1 ⟨vs, H1, I1, r, q⟩ => ⟨I1.kIn, ?_⟩) he hpl
  exact run_makeS M F hr hb (hx σ) I1 r q
end
section
variable {X : Cx} {cl : Str → Option Addr} {Wx : WX} {e : Expr} {es : List Expr} {pos p : Pos} {el : Cmp (List TG.W)} {k : Nat} {c : Str} {ps : List Str} {f : Sem1}
theorem je_makeS (ok : XOk X Wx) (hr : Room (k + 1) X.A) (F : ClsAt X.prog X.w X.K X.mg X.base cl k c ps f) (ha : JA cl Wx X (e :: es) el) (hg : Gl X c := by rfl)
    (h1 : (c == Str.ofString "__debug__") = false := by decide) (h2 : starEach (e :: es) X.env = (false, eval e X.env) :: starEach es X.env := by rfl) (h3 : ((backTo pos (starEach es X.env)).any fun x => x.fst) = false := by rfl) :
    JE cl Wx X (.Call (.Name c p) (e :: es) [] pos) (eMake c f el) := by
  obtain ⟨C, a, fd, q0, q1, q2, q3, q4⟩ := F.ex
  refine PE.weaken (pe_makeS q2 q4 hr hg q1 q3 (fun σ => passAt ok.tk σ) ha h1 h2 h3) fun σ H Q ⟨H0, m, ow, s, ρ, cx, h⟩ => ⟨H0, m, ow, s, ρ, cx, RunE.bind h fun ws s1 vs H1 H1' m1 g st rr h4 x dx hx hdx hn => ?_⟩
  obtain ⟨st1, g1⟩ := made_start (c := c) st q0 hx hdx hn
  refine ⟨H1, m1 ++ [x], _, .r s1.length :: ws, st1, ?_, ?_⟩
  · exact .cons ⟨x, by rw [← st.len]; simp, rfl⟩ (rr.mono (Same.refl _) (List.prefix_append _ _))
  · cases e1 : f (.r s1.length :: ws) (s1 ++ [.ins c []]) with
    | no => rw [e1] at h4; exact h4
    | exc d z s2 =>
      rw [e1] at h4
      unfold madeD at h4
      dsimp only at h4
      split at h4
      · rename_i hs
        exact fun cv dd H0' H' m' g' st' r' => h4 cv dd H0' H' m1 (g1.trans g').trunc (st.trunc (g1.trans g') st' hs) r'
      · exact h4.elim
    | ok rv s2 =>
      rw [e1] at h4
      unfold madeD at h4
      intro v H0' H' m' g' st' r'
      split at h4
      · rename_i s3 e2
        cases e2
        have hv : v = .non := by cases r'; rfl
        subst hv
        refine ⟨rfl, ?_⟩
        split at h4
        · rename_i c' l e3
          split at h4
          · rename_i hc
            obtain ⟨rfl, ht⟩ := hc
            split at h4
            · rename_i ds e4
              have gg := g1.trans g'
              have hm' : m'[s1.length]? = some x := by
                obtain ⟨t, rfl⟩ := g'.pre
                rw [List.append_assoc, ← st.len, List.getElem?_append_right (Nat.le_refl _)]
                simp
              obtain ⟨z1, C', dx', fs, z2, z3, z4⟩ := st'.cell _ x _ hm' e3
              have stT := st.trunc gg st' ht
              have rF := z4.dataF e4
              refine h4 _ (upd H0' x (.ins C' dx' fs)) H' m1 (gg.trunc.freeze st hx) (stT.freeze z1 z2 (st.notM hx)) (Rep.ins upd_same z3 (rF.mono (same_upd z1)))
            · exact h4.elim
          · exact h4.elim
        · exact h4.elim
      · exact h4.elim
      · rename_i e2; cases e2
      · rename_i e2; cases e2
end
end TG

set_option linter.all false
set_option maxRecDepth 100000
namespace TG
open PySem L2
noncomputable def b_v_law_made : Stm :=
  (sTry (subT [("BadFoot", "BadFoot", true)]) (sRet (eMake "Foot" f_Foot_init (eCons (eVar 0) (eCons (eVar 1) eNil)))) (("BadFoot", (sRet (eC .non))) :: []))
noncomputable def f_v_law_made : Sem1 := runF 2 2 b_v_law_made
noncomputable def b_Foot_eq_2 : Stm :=
  (sRet (eAndV (eUn (fIsOT "Foot") (eVar 1)) (eAndV (eBin (fEq false) (eFld "Foot" "drops" (eVar 0)) (eFld "Foot" "drops" (eVar 1))) (eBin (fEq false) (eFld "Foot" "middle" (eVar 0)) (eFld "Foot" "middle" (eVar 1))))))
noncomputable def f_Foot_eq_2 : Sem1 := runF 2 2 b_Foot_eq_2
noncomputable def b_Foot_words : Stm :=
  (sSeq (sSetO 1 (eLc [2] (eSeq (eFld "Foot" "drops" (eVar 0))) (tgName 2) eYes (eArgs (c1 fStr) (eCons (eVar 2) eNil))))
  (sSeq (sSetIO 1 (eFld "Foot" "middle" (eVar 0)) (eBin fAdd (eBin fAdd (eC (.str "[")) (eIxO 1 (eFld "Foot" "middle" (eVar 0)))) (eC (.str "]"))))
  (sRetO 1)))
noncomputable def f_Foot_words : Sem1 := runF 1 3 b_Foot_words
noncomputable def b_Foot_str : Stm :=
  (sRet (eJoin (eC (.str " ")) (eMeth "Foot" "words" f_Foot_words (eVar 0) eNil)))
noncomputable def f_Foot_str : Sem1 := runF 1 1 b_Foot_str
noncomputable def b_v_law_shown : Stm :=
  (sSeq (sSet 2 (eFrz (eLc [3] (eSeq (eVar 0)) (tgName 3) eYes (eArgs (c1 fStr) (eCons (eVar 3) eNil)))))
  (sRet (eJoin (eC (.str " ")) (eBin fAdd (eBin fAdd (eSl fSl (eVar 2) eNoPart (ePart (eVar 1))) (eFrz (eLst (eCons (eBin fAdd (eBin fAdd (eC (.str "[")) (eBin fIx (eVar 2) (eVar 1))) (eC (.str "]"))) eNil)))) (eSl fSl (eVar 2) (ePart (eBin fAdd (eVar 1) (eC (.int 1)))) eNoPart)))))
noncomputable def f_v_law_shown : Sem1 := runF 2 4 b_v_law_shown
noncomputable def b_Foot_repr : Stm :=
  (sRet (jsE ((eC (.str "Foot(")) :: (eFmt (eFld "Foot" "drops" (eVar 0))) :: (eC (.str ", ")) :: (eFmt (eFld "Foot" "middle" (eVar 0))) :: (eC (.str ")")) :: []) Str.empty))
noncomputable def f_Foot_repr : Sem1 := runF 1 1 b_Foot_repr
noncomputable def b_law_k03 : Stm :=
  (sSeq (sSet 1 (eCell (eCallL f_v_law_bag (eCons (eVar 0) eNil))))
  (sSeq (sFor (eRng1 (eCons (eC (.int 4)) eNil)) (tgName 2) (sSeq (sSetT (tgTup 2 (tgCons (tgName 3) (tgCons (tgName 4) tgNil))) (eCall f_v_law_pair (eCons (eVar 1) eNil)))
  (sSeq (sIf (eTest (eBin (fEq false) (eCall f_v_law_pull (eCons (eVar 1) (eCons (eC (.int 4)) eNil))) (eC (.int 0)))) (sSet 3 (eBin fIx (eFrz (eLst (eCons (eTup eNil) (eCons (eBin fMul (eVar 3) (eC (.int 10))) (eCons (eBin fAdd (eVar 3) (eTup (eCons (eC (.int 100)) eNil))) (eCons (eBin fAdd (eTup (eCons (eUn fNeg (eC (.int 1))) eNil)) (eVar 3)) (eCons (eBin fAdd (eVar 3) (eTup (eCons (eCall f_v_law_far (eCons (eVar 1) eNil)) eNil))) eNil))))))) (eCall f_v_law_pull (eCons (eVar 1) (eCons (eC (.int 5)) eNil))))) sNext)
  (sSeq (sIf (eTest (eBin (fEq false) (eCall f_v_law_pull (eCons (eVar 1) (eCons (eC (.int 5)) eNil))) (eC (.int 0)))) (sSet 4 (eBin fIx (eFrz (eLst (eCons (eUn fNeg (eC (.int 1))) (eCons (eArgs (c1 fLen) (eCons (eVar 3) eNil)) (eCons (eCall f_v_law_far (eCons (eVar 1) eNil)) eNil))))) (eCall f_v_law_pull (eCons (eVar 1) (eCons (eC (.int 3)) eNil))))) sNext)
  (sSeq (sSet 5 (eCall f_v_law_made (eCons (eVar 3) (eCons (eVar 4) eNil))))
  (sSeq (sSet 6 (eAndV (eChain fLe fLe (eC (.int 1)) (eArgs (c1 fLen) (eCons (eVar 3) eNil)) (eC (.int 9))) (eAndV (eArgs (c1 fAll) (eCons (eFrz (eLc [11] (eSeq (eVar 3)) (tgName 11) eYes (eChain fLe fLe (eC (.int 0)) (eVar 11) (eC (.int 99))))) eNil)) (eChain fLe fLt (eC (.int 0)) (eVar 4) (eArgs (c1 fLen) (eCons (eVar 3) eNil))))))
  (sSeq (sIf (eTest (eBin (fEq true) (eUn (fIsN true) (eVar 5)) (eVar 6))) (sRet (eC (.bl false))) sNext)
  (sIf (eTest (eVar 6)) (sSeq (sSet 7 (eFrz (eLst (eCons (eTup (eCons (eVar 3) (eCons (eVar 4) eNil))) (eCons (eTup (eCons (eRevT (eVar 3)) (eCons (eVar 4) eNil))) (eCons (eTup (eCons (eVar 3) (eCons (eBin fSub (eBin fSub (eArgs (c1 fLen) (eCons (eVar 3) eNil)) (eC (.int 1))) (eVar 4)) eNil))) (eCons (eTup (eCons (eBin fAdd (eSl fSl (eVar 3) eNoPart (ePart (eUn fNeg (eC (.int 1))))) (eTup (eCons (eC (.int 7)) eNil))) (eCons (eVar 4) eNil))) eNil)))))))
  (sSeq (sSet 8 (eBin fIx (eVar 7) (eCall f_v_law_pull (eCons (eVar 1) (eCons (eC (.int 4)) eNil)))))
  (sSeq (sSet 9 (eMake "Foot" f_Foot_init (eCons (eBin fIx (eVar 8) (eC (.int 0))) (eCons (eBin fIx (eVar 8) (eC (.int 1))) eNil))))
  (sSeq (sIf (eOrT (eNotT (eTest (eCall (f_v_law_like 12) (eCons (eBin (fEqC "Foot" f_Foot_eq_2) (eVar 5) (eVar 9)) (eCons (eBin (fEq false) (eVar 8) (eTup (eCons (eVar 3) (eCons (eVar 4) eNil)))) eNil))))) (eTest (eBin (fEq true) (eBin (fNeC "Foot" f_Foot_eq_2) (eVar 5) (eVar 9)) (eBin (fEq true) (eVar 8) (eTup (eCons (eVar 3) (eCons (eVar 4) eNil))))))) (sRet (eC (.bl false))) sNext)
  (sSeq (sIf (eOrT (eNotT (eTest (eCall (f_v_law_like 12) (eCons (eFld "Foot" "drops" (eVar 5)) (eCons (eVar 3) eNil))))) (eNotT (eTest (eCall (f_v_law_like 12) (eCons (eFld "Foot" "middle" (eVar 5)) (eCons (eVar 4) eNil)))))) (sRet (eC (.bl false))) sNext)
  (sSeq (sIf (eNotT (eTest (eCall (f_v_law_like 12) (eCons (eLenI "Foot" f_Foot_len (eVar 5)) (eCons (eArgs (c1 fLen) (eCons (eVar 3) eNil)) eNil))))) (sRet (eC (.bl false))) sNext)
  (sSeq (sIf (eOrT (eTest (eBin (fEq true) (eStrI "Foot" f_Foot_str (eVar 5)) (eCall f_v_law_shown (eCons (eVar 3) (eCons (eVar 4) eNil))))) (eTest (eBin (fEq true) (eStrI "Foot" f_Foot_repr (eVar 5)) (eBin fAdd (eBin fAdd (eBin fAdd (eBin fAdd (eC (.str "Foot(")) (eArgs (c1 fReprT) (eCons (eVar 3) eNil))) (eC (.str ", "))) (eArgs (c1 fStr) (eCons (eVar 4) eNil))) (eC (.str ")")))))) (sRet (eC (.bl false))) sNext)
  (sSeq (sIf (eOrT (eTest (eBin (fEqT "Foot" f_Foot_eq_2) (eVar 5) (eTup (eCons (eVar 3) (eCons (eVar 4) eNil))))) (eOrT (eTest (eBin (fNiI "Foot" f_Foot_eq_2) (eVar 5) (eFrz (eLst (eCons (eVar 9) (eCons (eMake "Foot" f_Foot_init (eCons (eVar 3) (eCons (eVar 4) eNil))) eNil)))))) (eTest (eBin (fNeC "Foot" f_Foot_eq_2) (eMakeD "Foot" f_Foot_init (eCons (eVar 3) eNil) 0) (eMake "Foot" f_Foot_init (eCons (eVar 3) (eCons (eC (.int 0)) eNil))))))) (sRet (eC (.bl false))) sNext)
  (sSeq (sSet 10 (eMeth "Foot" "about" f_Foot_about (eVar 5) eNil))
  (sIf (eOrT (eTest (eBin (fNeC "Foot" f_Foot_eq_2) (eVar 10) (eMake "Foot" f_Foot_init (eCons (eRevT (eVar 3)) (eCons (eBin fSub (eBin fSub (eArgs (c1 fLen) (eCons (eVar 3) eNil)) (eC (.int 1))) (eVar 4)) eNil))))) (eOrT (eTest (eBin (fNeC "Foot" f_Foot_eq_2) (eMeth "Foot" "about" f_Foot_about (eVar 10) eNil) (eVar 5))) (eNotT (eTruC "Foot" f_Foot_len (eVar 5))))) (sRet (eC (.bl false))) sNext)))))))))) sNext))))))))
  (sRet (eC (.bl true)))))
noncomputable def f_law_k03 : Sem1 := runF 1 12 b_law_k03
end TG

set_option linter.all false
set_option maxRecDepth 100000
namespace TG
open PySem L2
noncomputable def okd (d : Int) : Bool := decide (0 ≤ d) && decide (d ≤ 99)
noncomputable def goodB (l : List Int) (m : Int) : Bool := (decide ((1 : Int) ≤ l.length) && decide ((l.length : Int) ≤ 9)) && (l.all okd && (decide (0 ≤ m) && decide (m < l.length)))
theorem goodB_iff {l : List Int} {m : Int} : goodB l m = true ↔ GoodF l m := by
  unfold goodB okd
  simp only [Bool.and_eq_true, decide_eq_true_eq, List.all_eq_true]
  constructor
  · rintro ⟨⟨h1, h2⟩, h3, h4, h5⟩
    exact ⟨by omega, by omega, h3, h4, h5⟩
  · intro g
    exact ⟨⟨by have := g.l1; omega, by have := g.l9; omega⟩, g.dr, g.m0, g.m1⟩
theorem lc99 (i : Nat) (ρ : Rho) (hi : i < ρ.length) (l : List Int) (s : S) : lcM (tgName i) eYes (eChain fLe fLe (eC (.int 0)) (eVar i) (eC (.int 99))) ρ (wD (l.map .int)) s = .ok (wD ((l.map okd).map .bl)) s := by
  rw [← ints_map, lcM_fn' (v := fun d : Int => D.bl (okd d)), List.map_map]
  · rfl
  · intro d hd
    refine ⟨_, rfl, ?_⟩
    by_cases h0 : 0 ≤ d
    · simp [hi, h0, okd]
    · simp [hi, h0, okd]
theorem goodFoot_gen (l : List Int) (m : Int) (s : S) (h : l.length ≤ 1000) : f_good_foot [.d (.tup (l.map .int)), .d (.int m)] s = .ok (.w (.d (.bl (goodB l m)))) s := by
  have hL : l.length ≤ 16777216 := by omega
  have e3 := lc99 1 (wipeR [.w (.d (.tup (l.map .int))), .no] [1]) (by simp [wipeR]) l s
  have e4 := fAll_bls (l.map okd) s
  have e5 : (l.map okd).all id = l.all okd := by simp [List.all_map]
  rw [e5] at e4
  simp only [wipeR] at e3
  have ed : f_good_drops [.d (.tup (l.map .int))] s = .ok (.w (.d (.bl ((decide ((1 : Int) ≤ l.length) && decide ((l.length : Int) ≤ 9)) && l.all okd)))) s := by
    rw [f_good_drops, runF_eq]
    by_cases h1 : (1 : Int) ≤ l.length
    · by_cases h9 : (l.length : Int) ≤ 9
      · simp [b_good_drops, h1, h9, hL, wipeR]
        simp at e3 e4
        simp [e3, e4]
      · simp [b_good_drops, h1, h9, hL]
    · simp [b_good_drops, h1, hL]
  rw [f_good_foot, runF_eq]
  have eg : goodB l m = (((decide ((1 : Int) ≤ l.length) && decide ((l.length : Int) ≤ 9)) && l.all okd) && (decide (0 ≤ m) && decide (m < l.length))) := by unfold goodB; simp only [Bool.and_assoc]
  rw [eg]
  generalize ((decide ((1 : Int) ≤ l.length) && decide ((l.length : Int) ≤ 9)) && l.all okd) = x at *
  cases x with
  | true =>
    by_cases h0 : 0 ≤ m
    · simp [b_good_foot, ed, hL, h0]
    · simp [b_good_foot, ed, hL, h0]
  | false => simp [b_good_foot, ed]
theorem foot_bad (l : List Int) (m : Int) (s : S) (h : l.length ≤ 1000) (hb : goodB l m = false) : madeD "Foot" s (f_Foot_init [.r s.length, .d (.tup (l.map .int)), .d (.int m)] (s ++ [.ins "Foot" []])) = .exc "BadFoot" none s := by
  have e := goodFoot_gen l m (s ++ [.ins "Foot" []]) h
  rw [hb] at e
  have ei : f_Foot_init [.r s.length, .d (.tup (l.map .int)), .d (.int m)] (s ++ [.ins "Foot" []]) = .exc "BadFoot" none (s ++ [.ins "Foot" []]) := by
    rw [f_Foot_init, runF_eq]
    simp [b_Foot_init, e]
  rw [ei]
  simp [madeD]
theorem foot_good {l : List Int} {m : Int} (g : GoodF l m) (s : S) : madeD "Foot" s (f_Foot_init [.r s.length, .d (.tup (l.map .int)), .d (.int m)] (s ++ [.ins "Foot" []])) = .ok (.d (footD l m)) s := foot_made l m s g.l1 g.l9 g.dr g.m0 g.m1
noncomputable def madeV (l : List Int) (m : Int) : D := if goodB l m = true then footD l m else .non
theorem made_eq (l : List Int) (m : Int) (s : S) (h : l.length ≤ 1000) : f_v_law_made [.d (.tup (l.map .int)), .d (.int m)] s = .ok (.w (.d (madeV l m))) s := by
  have hx : ∀ ρ s, tryK (subT [("BadFoot", "BadFoot", true)]) [("BadFoot", sRet (eC .non))] (.exc "BadFoot" none ρ s) = .ret (.w (.d .non)) s := by
    intro ρ s
    rw [tryK_exc _ _ _ _ _ _ (sRet (eC .non))]
    · rfl
    · rfl
  rw [f_v_law_made, runF_eq]
  unfold madeV
  cases hb : goodB l m with
  | true =>
    have e := foot_good (goodB_iff.mp hb) s
    simp [b_v_law_made, e]
  | false =>
    have e := foot_bad l m s h hb
    simp [b_v_law_made, e, hx]
theorem isOT_foot (l : List Int) (m : Int) (s : S) : fIsOT "Foot" (.d (footD l m)) s = .ok (.d (.bl true)) s := by
  unfold fIsOT
  rw [if_pos (by simp [insOf, footD]; decide)]
theorem isOT_tup (l : List D) (s : S) : fIsOT "Foot" (.d (.tup l)) s = .ok (.d (.bl false)) s := by
  unfold fIsOT
  rw [if_neg (by simp [insOf])]
  exact if_pos rfl
theorem footeq (l : List Int) (m : Int) (k : List Int) (n : Int) (s : S) : f_Foot_eq_2 [.d (footD l m), .d (footD k n)] s = .ok (.w (.d (.bl ((l == k) && (m == n))))) s := by
  have e1 := fEq_ints false l k s
  have e2 : fEq false (.d (.int m)) (.d (.int n)) s = .ok (.d (.bl (m == n))) s := by
    simp [fEq, asData, eqD, D.py, SeqAt.shaped, PyData.canLay0, PyData.depth, PyData.eqv]
  rw [f_Foot_eq_2, runF_eq]
  cases h : (l == k) with
  | true => rw [h] at e1; simp at e1; simp [b_Foot_eq_2, isOT_foot, e1, e2]
  | false => rw [h] at e1; simp at e1; simp [b_Foot_eq_2, isOT_foot, e1]
theorem footeq_tup (l : List Int) (m : Int) (k : List D) (s : S) : f_Foot_eq_2 [.d (footD l m), .d (.tup k)] s = .ok (.w (.d (.bl false))) s := by
  rw [f_Foot_eq_2, runF_eq]
  simp [b_Foot_eq_2, isOT_tup]
theorem insOf_feq (l : List Int) (m : Int) (s : S) : insOf "Foot" "__eq__" (.d (footD l m)) s = true := by
  simp [insOf, footD]
  decide
theorem fEqC_feet (l : List Int) (m : Int) (k : List Int) (n : Int) (s : S) : fEqC "Foot" f_Foot_eq_2 (.d (footD l m)) (.d (footD k n)) s = .ok (.d (.bl ((l == k) && (m == n)))) s := by
  unfold fEqC
  rw [if_pos ⟨insOf_feq .., insOf_feq ..⟩, footeq]
  rfl
theorem fNeC_feet (l : List Int) (m : Int) (k : List Int) (n : Int) (s : S) : fNeC "Foot" f_Foot_eq_2 (.d (footD l m)) (.d (footD k n)) s = .ok (.d (.bl (!((l == k) && (m == n))))) s := by
  unfold fNeC
  rw [if_pos ⟨insOf_feq .., insOf_feq ..⟩, footeq]
  rfl
theorem fEqT_foot (l : List Int) (m : Int) (k : List D) (s : S) : fEqT "Foot" f_Foot_eq_2 (.d (footD l m)) (.d (.tup k)) s = .ok (.d (.bl false)) s := by
  unfold fEqT
  rw [if_pos ⟨insOf_feq .., rfl⟩, footeq_tup]
  rfl
theorem fNiI_feet (l : List Int) (m : Int) (k : List Int) (n : Int) (s : S) : fNiI "Foot" f_Foot_eq_2 (.d (footD l m)) (.d (.lst [footD k n, footD l m])) s = .ok (.d (.bl false)) s := by
  have e1 := footeq k n l m []
  have e2 := footeq l m l m []
  have e : eqsI "Foot" f_Foot_eq_2 (footD l m) [footD k n, footD l m] = some [(k == l) && (n == m), true] := by
    unfold footD at e1 e2 ⊢
    simp only [eqsI, if_true, e1, e2]
    simp
  unfold footD at e ⊢
  simp only [fNiI, if_true, e]
  simp
theorem fEq_pair (neg : Bool) (l : List Int) (m : Int) (k : List Int) (n : Int) (s : S) : fEq neg (.d (pair4D k n)) (.d (pair4D l m)) s = .ok (.d (.bl (if neg then !((k == l) && (n == m)) else (k == l) && (n == m)))) s := by
  have h1 : ∀ (l : List Int) (m : Int), SeqAt.shaped (pair4D l m).py = true := fun l m => shaped_of (by simp [D.plains]) (by simp [D.dep, D.deps, deps_ints])
  have h3 : PyData.eqv (D.py (pair4D k n)) (D.py (pair4D l m)) = ((k == l) && (n == m)) := by
    have := eqv_ints k l
    simp only [D.py, D.pys, PyData.eqv, PyData.eqvAll, this]
    simp
  cases neg <;> simp [fEq, asData, eqD, h1, h3]
end TG

set_option linter.all false
set_option maxRecDepth 100000
namespace TG
open PySem L2
theorem cut_takeN (l : List D) (k : Int) (h : 0 ≤ k) : cut l none (some k) = l.take k.toNat := by
  obtain ⟨n, rfl⟩ := Int.eq_ofNat_of_zero_le h
  exact cut_take' l n
theorem cut_dropN (l : List D) (k : Nat) (h : k ≤ l.length) : cut l (some (k : Int)) none = l.drop k := cut_drop l k h
end TG

set_option linter.all false
set_option maxRecDepth 100000
namespace TG
open PySem L2
theorem smI_99 {i : Int} (h : 0 ≤ i ∧ i ≤ 99) : smI i := by unfold smI; omega
noncomputable def brk (x : Str) : Str := "[" ++ x ++ "]"
noncomputable def wordsV (l : List Int) (m : Int) : List Str := (l.map sI).set m.toNat (brk (sI (gt l m.toNat)))
theorem lcStr (i : Nat) (ρ : Rho) (hi : i < ρ.length) (l : List Int) (s : S) (h : ∀ x ∈ l, 0 ≤ x ∧ x ≤ 99) : lcM (tgName i) eYes (eArgs (c1 fStr) (eCons (eVar i) eNil)) ρ (wD (l.map .int)) s = .ok (wD ((l.map sI).map .str)) s := by
  rw [← ints_map, lcM_fn' (v := fun d : Int => D.str (sI d)), List.map_map]
  · rfl
  · intro d hd
    refine ⟨_, rfl, ?_⟩
    simp [hi, fStr_sI (smI_99 (h d hd))]
theorem gt_rng {l : List Int} {m : Int} (g : GoodF l m) : 0 ≤ gt l m.toNat ∧ gt l m.toNat ≤ 99 := by
  have hm : m.toNat < l.length := by have := g.m0; have := g.m1; omega
  unfold gt
  rw [List.getD_eq_getElem?_getD, List.getElem?_eq_getElem hm]
  exact g.dr _ (List.getElem_mem hm)
theorem one_len : ("[" : Str).length = 1 := by decide +kernel
theorem one_len2 : ("]" : Str).length = 1 := by decide +kernel
theorem app_len (x y : Str) : (x ++ y).length = x.length + y.length := by
  show (x.cps ++ y.cps).size = _
  rw [Array.size_append]
  rfl
theorem words_eq (l : List Int) (m : Int) (s : S) (g : GoodF l m) : f_Foot_words [.d (footD l m)] s = .ok (.own (wD ((wordsV l m).map .str))) s := by
  have g9 := g.l9
  have m0 := g.m0
  have m1 := g.m1
  have hL : l.length ≤ 16777216 := by omega
  have e1 := lcStr 2 (wipeR [.w (.d (footD l m)), .no, .no] [2]) (by simp [wipeR]) l s g.dr
  simp only [wipeR] at e1
  have ga : atI (wD ((l.map sI).map .str)) m = some (.d (.str (sI (gt l m.toNat)))) := by
    rw [atI_nat _ _ m0 (by simpa using m1)]
    have hm : m.toNat < l.length := by omega
    simp [wD, gt, hm]
  have gi : ixN l.length m = some m.toNat := by
    obtain ⟨n, rfl⟩ := Int.eq_ofNat_of_zero_le m0
    rw [ixN_nat, if_pos (by omega)]
    simp
  have sl := sI_len (smI_99 (gt_rng g))
  have a1 := fAdd_str "[" (sI (gt l m.toNat)) s (by rw [one_len]; omega)
  have a2 := fAdd_str ("[" ++ sI (gt l m.toNat)) "]" s (by rw [app_len, one_len, one_len2]; omega)
  rw [f_Foot_words, runF_eq]
  simp at e1 ga
  simp [b_Foot_words, hL, e1, ga, gi, a1, a2, wipeR]
  simp [wD, wordsV, brk, List.map_set]
noncomputable def shownV (l : List Int) (m : Int) : Str := Txt.join " " (wordsV l m)
theorem wordsV_len (l : List Int) (m : Int) : (wordsV l m).length = l.length := by simp [wordsV]
theorem wordsV_le {l : List Int} {m : Int} (g : GoodF l m) : ∀ x ∈ wordsV l m, x.length ≤ 33 := by
  intro x hx
  unfold wordsV at hx
  have sl := sI_len (smI_99 (gt_rng g))
  rcases List.mem_or_eq_of_mem_set hx with h | rfl
  · obtain ⟨i, hi, rfl⟩ := List.mem_map.mp h
    have := sI_len (smI_99 (g.dr i hi))
    omega
  · unfold brk
    rw [app_len, app_len, one_len, one_len2]
    omega
theorem wordsV_sum {l : List Int} {m : Int} (g : GoodF l m) : ((wordsV l m).map fun z : Str => z.length).sum + (wordsV l m).length * (" " : Str).length ≤ 16777216 := by
  have h1 := sum_le _ 33 (wordsV_le g)
  have h9 := g.l9
  rw [wordsV_len] at h1 ⊢
  have h2 : (" " : Str).length = 1 := by decide +kernel
  rw [h2]
  omega
theorem insOf_words (l : List Int) (m : Int) (s : S) : insOf "Foot" "words" (.d (footD l m)) s = true := by
  simp [insOf, footD]
  decide
theorem str_eq (l : List Int) (m : Int) (s : S) (g : GoodF l m) : f_Foot_str [.d (footD l m)] s = .ok (.w (.d (.str (shownV l m)))) s := by
  have e1 := words_eq l m s g
  have hi := insOf_words l m s
  have e2 := kJoin2_strs " " (wordsV l m) s (wordsV_sum g)
  rw [f_Foot_str, runF_eq]
  simp [b_Foot_str, e1, hi, e2, shownV]
theorem lawShown_eq (l : List Int) (m : Int) (s : S) (g : GoodF l m) : f_v_law_shown [.d (.tup (l.map .int)), .d (.int m)] s = .ok (.w (.d (.str (shownV l m)))) s := by
  have g9 := g.l9
  have m0 := g.m0
  have m1 := g.m1
  have hL : l.length ≤ 16777216 := by omega
  have e1 := lcStr 3 (wipeR [.w (.d (.tup (l.map .int))), .w (.d (.int m)), .no, .no] [3]) (by simp [wipeR]) l s g.dr
  simp only [wipeR] at e1
  have sl := sI_len (smI_99 (gt_rng g))
  have a1 := fAdd_str "[" (sI (gt l m.toNat)) s (by rw [one_len]; omega)
  have a2 := fAdd_str ("[" ++ sI (gt l m.toNat)) "]" s (by rw [app_len, one_len, one_len2]; omega)
  have e2 := kJoin2_strs " " (wordsV l m) s (wordsV_sum g)
  have ga : atI (wD ((l.map sI).map .str)) m = some (.d (.str (sI (gt l m.toNat)))) := by
    rw [atI_nat _ _ m0 (by simpa using m1)]
    have hm : m.toNat < l.length := by omega
    simp [wD, gt, hm]
  have c1 : cut ((l.map sI).map D.str) none (some m) = ((l.map sI).take m.toNat).map .str := by
    rw [cut_takeN _ m m0, List.map_take]
  have c2 : cut ((l.map sI).map D.str) (some (m + 1)) none = ((l.map sI).drop (m.toNat + 1)).map .str := by
    have := cut_dropN ((l.map sI).map D.str) (m.toNat + 1) (by simp; omega)
    rw [show ((m.toNat + 1 : Nat) : Int) = m + 1 by omega] at this
    rw [this, List.map_drop]
  have ew : wordsV l m = (l.map sI).take m.toNat ++ [brk (sI (gt l m.toNat))] ++ (l.map sI).drop (m.toNat + 1) := by
    unfold wordsV
    rw [List.set_eq_take_append_cons_drop, if_pos (by simp; omega)]
    simp
  have b1 := addLst (((l.map sI).take m.toNat).map .str) [.str (brk (sI (gt l m.toNat)))] s (by simp; omega)
  have b2 := addLst (((l.map sI).take m.toNat).map .str ++ [.str (brk (sI (gt l m.toNat)))]) (((l.map sI).drop (m.toNat + 1)).map .str) s (by simp; omega)
  rw [show ((l.map sI).take m.toNat).map D.str ++ [D.str (brk (sI (gt l m.toNat)))] ++ ((l.map sI).drop (m.toNat + 1)).map D.str = (wordsV l m).map .str by rw [ew]; simp] at b2
  rw [f_v_law_shown, runF_eq]
  have a3 := a2
  rw [show ("[" ++ sI (gt l m.toNat)) ++ "]" = brk (sI (gt l m.toNat)) from rfl] at a3
  have hLm : ((l.map sI).map D.str).length ≤ 16777216 := by simp; omega
  have e5 : ((l.map sI).map D.str).length = l.length := by simp
  generalize hll : (l.map sI).map D.str = ll at *
  generalize ht : ((l.map sI).take m.toNat).map D.str = tt at *
  generalize hd : ((l.map sI).drop (m.toNat + 1)).map D.str = dd at *
  simp only [List.set_cons_succ, List.set_cons_zero] at e1
  simp [b_v_law_shown, hL, hLm, e1, ga, a1, a3, fSl_lst, c1, c2, b1, b2, e2, shownV, wipeR]
@[simp] theorem jsE_nil (acc : Str) (ρ : Rho) (s : S) : jsE [] acc ρ s = .ok (.d (.str acc)) s := (rfl)
@[simp] theorem jsE_cons (c : Cmp W) (cs : List (Cmp W)) (acc : Str) (ρ : Rho) (s : S) : jsE (c :: cs) acc ρ s = (c ρ s).bind (jsK (jsE cs) acc ρ) := (rfl)
theorem jsK_str (k : Str → Cmp W) (acc : Str) (ρ : Rho) (y : Str) (s : S) (h : acc.length + y.length ≤ 16777216) : jsK k acc ρ (.d (.str y)) s = k (acc ++ y) ρ s := if_pos (by rw [app_len]; exact h)
theorem jsE_ok {c : Cmp W} {cs : List (Cmp W)} {acc y : Str} {ρ : Rho} {s : S} (h : c ρ s = .ok (.d (.str y)) s) (k : acc.length + y.length ≤ 16777216) : jsE (c :: cs) acc ρ s = jsE cs (acc ++ y) ρ s := by
  rw [jsE_cons, h]
  exact jsK_str _ _ _ _ _ k
@[simp] theorem eFmt_eq (a : Cmp W) (ρ : Rho) (s : S) : eFmt a ρ s = (a ρ s).bind fFmt := (rfl)
theorem fFmt_int {i : Int} (h : smI i) (s : S) : fFmt (.d (.int i)) s = .ok (.d (.str (sI i))) s := if_pos (smI_log h)
theorem tup_ssm {l : List Int} (h : ∀ x ∈ l, 0 ≤ x ∧ x ≤ 99) : (D.tup (l.map .int)).ssm = true := by
  show D.ssms (l.map .int) = true
  rw [ssms_iff]
  intro d hd
  obtain ⟨i, hi, rfl⟩ := List.mem_map.mp hd
  have := smI_99 (h i hi)
  simpa [D.ssm, smI] using this
theorem tup_shw {l : List Int} (h : l.length ≤ 9) : (D.tup (l.map .int)).shw ≤ 400 := by
  show 4 + D.shws (l.map .int) ≤ 400
  have := shws_bnd (l.map .int) 32 (fun x hx => by obtain ⟨i, _, rfl⟩ := List.mem_map.mp hx; exact Nat.le_refl _)
  rw [List.length_map] at this
  omega
noncomputable def tupT (l : List Int) : Str := (D.tup (l.map .int)).py.shown
theorem tupT_le {l : List Int} {m : Int} (g : GoodF l m) : (tupT l).length ≤ 400 ∧ PyData.strOk (tupT l) = true := by
  obtain ⟨a, _, c⟩ := shw_le _ (tup_ssm g.dr)
  exact ⟨Nat.le_trans a (tup_shw g.l9), c⟩
theorem textTup_ints {l : List Int} {m : Int} (g : GoodF l m) : textTup (.tup (l.map .int)) = some (tupT l) := by
  obtain ⟨a, b, c⟩ := shw_le _ (tup_ssm g.dr)
  have h := shaped_of (d := .tup (l.map .int)) (by simp) (by rw [dep_tup, deps_ints]; decide)
  exact if_pos ⟨h, b, by have := tup_shw g.l9; omega⟩
theorem fFmt_tup {l : List Int} {m : Int} (g : GoodF l m) (s : S) : fFmt (.d (.tup (l.map .int))) s = .ok (.d (.str (tupT l))) s := by
  show (match textTup (.tup (l.map .int)) with | some t => Res.ok (W.d (.str t)) s | none => .no) = _
  rw [textTup_ints g]
theorem fReprT_tup {l : List Int} {m : Int} (g : GoodF l m) (s : S) : fReprT (.d (.tup (l.map .int))) s = .ok (.d (.str (tupT l))) s := by
  show (match textTup (.tup (l.map .int)) with | some t => Res.ok (W.d (.str t)) s | none => .no) = _
  rw [textTup_ints g]
noncomputable def reprV (l : List Int) (m : Int) : Str := "Foot(" ++ tupT l ++ ", " ++ sI m ++ ")"
theorem l1 : ("Foot(" : Str).length = 5 := by decide +kernel
theorem l2 : (", " : Str).length = 2 := by decide +kernel
theorem l3 : (")" : Str).length = 1 := by decide +kernel
theorem empty_app (x : Str) : Str.empty ++ x = x := by
  show Str.mk (#[] ++ x.cps) = x
  rw [Array.empty_append]
theorem smM {l : List Int} {m : Int} (g : GoodF l m) : smI m := by
  have := g.m0
  have := g.m1
  have := g.l9
  unfold smI
  omega
theorem repr_eq (l : List Int) (m : Int) (s : S) (g : GoodF l m) : f_Foot_repr [.d (footD l m)] s = .ok (.w (.d (.str (reprV l m)))) s := by
  have e1 := fFmt_tup g s
  have e2 := fFmt_int (smM g) s
  have h1 := (tupT_le g).1
  have h2 := sI_len (smM g)
  have hE : (Str.empty).length = 0 := rfl
  have hv : jsE ((eC (.str "Foot(")) :: (eFmt (eFld "Foot" "drops" (eVar 0))) :: (eC (.str ", ")) :: (eFmt (eFld "Foot" "middle" (eVar 0))) :: (eC (.str ")")) :: []) Str.empty [.w (.d (footD l m))] s = .ok (.d (.str (reprV l m))) s := by
    rw [jsE_ok (y := "Foot(") rfl (by rw [hE, l1]; decide), jsE_ok (y := tupT l) (by simp [e1]) (by simp only [app_len, hE, l1]; omega), jsE_ok (y := ", ") rfl (by simp only [app_len, hE, l1, l2]; omega), jsE_ok (y := sI m) (by simp [e2]) (by simp only [app_len, hE, l1, l2]; omega), jsE_ok (y := ")") rfl (by simp only [app_len, hE, l1, l2, l3]; omega), jsE_nil, empty_app]
    rfl
  rw [f_Foot_repr, runF_eq]
  rw [if_pos (by rfl)]
  show runR (sRet _ [.w (.d (footD l m))] s) = _
  rw [sRet_eq, hv]
  rfl
theorem reprV_ok {l : List Int} {m : Int} (g : GoodF l m) : PyData.strOk (reprV l m) = true := by
  unfold reprV
  rw [strOk_app, strOk_app, strOk_app, strOk_app, (tupT_le g).2]
  simp only [Bool.and_eq_true]
  exact ⟨⟨⟨⟨ok_ofString _, trivial⟩, ok_ofString _⟩, ok_ofString _⟩, ok_ofString _⟩
theorem lawRepr {l : List Int} {m : Int} (g : GoodF l m) (s : S) :
    fAdd (.d (.str "Foot(")) (.d (.str (tupT l))) s = .ok (.d (.str ("Foot(" ++ tupT l))) s ∧ fAdd (.d (.str ("Foot(" ++ tupT l))) (.d (.str ", ")) s = .ok (.d (.str ("Foot(" ++ tupT l ++ ", "))) s ∧
    fAdd (.d (.str ("Foot(" ++ tupT l ++ ", "))) (.d (.str (sI m))) s = .ok (.d (.str ("Foot(" ++ tupT l ++ ", " ++ sI m))) s ∧ fAdd (.d (.str ("Foot(" ++ tupT l ++ ", " ++ sI m))) (.d (.str ")")) s = .ok (.d (.str (reprV l m))) s := by
  have h1 := (tupT_le g).1
  have h2 := sI_len (smM g)
  refine ⟨fAdd_str _ _ _ ?_, fAdd_str _ _ _ ?_, fAdd_str _ _ _ ?_, fAdd_str _ _ _ ?_⟩ <;> simp only [app_len, l1, l2, l3] <;> omega
theorem shownV_ok {l : List Int} {m : Int} (g : GoodF l m) : PyData.strOk (shownV l m) = true := by
  unfold shownV
  refine ok_join _ _ (ok_ofString _) fun p hp => ?_
  unfold wordsV at hp
  rcases List.mem_or_eq_of_mem_set hp with h | rfl
  · obtain ⟨i, hi, rfl⟩ := List.mem_map.mp h
    exact ok_ofString _
  · unfold brk
    rw [strOk_app, strOk_app]
    simp only [Bool.and_eq_true]
    exact ⟨⟨ok_ofString _, ok_ofString _⟩, ok_ofString _⟩
theorem ne_str (x : Str) (s : S) (h : PyData.strOk x = true) : fEq true (.d (.str x)) (.d (.str x)) s = .ok (.d (.bl false)) s :=
  fEq_refl true (.str x) s h (by simp [D.dep])
theorem strW_foot (f : Sem1) (l : List Int) (m : Int) (z : Str) (s : S) (h : f [.d (footD l m)] [] = .ok (.w (.d (.str z))) []) : strW "Foot" f (.d (footD l m)) s = .ok (.d (.str z)) s := by
  show (if ("Foot" : Str) = "Foot" then strOfR (f [.d (footD l m)] []) s else .no) = _
  rw [if_pos rfl, h]
  rfl
@[simp] theorem eStrI_eq (c : Str) (f : Sem1) (a : Cmp W) (ρ : Rho) (s : S) : eStrI c f a ρ s = (a ρ s).bind (strW c f) := (rfl)
theorem len_eq (l : List Int) (m : Int) (s : S) : f_Foot_len [.d (footD l m)] s = .ok (.w (.d (.int l.length))) s := by
  rw [f_Foot_len, runF_eq]
  simp [b_Foot_len]
theorem insOf_len (l : List Int) (m : Int) (s : S) : insOf "Foot" "__len__" (.d (footD l m)) s = true := by
  simp [insOf, footD]
  decide
theorem truC_foot (l : List Int) (m : Int) (s : S) (g : GoodF l m) : truC (f_Foot_len [.d (footD l m)] s) = .ok true s := by
  have := g.l1
  have := g.l9
  rw [len_eq, truC_int _ _ (by omega) (by omega)]
  simp
  exact fun h => by subst h; simp at *
end TG

set_option linter.all false
set_option maxRecDepth 100000
namespace TG
open PySem L2
noncomputable def goodE : Cmp W := eAndV (eChain fLe fLe (eC (.int 1)) (eArgs (c1 fLen) (eCons (eVar 3) eNil)) (eC (.int 9))) (eAndV (eArgs (c1 fAll) (eCons (eFrz (eLc [11] (eSeq (eVar 3)) (tgName 11) eYes (eChain fLe fLe (eC (.int 0)) (eVar 11) (eC (.int 99))))) eNil)) (eChain fLe fLt (eC (.int 0)) (eVar 4) (eArgs (c1 fLen) (eCons (eVar 3) eNil))))
theorem goodE_eq (k : List Int) (a : Int) (s : S) (x0 x1 x2 x5 x6 x7 x8 x9 x10 x11 : EV) (h : k.length ≤ 1000) :
    goodE [x0, x1, x2, .w (intsD k), .w (.d (.int a)), x5, x6, x7, x8, x9, x10, x11] s = .ok (.d (.bl (goodB k a))) s := by
  have hL : k.length ≤ 16777216 := by omega
  have e3 := lc99 11 (wipeR [x0, x1, x2, .w (intsD k), .w (.d (.int a)), x5, x6, x7, x8, x9, x10, x11] [11]) (by simp [wipeR]) k s
  have e4 := fAll_bls (k.map okd) s
  have e5 : (k.map okd).all id = k.all okd := by simp [List.all_map]
  rw [e5] at e4
  simp only [wipeR, List.set_cons_succ, List.set_cons_zero] at e3
  have eg : goodB k a = (((decide ((1 : Int) ≤ k.length) && decide ((k.length : Int) ≤ 9))) && (k.all okd && (decide (0 ≤ a) && decide (a < k.length)))) := rfl
  rw [eg]
  generalize hx : k.map okd = kk at *
  generalize k.all okd = y at *
  have hk : kk.length ≤ 16777216 := by rw [← hx, List.length_map]; exact hL
  unfold goodE
  by_cases h1 : (1 : Int) ≤ k.length
  · by_cases h9 : (k.length : Int) ≤ 9
    · cases y with
      | true =>
        by_cases h0 : 0 ≤ a
        · simp [h1, h9, h0, hL, hk, e3, e4, wipeR]
        · simp [h1, h9, h0, hL, hk, e3, e4, wipeR]
      | false => simp [h1, h9, hL, hk, e3, e4, wipeR]
    · simp [h1, h9, hL]
  · simp [h1, hL]
theorem sIf_t {t : Cmp Bool} {a c : Stm} {ρ : Rho} {s : S} (h : t ρ s = .ok true s) : sIf t a c ρ s = a ρ s := by
  simp [h]
theorem cut_m1 (l : List D) : cut l none (some (-1)) = l.dropLast := by
  unfold cut
  have : HT.sIx l.length l.length (some (-1)) = l.length - 1 := by
    unfold HT.sIx
    simp
    omega
  rw [this]
  simp [HT.sIx, List.dropLast_eq_take]
theorem good_mid {k : List Int} {a : Int} (g : GoodF k a) : GoodF k ((k.length : Int) - 1 - a) := by
  have := g.m0
  have := g.m1
  exact ⟨g.l1, g.l9, g.dr, by omega, by omega⟩
theorem good_rv {k : List Int} {a : Int} (g : GoodF k a) : GoodF k.reverse a := ⟨by rw [List.length_reverse]; exact g.l1, by rw [List.length_reverse]; exact g.l9, fun x hx => g.dr x (List.mem_reverse.mp hx), g.m0, by rw [List.length_reverse]; exact g.m1⟩
theorem good_7 {k kd : List Int} {a : Int} (g : GoodF k a) (h1 : kd.length = k.length - 1) (h2 : ∀ x ∈ kd, x ∈ k) : GoodF (kd ++ [7]) a := by
  have := g.l1
  have := g.l9
  have := g.m1
  refine ⟨by simp, by simp; omega, fun x hx => ?_, g.m0, by simp; omega⟩
  rcases List.mem_append.mp hx with h | h
  · exact g.dr x (h2 x h)
  · simp at h; omega
theorem good_z {k : List Int} {a : Int} (g : GoodF k a) : GoodF k 0 := ⟨g.l1, g.l9, g.dr, by decide, by have := g.l1; omega⟩
theorem beq_sw (k l : List Int) (a b : Int) : ((k == l) && (a == b)) = ((l == k) && (b == a)) := by
  rw [Bool.eq_iff_iff]
  simp
  constructor <;> rintro ⟨h1, h2⟩ <;> exact ⟨h1.symm, h2.symm⟩
noncomputable def I03 (ns : List Int) (ρ : Rho) (s : S) : Prop := (∃ x2 x3 x4 x5 x6 x7 x8 x9 x10 x11 : EV, ρ = [.w (.d (.scr (ns.map .int))), .w (.r 0), x2, x3, x4, x5, x6, x7, x8, x9, x10, x11]) ∧ BS [] s
theorem pure_k03 (ns : List Int) (hl : ns.length ≤ 63) : ∃ s', f_law_k03 [.d (.scr (ns.map D.int))] [] = .ok (.w (.d (.bl true))) s' := by
  refine of_wE ?_
  rw [f_law_k03]
  refine wE_fn (by rfl) ?_
  have hr4 : ∀ s, rng1 [W.d (.int 4)] s = .ok ((List.range 4).map fun i : Nat => W.d (.int i)) s := fun s => rng1_nat 4 s (by decide)
  simp [b_law_k03, hr4, wipeR, -rng1_eq]
  refine wS_use (bag_wp ns hl _) ?_
  rintro _ _ ⟨b, z, rfl, hz, rfl⟩
  simp [wipeR, -rng1_eq]
  rw [hz]
  clear hz
  refine wS_mid (I03 ns) ?_ ?_
  · refine forE_inv (I03 ns) ?_ ⟨⟨_, _, _, _, _, _, _, _, _, _, rfl⟩, bs⟩ fun ρ s h => h
    rintro w hw ρ s ⟨⟨x2, x3, x4, x5, x6, x7, x8, x9, x10, x11, rfl⟩, b, rfl⟩
    refine ⟨_, rfl, ?_⟩
    rw [sSeq_eq]
    refine wS_mid (Hold fun ρ s => (∃ (k : List Int) (a : Int), GoodF k a ∧ ρ = [.w (.d (.scr (ns.map .int))), .w (.r 0), .w w, .w (intsD k), .w (.d (.int a)), x5, x6, x7, x8, x9, x10, x11]) ∧ BS [] s) ?_ ?_
    · simp [wipeR, -rng1_eq]
      refine wS_use (pair_wp _ _) ?_
      rintro _ _ ⟨k, a, b, rfl, rfl, g⟩
      simp [wipeR, -rng1_eq]
      exact hold ⟨⟨k, a, g, rfl⟩, bs⟩
    rintro ρ s ⟨⟨k0, a0, g0, rfl⟩, b, rfl⟩
    rw [sSeq_eq]
    have g9 := g0.l9
    have g1 := g0.l1
    refine wS_mid (Hold fun ρ s => (∃ (k : List Int), k.length ≤ 1000 ∧ ρ = [.w (.d (.scr (ns.map .int))), .w (.r 0), .w w, .w (intsD k), .w (.d (.int a0)), x5, x6, x7, x8, x9, x10, x11]) ∧ BS [] s) ?_ ?_
    · simp [wipeR, -rng1_eq]
      refine wS_use (pull_wp _ _ _ (by decide) (by decide)) ?_
      rintro _ _ ⟨x, b, rfl, rfl, h0, h1⟩
      simp [wipeR, -rng1_eq]
      by_cases c : x = 0
      · have hne : k0 ≠ [] := fun h => by subst h; simp at g1
        have hk1 : k0.length ≤ 1000 := by omega
        obtain ⟨kt, hkt, ekt⟩ : ∃ kt : List Int, kt.length = 10 * k0.length ∧ ∀ s, fMul (.d (.tup (k0.map .int))) (.d (.int 10)) s = .ok (.d (.tup (kt.map .int))) s :=
          ⟨(List.replicate 10 k0).flatten, by simp; omega, fun s => by simp [fMul, hne, hk1]⟩
        have q1 : k0.length + 1 ≤ 16777216 := by omega
        have q2 : 1 + k0.length ≤ 16777216 := by omega
        have q3 : k0.length ≤ 16777215 := by omega
        simp [c, ekt, q1, q2, q3, wipeR, -rng1_eq]
        refine wS_use (far_wp' _ _) ?_
        rintro _ _ ⟨q, b, rfl, rfl⟩
        simp [q1, q2, q3, wipeR, -rng1_eq]
        refine wS_use (pull_wp _ _ _ (by decide) (by decide)) ?_
        rintro _ _ ⟨y, b, rfl, rfl, y0, y1⟩
        simp [wipeR, -rng1_eq]
        rcases fifth y y0 y1 with rfl | rfl | rfl | rfl | rfl
        · simp [wD]
          exact hold ⟨⟨[], by simp, rfl⟩, bs⟩
        · simp [wD]
          exact hold ⟨⟨kt, by omega, rfl⟩, bs⟩
        · simp [wD]
          exact hold ⟨⟨k0 ++ [100], by simp; omega, by simp [intsD]⟩, bs⟩
        · simp [wD]
          exact hold ⟨⟨-1 :: k0, by simp; omega, by simp [intsD]⟩, bs⟩
        · simp [wD]
          exact hold ⟨⟨k0 ++ [q], by simp; omega, by simp [intsD]⟩, bs⟩
      · simp [c, wipeR, -rng1_eq]
        exact hold ⟨⟨k0, by omega, rfl⟩, bs⟩
    rintro ρ s ⟨⟨k, hk, rfl⟩, b, rfl⟩
    rw [sSeq_eq]
    refine wS_mid (Hold fun ρ s => (∃ (a : Int), ρ = [.w (.d (.scr (ns.map .int))), .w (.r 0), .w w, .w (intsD k), .w (.d (.int a)), x5, x6, x7, x8, x9, x10, x11]) ∧ BS [] s) ?_ ?_
    · have hL : k.length ≤ 16777216 := by omega
      simp [hL, wipeR, -rng1_eq]
      refine wS_use (pull_wp _ _ _ (by decide) (by decide)) ?_
      rintro _ _ ⟨x, b, rfl, rfl, h0, h1⟩
      simp [wipeR, -rng1_eq]
      by_cases c : x = 0
      · simp [c, wipeR, -rng1_eq]
        refine wS_use (far_wp' _ _) ?_
        rintro _ _ ⟨q, b, rfl, rfl⟩
        simp [wipeR, -rng1_eq]
        refine wS_use (pull_wp _ _ _ (by decide) (by decide)) ?_
        rintro _ _ ⟨y, b, rfl, rfl, y0, y1⟩
        simp [wipeR, -rng1_eq]
        obtain ⟨n, hn, en⟩ := three y y0 y1 (-1) k.length q
        simp at en
        rw [en]
        simp
        exact hold ⟨⟨n, rfl⟩, bs⟩
      · simp [c, wipeR, -rng1_eq]
        exact hold ⟨⟨a0, rfl⟩, bs⟩
    rintro ρ s ⟨⟨a, rfl⟩, b, rfl⟩
    rw [sSeq_eq]
    refine wS_mid (Hold fun ρ s => ρ = [.w (.d (.scr (ns.map .int))), .w (.r 0), .w w, .w (intsD k), .w (.d (.int a)), .w (.d (madeV k a)), x6, x7, x8, x9, x10, x11] ∧ BS [] s) ?_ ?_
    · have e := fun s => made_eq k a s hk
      simp [e, wipeR, -rng1_eq]
      exact hold ⟨rfl, bs⟩
    rintro ρ s ⟨rfl, b, rfl⟩
    rw [sSeq_eq]
    refine wS_mid (Hold fun ρ s => ρ = [.w (.d (.scr (ns.map .int))), .w (.r 0), .w w, .w (intsD k), .w (.d (.int a)), .w (.d (madeV k a)), .w (.d (.bl (goodB k a))), x7, x8, x9, x10, x11] ∧ BS [] s) ?_ ?_
    · have e := goodE_eq k a (b.cell :: []) (.w (.d (.scr (ns.map .int)))) (.w (.r 0)) (.w w) (.w (.d (madeV k a))) x6 x7 x8 x9 x10 x11 hk
      rw [sSet_eq]
      unfold goodE at e
      rw [e]
      simp
      exact hold ⟨rfl, bs⟩
    rintro ρ s ⟨rfl, b, rfl⟩
    cases hg : goodB k a with
    | false =>
      have em : madeV k a = .non := by unfold madeV; rw [hg]; rfl
      simp [em, wipeR, -rng1_eq]
      exact ⟨⟨_, _, _, _, _, _, _, _, _, _, rfl⟩, bs⟩
    | true =>
      have g := goodB_iff.mp hg
      have em : madeV k a = footD k a := by unfold madeV; rw [hg]; rfl
      rw [em]
      have gk9 := g.l9
      have gk1 := g.l1
      have hL : k.length ≤ 16777216 := by omega
      rw [sSeq_eq]
      refine wS_mid (Hold fun ρ s => ρ = [.w (.d (.scr (ns.map .int))), .w (.r 0), .w w, .w (intsD k), .w (.d (.int a)), .w (.d (footD k a)), .w (.d (.bl true)), x7, x8, x9, x10, x11] ∧ BS [] s) ?_ ?_
      · simp [wipeR, footD, -rng1_eq]
        exact hold ⟨rfl, bs⟩
      rintro ρ s ⟨rfl, b, rfl⟩
      rw [sIf_t rfl, sSeq_eq]
      obtain ⟨kd, hkd, hkm, c1⟩ : ∃ kd : List Int, kd.length = k.length - 1 ∧ (∀ x ∈ kd, x ∈ k) ∧ cut (k.map D.int) none (some (-1)) = kd.map D.int :=
        ⟨k.dropLast, by simp, fun x hx => List.dropLast_subset k hx, by rw [cut_m1, List.map_dropLast]⟩
      refine wS_mid (Hold fun ρ s => ρ = [.w (.d (.scr (ns.map .int))), .w (.r 0), .w w, .w (intsD k), .w (.d (.int a)), .w (.d (footD k a)), .w (.d (.bl true)), .w (.d (.lst [pair4D k a, pair4D k.reverse a, pair4D k (k.length - 1 - a), pair4D (kd ++ [7]) a])), x8, x9, x10, x11] ∧ BS [] s) ?_ ?_
      · have c2 : kd.length ≤ 16777215 := by omega
        simp [hL, c1, c2, wipeR, -rng1_eq]
        exact hold ⟨by simp [wD], bs⟩
      rintro ρ s ⟨rfl, b, rfl⟩
      rw [sSeq_eq]
      refine wS_mid (Hold fun ρ s => (∃ (q : List Int) (n : Int) (x7 : EV), GoodF q n ∧ ρ = [.w (.d (.scr (ns.map .int))), .w (.r 0), .w w, .w (intsD k), .w (.d (.int a)), .w (.d (footD k a)), .w (.d (.bl true)), x7, .w (.d (pair4D q n)), x9, x10, x11]) ∧ BS [] s) ?_ ?_
      · simp [wipeR, -rng1_eq]
        refine wS_use (pull_wp _ _ _ (by decide) (by decide)) ?_
        rintro _ _ ⟨y, b, rfl, rfl, y0, y1⟩
        simp [wipeR, -rng1_eq]
        rcases quarter y y0 y1 with rfl | rfl | rfl | rfl
        · simp [wD]
          exact hold ⟨⟨k, a, g, _, by simp; rfl⟩, bs⟩
        · simp [wD]
          exact hold ⟨⟨k.reverse, a, good_rv g, _, by simp; rfl⟩, bs⟩
        · simp [wD]
          exact hold ⟨⟨k, _, good_mid g, _, by simp; rfl⟩, bs⟩
        · simp [wD]
          exact hold ⟨⟨kd ++ [7], a, good_7 g hkd hkm, _, by simp; rfl⟩, bs⟩
      clear c1
      rintro ρ s ⟨⟨q, n, x7, gq, rfl⟩, b, rfl⟩
      rw [sSeq_eq]
      refine wS_mid (Hold fun ρ s => ρ = [.w (.d (.scr (ns.map .int))), .w (.r 0), .w w, .w (intsD k), .w (.d (.int a)), .w (.d (footD k a)), .w (.d (.bl true)), x7, .w (.d (pair4D q n)), .w (.d (footD q n)), x10, x11] ∧ BS [] s) ?_ ?_
      · have m1 := foot_good gq [b.cell]
        simp only [List.length_cons, List.length_nil, Nat.zero_add, List.cons_append, List.nil_append] at m1
        simp [m1, wD, wipeR, -rng1_eq]
        exact hold ⟨by simp, bs⟩
      rintro ρ s ⟨rfl, b, rfl⟩
      rw [sSeq_eq]
      refine wS_mid (Hold fun ρ s => ρ = [.w (.d (.scr (ns.map .int))), .w (.r 0), .w w, .w (intsD k), .w (.d (.int a)), .w (.d (footD k a)), .w (.d (.bl true)), x7, .w (.d (pair4D q n)), .w (.d (footD q n)), x10, x11] ∧ BS [] s) ?_ ?_
      · have e1 := fun s => fEqC_feet k a q n s
        have e2 := fun s => fNeC_feet k a q n s
        have e3 := fun s => fEq_pair false k a q n s
        have e4 := fun s => fEq_pair true k a q n s
        simp only [beq_sw q k n a] at e3 e4
        generalize ((k == q) && (a == n)) = z at *
        simp at e3 e4
        simp [e1, e2, e3, e4, like_bl, wipeR, -rng1_eq]
        exact hold ⟨rfl, bs⟩
      rintro ρ s ⟨rfl, b, rfl⟩
      rw [sSeq_eq]
      refine wS_mid (Hold fun ρ s => ρ = [.w (.d (.scr (ns.map .int))), .w (.r 0), .w w, .w (intsD k), .w (.d (.int a)), .w (.d (footD k a)), .w (.d (.bl true)), x7, .w (.d (pair4D q n)), .w (.d (footD q n)), x10, x11] ∧ BS [] s) ?_ ?_
      · have e1 := fun s => like_ints k s (by omega)
        have e2 := fun s => like_int a s
        simp [e1, e2, wipeR, -rng1_eq]
        exact hold ⟨rfl, bs⟩
      rintro ρ s ⟨rfl, b, rfl⟩
      rw [sSeq_eq]
      refine wS_mid (Hold fun ρ s => ρ = [.w (.d (.scr (ns.map .int))), .w (.r 0), .w w, .w (intsD k), .w (.d (.int a)), .w (.d (footD k a)), .w (.d (.bl true)), x7, .w (.d (pair4D q n)), .w (.d (footD q n)), x10, x11] ∧ BS [] s) ?_ ?_
      · have e1 := fun s => len_foot k a s g.l9
        have e2 := fun s => like_int (k.length : Int) s
        simp [e1, e2, hL, wipeR, -rng1_eq]
        exact hold ⟨rfl, bs⟩
      rintro ρ s ⟨rfl, b, rfl⟩
      rw [sSeq_eq]
      refine wS_mid (Hold fun ρ s => ρ = [.w (.d (.scr (ns.map .int))), .w (.r 0), .w w, .w (intsD k), .w (.d (.int a)), .w (.d (footD k a)), .w (.d (.bl true)), x7, .w (.d (pair4D q n)), .w (.d (footD q n)), x10, x11] ∧ BS [] s) ?_ ?_
      · have e1 := fun s => strW_foot f_Foot_str k a _ s (str_eq k a [] g)
        have e2 := fun s => lawShown_eq k a s g
        have e3 := fun s => ne_str _ s (shownV_ok g)
        have e4 := fun s => strW_foot f_Foot_repr k a _ s (repr_eq k a [] g)
        have e5 := fun s => fReprT_tup g s
        have e6 := fun s => fStr_sI (smM g) s
        have e7 := fun s => (lawRepr g s).1
        have e8 := fun s => (lawRepr g s).2.1
        have e9 := fun s => (lawRepr g s).2.2.1
        have e10 := fun s => (lawRepr g s).2.2.2
        have e11 := fun s => ne_str _ s (reprV_ok g)
        simp [e1, e2, e3, e4, e5, e6, e7, e8, e9, e10, e11, wipeR, -rng1_eq]
        exact hold ⟨rfl, bs⟩
      rintro ρ s ⟨rfl, b, rfl⟩
      rw [sSeq_eq]
      refine wS_mid (Hold fun ρ s => ρ = [.w (.d (.scr (ns.map .int))), .w (.r 0), .w w, .w (intsD k), .w (.d (.int a)), .w (.d (footD k a)), .w (.d (.bl true)), x7, .w (.d (pair4D q n)), .w (.d (footD q n)), x10, x11] ∧ BS [] s) ?_ ?_
      · have e1 := fun k' s => fEqT_foot k a k' s
        have e2 := fun s => fNiI_feet k a q n s
        have e3 := fun s => fNeC_feet k 0 k 0 s
        have m1 := foot_good g [b.cell]
        have m2 := foot_good (good_z g) [b.cell]
        simp only [List.length_cons, List.length_nil, Nat.zero_add, List.cons_append, List.nil_append] at m1 m2
        simp at e3
        simp [e1, e2, e3, m1, m2, wipeR, -rng1_eq]
        exact hold ⟨rfl, bs⟩
      rintro ρ s ⟨rfl, b, rfl⟩
      have hab := fun s => about_eq k a s g
      have gr := good_rev g
      have hab2 := fun s => about_eq _ _ s gr
      rw [sSeq_eq]
      refine wS_mid (Hold fun ρ s => ρ = [.w (.d (.scr (ns.map .int))), .w (.r 0), .w w, .w (intsD k), .w (.d (.int a)), .w (.d (footD k a)), .w (.d (.bl true)), x7, .w (.d (pair4D q n)), .w (.d (footD q n)), .w (.d (footD k.reverse (k.length - 1 - a))), x11] ∧ BS [] s) ?_ ?_
      · have hi := fun s => insOf_about k a s
        simp [hab, hi, wipeR, -rng1_eq]
        exact hold ⟨rfl, bs⟩
      rintro ρ s ⟨rfl, b, rfl⟩
      have m1 := foot_good gr [b.cell]
      have hi := fun s => insOf_about k.reverse ((k.length : Int) - 1 - a) s
      have e1 := fun s => fNeC_feet k.reverse ((k.length : Int) - 1 - a) k.reverse ((k.length : Int) - 1 - a) s
      have e2 := fun s => fNeC_feet k a k a s
      have e3 := fun s => truC_foot k a s g
      have e4 := fun s => insOf_len k a s
      have hr : (k.reverse.length : Int) - 1 - ((k.length : Int) - 1 - a) = a := by rw [List.length_reverse]; omega
      simp only [List.reverse_reverse, hr] at hab2
      simp only [List.length_cons, List.length_nil, Nat.zero_add, List.cons_append, List.nil_append, List.map_reverse] at m1
      simp at e1 e2
      simp [hL, m1, hi, hab2, e1, e2, e3, e4, wipeR, -rng1_eq]
      exact ⟨⟨_, _, _, _, _, _, _, _, _, _, rfl⟩, bs⟩
  · rintro ρ s ⟨⟨x2, x3, x4, x5, x6, x7, x8, x9, x10, x11, rfl⟩, b, rfl⟩
    simp [wipeR, -rng1_eq]
end TG

set_option Elab.async false
set_option linter.all false
set_option maxRecDepth 100000
set_option maxHeartbeats 4000000
namespace Lk03
open PySem L2 PyProof.Rows TG

structure Tx (K : PySem.W.Frag) (mg : Str → Option Value) (cl : Str → Option Addr) : Prop where
  b_all : mg "all" = none
  b_bool : mg "bool" = none
  b_isinstance : mg "isinstance" = none
  b_len : mg "len" = none
  b_list : mg "list" = none
  b_range : mg "range" = none
  b_repr : mg "repr" = none
  b_str : mg "str" = none
  b_tuple : mg "tuple" = none
  c_MOST_DROP : ∃ t, mg "MOST_DROP" = some (.int 99 t)
  c_MOST_PLACES : ∃ t, mg "MOST_PLACES" = some (.int 9 t)
  f_Foot_drops : ClsF K cl "Foot" "drops"
  f_Foot_middle : ClsF K cl "Foot" "middle"
  e_BadFoot : ExcAt K mg cl "BadFoot"
  p_Foot : IsCT K mg cl "Foot"
  h_BadFoot : ∃ C, cl "BadFoot" = some C ∧ mg "BadFoot" = some (.ref C)
  s_e8bfac6b : SubOk K cl (subT [("BadFoot", "BadFoot", true)])
  z_ : True
abbrev N_v_law_bag : List Str := ["_law_script", "_law_salt", "_law_cell"]
theorem sc_v_law_bag : FnScope N_v_law_bag ["_law_script"] (defScope s_v_law_bag) := ⟨rfl, rfl, rfl, by decide +kernel, rfl, by decide +kernel, by decide +kernel⟩
theorem ok_v_law_bag {P : Program} {w : World} {K : PySem.W.Frag} {mg : Str → Option Value} {base : Heap} {cl : Str → Option Addr} (T : Tx K mg cl) {f : Addr} {fd : FuncData} (F : Fun K "_law_bag" "_law_bag" s_v_law_bag f fd) : FnOk P w K mg base (L2.CX P w) 1 f fd ["_law_script"] (spOf K cl f_v_law_bag) :=
  fn_ok F sc_v_law_bag fun cdv A outer s H E hr ok => by
    have nd : N_v_law_bag.Nodup := sc_v_law_bag.nd
    have hr1 := hr
    exact (jb_cons (js_set 1 nd je_int)
      (jb_cons (js_for ok rfl (ji_seq (je_slice sl_all sls_all (je_var 0) jo_none (jo_some je_int))) (jg_name 2 nd) (jb_one (js_set 1 nd (je_bin op_modN ops_mod (je_bin op_addAll ops_add (je_bin op_addAll ops_add (je_bin op_mulAll ops_mul (je_var 1) je_int) (je_bin op_modN ops_mod (je_var 2) je_int)) je_int) je_int))))
      (jb_one (js_retL (jl_lst (ja_cons (je_frz (jl_listof (by rfl) T.b_list (ja_cons (je_slice sl_all sls_all (je_var 0) jo_none (jo_some je_int)) ja_nil))) (ja_cons je_int (ja_cons je_int (ja_cons (je_var 1) ja_nil)))))))))
abbrev N_v_law_pull : List Str := ["_law_bag_here", "_law_amount", "_law_cell", "_law_got", "_law_seed"]
theorem sc_v_law_pull : FnScope N_v_law_pull ["_law_bag_here", "_law_amount"] (defScope s_v_law_pull) := ⟨rfl, rfl, rfl, by decide +kernel, rfl, by decide +kernel, by decide +kernel⟩
theorem ok_v_law_pull {P : Program} {w : World} {K : PySem.W.Frag} {mg : Str → Option Value} {base : Heap} {cl : Str → Option Addr} (T : Tx K mg cl) {f : Addr} {fd : FuncData} (F : Fun K "_law_pull" "_law_pull" s_v_law_pull f fd) : FnOk P w K mg base (L2.CX P w) 1 f fd ["_law_bag_here", "_law_amount"] (spOf K cl f_v_law_pull) :=
  fn_ok F sc_v_law_pull fun cdv A outer s H E hr ok => by
    have nd : N_v_law_pull.Nodup := sc_v_law_pull.nd
    have hr1 := hr
    exact (jb_cons (js_if (jt_w (jw_and (jt_cmp (op_eqD hr.units) ops_eq (je_ix (ix_all (hu_of hr)) ops_ix (je_var 0) je_int) je_int) (jw_and1 (jt_cmp op_lt ops_lt (je_ix (ix_all (hu_of hr)) ops_ix (je_var 0) je_int) (je_callB call_len calls_len (by rfl) T.b_len PySem.boot_len (ja_cons (je_ix (ix_all (hu_of hr)) ops_ix (je_var 0) je_int) ja_nil)))))) (jb_cons (js_set 2 nd (je_ix (ix_all (hu_of hr)) ops_ix (je_ix (ix_all (hu_of hr)) ops_ix (je_var 0) je_int) (je_ix (ix_all (hu_of hr)) ops_ix (je_var 0) je_int)))
      (jb_cons (js_setI (je_var 0) je_int (je_bin op_addAll ops_add (je_ix (ix_all (hu_of hr)) ops_ix (je_var 0) je_int) je_int))
      (jb_one (js_if (jt_cmp op_ge ops_ge (je_var 2) (je_bin op_pow ops_pow je_int je_int)) (jb_one (js_setI (je_var 0) je_int (je_var 2))) (jb_one (js_setI (je_var 0) je_int (je_bin op_modN ops_mod (je_bin op_addAll ops_add (je_bin op_addAll ops_add (je_bin op_mulAll ops_mul (je_ix (ix_all (hu_of hr)) ops_ix (je_var 0) je_int) je_int) (je_bin op_mulAll ops_mul (je_bin op_modN ops_mod (je_var 2) je_int) je_int)) je_int) je_int))))))) jb_nil)
      (jb_cons (js_if (jt_cmp op_gt ops_gt (je_ix (ix_all (hu_of hr)) ops_ix (je_var 0) je_int) je_int) (jb_cons (js_set 3 nd (je_bin op_modN ops_mod (je_ix (ix_all (hu_of hr)) ops_ix (je_var 0) je_int) (je_var 1)))
      (jb_cons (js_setI (je_var 0) je_int (je_bin op_fdivN ops_div (je_ix (ix_all (hu_of hr)) ops_ix (je_var 0) je_int) (je_var 1)))
      (jb_one (js_ret (je_var 3))))) jb_nil)
      (jb_cons (js_set 4 nd (je_ix (ix_all (hu_of hr)) ops_ix (je_var 0) je_int))
      (jb_cons (js_setI (je_var 0) je_int (je_bin op_modN ops_mod (je_bin op_addAll ops_add (je_bin op_addAll ops_add (je_bin op_mulAll ops_mul (je_var 4) je_int) (je_bin op_mulAll ops_mul (je_bin op_fdivN ops_div (je_var 4) je_int) je_int)) je_int) je_int))
      (jb_one (js_ret (je_bin op_modN ops_mod (je_bin op_addAll ops_add (je_bin op_fdivN ops_div (je_ix (ix_all (hu_of hr)) ops_ix (je_var 0) je_int) je_int) (je_bin op_mulAll ops_mul (je_bin op_modN ops_mod (je_ix (ix_all (hu_of hr)) ops_ix (je_var 0) je_int) je_int) je_int)) (je_var 1))))))))
abbrev N_v_law_drops : List Str := ["_law_bag_here", "_law_count", "_law_wide", "_law_place"]
theorem sc_v_law_drops : FnScope N_v_law_drops ["_law_bag_here"] (defScope s_v_law_drops) := ⟨rfl, rfl, rfl, by decide +kernel, rfl, by decide +kernel, by decide +kernel⟩
theorem ok_v_law_drops {P : Program} {w : World} {K : PySem.W.Frag} {mg : Str → Option Value} {base : Heap} {cl : Str → Option Addr} (T : Tx K mg cl) {f : Addr} {fd : FuncData} (F : Fun K "_law_drops" "_law_drops" s_v_law_drops f fd) (F_v_law_pull : FnAt P w K mg base cl 1 "_law_pull" ["_law_bag_here", "_law_amount"] f_v_law_pull) : FnOk P w K mg base (L2.CX P w) 2 f fd ["_law_bag_here"] (spOf K cl f_v_law_drops) :=
  fn_ok F sc_v_law_drops fun cdv A outer s H E hr ok => by
    have F_v_law_pull := F_v_law_pull.mono (k := 1) (by decide)
    have nd : N_v_law_drops.Nodup := sc_v_law_drops.nd
    have hr1 := hr
    exact (jb_cons (js_set 1 nd (je_ix (ix_all (hu_of hr)) ops_ix (je_frz (jl_lst (ja_cons je_int (ja_cons je_int (ja_cons je_int (ja_cons (je_bin op_addAll ops_add je_int (je_call ok hr F_v_law_pull (ja_cons (je_var 0) (ja_cons je_int ja_nil)))) (ja_cons je_int ja_nil))))))) (je_call ok hr F_v_law_pull (ja_cons (je_var 0) (ja_cons je_int ja_nil)))))
      (jb_cons (js_set 2 nd (je_ix (ix_all (hu_of hr)) ops_ix (je_frz (jl_lst (ja_cons je_int (ja_cons je_int (ja_cons je_int (ja_cons je_int ja_nil)))))) (je_call ok hr F_v_law_pull (ja_cons (je_var 0) (ja_cons je_int ja_nil)))))
      (jb_one (js_ret (je_callTy call_tuple_of calls_tuple (by rfl) T.b_tuple (by decide +kernel) (ja_cons (je_frz (jl_lc (own := [("_law_place", 3)]) rfl nd (ji_rng1 (by rfl) T.b_range (ja_cons (je_var 1) ja_nil)) (blkOk_by (N := N_v_law_drops) (sc := defScope s_v_law_drops) (own := [("_law_place", 3)]) (by decide +kernel)) (fun _ _ _ _ _ => (jg_name 3 nd)) (fun _ _ _ _ _ => jts_nil) (fun _ _ _ _ _ => (je_call (ok).blk hr F_v_law_pull (ja_cons (je_var 0) (ja_cons (je_var 2) ja_nil)))))) ja_nil))))))
abbrev N_v_law_pair : List Str := ["_law_bag_here", "_law_drops_here"]
theorem sc_v_law_pair : FnScope N_v_law_pair ["_law_bag_here"] (defScope s_v_law_pair) := ⟨rfl, rfl, rfl, by decide +kernel, rfl, by decide +kernel, by decide +kernel⟩
theorem ok_v_law_pair {P : Program} {w : World} {K : PySem.W.Frag} {mg : Str → Option Value} {base : Heap} {cl : Str → Option Addr} (T : Tx K mg cl) {f : Addr} {fd : FuncData} (F : Fun K "_law_pair" "_law_pair" s_v_law_pair f fd) (F_v_law_drops : FnAt P w K mg base cl 2 "_law_drops" ["_law_bag_here"] f_v_law_drops) (F_v_law_pull : FnAt P w K mg base cl 1 "_law_pull" ["_law_bag_here", "_law_amount"] f_v_law_pull) : FnOk P w K mg base (L2.CX P w) 3 f fd ["_law_bag_here"] (spOf K cl f_v_law_pair) :=
  fn_ok F sc_v_law_pair fun cdv A outer s H E hr ok => by
    have F_v_law_drops := F_v_law_drops.mono (k := 2) (by decide)
    have F_v_law_pull := F_v_law_pull.mono (k := 2) (by decide)
    have nd : N_v_law_pair.Nodup := sc_v_law_pair.nd
    have hr1 := hr
    exact (jb_cons (js_set 1 nd (je_call ok hr F_v_law_drops (ja_cons (je_var 0) ja_nil)))
      (jb_one (js_ret (je_tup (ja_cons (je_var 1) (ja_cons (je_call ok hr F_v_law_pull (ja_cons (je_var 0) (ja_cons (je_callB call_len calls_len (by rfl) T.b_len PySem.boot_len (ja_cons (je_var 1) ja_nil)) ja_nil))) ja_nil))))))
abbrev N_good_drops : List Str := ["drops", "drop"]
theorem sc_good_drops : FnScope N_good_drops ["drops"] (defScope s_good_drops) := ⟨rfl, rfl, rfl, by decide +kernel, rfl, by decide +kernel, by decide +kernel⟩
theorem ok_good_drops {P : Program} {w : World} {K : PySem.W.Frag} {mg : Str → Option Value} {base : Heap} {cl : Str → Option Addr} (T : Tx K mg cl) {f : Addr} {fd : FuncData} (F : Fun K "good_drops" "good_drops" s_good_drops f fd) : FnOk P w K mg base (L2.CX P w) 1 f fd ["drops"] (spOf K cl f_good_drops) :=
  fn_ok F sc_good_drops fun cdv A outer s H E hr ok => by
    have nd : N_good_drops.Nodup := sc_good_drops.nd
    have hr1 := hr
    exact (jb_one (js_ret (je_and (je_chain op_le op_le ops_le ops_le je_int (je_callB call_len calls_len (by rfl) T.b_len PySem.boot_len (ja_cons (je_var 0) ja_nil)) (je_globI' (by rfl) T.c_MOST_PLACES)) (je_one (je_callB (cr_all rfl) calls_all (by rfl) T.b_all (by decide +kernel) (ja_cons (je_frz (jl_lc (own := [("drop", 1)]) rfl nd (ji_seq (je_var 0)) (blkOk_by (N := N_good_drops) (sc := defScope s_good_drops) (own := [("drop", 1)]) (by decide +kernel)) (fun _ _ _ _ _ => (jg_name 1 nd)) (fun _ _ _ _ _ => jts_nil) (fun _ _ _ _ _ => (je_chain op_le op_le ops_le ops_le je_int (je_var 1) (je_globI' (by rfl) T.c_MOST_DROP))))) ja_nil))))))
abbrev N_good_foot : List Str := ["drops", "middle"]
theorem sc_good_foot : FnScope N_good_foot ["drops", "middle"] (defScope s_good_foot) := ⟨rfl, rfl, rfl, by decide +kernel, rfl, by decide +kernel, by decide +kernel⟩
theorem ok_good_foot {P : Program} {w : World} {K : PySem.W.Frag} {mg : Str → Option Value} {base : Heap} {cl : Str → Option Addr} (T : Tx K mg cl) {f : Addr} {fd : FuncData} (F : Fun K "good_foot" "good_foot" s_good_foot f fd) (F_good_drops : FnAt P w K mg base cl 1 "good_drops" ["drops"] f_good_drops) : FnOk P w K mg base (L2.CX P w) 2 f fd ["drops", "middle"] (spOf K cl f_good_foot) :=
  fn_ok F sc_good_foot fun cdv A outer s H E hr ok => by
    have F_good_drops := F_good_drops.mono (k := 1) (by decide)
    have nd : N_good_foot.Nodup := sc_good_foot.nd
    have hr1 := hr
    exact (jb_one (js_ret (je_and (je_call ok hr F_good_drops (ja_cons (je_var 0) ja_nil)) (je_one (je_chain op_le op_lt ops_le ops_lt je_int (je_var 1) (je_callB call_len calls_len (by rfl) T.b_len PySem.boot_len (ja_cons (je_var 0) ja_nil)))))))
abbrev N_Foot_init : List Str := ["self", "drops", "middle"]
theorem sc_Foot_init : FnScope N_Foot_init ["self", "drops", "middle"] (defScope s_Foot_init) := ⟨rfl, rfl, rfl, by decide +kernel, rfl, by decide +kernel, by decide +kernel⟩
theorem ok_Foot_init {P : Program} {w : World} {K : PySem.W.Frag} {mg : Str → Option Value} {base : Heap} {cl : Str → Option Addr} (T : Tx K mg cl) {f : Addr} {fd : FuncData} (F : FunD K "__init__" "Foot.__init__" (defArgs s_Foot_init) (defBody s_Foot_init) (defScope s_Foot_init) [V.int 0] [] f fd) (F_good_foot : FnAt P w K mg base cl 2 "good_foot" ["drops", "middle"] f_good_foot) : FnOk P w K mg base (L2.CX P w) 3 f fd ["self", "drops", "middle"] (spOf K cl f_Foot_init) :=
  fn_okD F sc_Foot_init fun cdv A outer s H E hr ok => by
    have F_good_foot := F_good_foot.mono (k := 2) (by decide)
    have nd : N_Foot_init.Nodup := sc_Foot_init.nd
    have hr1 := hr
    exact (jb_cons (js_if (jt_not (jt_val (je_call ok hr F_good_foot (ja_cons (je_var 1) (ja_cons (je_var 2) ja_nil))))) (jb_one (js_raise0 ok rfl T.e_BadFoot)) jb_nil)
      (jb_cons (js_fld T.f_Foot_drops (je_var 0) (je_var 1))
      (jb_one (js_fld T.f_Foot_middle (je_var 0) (je_var 2)))))
abbrev N_v_law_made : List Str := ["_law_drops_here", "_law_at"]
theorem sc_v_law_made : FnScope N_v_law_made ["_law_drops_here", "_law_at"] (defScope s_v_law_made) := ⟨rfl, rfl, rfl, by decide +kernel, rfl, by decide +kernel, by decide +kernel⟩
theorem ok_v_law_made {P : Program} {w : World} {K : PySem.W.Frag} {mg : Str → Option Value} {base : Heap} {cl : Str → Option Addr} (T : Tx K mg cl) {f : Addr} {fd : FuncData} (F : Fun K "_law_made" "_law_made" s_v_law_made f fd) (C_Foot : ClsAt P w K mg base cl 3 "Foot" ["self", "drops", "middle"] f_Foot_init) : FnOk P w K mg base (L2.CX P w) 5 f fd ["_law_drops_here", "_law_at"] (spOf K cl f_v_law_made) :=
  fn_ok F sc_v_law_made fun cdv A outer s H E hr ok => by
    have C_Foot := C_Foot.mono (k := 3) (by decide)
    have nd : N_v_law_made.Nodup := sc_v_law_made.nd
    have hr1 := hr
    exact (jb_one (js_try ok rfl rfl T.s_e8bfac6b (fun W pn xe okb => (jb_one (js_ret (je_makeS okb hr C_Foot (ja_cons (je_var 0) (ja_cons (je_var 1) ja_nil)))))) (.cons T.h_BadFoot rfl (by decide) (fun _ _ _ oks => (jb_one (js_ret je_non))) .nil)))
abbrev N_Foot_about : List Str := ["self"]
theorem sc_Foot_about : FnScope N_Foot_about ["self"] (defScope s_Foot_about) := ⟨rfl, rfl, rfl, by decide +kernel, rfl, by decide +kernel, by decide +kernel⟩
theorem ok_Foot_about {P : Program} {w : World} {K : PySem.W.Frag} {mg : Str → Option Value} {base : Heap} {cl : Str → Option Addr} (T : Tx K mg cl) {f : Addr} {fd : FuncData} (F : Fun K "about" "Foot.about" s_Foot_about f fd) (C_Foot : ClsAt P w K mg base cl 3 "Foot" ["self", "drops", "middle"] f_Foot_init) : FnOk P w K mg base (L2.CX P w) 5 f fd ["self"] (spOf K cl f_Foot_about) :=
  fn_ok F sc_Foot_about fun cdv A outer s H E hr ok => by
    have C_Foot := C_Foot.mono (k := 3) (by decide)
    have nd : N_Foot_about.Nodup := sc_Foot_about.nd
    have hr1 := hr
    exact (jb_one (js_ret (je_make ok hr C_Foot (ja_cons (je_revT (je_fld T.f_Foot_drops (je_var 0))) (ja_cons (je_bin op_sub ops_sub (je_bin op_sub ops_sub (je_callB call_len calls_len (by rfl) T.b_len PySem.boot_len (ja_cons (je_fld T.f_Foot_drops (je_var 0)) ja_nil)) je_int) (je_fld T.f_Foot_middle (je_var 0))) ja_nil)))))
abbrev N_v_law_like : List Str := ["_law_found", "_law_due", "_law_k"]
theorem sc_v_law_like : FnScope N_v_law_like ["_law_found", "_law_due"] (defScope s_v_law_like) := ⟨rfl, rfl, rfl, by decide +kernel, rfl, by decide +kernel, by decide +kernel⟩
theorem ok_v_law_like {P : Program} {w : World} {K : PySem.W.Frag} {mg : Str → Option Value} {base : Heap} {cl : Str → Option Addr} (T : Tx K mg cl) {f : Addr} {fd : FuncData} (F : Fun K "_law_like" "_law_like" s_v_law_like f fd) (hm : mg "_law_like" = some (.ref f)) (hk : PySem.W.keepIn K (.ref f) = true) : ∀ n, FnOk P w K mg base (L2.CX P w) (1 + n) f fd ["_law_found", "_law_due"] (spOf K cl (f_v_law_like n))
  | 0 => fnok_no
  | n + 1 => fn_ok F sc_v_law_like fun cdv A outer s H E hr ok => by
    have F_v_law_like : FnAt P w K mg base cl (1 + n) "_law_like" ["_law_found", "_law_due"] (f_v_law_like n) := ⟨⟨f, fd, hm, hk, F.binds (ps := ["_law_found", "_law_due"]) fun _ _ _ _ _ _ us hl => match us, hl with | [_, _], _ => rfl, ok_v_law_like T F hm hk  n⟩⟩
    have nd : N_v_law_like.Nodup := sc_v_law_like.nd
    have hr1 := hr
    exact (jb_cons (js_if (jt_w (jw_or (jt_cmp (op_neD hr.units) ops_ne (je_isi "tuple" (by rfl) T.b_isinstance (by decide +kernel) (by rfl) T.b_tuple (by decide +kernel) (je_var 1)) (je_isi "tuple" (by rfl) T.b_isinstance (by decide +kernel) (by rfl) T.b_tuple (by decide +kernel) (je_var 0))) (jw_or1 (jt_cmp (op_neD hr.units) ops_ne (je_isi "list" (by rfl) T.b_isinstance (by decide +kernel) (by rfl) T.b_list (by decide +kernel) (je_var 1)) (je_isi "list" (by rfl) T.b_isinstance (by decide +kernel) (by rfl) T.b_list (by decide +kernel) (je_var 0)))))) (jb_one (js_ret je_bl)) jb_nil)
      (jb_cons (js_if (jt_not (jt_val (je_isi2 "tuple" "list" (by rfl) T.b_isinstance (by decide +kernel) (by rfl) T.b_tuple (by decide +kernel) (by rfl) T.b_list (by decide +kernel) (je_var 1)))) (jb_one (js_ret (je_and (je_cmp (op_eqD hr.units) ops_eq (je_isi "bool" (by rfl) T.b_isinstance (by decide +kernel) (by rfl) T.b_bool (by decide +kernel) (je_var 0)) (je_isi "bool" (by rfl) T.b_isinstance (by decide +kernel) (by rfl) T.b_bool (by decide +kernel) (je_var 1))) (je_one (je_cmp (op_eqD hr.units) ops_eq (je_var 0) (je_var 1)))))) jb_nil)
      (jb_one (js_ret (je_and (je_cmp (op_eqD hr.units) ops_eq (je_callB call_len calls_len (by rfl) T.b_len PySem.boot_len (ja_cons (je_var 0) ja_nil)) (je_callB call_len calls_len (by rfl) T.b_len PySem.boot_len (ja_cons (je_var 1) ja_nil))) (je_one (je_callB (cr_all rfl) calls_all (by rfl) T.b_all (by decide +kernel) (ja_cons (je_frz (jl_lc (own := [("_law_k", 2)]) rfl nd (ji_rng1 (by rfl) T.b_range (ja_cons (je_callB call_len calls_len (by rfl) T.b_len PySem.boot_len (ja_cons (je_var 1) ja_nil)) ja_nil)) (blkOk_by (N := N_v_law_like) (sc := defScope s_v_law_like) (own := [("_law_k", 2)]) (by decide +kernel)) (fun _ _ _ _ _ => (jg_name 2 nd)) (fun _ _ _ _ _ => jts_nil) (fun _ _ _ _ _ => (je_call (ok).blk hr F_v_law_like (ja_cons (je_ix (ix_all (hu_of hr)) ops_ix (je_var 0) (je_var 2)) (ja_cons (je_ix (ix_all (hu_of hr)) ops_ix (je_var 1) (je_var 2)) ja_nil)))))) ja_nil))))))))
abbrev N_Foot_eq : List Str := ["self", "other"]
theorem sc_Foot_eq : FnScope N_Foot_eq ["self", "other"] (defScope s_Foot_eq) := ⟨rfl, rfl, rfl, by decide +kernel, rfl, by decide +kernel, by decide +kernel⟩
theorem ok_Foot_eq {P : Program} {w : World} {K : PySem.W.Frag} {mg : Str → Option Value} {base : Heap} {cl : Str → Option Addr} (T : Tx K mg cl) {f : Addr} {fd : FuncData} (F : Fun K "__eq__" "Foot.__eq__" s_Foot_eq f fd) : FnOk P w K mg base (L2.CX P w) 1 f fd ["self", "other"] (spOf K cl f_Foot_eq_2) :=
  fn_ok F sc_Foot_eq fun cdv A outer s H E hr ok => by
    have nd : N_Foot_eq.Nodup := sc_Foot_eq.nd
    have hr1 := hr
    exact (jb_one (js_ret (je_and (je_isOT "Foot" (by rfl) T.b_isinstance (by decide +kernel) (by rfl) T.p_Foot (je_var 1)) (je_and (je_cmp (op_eqD hr.units) ops_eq (je_fld T.f_Foot_drops (je_var 0)) (je_fld T.f_Foot_drops (je_var 1))) (je_one (je_cmp (op_eqD hr.units) ops_eq (je_fld T.f_Foot_middle (je_var 0)) (je_fld T.f_Foot_middle (je_var 1))))))))
abbrev N_v_law_far : List Str := ["_law_bag_here", "_law_number"]
theorem sc_v_law_far : FnScope N_v_law_far ["_law_bag_here"] (defScope s_v_law_far) := ⟨rfl, rfl, rfl, by decide +kernel, rfl, by decide +kernel, by decide +kernel⟩
theorem ok_v_law_far {P : Program} {w : World} {K : PySem.W.Frag} {mg : Str → Option Value} {base : Heap} {cl : Str → Option Addr} (T : Tx K mg cl) {f : Addr} {fd : FuncData} (F : Fun K "_law_far" "_law_far" s_v_law_far f fd) (F_v_law_pull : FnAt P w K mg base cl 1 "_law_pull" ["_law_bag_here", "_law_amount"] f_v_law_pull) : FnOk P w K mg base (L2.CX P w) 2 f fd ["_law_bag_here"] (spOf K cl f_v_law_far) :=
  fn_ok F sc_v_law_far fun cdv A outer s H E hr ok => by
    have F_v_law_pull := F_v_law_pull.mono (k := 1) (by decide)
    have nd : N_v_law_far.Nodup := sc_v_law_far.nd
    have hr1 := hr
    exact (jb_cons (js_set 1 nd (je_bin op_addAll ops_add (je_bin op_pow ops_pow je_int je_int) (je_call ok hr F_v_law_pull (ja_cons (je_var 0) (ja_cons (je_bin op_pow ops_pow je_int je_int) ja_nil)))))
      (jb_cons (js_if (jt_cmp (op_eqD hr.units) ops_eq (je_call ok hr F_v_law_pull (ja_cons (je_var 0) (ja_cons je_int ja_nil))) je_int) (jb_one (js_set 1 nd (je_bin op_addAll ops_add (je_var 1) (je_bin op_pow ops_pow je_int je_int)))) jb_nil)
      (jb_cons (js_if (jt_cmp (op_eqD hr.units) ops_eq (je_call ok hr F_v_law_pull (ja_cons (je_var 0) (ja_cons je_int ja_nil))) je_int) (jb_one (js_ret (je_bin op_sub ops_sub (je_un un_neg uns_neg je_int) (je_var 1)))) jb_nil)
      (jb_one (js_ret (je_var 1))))))
abbrev N_Foot_len : List Str := ["self"]
theorem sc_Foot_len : FnScope N_Foot_len ["self"] (defScope s_Foot_len) := ⟨rfl, rfl, rfl, by decide +kernel, rfl, by decide +kernel, by decide +kernel⟩
theorem ok_Foot_len {P : Program} {w : World} {K : PySem.W.Frag} {mg : Str → Option Value} {base : Heap} {cl : Str → Option Addr} (T : Tx K mg cl) {f : Addr} {fd : FuncData} (F : Fun K "__len__" "Foot.__len__" s_Foot_len f fd) : FnOk P w K mg base (L2.CX P w) 1 f fd ["self"] (spOf K cl f_Foot_len) :=
  fn_ok F sc_Foot_len fun cdv A outer s H E hr ok => by
    have nd : N_Foot_len.Nodup := sc_Foot_len.nd
    have hr1 := hr
    exact (jb_one (js_ret (je_callB call_len calls_len (by rfl) T.b_len PySem.boot_len (ja_cons (je_fld T.f_Foot_drops (je_var 0)) ja_nil))))
abbrev N_Foot_words : List Str := ["self", "found", "drop"]
theorem sc_Foot_words : FnScope N_Foot_words ["self"] (defScope s_Foot_words) := ⟨rfl, rfl, rfl, by decide +kernel, rfl, by decide +kernel, by decide +kernel⟩
theorem ok_Foot_words {P : Program} {w : World} {K : PySem.W.Frag} {mg : Str → Option Value} {base : Heap} {cl : Str → Option Addr} (T : Tx K mg cl) {f : Addr} {fd : FuncData} (F : Fun K "words" "Foot.words" s_Foot_words f fd) : FnOk P w K mg base (L2.CX P w) 1 f fd ["self"] (spOf K cl f_Foot_words) :=
  fn_ok F sc_Foot_words fun cdv A outer s H E hr ok => by
    have nd : N_Foot_words.Nodup := sc_Foot_words.nd
    have hr1 := hr
    exact (jb_cons (js_setLcO 1 (own := [("drop", 2)]) rfl nd rfl (ji_seq (je_fld T.f_Foot_drops (je_var 0))) (blkOk_by (N := N_Foot_words) (sc := defScope s_Foot_words) (own := [("drop", 2)]) (by decide +kernel)) (fun _ _ _ _ _ => (jg_name 2 nd)) (fun _ _ _ _ _ => jts_nil) (fun _ _ _ _ _ => (je_callTy call_str_int calls_str (by rfl) T.b_str (by decide +kernel) (ja_cons (je_var 2) ja_nil))))
      (jb_cons (js_setIO 1 (je_fld T.f_Foot_middle (je_var 0)) (je_bin op_addAll ops_add (je_bin op_addAll ops_add je_str (je_ixO 1 (je_fld T.f_Foot_middle (je_var 0)))) je_str))
      (jb_one (js_retO 1))))
abbrev N_Foot_str : List Str := ["self"]
theorem sc_Foot_str : FnScope N_Foot_str ["self"] (defScope s_Foot_str) := ⟨rfl, rfl, rfl, by decide +kernel, rfl, by decide +kernel, by decide +kernel⟩
theorem ok_Foot_str {P : Program} {w : World} {K : PySem.W.Frag} {mg : Str → Option Value} {base : Heap} {cl : Str → Option Addr} (T : Tx K mg cl) {f : Addr} {fd : FuncData} (F : Fun K "__str__" "Foot.__str__" s_Foot_str f fd) (M_Foot_words : MethAt P w K mg base cl 1 "Foot" "words" ["self"] f_Foot_words) : FnOk P w K mg base (L2.CX P w) 2 f fd ["self"] (spOf K cl f_Foot_str) :=
  fn_ok F sc_Foot_str fun cdv A outer s H E hr ok => by
    have M_Foot_words := M_Foot_words.mono (k := 1) (by decide)
    have nd : N_Foot_str.Nodup := sc_Foot_str.nd
    have hr1 := hr
    exact (jb_one (js_ret (je_join je_str (je_meth0 ok hr M_Foot_words (je_var 0)))))
abbrev N_v_law_shown : List Str := ["_law_drops_here", "_law_at", "_law_words", "_law_drop"]
theorem sc_v_law_shown : FnScope N_v_law_shown ["_law_drops_here", "_law_at"] (defScope s_v_law_shown) := ⟨rfl, rfl, rfl, by decide +kernel, rfl, by decide +kernel, by decide +kernel⟩
theorem ok_v_law_shown {P : Program} {w : World} {K : PySem.W.Frag} {mg : Str → Option Value} {base : Heap} {cl : Str → Option Addr} (T : Tx K mg cl) {f : Addr} {fd : FuncData} (F : Fun K "_law_shown" "_law_shown" s_v_law_shown f fd) : FnOk P w K mg base (L2.CX P w) 1 f fd ["_law_drops_here", "_law_at"] (spOf K cl f_v_law_shown) :=
  fn_ok F sc_v_law_shown fun cdv A outer s H E hr ok => by
    have nd : N_v_law_shown.Nodup := sc_v_law_shown.nd
    have hr1 := hr
    exact (jb_cons (js_setLc 2 (own := [("_law_drop", 3)]) rfl nd rfl (ji_seq (je_var 0)) (blkOk_by (N := N_v_law_shown) (sc := defScope s_v_law_shown) (own := [("_law_drop", 3)]) (by decide +kernel)) (fun _ _ _ _ _ => (jg_name 3 nd)) (fun _ _ _ _ _ => jts_nil) (fun _ _ _ _ _ => (je_callTy call_str_int calls_str (by rfl) T.b_str (by decide +kernel) (ja_cons (je_var 3) ja_nil))))
      (jb_one (js_ret (je_join je_str (je_bin op_addAll ops_add (je_bin op_addAll ops_add (je_slice sl_all sls_all (je_var 2) jo_none (jo_some (je_var 1))) (je_frz (jl_lst (ja_cons (je_bin op_addAll ops_add (je_bin op_addAll ops_add je_str (je_ix (ix_all (hu_of hr)) ops_ix (je_var 2) (je_var 1))) je_str) ja_nil)))) (je_slice sl_all sls_all (je_var 2) (jo_some (je_bin op_addAll ops_add (je_var 1) je_int)) jo_none))))))
abbrev N_Foot_repr : List Str := ["self"]
theorem sc_Foot_repr : FnScope N_Foot_repr ["self"] (defScope s_Foot_repr) := ⟨rfl, rfl, rfl, by decide +kernel, rfl, by decide +kernel, by decide +kernel⟩
theorem ok_Foot_repr {P : Program} {w : World} {K : PySem.W.Frag} {mg : Str → Option Value} {base : Heap} {cl : Str → Option Addr} (T : Tx K mg cl) {f : Addr} {fd : FuncData} (F : Fun K "__repr__" "Foot.__repr__" s_Foot_repr f fd) : FnOkG P w K mg base (L2.CX P w) 1 f fd ["self"] (spOf K cl f_Foot_repr) :=
  fn_okG F sc_Foot_repr fun cdv A outer s H E gd hr ok => by
    have nd : N_Foot_repr.Nodup := sc_Foot_repr.nd
    have hr1 := hr
    exact (jb_one (js_ret (je_joined (.cons je_str (.cons (je_fmt gd (hu70 hr) (je_fld T.f_Foot_drops (je_var 0))) (.cons je_str (.cons (je_fmt gd (hu70 hr) (je_fld T.f_Foot_middle (je_var 0))) (.cons je_str .nil))))))))
abbrev N_law : List Str := ["_law_script", "_law_bag_here", "_law_turn", "_law_drops_here", "_law_at", "_law_found", "_law_good", "_law_others", "_law_other", "_law_second", "_law_about", "_law_drop"]
theorem sc_law : FnScope N_law ["_law_script"] (defScope s_law) := ⟨rfl, rfl, rfl, by decide +kernel, rfl, by decide +kernel, by decide +kernel⟩
theorem ok_law {P : Program} {w : World} {K : PySem.W.Frag} {mg : Str → Option Value} {base : Heap} {cl : Str → Option Addr} (T : Tx K mg cl) {f : Addr} {fd : FuncData} (F : Fun K "law" "law" s_law f fd) (F_v_law_bag : FnAt P w K mg base cl 1 "_law_bag" ["_law_script"] f_v_law_bag) (F_v_law_far : FnAt P w K mg base cl 2 "_law_far" ["_law_bag_here"] f_v_law_far) (F_v_law_like : FnAt P w K mg base cl 13 "_law_like" ["_law_found", "_law_due"] (f_v_law_like 12)) (F_v_law_made : FnAt P w K mg base cl 5 "_law_made" ["_law_drops_here", "_law_at"] f_v_law_made) (F_v_law_pair : FnAt P w K mg base cl 3 "_law_pair" ["_law_bag_here"] f_v_law_pair) (F_v_law_pull : FnAt P w K mg base cl 1 "_law_pull" ["_law_bag_here", "_law_amount"] f_v_law_pull) (F_v_law_shown : FnAt P w K mg base cl 1 "_law_shown" ["_law_drops_here", "_law_at"] f_v_law_shown) (C_Foot : ClsAt P w K mg base cl 3 "Foot" ["self", "drops", "middle"] f_Foot_init) (CD_Foot : ClsAtD P w K mg base cl 3 "Foot" ["self", "drops", "middle"] f_Foot_init 0) (M_Foot_about : MethAt P w K mg base cl 5 "Foot" "about" ["self"] f_Foot_about) (L_Foot : LenAt P w K mg base cl 1 "Foot" ["self"] f_Foot_len) (EC_Foot : EqAtC P w K mg base cl 1 "Foot" ["self", "other"] f_Foot_eq_2) (NC_Foot : NeAtC K cl "Foot") (ET_Foot : EqAtT K cl "Foot") (S_Foot : StrAt P w K mg base cl 2 "Foot" ["self"] f_Foot_str) (R_Foot : ReprAt P w K mg base cl 1 "Foot" ["self"] f_Foot_repr) (T_Foot : TruAt P w K mg base cl 1 "Foot" ["self"] f_Foot_len) : FnOkG P w K mg base (L2.CX P w) 14 f fd ["_law_script"] (spOf K cl f_law_k03) :=
  fn_okG F sc_law fun cdv A outer s H E gd hr ok => by
    have F_v_law_bag := F_v_law_bag.mono (k := 13) (by decide)
    have F_v_law_far := F_v_law_far.mono (k := 13) (by decide)
    have F_v_law_like := F_v_law_like.mono (k := 13) (by decide)
    have F_v_law_made := F_v_law_made.mono (k := 13) (by decide)
    have F_v_law_pair := F_v_law_pair.mono (k := 13) (by decide)
    have F_v_law_pull := F_v_law_pull.mono (k := 13) (by decide)
    have F_v_law_shown := F_v_law_shown.mono (k := 13) (by decide)
    have C_Foot := C_Foot.mono (k := 12) (by decide)
    have CD_Foot := CD_Foot.mono (k := 12) (by decide)
    have M_Foot_about := M_Foot_about.mono (k := 13) (by decide)
    have nd : N_law.Nodup := sc_law.nd
    have hr1 := hr
    exact (jb_cons (js_set 1 nd (je_cell (jl_call ok hr F_v_law_bag (ja_cons (je_var 0) ja_nil))))
      (jb_cons (js_for ok rfl (ji_rng1 (by rfl) T.b_range (ja_cons je_int ja_nil)) (jg_name 2 nd) (jb_cons (js_setT (jg_tup 2 rfl (jgs_cons (jg_name 3 nd) (jgs_cons (jg_name 4 nd) jgs_nil))) (je_call ok hr F_v_law_pair (ja_cons (je_var 1) ja_nil)))
      (jb_cons (js_if (jt_cmp (op_eqD hr.units) ops_eq (je_call ok hr F_v_law_pull (ja_cons (je_var 1) (ja_cons je_int ja_nil))) je_int) (jb_one (js_set 3 nd (je_ix (ix_all (hu_of hr)) ops_ix (je_frz (jl_lst (ja_cons (je_tup ja_nil) (ja_cons (je_bin op_mulAll ops_mul (je_var 3) je_int) (ja_cons (je_bin op_addAll ops_add (je_var 3) (je_tup (ja_cons je_int ja_nil))) (ja_cons (je_bin op_addAll ops_add (je_tup (ja_cons (je_un un_neg uns_neg je_int) ja_nil)) (je_var 3)) (ja_cons (je_bin op_addAll ops_add (je_var 3) (je_tup (ja_cons (je_call ok hr F_v_law_far (ja_cons (je_var 1) ja_nil)) ja_nil))) ja_nil))))))) (je_call ok hr F_v_law_pull (ja_cons (je_var 1) (ja_cons je_int ja_nil)))))) jb_nil)
      (jb_cons (js_if (jt_cmp (op_eqD hr.units) ops_eq (je_call ok hr F_v_law_pull (ja_cons (je_var 1) (ja_cons je_int ja_nil))) je_int) (jb_one (js_set 4 nd (je_ix (ix_all (hu_of hr)) ops_ix (je_frz (jl_lst (ja_cons (je_un un_neg uns_neg je_int) (ja_cons (je_callB call_len calls_len (by rfl) T.b_len PySem.boot_len (ja_cons (je_var 3) ja_nil)) (ja_cons (je_call ok hr F_v_law_far (ja_cons (je_var 1) ja_nil)) ja_nil))))) (je_call ok hr F_v_law_pull (ja_cons (je_var 1) (ja_cons je_int ja_nil)))))) jb_nil)
      (jb_cons (js_set 5 nd (je_call ok hr F_v_law_made (ja_cons (je_var 3) (ja_cons (je_var 4) ja_nil))))
      (jb_cons (js_set 6 nd (je_and (je_chain op_le op_le ops_le ops_le je_int (je_callB call_len calls_len (by rfl) T.b_len PySem.boot_len (ja_cons (je_var 3) ja_nil)) je_int) (je_and (je_callB (cr_all rfl) calls_all (by rfl) T.b_all (by decide +kernel) (ja_cons (je_frz (jl_lc (own := [("_law_drop", 11)]) rfl nd (ji_seq (je_var 3)) (blkOk_by (N := N_law) (sc := defScope s_law) (own := [("_law_drop", 11)]) (by decide +kernel)) (fun _ _ _ _ _ => (jg_name 11 nd)) (fun _ _ _ _ _ => jts_nil) (fun _ _ _ _ _ => (je_chain op_le op_le ops_le ops_le je_int (je_var 11) je_int)))) ja_nil)) (je_one (je_chain op_le op_lt ops_le ops_lt je_int (je_var 4) (je_callB call_len calls_len (by rfl) T.b_len PySem.boot_len (ja_cons (je_var 3) ja_nil)))))))
      (jb_cons (js_if (jt_cmp (op_neD hr.units) ops_ne (je_notN (je_var 5)) (je_var 6)) (jb_one (js_ret je_bl)) jb_nil)
      (jb_one (js_if (jt_val (je_var 6)) (jb_cons (js_set 7 nd (je_frz (jl_lst (ja_cons (je_tup (ja_cons (je_var 3) (ja_cons (je_var 4) ja_nil))) (ja_cons (je_tup (ja_cons (je_revT (je_var 3)) (ja_cons (je_var 4) ja_nil))) (ja_cons (je_tup (ja_cons (je_var 3) (ja_cons (je_bin op_sub ops_sub (je_bin op_sub ops_sub (je_callB call_len calls_len (by rfl) T.b_len PySem.boot_len (ja_cons (je_var 3) ja_nil)) je_int) (je_var 4)) ja_nil))) (ja_cons (je_tup (ja_cons (je_bin op_addAll ops_add (je_slice sl_all sls_all (je_var 3) jo_none (jo_some (je_un un_neg uns_neg je_int))) (je_tup (ja_cons je_int ja_nil))) (ja_cons (je_var 4) ja_nil))) ja_nil)))))))
      (jb_cons (js_set 8 nd (je_ix (ix_all (hu_of hr)) ops_ix (je_var 7) (je_call ok hr F_v_law_pull (ja_cons (je_var 1) (ja_cons je_int ja_nil)))))
      (jb_cons (js_set 9 nd (je_make ok hr C_Foot (ja_cons (je_ix (ix_all (hu_of hr)) ops_ix (je_var 8) je_int) (ja_cons (je_ix (ix_all (hu_of hr)) ops_ix (je_var 8) je_int) ja_nil))))
      (jb_cons (js_if (jt_w (jw_or (jt_not (jt_val (je_call ok hr F_v_law_like (ja_cons (je_cmp (op_eqC EC_Foot (hr.mono (by decide))) ops_eqC (je_var 5) (je_var 9)) (ja_cons (je_cmp (op_eqD hr.units) ops_eq (je_var 8) (je_tup (ja_cons (je_var 3) (ja_cons (je_var 4) ja_nil)))) ja_nil))))) (jw_or1 (jt_cmp (op_neD hr.units) ops_ne (je_cmp (op_neC EC_Foot NC_Foot (hr.mono (by decide))) ops_neC (je_var 5) (je_var 9)) (je_cmp (op_neD hr.units) ops_ne (je_var 8) (je_tup (ja_cons (je_var 3) (ja_cons (je_var 4) ja_nil)))))))) (jb_one (js_ret je_bl)) jb_nil)
      (jb_cons (js_if (jt_w (jw_or (jt_not (jt_val (je_call ok hr F_v_law_like (ja_cons (je_fld T.f_Foot_drops (je_var 5)) (ja_cons (je_var 3) ja_nil))))) (jw_or1 (jt_not (jt_val (je_call ok hr F_v_law_like (ja_cons (je_fld T.f_Foot_middle (je_var 5)) (ja_cons (je_var 4) ja_nil)))))))) (jb_one (js_ret je_bl)) jb_nil)
      (jb_cons (js_if (jt_not (jt_val (je_call ok hr F_v_law_like (ja_cons (je_lenI L_Foot (hr.mono (by decide)) (by rfl) T.b_len PySem.boot_len (je_var 5)) (ja_cons (je_callB call_len calls_len (by rfl) T.b_len PySem.boot_len (ja_cons (je_var 3) ja_nil)) ja_nil))))) (jb_one (js_ret je_bl)) jb_nil)
      (jb_cons (js_if (jt_w (jw_or (jt_cmp (op_neD hr.units) ops_ne (je_strI S_Foot (hr.mono (by decide)) (by rfl) T.b_str (by decide +kernel) (je_var 5)) (je_call ok hr F_v_law_shown (ja_cons (je_var 3) (ja_cons (je_var 4) ja_nil)))) (jw_or1 (jt_cmp (op_neD hr.units) ops_ne (je_reprI R_Foot gd (hr.mono (by decide)) (by rfl) T.b_repr (by decide +kernel) (je_var 5)) (je_bin op_addAll ops_add (je_bin op_addAll ops_add (je_bin op_addAll ops_add (je_bin op_addAll ops_add je_str (je_callB (call_reprD gd (hu65 hr)) calls_reprT (by rfl) T.b_repr (by decide +kernel) (ja_cons (je_var 3) ja_nil))) je_str) (je_callTy call_str_int calls_str (by rfl) T.b_str (by decide +kernel) (ja_cons (je_var 4) ja_nil))) je_str))))) (jb_one (js_ret je_bl)) jb_nil)
      (jb_cons (js_if (jt_w (jw_or (jt_cmp (op_eqT EC_Foot ET_Foot (hr.mono (by decide))) ops_eqT (je_var 5) (je_tup (ja_cons (je_var 3) (ja_cons (je_var 4) ja_nil)))) (jw_or (jt_cmp (op_niI EC_Foot (hr.mono (by decide))) ops_niI (je_var 5) (je_frz (jl_lst (ja_cons (je_var 9) (ja_cons (je_make ok hr C_Foot (ja_cons (je_var 3) (ja_cons (je_var 4) ja_nil))) ja_nil))))) (jw_or1 (jt_cmp (op_neC EC_Foot NC_Foot (hr.mono (by decide))) ops_neC (je_makeD ok hr CD_Foot (ja_cons (je_var 3) ja_nil)) (je_make ok hr C_Foot (ja_cons (je_var 3) (ja_cons je_int ja_nil)))))))) (jb_one (js_ret je_bl)) jb_nil)
      (jb_cons (js_set 10 nd (je_meth0 ok hr M_Foot_about (je_var 5)))
      (jb_one (js_if (jt_w (jw_or (jt_cmp (op_neC EC_Foot NC_Foot (hr.mono (by decide))) ops_neC (je_var 10) (je_make ok hr C_Foot (ja_cons (je_revT (je_var 3)) (ja_cons (je_bin op_sub ops_sub (je_bin op_sub ops_sub (je_callB call_len calls_len (by rfl) T.b_len PySem.boot_len (ja_cons (je_var 3) ja_nil)) je_int) (je_var 4)) ja_nil)))) (jw_or (jt_cmp (op_neC EC_Foot NC_Foot (hr.mono (by decide))) ops_neC (je_meth0 ok hr M_Foot_about (je_var 10)) (je_var 5)) (jw_or1 (jt_not (jt_truC T_Foot (hr.mono (by decide)) (je_var 5))))))) (jb_one (js_ret je_bl)) jb_nil))))))))))) jb_nil)))))))))
      (jb_one (js_ret je_bl))))
theorem all_mk {l : PySem.W.OpenLaw} {w : World} {K : PySem.W.Frag} {h : Heap} {mg : Str → Option Value} {fa : Addr} (X : K.In h) (G : h.Ns mainGlobals mg) (hfa : mg "law" = some (.ref fa))
    {C_BadFoot : Addr}
    {C_Foot : Addr}
    {fn_v_law_bag : Addr} {od_v_law_bag an_v_law_bag : Option Addr} {sl_v_law_bag : Array (Option Value)} {oc_v_law_bag kV_v_law_bag dc_v_law_bag pm_v_law_bag cd_v_law_bag ct_v_law_bag : Value}
    {fn_v_law_pull : Addr} {od_v_law_pull an_v_law_pull : Option Addr} {sl_v_law_pull : Array (Option Value)} {oc_v_law_pull kV_v_law_pull dc_v_law_pull pm_v_law_pull cd_v_law_pull ct_v_law_pull : Value}
    {fn_v_law_drops : Addr} {od_v_law_drops an_v_law_drops : Option Addr} {sl_v_law_drops : Array (Option Value)} {oc_v_law_drops kV_v_law_drops dc_v_law_drops pm_v_law_drops cd_v_law_drops ct_v_law_drops : Value}
    {fn_v_law_pair : Addr} {od_v_law_pair an_v_law_pair : Option Addr} {sl_v_law_pair : Array (Option Value)} {oc_v_law_pair kV_v_law_pair dc_v_law_pair pm_v_law_pair cd_v_law_pair ct_v_law_pair : Value}
    {fn_good_drops : Addr} {od_good_drops an_good_drops : Option Addr} {sl_good_drops : Array (Option Value)} {oc_good_drops kV_good_drops dc_good_drops pm_good_drops cd_good_drops ct_good_drops : Value}
    {fn_good_foot : Addr} {od_good_foot an_good_foot : Option Addr} {sl_good_foot : Array (Option Value)} {oc_good_foot kV_good_foot dc_good_foot pm_good_foot cd_good_foot ct_good_foot : Value}
    {fn_Foot_init : Addr} {od_Foot_init an_Foot_init : Option Addr} {sl_Foot_init : Array (Option Value)} {oc_Foot_init kV_Foot_init dc_Foot_init pm_Foot_init cd_Foot_init ct_Foot_init : Value}
    {T_Foot_init : Addr} {cT_Foot_init : Value} {dT_Foot_init : Option Addr} {nT_Foot_init : Nat} {sT_Foot_init : Array (Option Value)} {t0_Foot_init : Tok}
    {fn_v_law_made : Addr} {od_v_law_made an_v_law_made : Option Addr} {sl_v_law_made : Array (Option Value)} {oc_v_law_made kV_v_law_made dc_v_law_made pm_v_law_made cd_v_law_made ct_v_law_made : Value}
    {fn_Foot_about : Addr} {od_Foot_about an_Foot_about : Option Addr} {sl_Foot_about : Array (Option Value)} {oc_Foot_about kV_Foot_about dc_Foot_about pm_Foot_about cd_Foot_about ct_Foot_about : Value}
    {fn_v_law_like : Addr} {od_v_law_like an_v_law_like : Option Addr} {sl_v_law_like : Array (Option Value)} {oc_v_law_like kV_v_law_like dc_v_law_like pm_v_law_like cd_v_law_like ct_v_law_like : Value}
    {fn_Foot_eq : Addr} {od_Foot_eq an_Foot_eq : Option Addr} {sl_Foot_eq : Array (Option Value)} {oc_Foot_eq kV_Foot_eq dc_Foot_eq pm_Foot_eq cd_Foot_eq ct_Foot_eq : Value}
    {fn_v_law_far : Addr} {od_v_law_far an_v_law_far : Option Addr} {sl_v_law_far : Array (Option Value)} {oc_v_law_far kV_v_law_far dc_v_law_far pm_v_law_far cd_v_law_far ct_v_law_far : Value}
    {fn_Foot_len : Addr} {od_Foot_len an_Foot_len : Option Addr} {sl_Foot_len : Array (Option Value)} {oc_Foot_len kV_Foot_len dc_Foot_len pm_Foot_len cd_Foot_len ct_Foot_len : Value}
    {fn_Foot_words : Addr} {od_Foot_words an_Foot_words : Option Addr} {sl_Foot_words : Array (Option Value)} {oc_Foot_words kV_Foot_words dc_Foot_words pm_Foot_words cd_Foot_words ct_Foot_words : Value}
    {fn_Foot_str : Addr} {od_Foot_str an_Foot_str : Option Addr} {sl_Foot_str : Array (Option Value)} {oc_Foot_str kV_Foot_str dc_Foot_str pm_Foot_str cd_Foot_str ct_Foot_str : Value}
    {fn_v_law_shown : Addr} {od_v_law_shown an_v_law_shown : Option Addr} {sl_v_law_shown : Array (Option Value)} {oc_v_law_shown kV_v_law_shown dc_v_law_shown pm_v_law_shown cd_v_law_shown ct_v_law_shown : Value}
    {fn_Foot_repr : Addr} {od_Foot_repr an_Foot_repr : Option Addr} {sl_Foot_repr : Array (Option Value)} {oc_Foot_repr kV_Foot_repr dc_Foot_repr pm_Foot_repr cd_Foot_repr ct_Foot_repr : Value}
    {fn_law : Addr} {od_law an_law : Option Addr} {sl_law : Array (Option Value)} {oc_law kV_law dc_law pm_law cd_law ct_law : Value}
    {tc_MOST_DROP : Tok}
    {tc_MOST_PLACES : Tok}
    (gC_BadFoot : PySem.W.nsIn K mainGlobals "BadFoot" = some (some (.ref C_BadFoot)))
    (gC_Foot : PySem.W.nsIn K mainGlobals "Foot" = some (some (.ref C_Foot)))
    (a_v_law_bag : PySem.W.nsIn K mainGlobals "_law_bag" = some (some (.ref fn_v_law_bag)))
    (l_v_law_bag : K.lookup fn_v_law_bag = some ⟨oc_v_law_bag, od_v_law_bag, .func (PySem.W.fnOf "_law_bag" "_law_bag" (defArgs s_v_law_bag) (defBody s_v_law_bag) (defScope s_v_law_bag) .none kV_v_law_bag dc_v_law_bag pm_v_law_bag an_v_law_bag cd_v_law_bag ct_v_law_bag), sl_v_law_bag⟩)
    (c_v_law_bag : PySem.W.codeIn K cd_v_law_bag "_law_bag" = true)
    (k_v_law_bag : PySem.W.keepIn K (.ref fn_v_law_bag) = true)
    (a_v_law_pull : PySem.W.nsIn K mainGlobals "_law_pull" = some (some (.ref fn_v_law_pull)))
    (l_v_law_pull : K.lookup fn_v_law_pull = some ⟨oc_v_law_pull, od_v_law_pull, .func (PySem.W.fnOf "_law_pull" "_law_pull" (defArgs s_v_law_pull) (defBody s_v_law_pull) (defScope s_v_law_pull) .none kV_v_law_pull dc_v_law_pull pm_v_law_pull an_v_law_pull cd_v_law_pull ct_v_law_pull), sl_v_law_pull⟩)
    (c_v_law_pull : PySem.W.codeIn K cd_v_law_pull "_law_pull" = true)
    (k_v_law_pull : PySem.W.keepIn K (.ref fn_v_law_pull) = true)
    (a_v_law_drops : PySem.W.nsIn K mainGlobals "_law_drops" = some (some (.ref fn_v_law_drops)))
    (l_v_law_drops : K.lookup fn_v_law_drops = some ⟨oc_v_law_drops, od_v_law_drops, .func (PySem.W.fnOf "_law_drops" "_law_drops" (defArgs s_v_law_drops) (defBody s_v_law_drops) (defScope s_v_law_drops) .none kV_v_law_drops dc_v_law_drops pm_v_law_drops an_v_law_drops cd_v_law_drops ct_v_law_drops), sl_v_law_drops⟩)
    (c_v_law_drops : PySem.W.codeIn K cd_v_law_drops "_law_drops" = true)
    (k_v_law_drops : PySem.W.keepIn K (.ref fn_v_law_drops) = true)
    (a_v_law_pair : PySem.W.nsIn K mainGlobals "_law_pair" = some (some (.ref fn_v_law_pair)))
    (l_v_law_pair : K.lookup fn_v_law_pair = some ⟨oc_v_law_pair, od_v_law_pair, .func (PySem.W.fnOf "_law_pair" "_law_pair" (defArgs s_v_law_pair) (defBody s_v_law_pair) (defScope s_v_law_pair) .none kV_v_law_pair dc_v_law_pair pm_v_law_pair an_v_law_pair cd_v_law_pair ct_v_law_pair), sl_v_law_pair⟩)
    (c_v_law_pair : PySem.W.codeIn K cd_v_law_pair "_law_pair" = true)
    (k_v_law_pair : PySem.W.keepIn K (.ref fn_v_law_pair) = true)
    (a_good_drops : PySem.W.nsIn K mainGlobals "good_drops" = some (some (.ref fn_good_drops)))
    (l_good_drops : K.lookup fn_good_drops = some ⟨oc_good_drops, od_good_drops, .func (PySem.W.fnOf "good_drops" "good_drops" (defArgs s_good_drops) (defBody s_good_drops) (defScope s_good_drops) .none kV_good_drops dc_good_drops pm_good_drops an_good_drops cd_good_drops ct_good_drops), sl_good_drops⟩)
    (c_good_drops : PySem.W.codeIn K cd_good_drops "good_drops" = true)
    (k_good_drops : PySem.W.keepIn K (.ref fn_good_drops) = true)
    (a_good_foot : PySem.W.nsIn K mainGlobals "good_foot" = some (some (.ref fn_good_foot)))
    (l_good_foot : K.lookup fn_good_foot = some ⟨oc_good_foot, od_good_foot, .func (PySem.W.fnOf "good_foot" "good_foot" (defArgs s_good_foot) (defBody s_good_foot) (defScope s_good_foot) .none kV_good_foot dc_good_foot pm_good_foot an_good_foot cd_good_foot ct_good_foot), sl_good_foot⟩)
    (c_good_foot : PySem.W.codeIn K cd_good_foot "good_foot" = true)
    (k_good_foot : PySem.W.keepIn K (.ref fn_good_foot) = true)
    (a_Foot_init : PySem.W.findIn K (.ref C_Foot) "__init__" = some (some (.ref fn_Foot_init)))
    (i_Foot_init : PySem.W.isFn K (.ref fn_Foot_init) = true)
    (l_Foot_init : K.lookup fn_Foot_init = some ⟨oc_Foot_init, od_Foot_init, .func (PySem.W.fnOf "__init__" "Foot.__init__" (defArgs s_Foot_init) (defBody s_Foot_init) (defScope s_Foot_init) (.ref T_Foot_init) kV_Foot_init dc_Foot_init pm_Foot_init an_Foot_init cd_Foot_init ct_Foot_init), sl_Foot_init⟩)
    (c_Foot_init : PySem.W.codeIn K cd_Foot_init "Foot.__init__" = true)
    (k_Foot_init : PySem.W.keepIn K (.ref fn_Foot_init) = true)
    (d_Foot_init : K.lookup T_Foot_init = some ⟨cT_Foot_init, dT_Foot_init, .seq #[.int 0 t0_Foot_init] nT_Foot_init, sT_Foot_init⟩)
    (a_v_law_made : PySem.W.nsIn K mainGlobals "_law_made" = some (some (.ref fn_v_law_made)))
    (l_v_law_made : K.lookup fn_v_law_made = some ⟨oc_v_law_made, od_v_law_made, .func (PySem.W.fnOf "_law_made" "_law_made" (defArgs s_v_law_made) (defBody s_v_law_made) (defScope s_v_law_made) .none kV_v_law_made dc_v_law_made pm_v_law_made an_v_law_made cd_v_law_made ct_v_law_made), sl_v_law_made⟩)
    (c_v_law_made : PySem.W.codeIn K cd_v_law_made "_law_made" = true)
    (k_v_law_made : PySem.W.keepIn K (.ref fn_v_law_made) = true)
    (a_Foot_about : PySem.W.findIn K (.ref C_Foot) "about" = some (some (.ref fn_Foot_about)))
    (i_Foot_about : PySem.W.isFn K (.ref fn_Foot_about) = true)
    (l_Foot_about : K.lookup fn_Foot_about = some ⟨oc_Foot_about, od_Foot_about, .func (PySem.W.fnOf "about" "Foot.about" (defArgs s_Foot_about) (defBody s_Foot_about) (defScope s_Foot_about) .none kV_Foot_about dc_Foot_about pm_Foot_about an_Foot_about cd_Foot_about ct_Foot_about), sl_Foot_about⟩)
    (c_Foot_about : PySem.W.codeIn K cd_Foot_about "Foot.about" = true)
    (k_Foot_about : PySem.W.keepIn K (.ref fn_Foot_about) = true)
    (a_v_law_like : PySem.W.nsIn K mainGlobals "_law_like" = some (some (.ref fn_v_law_like)))
    (l_v_law_like : K.lookup fn_v_law_like = some ⟨oc_v_law_like, od_v_law_like, .func (PySem.W.fnOf "_law_like" "_law_like" (defArgs s_v_law_like) (defBody s_v_law_like) (defScope s_v_law_like) .none kV_v_law_like dc_v_law_like pm_v_law_like an_v_law_like cd_v_law_like ct_v_law_like), sl_v_law_like⟩)
    (c_v_law_like : PySem.W.codeIn K cd_v_law_like "_law_like" = true)
    (k_v_law_like : PySem.W.keepIn K (.ref fn_v_law_like) = true)
    (a_Foot_eq : PySem.W.findIn K (.ref C_Foot) "__eq__" = some (some (.ref fn_Foot_eq)))
    (i_Foot_eq : PySem.W.isFn K (.ref fn_Foot_eq) = true)
    (l_Foot_eq : K.lookup fn_Foot_eq = some ⟨oc_Foot_eq, od_Foot_eq, .func (PySem.W.fnOf "__eq__" "Foot.__eq__" (defArgs s_Foot_eq) (defBody s_Foot_eq) (defScope s_Foot_eq) .none kV_Foot_eq dc_Foot_eq pm_Foot_eq an_Foot_eq cd_Foot_eq ct_Foot_eq), sl_Foot_eq⟩)
    (c_Foot_eq : PySem.W.codeIn K cd_Foot_eq "Foot.__eq__" = true)
    (k_Foot_eq : PySem.W.keepIn K (.ref fn_Foot_eq) = true)
    (a_v_law_far : PySem.W.nsIn K mainGlobals "_law_far" = some (some (.ref fn_v_law_far)))
    (l_v_law_far : K.lookup fn_v_law_far = some ⟨oc_v_law_far, od_v_law_far, .func (PySem.W.fnOf "_law_far" "_law_far" (defArgs s_v_law_far) (defBody s_v_law_far) (defScope s_v_law_far) .none kV_v_law_far dc_v_law_far pm_v_law_far an_v_law_far cd_v_law_far ct_v_law_far), sl_v_law_far⟩)
    (c_v_law_far : PySem.W.codeIn K cd_v_law_far "_law_far" = true)
    (k_v_law_far : PySem.W.keepIn K (.ref fn_v_law_far) = true)
    (a_Foot_len : PySem.W.findIn K (.ref C_Foot) "__len__" = some (some (.ref fn_Foot_len)))
    (i_Foot_len : PySem.W.isFn K (.ref fn_Foot_len) = true)
    (l_Foot_len : K.lookup fn_Foot_len = some ⟨oc_Foot_len, od_Foot_len, .func (PySem.W.fnOf "__len__" "Foot.__len__" (defArgs s_Foot_len) (defBody s_Foot_len) (defScope s_Foot_len) .none kV_Foot_len dc_Foot_len pm_Foot_len an_Foot_len cd_Foot_len ct_Foot_len), sl_Foot_len⟩)
    (c_Foot_len : PySem.W.codeIn K cd_Foot_len "Foot.__len__" = true)
    (k_Foot_len : PySem.W.keepIn K (.ref fn_Foot_len) = true)
    (a_Foot_words : PySem.W.findIn K (.ref C_Foot) "words" = some (some (.ref fn_Foot_words)))
    (i_Foot_words : PySem.W.isFn K (.ref fn_Foot_words) = true)
    (l_Foot_words : K.lookup fn_Foot_words = some ⟨oc_Foot_words, od_Foot_words, .func (PySem.W.fnOf "words" "Foot.words" (defArgs s_Foot_words) (defBody s_Foot_words) (defScope s_Foot_words) .none kV_Foot_words dc_Foot_words pm_Foot_words an_Foot_words cd_Foot_words ct_Foot_words), sl_Foot_words⟩)
    (c_Foot_words : PySem.W.codeIn K cd_Foot_words "Foot.words" = true)
    (k_Foot_words : PySem.W.keepIn K (.ref fn_Foot_words) = true)
    (a_Foot_str : PySem.W.findIn K (.ref C_Foot) "__str__" = some (some (.ref fn_Foot_str)))
    (i_Foot_str : PySem.W.isFn K (.ref fn_Foot_str) = true)
    (l_Foot_str : K.lookup fn_Foot_str = some ⟨oc_Foot_str, od_Foot_str, .func (PySem.W.fnOf "__str__" "Foot.__str__" (defArgs s_Foot_str) (defBody s_Foot_str) (defScope s_Foot_str) .none kV_Foot_str dc_Foot_str pm_Foot_str an_Foot_str cd_Foot_str ct_Foot_str), sl_Foot_str⟩)
    (c_Foot_str : PySem.W.codeIn K cd_Foot_str "Foot.__str__" = true)
    (k_Foot_str : PySem.W.keepIn K (.ref fn_Foot_str) = true)
    (a_v_law_shown : PySem.W.nsIn K mainGlobals "_law_shown" = some (some (.ref fn_v_law_shown)))
    (l_v_law_shown : K.lookup fn_v_law_shown = some ⟨oc_v_law_shown, od_v_law_shown, .func (PySem.W.fnOf "_law_shown" "_law_shown" (defArgs s_v_law_shown) (defBody s_v_law_shown) (defScope s_v_law_shown) .none kV_v_law_shown dc_v_law_shown pm_v_law_shown an_v_law_shown cd_v_law_shown ct_v_law_shown), sl_v_law_shown⟩)
    (c_v_law_shown : PySem.W.codeIn K cd_v_law_shown "_law_shown" = true)
    (k_v_law_shown : PySem.W.keepIn K (.ref fn_v_law_shown) = true)
    (a_Foot_repr : PySem.W.findIn K (.ref C_Foot) "__repr__" = some (some (.ref fn_Foot_repr)))
    (i_Foot_repr : PySem.W.isFn K (.ref fn_Foot_repr) = true)
    (l_Foot_repr : K.lookup fn_Foot_repr = some ⟨oc_Foot_repr, od_Foot_repr, .func (PySem.W.fnOf "__repr__" "Foot.__repr__" (defArgs s_Foot_repr) (defBody s_Foot_repr) (defScope s_Foot_repr) .none kV_Foot_repr dc_Foot_repr pm_Foot_repr an_Foot_repr cd_Foot_repr ct_Foot_repr), sl_Foot_repr⟩)
    (c_Foot_repr : PySem.W.codeIn K cd_Foot_repr "Foot.__repr__" = true)
    (k_Foot_repr : PySem.W.keepIn K (.ref fn_Foot_repr) = true)
    (a_law : PySem.W.nsIn K mainGlobals "law" = some (some (.ref fn_law)))
    (l_law : K.lookup fn_law = some ⟨oc_law, od_law, .func (PySem.W.fnOf "law" "law" (defArgs s_law) (defBody s_law) (defScope s_law) .none kV_law dc_law pm_law an_law cd_law ct_law), sl_law⟩)
    (c_law : PySem.W.codeIn K cd_law "law" = true)
    (k_law : PySem.W.keepIn K (.ref fn_law) = true)
    (pg_Foot : PySem.W.plainGet K C_Foot Str.empty = true)
    (hd_Foot : PySem.W.hasDictIn K C_Foot = true)
    (po_Foot : PySem.W.plainOver K C_Foot = true)
    (sa_Foot : PySem.W.findIn K (.ref C_Foot) "__setattr__" = some (some (.builtin "object.__setattr__")))
    (mk_Foot : PySem.W.makesIn K C_Foot = true)
    (kc_Foot : PySem.W.keepIn K (.ref C_Foot) = true)
    (xe_BadFoot : PySem.W.excIn K C_BadFoot [.type "ValueError", .type "Exception", .type "BaseException", .type "object"] "ValueError.__new__" = true)
    (xk_BadFoot : PySem.W.keepIn K (.ref C_BadFoot) = true)
    (xs_BadFoot : PySem.W.subIn K (.ref C_BadFoot) (.type "BaseException") = some true)
    (xt_BadFoot : PySem.W.typeIn K (.ref C_BadFoot) = some (.type "type"))
    (ga_Foot : PySem.W.findIn K (.ref C_Foot) "__class__" = some (some (.builtin "object.__class__")))
    (gm_Foot : PySem.W.mroIn K C_Foot (.type "object") = some true)
    (kiT_Foot : PySem.W.kitOne K (.type "tuple") (.ref C_Foot) = some false)
    (nfT_Foot : PySem.W.notFirst K C_Foot (.type "tuple") = true)
    (b_Foot_bool : PySem.W.findIn K (.ref C_Foot) "__bool__" = some none)
    (gn_Foot : PySem.W.findIn K (.ref C_Foot) "__ne__" = some (some (.builtin "object.__ne__")))
    (gs_ : PySem.W.specialIn K (.builtin "object.__class__") "__get__" = some (some (.builtin "getset_descriptor.__get__")))
    (gt_ : PySem.W.takesIn K (.builtin "object.__class__") = some true)
    (xi_BadFoot : PySem.W.isClsIn K C_BadFoot = true)
    (xm_BadFoot_BadFoot : PySem.W.subIn K (.ref C_BadFoot) (.ref C_BadFoot) = some true)
    (n_Foot_drops : PySem.W.findIn K (.ref C_Foot) "drops" = some none)
    (n_Foot_middle : PySem.W.findIn K (.ref C_Foot) "middle" = some none)
    (z_all : PySem.W.nsIn K mainGlobals "all" = some none)
    (z_bool : PySem.W.nsIn K mainGlobals "bool" = some none)
    (z_isinstance : PySem.W.nsIn K mainGlobals "isinstance" = some none)
    (z_len : PySem.W.nsIn K mainGlobals "len" = some none)
    (z_list : PySem.W.nsIn K mainGlobals "list" = some none)
    (z_range : PySem.W.nsIn K mainGlobals "range" = some none)
    (z_repr : PySem.W.nsIn K mainGlobals "repr" = some none)
    (z_str : PySem.W.nsIn K mainGlobals "str" = some none)
    (z_tuple : PySem.W.nsIn K mainGlobals "tuple" = some none)
    (y_MOST_DROP : PySem.W.nsIn K mainGlobals "MOST_DROP" = some (some (.int 99 tc_MOST_DROP)))
    (y_MOST_PLACES : PySem.W.nsIn K mainGlobals "MOST_PLACES" = some (some (.int 9 tc_MOST_PLACES)))
    (pure_law : ∀ ns : List Int, ns.length ≤ 63 → ∃ s', f_law_k03 [.d (.scr (ns.map D.int))] [] = .ok (.w (.d (.bl true))) s') :
    ∃ fd : FuncData, (∀ (s : Shared) (v : Value), BindsTo s fd ⟨[v], []⟩ [("_law_script", v)]) ∧ ∀ base : Heap, K.In base → base.Ns mainGlobals mg → FnOkG l.prog w K mg base (L2.CX l.prog w) 14 fa fd ["_law_script"] (spLaw K) := by
  have e := hfa.symm.trans (PySem.W.mg_of X G a_law)
  cases e
  let cl : Str → Option Addr := fun x => if x = "BadFoot" then some C_BadFoot else if x = "Foot" then some C_Foot else none
  have cl_BadFoot : cl "BadFoot" = some C_BadFoot := by
    show (if ("BadFoot" : Str) = "BadFoot" then some C_BadFoot else if ("BadFoot" : Str) = "Foot" then some C_Foot else none) = _
    rw [if_pos rfl]
  have cl_Foot : cl "Foot" = some C_Foot := by
    show (if ("Foot" : Str) = "BadFoot" then some C_BadFoot else if ("Foot" : Str) = "Foot" then some C_Foot else none) = _
    rw [if_neg (by decide), if_pos rfl]
  have T : Tx K mg cl := ⟨PySem.W.mg_none_of X G z_all, PySem.W.mg_none_of X G z_bool, PySem.W.mg_none_of X G z_isinstance, PySem.W.mg_none_of X G z_len, PySem.W.mg_none_of X G z_list, PySem.W.mg_none_of X G z_range, PySem.W.mg_none_of X G z_repr, PySem.W.mg_none_of X G z_str, PySem.W.mg_none_of X G z_tuple, ⟨_, PySem.W.mg_of X G y_MOST_DROP⟩, ⟨_, PySem.W.mg_of X G y_MOST_PLACES⟩, ⟨fun C hC => by
      cases (Option.some.inj (cl_Foot.symm.trans hC))
      exact ⟨⟨pg_Foot, hd_Foot, po_Foot, sa_Foot⟩, n_Foot_drops⟩⟩, ⟨fun C hC => by
      cases (Option.some.inj (cl_Foot.symm.trans hC))
      exact ⟨⟨pg_Foot, hd_Foot, po_Foot, sa_Foot⟩, n_Foot_middle⟩⟩, ⟨⟨C_BadFoot, _, _, _, _, cl_BadFoot, PySem.W.mg_of X G gC_BadFoot, PySem.F.excBase_ValueError, xe_BadFoot, xk_BadFoot, xs_BadFoot, xt_BadFoot⟩⟩, ⟨⟨C_Foot, cl_Foot, PySem.W.mg_of X G gC_Foot, ⟨⟨pg_Foot, hd_Foot, po_Foot, sa_Foot⟩, ga_Foot, gs_, gt_, gm_Foot, if_pos (beq_self_eq_true _)⟩, kiT_Foot⟩⟩, ⟨C_BadFoot, cl_BadFoot, PySem.W.mg_of X G gC_BadFoot⟩, subT_ok (by
      intro q hq
      simp only [List.mem_cons, List.not_mem_nil, or_false] at hq
      rcases hq with rfl
      · exact ⟨C_BadFoot, C_BadFoot, cl_BadFoot, cl_BadFoot, exm_pair xs_BadFoot xi_BadFoot xt_BadFoot xm_BadFoot_BadFoot⟩), trivial⟩
  have G_v_law_bag := fun_mk (st := s_v_law_bag) l_v_law_bag c_v_law_bag k_v_law_bag
  have G_v_law_pull := fun_mk (st := s_v_law_pull) l_v_law_pull c_v_law_pull k_v_law_pull
  have G_v_law_drops := fun_mk (st := s_v_law_drops) l_v_law_drops c_v_law_drops k_v_law_drops
  have G_v_law_pair := fun_mk (st := s_v_law_pair) l_v_law_pair c_v_law_pair k_v_law_pair
  have G_good_drops := fun_mk (st := s_good_drops) l_good_drops c_good_drops k_good_drops
  have G_good_foot := fun_mk (st := s_good_foot) l_good_foot c_good_foot k_good_foot
  have G_Foot_init := fund_mk (st := s_Foot_init) (its := [.int 0 t0_Foot_init]) (dvs := [V.int 0]) l_Foot_init c_Foot_init k_Foot_init d_Foot_init (by simp) (.cons ⟨_, rfl⟩ (.nil))
  have G_v_law_made := fun_mk (st := s_v_law_made) l_v_law_made c_v_law_made k_v_law_made
  have G_Foot_about := fun_mk (st := s_Foot_about) l_Foot_about c_Foot_about k_Foot_about
  have G_v_law_like := fun_mk (st := s_v_law_like) l_v_law_like c_v_law_like k_v_law_like
  have G_Foot_eq := fun_mk (st := s_Foot_eq) l_Foot_eq c_Foot_eq k_Foot_eq
  have G_v_law_far := fun_mk (st := s_v_law_far) l_v_law_far c_v_law_far k_v_law_far
  have G_Foot_len := fun_mk (st := s_Foot_len) l_Foot_len c_Foot_len k_Foot_len
  have G_Foot_words := fun_mk (st := s_Foot_words) l_Foot_words c_Foot_words k_Foot_words
  have G_Foot_str := fun_mk (st := s_Foot_str) l_Foot_str c_Foot_str k_Foot_str
  have G_v_law_shown := fun_mk (st := s_v_law_shown) l_v_law_shown c_v_law_shown k_v_law_shown
  have G_Foot_repr := fun_mk (st := s_Foot_repr) l_Foot_repr c_Foot_repr k_Foot_repr
  have G_law := fun_mk (st := s_law) l_law c_law k_law
  refine ⟨PySem.W.fnOf "law" "law" (defArgs s_law) (defBody s_law) (defScope s_law) .none kV_law dc_law pm_law an_law cd_law ct_law, fun s v => .of_eq rfl, fun base _ _ => ?_⟩
  have O_v_law_bag := ok_v_law_bag (P := l.prog) (w := w) (base := base) T G_v_law_bag
  have A_v_law_bag : FnAt l.prog w K mg base cl 1 "_law_bag" ["_law_script"] f_v_law_bag := ⟨⟨fn_v_law_bag, _, PySem.W.mg_of X G a_v_law_bag, k_v_law_bag, G_v_law_bag.binds (ps := ["_law_script"]) fun _ _ _ _ _ _ us hl => match us, hl with | [_], _ => rfl, O_v_law_bag⟩⟩
  have O_v_law_pull := ok_v_law_pull (P := l.prog) (w := w) (base := base) T G_v_law_pull
  have A_v_law_pull : FnAt l.prog w K mg base cl 1 "_law_pull" ["_law_bag_here", "_law_amount"] f_v_law_pull := ⟨⟨fn_v_law_pull, _, PySem.W.mg_of X G a_v_law_pull, k_v_law_pull, G_v_law_pull.binds (ps := ["_law_bag_here", "_law_amount"]) fun _ _ _ _ _ _ us hl => match us, hl with | [_, _], _ => rfl, O_v_law_pull⟩⟩
  have O_v_law_drops := ok_v_law_drops (P := l.prog) (w := w) (base := base) T G_v_law_drops A_v_law_pull
  have A_v_law_drops : FnAt l.prog w K mg base cl 2 "_law_drops" ["_law_bag_here"] f_v_law_drops := ⟨⟨fn_v_law_drops, _, PySem.W.mg_of X G a_v_law_drops, k_v_law_drops, G_v_law_drops.binds (ps := ["_law_bag_here"]) fun _ _ _ _ _ _ us hl => match us, hl with | [_], _ => rfl, O_v_law_drops⟩⟩
  have O_v_law_pair := ok_v_law_pair (P := l.prog) (w := w) (base := base) T G_v_law_pair A_v_law_drops A_v_law_pull
  have A_v_law_pair : FnAt l.prog w K mg base cl 3 "_law_pair" ["_law_bag_here"] f_v_law_pair := ⟨⟨fn_v_law_pair, _, PySem.W.mg_of X G a_v_law_pair, k_v_law_pair, G_v_law_pair.binds (ps := ["_law_bag_here"]) fun _ _ _ _ _ _ us hl => match us, hl with | [_], _ => rfl, O_v_law_pair⟩⟩
  have O_good_drops := ok_good_drops (P := l.prog) (w := w) (base := base) T G_good_drops
  have A_good_drops : FnAt l.prog w K mg base cl 1 "good_drops" ["drops"] f_good_drops := ⟨⟨fn_good_drops, _, PySem.W.mg_of X G a_good_drops, k_good_drops, G_good_drops.binds (ps := ["drops"]) fun _ _ _ _ _ _ us hl => match us, hl with | [_], _ => rfl, O_good_drops⟩⟩
  have O_good_foot := ok_good_foot (P := l.prog) (w := w) (base := base) T G_good_foot A_good_drops
  have A_good_foot : FnAt l.prog w K mg base cl 2 "good_foot" ["drops", "middle"] f_good_foot := ⟨⟨fn_good_foot, _, PySem.W.mg_of X G a_good_foot, k_good_foot, G_good_foot.binds (ps := ["drops", "middle"]) fun _ _ _ _ _ _ us hl => match us, hl with | [_, _], _ => rfl, O_good_foot⟩⟩
  have O_Foot_init := ok_Foot_init (P := l.prog) (w := w) (base := base) T G_Foot_init A_good_foot
  have D_Foot : ClsAt l.prog w K mg base cl 3 "Foot" ["self", "drops", "middle"] f_Foot_init := ⟨⟨C_Foot, fn_Foot_init, _, cl_Foot, PySem.W.mg_of X G gC_Foot, ⟨mk_Foot, a_Foot_init, i_Foot_init, kc_Foot⟩, bindsD (ps := ["self", "drops", "middle"]) G_Foot_init (by simp) fun T kV doc pm an cdv ct us its h1 h2 => match us, its, h1, h2 with | [u0, u1, u2], [i0], _, _ => ⟨_, rfl, rfl⟩, O_Foot_init⟩⟩
  have DD_Foot : ClsAtD l.prog w K mg base cl 3 "Foot" ["self", "drops", "middle"] f_Foot_init 0 := by
    obtain ⟨t, hb⟩ := binds_of_d (FunD.binds1 (ps := ["self", "drops", "middle"]) G_Foot_init 2 0 (by simp) rfl fun T kV doc pm an cdv ct us its h1 h2 => match us, its, h1, h2 with | [u0, u1], [i0], _, _ => ⟨_, rfl, rfl⟩)
    exact ⟨⟨C_Foot, fn_Foot_init, _, t, cl_Foot, PySem.W.mg_of X G gC_Foot, ⟨mk_Foot, a_Foot_init, i_Foot_init, kc_Foot⟩, hb, O_Foot_init⟩⟩
  have O_v_law_made := ok_v_law_made (P := l.prog) (w := w) (base := base) T G_v_law_made D_Foot
  have A_v_law_made : FnAt l.prog w K mg base cl 5 "_law_made" ["_law_drops_here", "_law_at"] f_v_law_made := ⟨⟨fn_v_law_made, _, PySem.W.mg_of X G a_v_law_made, k_v_law_made, G_v_law_made.binds (ps := ["_law_drops_here", "_law_at"]) fun _ _ _ _ _ _ us hl => match us, hl with | [_, _], _ => rfl, O_v_law_made⟩⟩
  have O_Foot_about := ok_Foot_about (P := l.prog) (w := w) (base := base) T G_Foot_about D_Foot
  have M_Foot_about : MethAt l.prog w K mg base cl 5 "Foot" "about" ["self"] f_Foot_about := ⟨⟨C_Foot, fn_Foot_about, _, cl_Foot, ⟨pg_Foot, hd_Foot, po_Foot, sa_Foot⟩, ⟨a_Foot_about, i_Foot_about, k_Foot_about⟩, G_Foot_about.binds (ps := ["self"]) fun _ _ _ _ _ _ us hl => match us, hl with | [_], _ => rfl, O_Foot_about⟩⟩
  have O_v_law_like := ok_v_law_like (P := l.prog) (w := w) (base := base) T G_v_law_like (PySem.W.mg_of X G a_v_law_like) k_v_law_like 12
  have A_v_law_like : FnAt l.prog w K mg base cl 13 "_law_like" ["_law_found", "_law_due"] (f_v_law_like 12) := ⟨⟨fn_v_law_like, _, PySem.W.mg_of X G a_v_law_like, k_v_law_like, G_v_law_like.binds (ps := ["_law_found", "_law_due"]) fun _ _ _ _ _ _ us hl => match us, hl with | [_, _], _ => rfl, O_v_law_like⟩⟩
  have O_Foot_eq := ok_Foot_eq (P := l.prog) (w := w) (base := base) T G_Foot_eq
  have ET_Foot : EqAtT K cl "Foot" := ⟨fun C hC => by
    cases (Option.some.inj (cl_Foot.symm.trans hC))
    exact nfT_Foot⟩
  have NC_Foot : NeAtC K cl "Foot" := ⟨fun C hC => by
    cases (Option.some.inj (cl_Foot.symm.trans hC))
    exact ⟨gn_Foot, gm_Foot⟩⟩
  have EC_Foot : EqAtC l.prog w K mg base cl 1 "Foot" ["self", "other"] f_Foot_eq_2 := ⟨⟨C_Foot, fn_Foot_eq, _, cl_Foot, a_Foot_eq, i_Foot_eq, G_Foot_eq.binds (ps := ["self", "other"]) fun _ _ _ _ _ _ us hl => match us, hl with | [_, _], _ => rfl, O_Foot_eq⟩⟩
  have O_v_law_far := ok_v_law_far (P := l.prog) (w := w) (base := base) T G_v_law_far A_v_law_pull
  have A_v_law_far : FnAt l.prog w K mg base cl 2 "_law_far" ["_law_bag_here"] f_v_law_far := ⟨⟨fn_v_law_far, _, PySem.W.mg_of X G a_v_law_far, k_v_law_far, G_v_law_far.binds (ps := ["_law_bag_here"]) fun _ _ _ _ _ _ us hl => match us, hl with | [_], _ => rfl, O_v_law_far⟩⟩
  have O_Foot_len := ok_Foot_len (P := l.prog) (w := w) (base := base) T G_Foot_len
  have L_Foot : LenAt l.prog w K mg base cl 1 "Foot" ["self"] f_Foot_len := ⟨⟨C_Foot, fn_Foot_len, _, cl_Foot, a_Foot_len, i_Foot_len, G_Foot_len.binds (ps := ["self"]) fun _ _ _ _ _ _ us hl => match us, hl with | [_], _ => rfl, O_Foot_len⟩⟩
  have T_Foot : TruAt l.prog w K mg base cl 1 "Foot" ["self"] f_Foot_len := ⟨⟨C_Foot, fn_Foot_len, _, cl_Foot, a_Foot_len, i_Foot_len, G_Foot_len.binds (ps := ["self"]) fun _ _ _ _ _ _ us hl => match us, hl with | [_], _ => rfl, O_Foot_len, b_Foot_bool⟩⟩
  have O_Foot_words := ok_Foot_words (P := l.prog) (w := w) (base := base) T G_Foot_words
  have M_Foot_words : MethAt l.prog w K mg base cl 1 "Foot" "words" ["self"] f_Foot_words := ⟨⟨C_Foot, fn_Foot_words, _, cl_Foot, ⟨pg_Foot, hd_Foot, po_Foot, sa_Foot⟩, ⟨a_Foot_words, i_Foot_words, k_Foot_words⟩, G_Foot_words.binds (ps := ["self"]) fun _ _ _ _ _ _ us hl => match us, hl with | [_], _ => rfl, O_Foot_words⟩⟩
  have O_Foot_str := ok_Foot_str (P := l.prog) (w := w) (base := base) T G_Foot_str M_Foot_words
  have S_Foot : StrAt l.prog w K mg base cl 2 "Foot" ["self"] f_Foot_str := ⟨⟨C_Foot, fn_Foot_str, _, cl_Foot, a_Foot_str, i_Foot_str, G_Foot_str.binds (ps := ["self"]) fun _ _ _ _ _ _ us hl => match us, hl with | [_], _ => rfl, O_Foot_str⟩⟩
  have O_v_law_shown := ok_v_law_shown (P := l.prog) (w := w) (base := base) T G_v_law_shown
  have A_v_law_shown : FnAt l.prog w K mg base cl 1 "_law_shown" ["_law_drops_here", "_law_at"] f_v_law_shown := ⟨⟨fn_v_law_shown, _, PySem.W.mg_of X G a_v_law_shown, k_v_law_shown, G_v_law_shown.binds (ps := ["_law_drops_here", "_law_at"]) fun _ _ _ _ _ _ us hl => match us, hl with | [_, _], _ => rfl, O_v_law_shown⟩⟩
  have O_Foot_repr := ok_Foot_repr (P := l.prog) (w := w) (base := base) T G_Foot_repr
  have R_Foot : ReprAt l.prog w K mg base cl 1 "Foot" ["self"] f_Foot_repr := ⟨⟨C_Foot, fn_Foot_repr, _, cl_Foot, a_Foot_repr, i_Foot_repr, G_Foot_repr.binds (ps := ["self"]) fun _ _ _ _ _ _ us hl => match us, hl with | [_], _ => rfl, O_Foot_repr⟩⟩
  have O_law := ok_law (P := l.prog) (w := w) (base := base) T G_law A_v_law_bag A_v_law_far A_v_law_like A_v_law_made A_v_law_pair A_v_law_pull A_v_law_shown D_Foot DD_Foot M_Foot_about L_Foot EC_Foot NC_Foot ET_Foot S_Foot R_Foot T_Foot
  exact law_okG O_law pure_law
theorem pure_law (ns : List Int) (hl : ns.length ≤ 63) : ∃ s', f_law_k03 [.d (.scr (ns.map D.int))] [] = .ok (.w (.d (.bl true))) s' := by
  exact TG.pure_k03 ns hl
theorem facts {l : PySem.W.OpenLaw} {w : World} {K : PySem.W.Frag} {h : Heap} {mg : Str → Option Value} {fa : Addr} (X : K.In h) (G : h.Ns mainGlobals mg) (hfa : mg "law" = some (.ref fa)) (c : SaysT Z w K) :
    ∃ fd : FuncData, (∀ (s : Shared) (v : Value), BindsTo s fd ⟨[v], []⟩ [("_law_script", v)]) ∧ ∀ base : Heap, K.In base → base.Ns mainGlobals mg → FnOkG l.prog w K mg base (L2.CX l.prog w) 14 fa fd ["_law_script"] (spLaw K) := by
  have z := c.fact 0 (f := q_0) rfl
  obtain ⟨gC_BadFoot, z⟩ := He.ba z
  obtain ⟨gC_Foot, z⟩ := He.ba z
  obtain ⟨a_v_law_bag, z⟩ := He.ba z
  obtain ⟨a_v_law_pull, z⟩ := He.ba z
  obtain ⟨a_v_law_drops, z⟩ := He.ba z
  obtain ⟨a_v_law_pair, z⟩ := He.ba z
  obtain ⟨a_good_drops, z⟩ := He.ba z
  obtain ⟨a_good_foot, z⟩ := He.ba z
  obtain ⟨a_Foot_init, z⟩ := He.ba z
  obtain ⟨i_Foot_init, z⟩ := He.ba z
  obtain ⟨a_v_law_made, z⟩ := He.ba z
  obtain ⟨a_Foot_about, z⟩ := He.ba z
  clear z
  have z := c.fact 1 (f := q_1) rfl
  obtain ⟨i_Foot_about, z⟩ := He.ba z
  obtain ⟨a_v_law_like, z⟩ := He.ba z
  obtain ⟨a_Foot_eq, z⟩ := He.ba z
  obtain ⟨i_Foot_eq, z⟩ := He.ba z
  obtain ⟨a_v_law_far, z⟩ := He.ba z
  obtain ⟨a_Foot_len, z⟩ := He.ba z
  obtain ⟨i_Foot_len, z⟩ := He.ba z
  obtain ⟨a_Foot_words, z⟩ := He.ba z
  obtain ⟨i_Foot_words, z⟩ := He.ba z
  obtain ⟨a_Foot_str, z⟩ := He.ba z
  obtain ⟨i_Foot_str, z⟩ := He.ba z
  obtain ⟨a_v_law_shown, z⟩ := He.ba z
  clear z
  have z := c.fact 2 (f := q_2) rfl
  obtain ⟨a_Foot_repr, z⟩ := He.ba z
  obtain ⟨i_Foot_repr, z⟩ := He.ba z
  obtain ⟨a_law, z⟩ := He.ba z
  obtain ⟨pg_Foot, z⟩ := He.ba z
  obtain ⟨hd_Foot, z⟩ := He.ba z
  obtain ⟨po_Foot, z⟩ := He.ba z
  obtain ⟨sa_Foot, z⟩ := He.ba z
  obtain ⟨mk_Foot, z⟩ := He.ba z
  obtain ⟨kc_Foot, z⟩ := He.ba z
  obtain ⟨xe_BadFoot, z⟩ := He.ba z
  obtain ⟨xk_BadFoot, z⟩ := He.ba z
  obtain ⟨xs_BadFoot, z⟩ := He.ba z
  clear z
  have z := c.fact 3 (f := q_3) rfl
  obtain ⟨xt_BadFoot, z⟩ := He.ba z
  obtain ⟨ga_Foot, z⟩ := He.ba z
  obtain ⟨gm_Foot, z⟩ := He.ba z
  obtain ⟨kiT_Foot, z⟩ := He.ba z
  obtain ⟨nfT_Foot, z⟩ := He.ba z
  obtain ⟨b_Foot_bool, z⟩ := He.ba z
  obtain ⟨gn_Foot, z⟩ := He.ba z
  obtain ⟨gs_, z⟩ := He.ba z
  obtain ⟨gt_, z⟩ := He.ba z
  obtain ⟨xi_BadFoot, z⟩ := He.ba z
  obtain ⟨xm_BadFoot_BadFoot, z⟩ := He.ba z
  obtain ⟨n_Foot_drops, z⟩ := He.ba z
  clear z
  have z := c.fact 4 (f := q_4) rfl
  obtain ⟨n_Foot_middle, z⟩ := He.ba z
  obtain ⟨z_all, z⟩ := He.ba z
  obtain ⟨z_bool, z⟩ := He.ba z
  obtain ⟨z_isinstance, z⟩ := He.ba z
  obtain ⟨z_len, z⟩ := He.ba z
  obtain ⟨z_list, z⟩ := He.ba z
  obtain ⟨z_range, z⟩ := He.ba z
  obtain ⟨z_repr, z⟩ := He.ba z
  obtain ⟨z_str, z⟩ := He.ba z
  obtain ⟨z_tuple, z⟩ := He.ba z
  obtain ⟨y_MOST_DROP, z⟩ := He.ba z
  obtain ⟨y_MOST_PLACES, z⟩ := He.ba z
  clear z
  obtain ⟨oc, od, sl, dV, kV, dc, pm, an, cd, ct, l_v_law_bag, c_v_law_bag, z, k_v_law_bag⟩ := c.fn 0 (d := dd_v_law_bag) rfl
  cases dfl0 z
  clear z
  obtain ⟨oc, od, sl, dV, kV, dc, pm, an, cd, ct, l_v_law_pull, c_v_law_pull, z, k_v_law_pull⟩ := c.fn 1 (d := dd_v_law_pull) rfl
  cases dfl0 z
  clear z
  obtain ⟨oc, od, sl, dV, kV, dc, pm, an, cd, ct, l_v_law_drops, c_v_law_drops, z, k_v_law_drops⟩ := c.fn 2 (d := dd_v_law_drops) rfl
  cases dfl0 z
  clear z
  obtain ⟨oc, od, sl, dV, kV, dc, pm, an, cd, ct, l_v_law_pair, c_v_law_pair, z, k_v_law_pair⟩ := c.fn 3 (d := dd_v_law_pair) rfl
  cases dfl0 z
  clear z
  obtain ⟨oc, od, sl, dV, kV, dc, pm, an, cd, ct, l_good_drops, c_good_drops, z, k_good_drops⟩ := c.fn 4 (d := dd_good_drops) rfl
  cases dfl0 z
  clear z
  obtain ⟨oc, od, sl, dV, kV, dc, pm, an, cd, ct, l_good_foot, c_good_foot, z, k_good_foot⟩ := c.fn 5 (d := dd_good_foot) rfl
  cases dfl0 z
  clear z
  obtain ⟨oc, od, sl, dV, kV, dc, pm, an, cd, ct, l_Foot_init, c_Foot_init, z, k_Foot_init⟩ := c.fn 6 (d := dd_Foot_init) rfl
  obtain ⟨T, cT, dT, nT, sT, t0, e, d_Foot_init⟩ := dfl1 z
  cases e
  clear z
  obtain ⟨oc, od, sl, dV, kV, dc, pm, an, cd, ct, l_v_law_made, c_v_law_made, z, k_v_law_made⟩ := c.fn 7 (d := dd_v_law_made) rfl
  cases dfl0 z
  clear z
  obtain ⟨oc, od, sl, dV, kV, dc, pm, an, cd, ct, l_Foot_about, c_Foot_about, z, k_Foot_about⟩ := c.fn 8 (d := dd_Foot_about) rfl
  cases dfl0 z
  clear z
  obtain ⟨oc, od, sl, dV, kV, dc, pm, an, cd, ct, l_v_law_like, c_v_law_like, z, k_v_law_like⟩ := c.fn 9 (d := dd_v_law_like) rfl
  cases dfl0 z
  clear z
  obtain ⟨oc, od, sl, dV, kV, dc, pm, an, cd, ct, l_Foot_eq, c_Foot_eq, z, k_Foot_eq⟩ := c.fn 10 (d := dd_Foot_eq) rfl
  cases dfl0 z
  clear z
  obtain ⟨oc, od, sl, dV, kV, dc, pm, an, cd, ct, l_v_law_far, c_v_law_far, z, k_v_law_far⟩ := c.fn 11 (d := dd_v_law_far) rfl
  cases dfl0 z
  clear z
  obtain ⟨oc, od, sl, dV, kV, dc, pm, an, cd, ct, l_Foot_len, c_Foot_len, z, k_Foot_len⟩ := c.fn 12 (d := dd_Foot_len) rfl
  cases dfl0 z
  clear z
  obtain ⟨oc, od, sl, dV, kV, dc, pm, an, cd, ct, l_Foot_words, c_Foot_words, z, k_Foot_words⟩ := c.fn 13 (d := dd_Foot_words) rfl
  cases dfl0 z
  clear z
  obtain ⟨oc, od, sl, dV, kV, dc, pm, an, cd, ct, l_Foot_str, c_Foot_str, z, k_Foot_str⟩ := c.fn 14 (d := dd_Foot_str) rfl
  cases dfl0 z
  clear z
  obtain ⟨oc, od, sl, dV, kV, dc, pm, an, cd, ct, l_v_law_shown, c_v_law_shown, z, k_v_law_shown⟩ := c.fn 15 (d := dd_v_law_shown) rfl
  cases dfl0 z
  clear z
  obtain ⟨oc, od, sl, dV, kV, dc, pm, an, cd, ct, l_Foot_repr, c_Foot_repr, z, k_Foot_repr⟩ := c.fn 16 (d := dd_Foot_repr) rfl
  cases dfl0 z
  clear z
  obtain ⟨oc, od, sl, dV, kV, dc, pm, an, cd, ct, l_law, c_law, z, k_law⟩ := c.fn 17 (d := dd_law) rfl
  cases dfl0 z
  clear z
  obtain ⟨_, y_MOST_DROP⟩ := isIB_ok y_MOST_DROP
  obtain ⟨_, y_MOST_PLACES⟩ := isIB_ok y_MOST_PLACES
  exact all_mk X G hfa (of_decide_eq_true gC_BadFoot) (of_decide_eq_true gC_Foot) (of_decide_eq_true a_v_law_bag) l_v_law_bag c_v_law_bag k_v_law_bag (of_decide_eq_true a_v_law_pull) l_v_law_pull c_v_law_pull k_v_law_pull (of_decide_eq_true a_v_law_drops) l_v_law_drops c_v_law_drops k_v_law_drops (of_decide_eq_true a_v_law_pair) l_v_law_pair c_v_law_pair k_v_law_pair (of_decide_eq_true a_good_drops) l_good_drops c_good_drops k_good_drops (of_decide_eq_true a_good_foot) l_good_foot c_good_foot k_good_foot (of_decide_eq_true a_Foot_init) i_Foot_init l_Foot_init c_Foot_init k_Foot_init d_Foot_init (of_decide_eq_true a_v_law_made) l_v_law_made c_v_law_made k_v_law_made (of_decide_eq_true a_Foot_about) i_Foot_about l_Foot_about c_Foot_about k_Foot_about (of_decide_eq_true a_v_law_like) l_v_law_like c_v_law_like k_v_law_like (of_decide_eq_true a_Foot_eq) i_Foot_eq l_Foot_eq c_Foot_eq k_Foot_eq (of_decide_eq_true a_v_law_far) l_v_law_far c_v_law_far k_v_law_far (of_decide_eq_true a_Foot_len) i_Foot_len l_Foot_len c_Foot_len k_Foot_len (of_decide_eq_true a_Foot_words) i_Foot_words l_Foot_words c_Foot_words k_Foot_words (of_decide_eq_true a_Foot_str) i_Foot_str l_Foot_str c_Foot_str k_Foot_str (of_decide_eq_true a_v_law_shown) l_v_law_shown c_v_law_shown k_v_law_shown (of_decide_eq_true a_Foot_repr) i_Foot_repr l_Foot_repr c_Foot_repr k_Foot_repr (of_decide_eq_true a_law) l_law c_law k_law pg_Foot hd_Foot po_Foot (of_decide_eq_true sa_Foot) mk_Foot kc_Foot xe_BadFoot xk_BadFoot (of_decide_eq_true xs_BadFoot) (of_decide_eq_true xt_BadFoot) (of_decide_eq_true ga_Foot) (of_decide_eq_true gm_Foot) (of_decide_eq_true kiT_Foot) nfT_Foot (of_decide_eq_true b_Foot_bool) (of_decide_eq_true gn_Foot) (of_decide_eq_true gs_) (of_decide_eq_true gt_) xi_BadFoot (of_decide_eq_true xm_BadFoot_BadFoot) (of_decide_eq_true n_Foot_drops) (of_decide_eq_true n_Foot_middle) (of_decide_eq_true z_all) (of_decide_eq_true z_bool) (of_decide_eq_true z_isinstance) (of_decide_eq_true z_len) (of_decide_eq_true z_list) (of_decide_eq_true z_range) (of_decide_eq_true z_repr) (of_decide_eq_true z_str) (of_decide_eq_true z_tuple) y_MOST_DROP y_MOST_PLACES pure_law
end Lk03
open PySem PySem.W PySem.Calls PyProof.Rows
set_option maxHeartbeats 0 in
theorem PySem.Challenge.cw_tappet_k03_feet_alike_and_shown_holds : PySem.Challenge.rw_tappet_k03_feet_alike_and_shown.Holds := by
  w_on; o_law
  refine HandSHeadRun.head_any (r := OpenLaw.row PySem.Challenge.rw_tappet_k03_feet_alike_and_shown) (q := view (OpenLaw.row PySem.Challenge.rw_tappet_k03_feet_alike_and_shown).prog [19]) (H := Lk03.hk) (ob := Lk03.ob) (M := 20000) (loose := Lk03.loose) (d := HandSHeadRun.topDef (OpenLaw.row PySem.Challenge.rw_tappet_k03_feet_alike_and_shown).prog 19) (kwd := []) Lk03.ob_eq
    (by kernel_rfl) (fun s => by kernel_rfl) Lk03.run (by kernel_rfl) (by kernel_rfl) (by kernel_rfl) (by rfl) (by first | assumption | decide +kernel) (by decide +kernel) ⟨rfl, rfl, rfl, rfl, rfl, by decide +kernel⟩ ?hw ?hc
  case hw => w_witness2
  case hc =>
    refine TG.walkGE (l := PySem.Challenge.rw_tappet_k03_feet_alike_and_shown) (n := 63) (k := 14) (x := "_law_script") rfl (by decide) (by kernel_rfl) ⟨rfl, by decide, by decide⟩ ?F
    intro w mg fa h Y G hmg0
    obtain ⟨K, KX, c⟩ := Y
    have hmg : mg ("law" : PySem.Str) = some (.ref fa) := by
      have e : (HandSHeadRun.topDef (OpenLaw.row PySem.Challenge.rw_tappet_k03_feet_alike_and_shown).prog 19).name = ("law" : PySem.Str) := by kernel_rfl
      rw [← e]
      exact hmg0
    obtain ⟨fd, hb, hF⟩ := Lk03.facts (l := PySem.Challenge.rw_tappet_k03_feet_alike_and_shown) (w := w) KX G hmg c
    exact ⟨K, fd, TG.spLaw K, KX, hb, fun H a ns hl _ hS => ⟨a, ns, rfl, hS, hl, fun _ => rfl⟩, hF⟩
