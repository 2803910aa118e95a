import PyProof.Rows.All
import Wide.All
import OpenK.AllK
import Wide.FinOn
import KE.KStateDown
import HandS.ForMost
import HandS.WordsExc
import HandS.Defaults
import HandS.Head0
import HandS.Head1
import HandS.Head2
import HandS.HeadEnd
import HandS.HeadHook1
import HandS.HeadHook2
import HandS.HeadHook3
import HandS.HeadHook4
import HandS.HeadWalk
import HandS.ExcField
import KE.KExcSuper
import HandS.Evl
import HandS.Deep
import HandS.Wide
import HandS.IsInst
import HandS.Style
import HandS.Codes
import HandS.Replace
import HandS.Strs
import HandS.Walk
import HandS.Text
import KE.KRevSl
import PyProof.ListStr
import PyProof.StrLawsFirst
import KE.SortData
import KE.SortKeyHeap
import HandS.DictComp
import HandS.TupSets
import KE.KIndexOf
import KE.GoesEnum
import KE.GoesMore
import HandS.SetFor
import KE.KDictWalk
import HandS.ExcInit
import HandS.NestedK
import HandS.Lambda
import HandS.SortKw
import HandS.ExcOwn
import PySem.Challenge.RW_endrows_k15_whole_rows_of_machines
set_option Elab.async false
set_option linter.all false
set_option maxRecDepth 100000
set_option maxHeartbeats 4000000
namespace EHook
open PySem PySem.Spec PyProof.Rows L2 He
/-- the addresses that the facts ask for: by names, not by breadth -/
def selA (names : List Str) (cls : List Str) (ms : List (Str × Str)) (g : Addr → Option Obj) : List Addr :=
  let a0 : List Addr := [mainGlobals, cStatics]
  let k0 := frG g a0
  let a1 := names.map (ga k0)
  let ac := cls.map (ga k0)
  let a2 := ac.flatMap fun a => match g a with
    | some o => refsO o
    | none => []
  let k2 := frG g (a0 ++ ac ++ a2)
  let a3 := ms.map fun p => ma k2 (ga k0 p.1) p.2
  let a4 := (a1 ++ a3).flatMap fun a => match g a with
    | some o => refsD o
    | none => []
  a0 ++ ac ++ a2 ++ a1 ++ a3 ++ a4
structure SaysY (fa : List Fa) (fn : List DefD) (tf : List Defn) (ex : PySem.W.Frag → Bool) (h : Heap) (K : PySem.W.Frag) : Prop where
  d : SaysD fa fn K
  more : ex K = true
  hd : ∀ p ∈ tf, PySem.W.codeHdIn K (cT K p).1 (cT K p).2 = true
  out : ∀ p ∈ tf, K.lookup (cT K p).2 = none
  empty : ∀ p ∈ tf, h.get? (cT K p).2 = some { cls := .none, data := .fields #[] }
abbrev AlY : Type := AlD × Bool
def obsY (sel : (Addr → Option Obj) → List Addr) (fa : List Fa) (fn : List DefD) (tf : List Defn) (ex : PySem.W.Frag → Bool) (g : Addr → Option Obj) : AlY := (obsD fa fn (frT g (sel g)), ex (frT g (sel g)) && tabsB g tf (frT g (sel g)))
def valY (fn : List DefD) : AlY := (valD fn, true)
theorem saysY_of {sel : (Addr → Option Obj) → List Addr} {fa : List Fa} {fn : List DefD} {tf : List Defn} {ex : PySem.W.Frag → Bool} {h : Heap} (e : obsY sel fa fn tf ex h.get? = valY fn) : SaysY fa fn tf ex h (frT h.get? (sel h.get?)) := by
  have e1 : obsD fa fn (frT h.get? (sel h.get?)) = valD fn := congrArg (fun z : AlY => z.1) e
  have e2 : (ex (frT h.get? (sel h.get?)) && tabsB h.get? tf (frT h.get? (sel h.get?))) = true := congrArg (fun z : AlY => z.2) e
  obtain ⟨h1, h2⟩ := ba e2
  have key : ∀ p ∈ tf, PySem.W.codeHdIn (frT h.get? (sel h.get?)) (cT (frT h.get? (sel h.get?)) p).1 (cT (frT h.get? (sel h.get?)) p).2 = true ∧ ∃ o, h.get? (cT (frT h.get? (sel h.get?)) p).2 = some o ∧ emptyTab o = true := fun p hp => by
    obtain ⟨h3, h4⟩ := ba (List.all_eq_true.mp h2 p hp)
    refine ⟨h3, ?_⟩
    cases q : h.get? (cT (frT h.get? (sel h.get?)) p).2 with
    | none =>
      rw [q] at h4
      cases h4
    | some o =>
      rw [q] at h4
      exact ⟨o, rfl, h4⟩
  exact ⟨e1, h1, fun p hp => (key p hp).1, fun p hp => by
    obtain ⟨_, o, q, z⟩ := key p hp
    exact frT_none q z, fun p hp => by
    obtain ⟨_, o, q, z⟩ := key p hp
    rw [q, emptyTab_eq z]⟩
def hookY (sel : (Addr → Option Obj) → List Addr) (fa : List Fa) (fn : List DefD) (tf : List Defn) (ex : PySem.W.Frag → Bool) : PySem.W.Hook where
  α := AlY
  obs := fun s => obsY sel fa fn tf ex s.heap.get?
  val := fun _ => valY fn
  says := fun _ h => ∃ K : PySem.W.Frag, K.In h ∧ SaysY fa fn tf ex h K
  of := fun _ _ e => ⟨_, frT_in, saysY_of e⟩
  keeps := fun _ _ _ ⟨K, hK, c⟩ k => ⟨K, PySem.W.Frag.In.keeps hK k, ⟨c.d, c.more, c.hd, c.out, fun p hp => k _ _ (c.empty p hp)⟩⟩
theorem obsY_eq {sel : (Addr → Option Obj) → List Addr} {fa : List Fa} {fn : List DefD} {tf : List Defn} {ex : PySem.W.Frag → Bool} {g : Addr → Option Obj} {s : Shared} (h : ∀ a, g a = s.heap.get? a) : obsY sel fa fn tf ex g = (hookY sel fa fn tf ex).obs s := by
  have e : g = s.heap.get? := funext h
  rw [e] <;> rfl
end EHook

set_option maxRecDepth 100000
set_option maxHeartbeats 4000000
namespace E
open PySem PySem.Spec PyProof.Rows L2
abbrev P0 : Program := PySem.Challenge.pw_endrows_k15_whole_rows_of_machines
def top (i : Nat) : Stmt := P0.main.body.getD i (.Pass ⟨0, 0, 0, 0⟩)
abbrev R : PySem.W.OpenRow := PySem.W.OpenLaw.row PySem.Challenge.rw_endrows_k15_whole_rows_of_machines
def dG (i : Nat) (x : Str) : He.DefD := ⟨(x, none), x, x, defArgs (top i), defBody (top i), defScope (top i), [], []⟩
def dM (i j : Nat) (C m q : Str) : He.DefD := ⟨(C, some m), m, q, defArgs (inClass (top i) j), defBody (inClass (top i) j), defScope (inClass (top i) j), [], []⟩
def fn1 : List He.DefD := [
 dG 3 "is_number", dG 4 "is_list", dG 19 "first_words", dG 20 "first_pairs", dG 21 "ahead_pairs", dG 22 "crossed_pairs", dG 23 "row_of", dG 26 "come_to", dG 36 "is_lane", dG 39 "frozen_lanes", dG 40 "frozen_ends",
 dM 41 0 "Machine" "__init__" "Machine.__init__", dM 41 1 "Machine" "check_idle" "Machine.check_idle", dM 41 3 "Machine" "go" "Machine.go", dG 43 "are_letters", dM 44 0 "Order" "__init__" "Order.__init__", dM 44 2 "Order" "__contains__" "Order.__contains__"]
def fn2 : List He.DefD := [
 dG 46 "_law_cell", dG 47 "_law_pool", dG 48 "_law_take", dG 49 "_law_mixed", dG 50 "_law_letters", dG 51 "_law_key", dG 52 "_law_before", dG 53 "_law_ordered", dG 54 "_law_goes", dG 55 "_law_leads", dG 56 "_law_levels", dG 57 "_law_useful", dG 58 "_law_drawn", dG 59 "_law_tailed",
 dG 60 "_law_renamed", dG 61 "_law_built", dG 62 "_law_places", dG 63 "_law_ahead", dG 64 "_law_crossed", dG 65 "_law_row_met", dG 66 "_law_row_right", dG 67 "_law_cross_right", dG 68 "law"]
def fn : List He.DefD := fn1 ++ fn2
def globs1 : List Str := ["is_number", "is_list", "first_words", "first_pairs", "ahead_pairs", "crossed_pairs", "row_of", "come_to", "is_lane", "frozen_lanes", "frozen_ends", "are_letters"]
def globs2 : List Str := ["_law_cell", "_law_pool", "_law_take", "_law_mixed", "_law_letters", "_law_key", "_law_before", "_law_ordered", "_law_goes", "_law_leads", "_law_levels", "_law_useful", "_law_drawn", "_law_tailed",
 "_law_renamed", "_law_built", "_law_places", "_law_ahead", "_law_crossed", "_law_row_met", "_law_row_right", "_law_cross_right", "law"]
def globs : List Str := globs1 ++ globs2
def frees : List Str := ["len", "isinstance", "int", "bool", "str", "list", "tuple", "set", "all", "any", "sorted", "enumerate", "range", "dict", "super"]
def fa : List He.Fa := globs.map .glo ++ frees.map .free ++
 [.glo "Machine", .glo "Order", .glo "Crossing", .str "SIGNS" "abcdefghijklmnopqrstuvwxyz", .cls "Machine", .cls "Order", .mkr "Machine", .mkr "Order", .meth "Machine" "check_idle", .meth "Machine" "go", .meth "Order" "__contains__",
  .noat "Machine" "order", .noat "Machine" "targets", .noat "Machine" "ends", .noat "Machine" "lanes", .noat "Machine" "places", .noat "Order" "letters", .noat "Order" "ranks", .keep "Crossing"]
def tf : List He.Defn := [("row_of", none)]
def sel : (Addr → Option Obj) → List Addr := EHook.selA globs ["Machine", "Order", "Crossing", "RowError"] [("Machine", "__init__"), ("Machine", "check_idle"), ("Machine", "go"), ("Order", "__init__"), ("Order", "__contains__"), ("Crossing", "__init__")]
end E

set_option maxRecDepth 100000
set_option maxHeartbeats 4000000
namespace E
open PySem PySem.Spec PyProof.Rows L2
/-! ### what is read off the head of the class Crossing -/
abbrev crA (K : PySem.W.Frag) : Addr := He.ga K "Crossing"
abbrev crI (K : PySem.W.Frag) : Addr := He.ma K (crA K) "__init__"
abbrev FnC : Type := Option (Str × Str × Arguments × FuncBody × Scope × Addr × Addr)
def crObs (K : PySem.W.Frag) : FnC := match K.lookup (crI K) with
  | some ⟨_, _, .func fd, _⟩ => some (fd.name, fd.qualname, fd.params, fd.body, fd.scope, fd.globals, fd.builtins)
  | _ => none
def crVal : FnC := some ("__init__", "Crossing.__init__", defArgs (inClass (top 17) 0), .stmts (defBody (inClass (top 17) 0)), defScope (inClass (top 17) 0), mainGlobals, builtinsNs)
def cellB (K : PySem.W.Frag) (cc C : Addr) : Bool := match K.lookup cc with
  | some ⟨_, _, .cell (some (.ref D)), _⟩ => decide (D = C)
  | _ => false
def fileB (K : PySem.W.Frag) (c : Addr) (file0 : Str) : Bool := match K.lookup c with
  | some ⟨_, _, .fields vs, _⟩ => (match (vs[2]? : Option Value) with
    | some (.str file _) => file0 == file
    | _ => false)
  | _ => false
def isNone : Value → Bool
  | .none => true
  | _ => false
theorem isNone_eq {v : Value} (h : isNone v = true) : v = .none := by
  cases v with
  | none => rfl
  | _ => cases h
def fnB (K : PySem.W.Frag) (file0 : Str) : Bool := match K.lookup (crI K) with
  | some ⟨_, _, .func fd, _⟩ => (match fd.code, fd.closure with
    | .ref c, [(y, cc)] => PySem.W.codeIn K (.ref c) "Crossing.__init__" && (decide (y = ("__class__" : Str)) && (isNone fd.defaults && (isNone fd.kwdefaults && (decide (fd.annotations = none) && (cellB K cc (crA K) && fileB K c file0)))))
    | _, _ => false)
  | _ => false
def excB (K : PySem.W.Frag) (C : Addr) : Bool := match K.lookup C with
  | some ⟨.type "type", _, .cls cd, sl⟩ => (match cd.mro, sl.toList with
    | .ref C' :: bm, [_, _, _, _, some (.builtin n), _] => C' == C && (n == "ValueError.__new__" && (!cd.hasDel && (cd.hasDict && PySem.HandSPX.refsVE bm)))
    | _, _ => false)
  | _ => false
def crB (file0 : Str) (K : PySem.W.Frag) : Bool := fnB K file0 && (excB K (crA K) && (He.eqO (PySem.W.findIn K (.ref (crA K)) "__setattr__") (some (some (.builtin "object.__setattr__"))) && (decide (PySem.W.subIn K (.ref (crA K)) (.type "BaseException") = some true) && (decide (PySem.W.typeIn K (.ref (crA K)) = some (.type "type")) && (PySem.W.keepIn K (.ref (crA K)) &&
  (decide (PySem.W.mroIn K (crA K) (.ref (crA K)) = some true) && (He.eqO (PySem.W.nsIn K cStatics "thirdparty.any") (some none) && (He.eqO (PySem.W.ks_superIn K (crA K) (crA K) "__init__") (some (some (.builtin "ValueError.__init__"))) && (decide (PySem.W.subIn K (.ref (crA K)) (.type "ValueError") = some true) &&
  (He.eqO (PySem.W.findIn K (.ref (crA K)) "first") (some none) && (He.eqO (PySem.W.findIn K (.ref (crA K)) "second") (some none) && (He.eqO (PySem.W.findIn K (.ref (crA K)) "why") (some none) && (He.eqO (PySem.W.findIn K (.ref (crA K)) "__init__") (some (some (.ref (crI K)))) && (decide (PySem.W.typeIn K (.ref (crI K)) = some (.type "function")) &&
  (xfB K (crA K) && decide (PySem.W.exmOne K (.ref (crA K)) (.ref (crA K)) = some true))))))))))))))))
end E

set_option maxRecDepth 100000
set_option maxHeartbeats 0
namespace E
open PySem PySem.Spec PyProof.Rows L2 EHook He
abbrev AlZ : Type := AlD × Bool × FnC
structure SaysZ (h : Heap) (K : PySem.W.Frag) : Prop where
  d : SaysD fa fn K
  more : crB P0.main.file K = true
  cr : crObs K = crVal
  hd : ∀ p ∈ tf, PySem.W.codeHdIn K (cT K p).1 (cT K p).2 = true
  out : ∀ p ∈ tf, K.lookup (cT K p).2 = none
  empty : ∀ p ∈ tf, h.get? (cT K p).2 = some { cls := .none, data := .fields #[] }
def obsZ (g : Addr → Option Obj) : AlZ := (obsD fa fn (frT g (sel g)), (crB P0.main.file (frT g (sel g)) && tabsB g tf (frT g (sel g))), crObs (frT g (sel g)))
def valZ : AlZ := (valD fn, true, crVal)
theorem saysZ_of {h : Heap} (e : obsZ h.get? = valZ) : SaysZ h (frT h.get? (sel h.get?)) := by
  have e1 : obsD fa fn (frT h.get? (sel h.get?)) = valD fn := congrArg (fun z : AlZ => z.1) e
  have e2 : (crB P0.main.file (frT h.get? (sel h.get?)) && tabsB h.get? tf (frT h.get? (sel h.get?))) = true := congrArg (fun z : AlZ => z.2.1) e
  have e3 : crObs (frT h.get? (sel h.get?)) = crVal := congrArg (fun z : AlZ => z.2.2) e
  obtain ⟨h1, h2⟩ := ba e2
  have key : ∀ p ∈ tf, PySem.W.codeHdIn (frT h.get? (sel h.get?)) (cT (frT h.get? (sel h.get?)) p).1 (cT (frT h.get? (sel h.get?)) p).2 = true ∧ ∃ o, h.get? (cT (frT h.get? (sel h.get?)) p).2 = some o ∧ emptyTab o = true := fun p hp => by
    obtain ⟨h3, h4⟩ := ba (List.all_eq_true.mp h2 p hp)
    refine ⟨h3, ?_⟩
    cases q : h.get? (cT (frT h.get? (sel h.get?)) p).2 with
    | none =>
      rw [q] at h4
      cases h4
    | some o =>
      rw [q] at h4
      exact ⟨o, rfl, h4⟩
  exact ⟨e1, h1, e3, fun p hp => (key p hp).1, fun p hp => by
    obtain ⟨_, o, q, z⟩ := key p hp
    exact frT_none q z, fun p hp => by
    obtain ⟨_, o, q, z⟩ := key p hp
    rw [q, emptyTab_eq z]⟩
def hookZ : PySem.W.Hook where
  α := AlZ
  obs := fun s => obsZ s.heap.get?
  val := fun _ => valZ
  says := fun _ h => ∃ K : PySem.W.Frag, K.In h ∧ SaysZ h K
  of := fun _ _ e => ⟨_, frT_in, saysZ_of e⟩
  keeps := fun _ _ _ ⟨K, hK, c⟩ k => ⟨K, PySem.W.Frag.In.keeps hK k, ⟨c.d, c.more, c.cr, c.hd, c.out, fun p hp => k _ _ (c.empty p hp)⟩⟩
theorem obsZ_eq {g : Addr → Option Obj} {s : Shared} (h : ∀ a, g a = s.heap.get? a) : obsZ g = hookZ.obs s := by
  have e : g = s.heap.get? := funext h
  rw [e] <;> rfl
def ob (s : PySem.W.SharedT) : AlZ := obsZ (HandSHeadRun.getT s)
theorem ob_eq (s : PySem.W.SharedT) : ob s = hookZ.obs s.abs := obsZ_eq (HandSHeadRun.getT_eq s)
def loose1 : List Str := ["_wall", "SIGNS", "is_number", "is_list", "RowError", "BadOrder", "NoLetter", "BadWord", "BadLane", "TwoLanes", "BadEnd", "IdlePlace", "OtherOrder", "BadNumber", "BadText", "Crossing", "first_words", "first_pairs", "ahead_pairs", "crossed_pairs", "row_of", "found_states", "come_to", "useful_form", "future_kinds", "least_form", "PatternReader", "Spots", "pattern_form", "NOWHERE"]
def loose2 : List Str := ["is_lane", "is_wanted", "check_number", "frozen_lanes", "frozen_ends", "Machine", "are_letters", "Order", "_law_cell", "_law_pool", "_law_take", "_law_mixed", "_law_letters", "_law_key", "_law_before", "_law_ordered", "_law_goes", "_law_leads", "_law_levels", "_law_useful", "_law_drawn", "_law_tailed", "_law_renamed", "_law_built", "_law_places", "_law_ahead", "_law_crossed", "_law_row_met", "_law_row_right", "_law_cross_right"]
def loose0 : List Str := loose1 ++ loose2
end E

set_option maxRecDepth 100000
set_option maxHeartbeats 0
namespace E
open PySem PySem.Spec PyProof.Rows L2
theorem run (w : World) : HandSHeadRun.RunEq R (PySem.W.view R.prog [68]) hookZ ob 20000 loose0 w := by
  intro os
  kernel_rfl
end E

set_option autoImplicit false
namespace EM

abbrev Ln := Int × Nat × Int

def goes (L : List Ln) (p : Int) (c : Nat) : Option Int := (L.find? fun l => decide (l.1 = p) && decide (l.2.1 = c)).map (·.2.2)
/-- no two lanes with the same letter from one place -/
def DetP (L : List Ln) : Prop := L.Pairwise fun l l' => ¬ (l.1 = l'.1 ∧ l.2.1 = l'.2.1)
theorem DetP.eq {L : List Ln} (d : DetP L) {l l' : Ln} (h : l ∈ L) (h' : l' ∈ L) (e1 : l.1 = l'.1) (e2 : l.2.1 = l'.2.1) : l = l' := by
  induction L with
  | nil => cases h
  | cons a r ih =>
    obtain ⟨d1, d2⟩ := List.pairwise_cons.mp d
    rcases List.mem_cons.mp h with z | h
    · rcases List.mem_cons.mp h' with z' | h'
      · rw [z, z']
      · rw [z] at e1 e2
        exact absurd ⟨e1, e2⟩ (d1 _ h')
    · rcases List.mem_cons.mp h' with z' | h'
      · rw [z'] at e1 e2
        exact absurd ⟨e1.symm, e2.symm⟩ (d1 _ h)
      · exact ih d2 h h'
theorem goes_mem {L : List Ln} {p : Int} {c : Nat} {q : Int} (h : goes L p c = some q) : (p, c, q) ∈ L := by
  unfold goes at h
  cases e : L.find? (fun l => decide (l.1 = p) && decide (l.2.1 = c)) with
  | none => rw [e] at h; cases h
  | some l =>
    rw [e] at h
    have h1 := List.find?_some e
    have h2 := List.mem_of_find?_eq_some e
    obtain ⟨a, b, d⟩ := l
    simp only [Bool.and_eq_true, decide_eq_true_eq] at h1
    obtain ⟨rfl, rfl⟩ := h1
    have h3 : d = q := Option.some.inj h
    subst h3
    exact h2
theorem goes_of {L : List Ln} (d : DetP L) {p : Int} {c : Nat} {q : Int} (h : (p, c, q) ∈ L) : goes L p c = some q := by
  cases e : goes L p c with
  | none =>
    unfold goes at e
    rw [Option.map_eq_none_iff, List.find?_eq_none] at e
    have h1 := e _ h
    simp at h1
  | some r =>
    have h1 := goes_mem e
    have h2 := d.eq h h1 rfl rfl
    injection h2 with _ h3
    injection h3 with _ h4
    rw [h4]
theorem goes_none {L : List Ln} {p : Int} {c : Nat} (h : ∀ q, (p, c, q) ∉ L) : goes L p c = none := by
  cases e : goes L p c with
  | none => rfl
  | some q => exact absurd (goes_mem e) (h q)

def leads (L : List Ln) : Option Int → List Nat → Option Int
  | o, [] => o
  | none, _ :: _ => none
  | some p, c :: w => leads L (goes L p c) w
theorem leads_none (L : List Ln) (w : List Nat) : leads L none w = none := by
  cases w <;> rfl
theorem leads_snoc (L : List Ln) : ∀ (w : List Nat) (o : Option Int) (c : Nat), leads L o (w ++ [c]) = (leads L o w).bind fun p => goes L p c
  | [], none, c => rfl
  | [], some p, c => by
    show leads L (goes L p c) [] = goes L p c
    rfl
  | d :: w, none, c => by
    show none = (none : Option Int).bind _
    rfl
  | d :: w, some p, c => by
    show leads L (goes L p d) (w ++ [c]) = (leads L (goes L p d) w).bind fun p => goes L p c
    exact leads_snoc L w _ c
/-- one letter at a time, as a fold -/
def stepO (L : List Ln) (o : Option Int) (c : Nat) : Option Int := o.bind fun p => goes L p c
theorem leads_take (L : List Ln) (o : Option Int) (w : List Nat) (i : Nat) (c : Nat) (h : w[i]? = some c) : leads L o (w.take (i + 1)) = stepO L (leads L o (w.take i)) c := by
  have e : w.take (i + 1) = w.take i ++ [c] := by
    rw [List.take_add_one, h]
    rfl
  rw [e, leads_snoc]
  rfl

inductive Reach (L : List Ln) : Int → Prop
  | z : Reach L 0
  | s {p : Int} {c : Nat} {q : Int} : Reach L p → (p, c, q) ∈ L → Reach L q
inductive Co (L : List Ln) (E : List Int) : Int → Prop
  | e {p : Int} : p ∈ E → Co L E p
  | s {p : Int} {c : Nat} {q : Int} : (p, c, q) ∈ L → Co L E q → Co L E p
theorem Reach.word {L : List Ln} (d : DetP L) {p : Int} (h : Reach L p) : ∃ w, leads L (some 0) w = some p := by
  induction h with
  | z => exact ⟨[], rfl⟩
  | s _ hl ih =>
    obtain ⟨w, hw⟩ := ih
    exact ⟨w ++ [_], by rw [leads_snoc, hw]; exact goes_of d hl⟩

/-- what words are compared by: the figures of their letters from the end -/
def kc (ls : List Nat) (w : List Nat) : List Nat := w.reverse.map fun c => 48 + ls.idxOf c
theorem kc_snoc (ls w : List Nat) (c : Nat) : kc ls (w ++ [c]) = (48 + ls.idxOf c) :: kc ls w := by
  unfold kc
  rw [List.reverse_append]
  rfl
theorem kc_nil (ls : List Nat) : kc ls [] = [] := rfl

/-- the pairs of places of which one is ahead of the other, step by step -/
inductive Ah (ls : List Nat) (L : List Ln) : Int → Int → Prop
  | emp {p : Int} {a : Nat} {q : Int} : (p, a, q) ∈ L → Ah ls L 0 q
  | let_ {p : Int} {a : Nat} {q p' : Int} {b : Nat} {q' : Int} : (p, a, q) ∈ L → (p', b, q') ∈ L → ls.idxOf b < ls.idxOf a → Ah ls L q' q
  | step {p q : Int} {a : Nat} {p' q' : Int} : Ah ls L p q → (p, a, p') ∈ L → (q, a, q') ∈ L → Ah ls L p' q'
theorem snoc_cases (w : List Nat) : w = [] ∨ ∃ w' c, w = w' ++ [c] := by
  rcases List.eq_nil_or_concat w with h | ⟨w', c, h⟩
  · exact .inl h
  · exact .inr ⟨w', c, by rw [h]; simp⟩
theorem leads_last {L : List Ln} {w : List Nat} {c : Nat} {o : Option Int} {q : Int} (h : leads L o (w ++ [c]) = some q) : ∃ p, leads L o w = some p ∧ (p, c, q) ∈ L := by
  rw [leads_snoc] at h
  cases e : leads L o w with
  | none => rw [e] at h; cases h
  | some p =>
    rw [e] at h
    exact ⟨p, rfl, goes_mem h⟩
theorem idxOf_inj' {ls : List Nat} {a b : Nat} (ha : a ∈ ls) (h : ls.idxOf a = ls.idxOf b) : a = b := by
  have h1 : ls.idxOf a < ls.length := List.idxOf_lt_length_iff.mpr ha
  have h2 : ls.idxOf b < ls.length := by rw [← h]; exact h1
  have e1 : ls[ls.idxOf a] = a := List.getElem_idxOf h1
  have e2 : ls[ls.idxOf b] = b := List.getElem_idxOf h2
  rw [← e1, ← e2]
  congr 1
/-- completeness -/
theorem Ah.of_words {ls : List Nat} {L : List Ln} (hl : ∀ l ∈ L, l.2.1 ∈ ls) : ∀ (n : Nat) (u v : List Nat) (p q : Int), u.length ≤ n → leads L (some 0) u = some p → leads L (some 0) v = some q → kc ls u < kc ls v → Ah ls L p q := by
  intro n
  induction n with
  | zero =>
    intro u v p q hn hu hv h
    have e : u = [] := List.eq_nil_of_length_eq_zero (by omega)
    subst e
    have ep : (0 : Int) = p := Option.some.inj hu
    subst ep
    rcases snoc_cases v with rfl | ⟨v', c, rfl⟩
    · exact absurd h (by simp [kc])
    · obtain ⟨r, _, hm⟩ := leads_last hv
      exact .emp hm
  | succ n ih =>
    intro u v p q hn hu hv h
    rcases snoc_cases v with rfl | ⟨v', c, rfl⟩
    · exact absurd h (by simp [kc])
    obtain ⟨r, hr, hm⟩ := leads_last hv
    rcases snoc_cases u with rfl | ⟨u', b, rfl⟩
    · have ep : (0 : Int) = p := Option.some.inj hu
      subst ep
      exact .emp hm
    obtain ⟨r', hr', hm'⟩ := leads_last hu
    rw [kc_snoc, kc_snoc, List.cons_lt_cons_iff] at h
    rcases h with h | ⟨h1, h2⟩
    · exact .let_ hm hm' (by omega)
    · have e : b = c := idxOf_inj' (hl _ hm') (by omega)
      subst e
      exact .step (ih u' v' r' r (by simpa using hn) hr' hr h2) hm' hm
theorem Ah.words {ls : List Nat} {L : List Ln} (d : DetP L) (hr : ∀ l ∈ L, Reach L l.1) {p q : Int} (h : Ah ls L p q) : ∃ u v, leads L (some 0) u = some p ∧ leads L (some 0) v = some q ∧ kc ls u < kc ls v := by
  induction h with
  | emp hm =>
    obtain ⟨w, hw⟩ := (hr _ hm).word d
    exact ⟨[], w ++ [_], rfl, by rw [leads_snoc, hw]; exact goes_of d hm, by rw [kc_snoc]; exact List.nil_lt_cons _ _⟩
  | let_ hm hm' hlt =>
    obtain ⟨w, hw⟩ := (hr _ hm).word d
    obtain ⟨w', hw'⟩ := (hr _ hm').word d
    refine ⟨w' ++ [_], w ++ [_], by rw [leads_snoc, hw']; exact goes_of d hm', by rw [leads_snoc, hw]; exact goes_of d hm, ?_⟩
    rw [kc_snoc, kc_snoc, List.cons_lt_cons_iff]
    exact .inl (by omega)
  | step _ hm hm' ih =>
    obtain ⟨u, v, hu, hv, hk⟩ := ih
    refine ⟨u ++ [_], v ++ [_], by rw [leads_snoc, hu]; exact goes_of d hm, by rw [leads_snoc, hv]; exact goes_of d hm', ?_⟩
    rw [kc_snoc, kc_snoc, List.cons_lt_cons_iff]
    exact .inr ⟨rfl, hk⟩
theorem Ah.right {ls : List Nat} {L : List Ln} {p q : Int} (h : Ah ls L p q) : ∃ l ∈ L, l.2.2 = q := by
  cases h with
  | emp hm => exact ⟨_, hm, rfl⟩
  | let_ hm _ _ => exact ⟨_, hm, rfl⟩
  | step _ _ hm => exact ⟨_, hm, rfl⟩
theorem Ah.left {ls : List Nat} {L : List Ln} {p q : Int} (h : Ah ls L p q) : p = 0 ∨ ∃ l ∈ L, l.2.2 = p := by
  cases h with
  | emp hm => exact .inl rfl
  | let_ _ hm _ => exact .inr ⟨_, hm, rfl⟩
  | step _ hm _ => exact .inr ⟨_, hm, rfl⟩

/-! ### the row -/
theorem lt_trans' {a b c : List Nat} (h1 : a < b) (h2 : b < c) : a < c := List.lt_trans h1 h2
theorem tri (a b : List Nat) : a < b ∨ a = b ∨ b < a := by
  rcases List.le_total a b with h | h
  · by_cases h' : b ≤ a
    · exact .inr (.inl (List.le_antisymm h h'))
    · exact .inl (List.not_le.mp h')
  · by_cases h' : a ≤ b
    · exact .inr (.inl (List.le_antisymm h' h))
    · exact .inr (.inr (List.not_le.mp h'))
theorem kc_inj {ls : List Nat} : ∀ {u v : List Nat}, (∀ c ∈ u, c ∈ ls) → kc ls u = kc ls v → u = v := by
  intro u
  induction hn : u.length generalizing u with
  | zero =>
    intro v _ h
    have e : u = [] := List.eq_nil_of_length_eq_zero hn
    subst e
    rcases snoc_cases v with rfl | ⟨v', c, rfl⟩
    · rfl
    · rw [kc_snoc] at h; cases h
  | succ n ih =>
    intro v hu h
    rcases snoc_cases u with rfl | ⟨u', b, rfl⟩
    · cases hn
    rcases snoc_cases v with rfl | ⟨v', c, rfl⟩
    · rw [kc_snoc] at h; cases h
    rw [kc_snoc, kc_snoc] at h
    injection h with h1 h2
    have e : b = c := idxOf_inj' (hu b (by simp)) (by omega)
    subst e
    rw [ih (by simpa using hn) (fun c hc => hu c (by simp [hc])) h2]
theorem leads_letters {L : List Ln} {ls : List Nat} (hl : ∀ l ∈ L, l.2.1 ∈ ls) : ∀ (w : List Nat) (o : Option Int) (p : Int), leads L o w = some p → ∀ c ∈ w, c ∈ ls
  | [], _, _, _, _, hc => by cases hc
  | d :: w, none, p, h, c, hc => by cases h
  | d :: w, some r, p, h, c, hc => by
    have h' : leads L (goes L r d) w = some p := h
    cases e : goes L r d with
    | none => rw [e, leads_none] at h'; cases h'
    | some r' =>
      rcases List.mem_cons.mp hc with rfl | hc
      · exact hl _ (goes_mem e)
      · rw [e] at h'
        exact leads_letters hl w _ p h' c hc
/-- of two different places one is ahead of the other -/
theorem Ah.total {ls : List Nat} {L : List Ln} (hl : ∀ l ∈ L, l.2.1 ∈ ls) {u v : List Nat} {p q : Int} (hu : leads L (some 0) u = some p) (hv : leads L (some 0) v = some q) (hne : p ≠ q) : Ah ls L p q ∨ Ah ls L q p := by
  rcases tri (kc ls u) (kc ls v) with h | h | h
  · exact .inl (Ah.of_words hl _ u v p q (Nat.le_refl _) hu hv h)
  · have e := kc_inj (leads_letters hl u _ p hu) h
    subst e
    rw [hu] at hv
    exact absurd (Option.some.inj hv) hne
  · exact .inr (Ah.of_words hl _ v u q p (Nat.le_refl _) hv hu h)
/-- no two places cross -/
def NoCross (ls : List Nat) (L : List Ln) : Prop := ∀ p q, p ≠ q → Ah ls L p q → Ah ls L q p → False
theorem Ah.before {ls : List Nat} {L : List Ln} (hl : ∀ l ∈ L, l.2.1 ∈ ls) (nc : NoCross ls L) {u v : List Nat} {p q : Int} (hne : p ≠ q) (h : Ah ls L p q) (hu : leads L (some 0) u = some p) (hv : leads L (some 0) v = some q) : kc ls u < kc ls v := by
  rcases tri (kc ls u) (kc ls v) with k | k | k
  · exact k
  · have e := kc_inj (leads_letters hl u _ p hu) k
    subst e
    rw [hu] at hv
    exact absurd (Option.some.inj hv) hne
  · exact (nc p q hne h (Ah.of_words hl _ v u q p (Nat.le_refl _) hv hu k)).elim
theorem Ah.trans {ls : List Nat} {L : List Ln} (d : DetP L) (hr : ∀ l ∈ L, Reach L l.1) (hl : ∀ l ∈ L, l.2.1 ∈ ls) (nc : NoCross ls L) {p q r : Int} (h1 : Ah ls L p q) (n1 : p ≠ q) (h2 : Ah ls L q r) (n2 : q ≠ r) : Ah ls L p r ∧ p ≠ r := by
  have hne : p ≠ r := fun e => by
    subst e
    exact nc p q n1 h1 h2
  obtain ⟨u, v, hu, hv, _⟩ := h1.words d hr
  obtain ⟨v', w, hv', hw, k2⟩ := h2.words d hr
  have k1 := h1.before hl nc n1 hu hv'
  exact ⟨Ah.of_words hl _ u w p r (Nat.le_refl _) hu hw (lt_trans' k1 k2), hne⟩
/-- how many places are ahead of a place: told by any list of places and any test of being ahead -/
def cnt (ah : Int → Int → Bool) (P : List Int) (q : Int) : Nat := (P.filter fun p => !decide (p = q) && ah p q).length
theorem filter_length_le {α : Type} (f g : α → Bool) : ∀ (l : List α), (∀ x ∈ l, f x = true → g x = true) → (l.filter f).length ≤ (l.filter g).length
  | [], _ => Nat.le_refl _
  | a :: r, h => by
    have ih := filter_length_le f g r fun x hx => h x (List.mem_cons_of_mem _ hx)
    rw [List.filter_cons, List.filter_cons]
    cases e : f a with
    | true =>
      rw [h a List.mem_cons_self e, if_pos rfl, if_pos rfl, List.length_cons, List.length_cons]
      omega
    | false =>
      rw [if_neg (by decide)]
      split
      · rw [List.length_cons]; omega
      · exact ih
theorem filter_length_lt {α : Type} (f g : α → Bool) : ∀ (l : List α) (x : α), x ∈ l → f x = false → g x = true → (∀ x ∈ l, f x = true → g x = true) → (l.filter f).length < (l.filter g).length
  | [], x, hx, _, _, _ => by cases hx
  | a :: r, x, hx, h1, h2, h => by
    rw [List.filter_cons, List.filter_cons]
    rcases List.mem_cons.mp hx with rfl | hx
    · have ih := filter_length_le f g r fun x hx => h x (List.mem_cons_of_mem _ hx)
      rw [h1, h2, if_neg (by decide), if_pos rfl, List.length_cons]
      omega
    · have ih := filter_length_lt f g r x hx h1 h2 fun x hx => h x (List.mem_cons_of_mem _ hx)
      cases e : f a with
      | true =>
        rw [h a List.mem_cons_self e, if_pos rfl, if_pos rfl, List.length_cons, List.length_cons]
        omega
      | false =>
        rw [if_neg (by decide)]
        split
        · rw [List.length_cons]; omega
        · exact ih
theorem cnt_lt {ls : List Nat} {L : List Ln} {ah : Int → Int → Bool} (ha : ∀ p q, ah p q = true ↔ Ah ls L p q) (d : DetP L) (hr : ∀ l ∈ L, Reach L l.1) (hl : ∀ l ∈ L, l.2.1 ∈ ls) (nc : NoCross ls L) {P : List Int} {p q : Int} (hp : p ∈ P) (hne : p ≠ q) (h : Ah ls L p q) :
    cnt ah P p < cnt ah P q := by
  refine filter_length_lt _ _ P p hp (by simp) (by simp [hne, (ha p q).mpr h]) fun x _ hx => ?_
  simp only [Bool.and_eq_true, Bool.not_eq_true', decide_eq_false_iff_not] at hx ⊢
  obtain ⟨h1, h2⟩ := Ah.trans d hr hl nc ((ha x p).mp hx.2) hx.1 h hne
  exact ⟨h2, (ha x q).mpr h1⟩
theorem idxOf_le_of {R : Int → Nat} {row : List Int} (hs : row.Pairwise fun a b => R a ≤ R b) {p q : Int} (hp : p ∈ row) (hq : q ∈ row) (h : R p < R q) : row.idxOf p ≤ row.idxOf q := by
  rcases Nat.lt_or_ge (row.idxOf q) (row.idxOf p) with hlt | hge
  · have i1 := List.idxOf_lt_length_iff.mpr hp
    have i2 := List.idxOf_lt_length_iff.mpr hq
    have k := List.pairwise_iff_getElem.mp hs _ _ i2 i1 hlt
    rw [List.getElem_idxOf i1, List.getElem_idxOf i2] at k
    omega
  · exact hge
/-- THE ROW: in places sorted by the number of those ahead, an earlier word leads to no later place -/
theorem row_right {ls : List Nat} {L : List Ln} {ah : Int → Int → Bool} (ha : ∀ p q, ah p q = true ↔ Ah ls L p q) (d : DetP L) (hr : ∀ l ∈ L, Reach L l.1) (hl : ∀ l ∈ L, l.2.1 ∈ ls) (nc : NoCross ls L) {P row : List Int} (hs : row.Pairwise fun a b => cnt ah P a ≤ cnt ah P b) (hP : ∀ p, p ∈ row ↔ p ∈ P)
    {u v : List Nat} {p q : Int} (hu : leads L (some 0) u = some p) (hv : leads L (some 0) v = some q) (hp : p ∈ row) (hq : q ∈ row) (h : kc ls u < kc ls v) : row.idxOf p ≤ row.idxOf q := by
  by_cases e : p = q
  · rw [e]; exact Nat.le_refl _
  · exact idxOf_le_of hs hp hq (cnt_lt ha d hr hl nc ((hP p).mp hp) e (Ah.of_words hl _ u v p q (Nat.le_refl _) hu hv h))

/-! ### machines that stand in a row: places are the last letters of their words -/
def lastN (m : Nat) (w : List Nat) : List Nat := w.drop (w.length - m)
structure Tailed (m : Nat) (ls : List Nat) (L : List Ln) (t : Int → List Nat) : Prop where
  z : t 0 = []
  step : ∀ l ∈ L, t l.2.2 = lastN m (t l.1 ++ [l.2.1])
  inj : ∀ l ∈ L, ∀ l' ∈ L, t l.2.2 = t l'.2.2 → l.2.2 = l'.2.2
  lets : ∀ l ∈ L, ∀ c ∈ t l.2.2, c ∈ ls
theorem lastN_snoc {m : Nat} (hm : 0 < m) (w : List Nat) (c : Nat) : lastN m (w ++ [c]) = lastN (m - 1) w ++ [c] := by
  unfold lastN
  rw [List.length_append, List.length_singleton]
  by_cases h : m ≤ w.length + 1
  · have e : w.length + 1 - m = w.length - (m - 1) := by omega
    rw [e, List.drop_append_of_le_length (by omega)]
  · have e : w.length + 1 - m = 0 := by omega
    have e' : w.length - (m - 1) = 0 := by omega
    rw [e, e']
    rfl
/-- the first k letters of two keys are in the keys' order -/
theorem take_le : ∀ (k : Nat) (a b : List Nat), a < b → a.take k = b.take k ∨ a.take k < b.take k
  | 0, a, b, _ => .inl (by simp)
  | k + 1, [], [], h => .inl rfl
  | k + 1, [], y :: b, h => .inr (by rw [List.take_succ_cons]; exact List.nil_lt_cons _ _)
  | k + 1, x :: a, [], h => absurd h (by simp)
  | k + 1, x :: a, y :: b, h => by
    rw [List.take_succ_cons, List.take_succ_cons]
    rcases List.cons_lt_cons_iff.mp h with h1 | ⟨h1, h2⟩
    · exact .inr (List.cons_lt_cons_iff.mpr (.inl h1))
    · rcases take_le k a b h2 with e | e
      · exact .inl (by rw [e, h1])
      · exact .inr (List.cons_lt_cons_iff.mpr (.inr ⟨h1, e⟩))
theorem kc_lastN (ls : List Nat) (m : Nat) (w : List Nat) : kc ls (lastN m w) = (kc ls w).take m := by
  unfold kc lastN
  rw [← List.map_take, List.reverse_drop]
  congr 1
  by_cases h : m ≤ w.length
  · congr 1; omega
  · rw [List.take_of_length_le (by rw [List.length_reverse]; omega), List.take_of_length_le (by rw [List.length_reverse]; omega)]
theorem Ah.tail {m : Nat} (hm : 0 < m) {ls : List Nat} {L : List Ln} {t : Int → List Nat} (T : Tailed m ls L t) {p q : Int} (h : Ah ls L p q) : p = q ∨ kc ls (t p) < kc ls (t q) := by
  induction h with
  | emp hl =>
    right
    rw [T.z, T.step _ hl, lastN_snoc hm, kc_snoc]
    exact List.nil_lt_cons _ _
  | let_ hl hl' hlt =>
    right
    rw [T.step _ hl, T.step _ hl', lastN_snoc hm, lastN_snoc hm, kc_snoc, kc_snoc, List.cons_lt_cons_iff]
    exact .inl (Nat.add_lt_add_left hlt 48)
  | @step p q a p' q' _ hl hl' ih =>
    have k : kc ls (t p') = kc ls (t q') ∨ kc ls (t p') < kc ls (t q') := by
      rw [T.step _ hl, T.step _ hl', kc_lastN, kc_lastN]
      rcases ih with e | h
      · left
        show (kc ls (t p ++ [a])).take m = (kc ls (t q ++ [a])).take m
        rw [e]
      · refine take_le m _ _ ?_
        show kc ls (t p ++ [a]) < kc ls (t q ++ [a])
        rw [kc_snoc, kc_snoc, List.cons_lt_cons_iff]
        exact .inr ⟨rfl, h⟩
    rcases k with e | k
    · exact .inl (T.inj _ hl _ hl' (kc_inj (T.lets _ hl) e))
    · exact .inr k
theorem Tailed.noCross {m : Nat} (hm : 0 < m) {ls : List Nat} {L : List Ln} {t : Int → List Nat} (T : Tailed m ls L t) : NoCross ls L := by
  intro p q hne h1 h2
  rcases h1.tail hm T with e | k1
  · exact hne e
  rcases h2.tail hm T with e | k2
  · exact hne e.symm
  exact absurd (lt_trans' k1 k2) (List.lt_irrefl _)
end EM

set_option maxRecDepth 100000
set_option maxHeartbeats 4000000
namespace E
open PySem PySem.Spec PyProof.Rows L2
/-! ### heaps that only grow -/
abbrev Ex := Evl.Ex
section
variable {K : PySem.W.Frag} {H H' : Hp}
mutual
theorem dp_mono (e : Ex H H') : ∀ {v : V} {d : PyData}, Dp K H v d → Dp K H' v d
  | _, _, .non => .non
  | _, _, .bl b => .bl b
  | _, _, .int i => .int i
  | _, _, .str x => .str x
  | _, _, .lst h a => .lst (Evl.ex_l e h) (dps_mono e a)
  | _, _, .tup h a => .tup (Evl.ex_t e h) (dps_mono e a)
theorem dps_mono (e : Ex H H') : ∀ {vs : List V} {ds : List PyData}, DpAll K H vs ds → DpAll K H' vs ds
  | _, _, .nil => .nil
  | _, _, .cons h t => .cons (dp_mono e h) (dps_mono e t)
end
theorem dps_len : ∀ {vs : List V} {ds : List PyData}, DpAll K H vs ds → vs.length = ds.length
  | _, _, .nil => rfl
  | _, _, .cons _ t => by rw [List.length_cons, List.length_cons, dps_len t]
theorem dps_get : ∀ {vs : List V} {ds : List PyData} {i : Nat} {d : PyData}, DpAll K H vs ds → ds[i]? = some d → ∃ v, vs[i]? = some v ∧ Dp K H v d
  | _, _, i, d, .nil, e => by simp at e
  | _, _, 0, d, .cons h t, e => by
    have e' := Option.some.inj e
    subst e'
    exact ⟨_, rfl, h⟩
  | _, _, i + 1, d, .cons h t, e => by
    obtain ⟨v, h1, h2⟩ := dps_get (i := i) t (by simpa using e)
    exact ⟨v, by simpa using h1, h2⟩
theorem dps_at : ∀ {vs : List V} {ds : List PyData} {i : Nat} {v : V}, DpAll K H vs ds → vs[i]? = some v → ∃ d, ds[i]? = some d ∧ Dp K H v d
  | _, _, i, v, .nil, e => by simp at e
  | _, _, 0, v, .cons h t, e => by
    have e' := Option.some.inj e
    subst e'
    exact ⟨_, rfl, h⟩
  | _, _, i + 1, v, .cons h t, e => by
    obtain ⟨d, h1, h2⟩ := dps_at (i := i) t (by simpa using e)
    exact ⟨d, by simpa using h1, h2⟩
theorem dps_app : ∀ {vs ws : List V} {ds es : List PyData}, DpAll K H vs ds → DpAll K H ws es → DpAll K H (vs ++ ws) (ds ++ es)
  | _, _, _, _, .nil, t => t
  | _, _, _, _, .cons h r, t => .cons h (dps_app r t)
theorem dps_one {v : V} {d : PyData} (h : Dp K H v d) : DpAll K H [v] [d] := .cons h .nil
theorem dps_snoc {vs : List V} {ds : List PyData} {v : V} {d : PyData} (t : DpAll K H vs ds) (h : Dp K H v d) : DpAll K H (vs ++ [v]) (ds ++ [d]) := dps_app t (dps_one h)
theorem dp_int {v : V} {i : Int} (h : Dp K H v (.int i)) : v = .int i := by cases h; rfl
theorem dp_str {v : V} {x : Str} (h : Dp K H v (.str x)) : v = .str x := by cases h; rfl
theorem dp_tup {v : V} {ds : List PyData} (h : Dp K H v (.tuple ds)) : ∃ a xs, v = .ref a ∧ SqT K H a xs ∧ DpAll K H xs ds := by
  cases h with
  | tup h a => exact ⟨_, _, rfl, h, a⟩
theorem dp_lst {v : V} {ds : List PyData} (h : Dp K H v (.list ds)) : ∃ a xs, v = .ref a ∧ SqL K H a xs ∧ DpAll K H xs ds := by
  cases h with
  | lst h a => exact ⟨_, _, rfl, h, a⟩
theorem dps_ints : ∀ {vs : List V} {ns : List Int}, DpAll K H vs (ns.map .int) → vs = ns.map V.int
  | _, [], .nil => rfl
  | _, n :: ns, .cons h t => by rw [dp_int h, dps_ints t]; rfl
theorem dps_of_ints : ∀ (ns : List Int), DpAll K H (ns.map V.int) (ns.map .int)
  | [] => .nil
  | n :: ns => .cons (.int n) (dps_of_ints ns)
theorem dps_strs : ∀ {vs : List V} {ns : List Str}, DpAll K H vs (ns.map .str) → vs = ns.map V.str
  | _, [], .nil => rfl
  | _, n :: ns, .cons h t => by rw [dp_str h, dps_strs t]; rfl
theorem dps_of_strs : ∀ (ns : List Str), DpAll K H (ns.map V.str) (ns.map .str)
  | [] => .nil
  | n :: ns => .cons (.str n) (dps_of_strs ns)
end
/-! ### letters, words, lanes as data -/
def chS (c : Nat) : Str := ⟨#[c]⟩
def wS (w : List Nat) : Str := ⟨w.toArray⟩
theorem wS_app (u v : List Nat) : wS u ++ wS v = wS (u ++ v) := by
  show Str.append (wS u) (wS v) = wS (u ++ v)
  unfold Str.append wS
  simp
theorem wS_snoc (u : List Nat) (c : Nat) : wS u ++ chS c = wS (u ++ [c]) := wS_app u [c]
theorem wS_len (w : List Nat) : (wS w).length = w.length := by
  show w.toArray.size = w.length
  simp
theorem wS_inj {u v : List Nat} (h : wS u = wS v) : u = v := by
  have e : u.toArray = v.toArray := congrArg Str.cps h
  simpa using e
theorem chS_inj {c d : Nat} (h : chS c = chS d) : c = d := by
  have e : (#[c] : Array Nat) = #[d] := congrArg Str.cps h
  simpa using e
theorem wS_cps (w : List Nat) : (wS w).cps.toList = w := by
  show w.toArray.toList = w
  simp
abbrev Ln := EM.Ln
def lnD (l : Ln) : PyData := .tuple [.int l.1, .str (chS l.2.1), .int l.2.2]
abbrev lnsD (L : List Ln) : PyData := .list (L.map lnD)
abbrev intsD (ns : List Int) : PyData := .list (ns.map .int)
abbrev partsD (L : List Ln) (E : List Int) : PyData := .tuple [lnsD L, intsD E]
section
variable {K : PySem.W.Frag} {H H' : Hp}
theorem dp_ln {v : V} {l : Ln} (h : Dp K H v (lnD l)) : ∃ a, v = .ref a ∧ SqT K H a [.int l.1, .str (chS l.2.1), .int l.2.2] := by
  obtain ⟨a, xs, rfl, h1, h2⟩ := dp_tup h
  cases h2 with
  | cons p t =>
    cases t with
    | cons p2 t =>
      cases t with
      | cons p3 t =>
        cases t
        rw [dp_int p, dp_str p2, dp_int p3] at h1
        exact ⟨a, rfl, h1⟩
theorem dp_ln_mk {a : Addr} {l : Ln} (h : SqT K H a [.int l.1, .str (chS l.2.1), .int l.2.2]) : Dp K H (.ref a) (lnD l) := .tup h (.cons (.int _) (.cons (.str _) (.cons (.int _) .nil)))
theorem dps_ln {vs : List V} {L : List Ln} {i : Nat} {v : V} (h : DpAll K H vs (L.map lnD)) (e : vs[i]? = some v) : ∃ l a, L[i]? = some l ∧ v = .ref a ∧ SqT K H a [.int l.1, .str (chS l.2.1), .int l.2.2] := by
  obtain ⟨d, h1, h2⟩ := dps_at h e
  rw [List.getElem?_map] at h1
  cases q : L[i]? with
  | none => rw [q] at h1; cases h1
  | some l =>
    rw [q] at h1
    have h3 : lnD l = d := Option.some.inj h1
    rw [← h3] at h2
    obtain ⟨a, h4, h5⟩ := dp_ln h2
    exact ⟨l, a, rfl, h4, h5⟩
end
/-! ### heaps without some objects (those that change) -/
def hid (S : List Addr) (H : Hp) : Hp := fun a => if a ∈ S then none else H a
theorem hid_ex (S : List Addr) (H : Hp) : Ex (hid S H) H := fun a o h => by
  unfold hid at h
  split at h
  · cases h
  · exact h
theorem hid_upd {S : List Addr} {H : Hp} {a : Addr} {o : HO} (h : a ∈ S) : hid S (upd H a o) = hid S H := by
  funext b
  unfold hid
  split
  · rfl
  · rename_i hb
    rw [upd_ne (fun e => hb (by rw [e]; exact h))]
theorem hid_at {S : List Addr} {H : Hp} {a : Addr} (h : a ∉ S) : hid S H a = H a := if_neg h
theorem hid_new {S : List Addr} {H : Hp} {a : Addr} {o : HO} (h : H a = none) : Ex (hid S H) (hid S (upd H a o)) := fun b u e => by
  unfold hid at e ⊢
  split at e
  · cases e
  · rename_i hb
    rw [if_neg hb, upd_ne (ne_of_none e h)]
    exact e
theorem hid_mono {S : List Addr} {H H' : Hp} (e : Ex H H') : Ex (hid S H) (hid S H') := fun b u q => by
  unfold hid at q ⊢
  split at q
  · cases q
  · rename_i hb
    rw [if_neg hb]
    exact e b u q
/-- all but the objects of S stay -/
def ExB (S : List Addr) (H H' : Hp) : Prop := ∀ a o, a ∉ S → H a = some o → H' a = some o
theorem ExB.refl (S : List Addr) (H : Hp) : ExB S H H := fun _ _ _ h => h
theorem ExB.of {S : List Addr} {H H' : Hp} (e : Ex H H') : ExB S H H' := fun a o _ h => e a o h
theorem ExB.trans {S : List Addr} {H H1 H2 : Hp} (a : ExB S H H1) (b : ExB S H1 H2) : ExB S H H2 := fun c o n h => b c o n (a c o n h)
theorem ExB.upd {S : List Addr} {H H' : Hp} {a : Addr} {o : HO} (e : ExB S H H') (h : a ∈ S) : ExB S H (L2.upd H' a o) := fun b u n q => by
  rw [L2.upd_ne (fun z => n (by rw [z]; exact h))]
  exact e b u n q
theorem ExB.ex {S : List Addr} {H H' : Hp} (e : ExB S H H') (h : ∀ a ∈ S, H a = none) : Ex H H' := fun a o q => e a o (fun z => by rw [h a z] at q; cases q) q
theorem ExB.hid {S : List Addr} {H H' : Hp} (e : ExB S H H') : Ex (hid S H) (E.hid S H') := fun a o q => by
  unfold E.hid at q ⊢
  split at q
  · cases q
  · rename_i hb
    rw [if_neg hb]
    exact e a o hb q
theorem ex_upd {H H' : Hp} {a : Addr} {o : HO} (e : Ex H H') (h : H a = none) : Ex H (upd H' a o) := Evl.Ex.mut e h
theorem ex_new {H H' : Hp} {a : Addr} {o : HO} (e : Ex H H') (h : H' a = none) : Ex H (upd H' a o) := e.trans (Evl.Ex.new h)
theorem ex_none {H H' : Hp} {a : Addr} (e : Ex H H') (h : H' a = none) : H a = none := Evl.fresh_back e h
theorem sz_of {n : Nat} (h : n ≤ 16000000) : n ≤ sizeLine := Nat.le_trans h (by decide)
theorem sz_lt {n : Nat} (h : n < 16000000) : n < sizeLine := Nat.lt_of_lt_of_le h (by decide)
end E

set_option maxRecDepth 100000
set_option maxHeartbeats 4000000
namespace E
open PySem PySem.Spec PyProof.Rows L2
abbrev FnP (K : PySem.W.Frag) (x qual : Str) (st : Stmt) (f : Addr) (fd : FuncData) : Prop := FunD K x qual (defArgs st) (defBody st) (defScope st) [] [] f fd
def oI : Option Int → V
  | none => .non
  | some i => .int i
section
variable {P : Program} {w : World} {K : PySem.W.Frag} {mg : Str → Option Value} {base : Heap} {f : Addr} {fd : FuncData}
def spGoes (K : PySem.W.Frag) : Sp := fun vs H Q _ => ∃ (v : V) (L : List Ln) (p : Int) (c : Nat), vs = [v, .int p, .str (chS c)] ∧ Dp K H v (lnsD L) ∧ ∀ H', Ex H H' → Q (oI (EM.goes L p c)) H'
theorem scGoes : FnScope ["_law_lanes", "_law_p", "_law_letter", "_law_one", "_law_sign", "_law_other"] ["_law_lanes", "_law_p", "_law_letter"] (defScope (top 54)) := ⟨rfl, rfl, rfl, by decide +kernel, rfl, by decide +kernel, by decide +kernel⟩
theorem goes_cons (l : Ln) (L : List Ln) (p : Int) (c : Nat) : EM.goes (l :: L) p c = if l.1 = p ∧ l.2.1 = c then some l.2.2 else EM.goes L p c := by
  unfold EM.goes
  rw [List.find?_cons]
  by_cases h : l.1 = p ∧ l.2.1 = c
  · rw [if_pos h]
    simp [h.1, h.2]
  · rw [if_neg h]
    have e : (decide (l.1 = p) && decide (l.2.1 = c)) = false := by
      simp only [Bool.and_eq_false_iff, decide_eq_false_iff_not]
      by_cases h1 : l.1 = p
      · exact .inr fun h2 => h ⟨h1, h2⟩
      · exact .inl h1
    rw [e]
theorem drop_at {α : Type} {l : List α} {i : Nat} {x : α} (h : l[i]? = some x) : l.drop i = x :: l.drop (i + 1) := by
  obtain ⟨h1, h2⟩ := List.getElem?_eq_some_iff.mp h
  rw [List.drop_eq_getElem_cons h1, h2]
theorem ok_goes (F : FnP K "_law_goes" "_law_goes" (top 54) f fd) : FnOk P w K mg base CX0 1 f fd ["_law_lanes", "_law_p", "_law_letter"] (spGoes K) := by
  refine F.ok scGoes (fun vs H Q E h => ?_) (fun cdv A outer s H vs Q E hr h => ?_)
  · obtain ⟨v, L, p, c, rfl, _⟩ := h
    rfl
  · obtain ⟨v, L, p, c, rfl, hd, k⟩ := h
    obtain ⟨a, xs, rfl, hS, hA⟩ := dp_lst hd
    refine ⟨_, PSs.nox (pss_cons (ps_for PassesOwn.never rfl (pi_list (pv 0)) (pg_tup rfl (pgs_cons (pg_name (i := 3) scGoes.nd rfl (Or.inl rfl)) (pgs_cons (pg_name (i := 4) scGoes.nd rfl (Or.inl rfl)) (pgs_cons (pg_name (i := 5) scGoes.nd rfl (Or.inl rfl)) pgs_nil))))
      (pss_one (ps_if (PW.pt (pw_and (pt_cmpR op_eq (pv 3) (pv 1) (nomark _)) (pw_and1 (pt_cmpR op_eq (pv 4) (pv 2) (nomark _))))) (pss_one (ps_ret (pv 5))) pss_nil)))
      (pss_one (ps_ret pe_non))), ?_⟩
    have hl := dps_len hA
    rw [List.length_map] at hl
    refine ⟨_, rfl, a, rfl, ⟨_, hS⟩, for_list (K := K) (a := a) (xs := xs) (fun i σ H' => ∃ o1 o2 o3, σ = [some (.ref a), some (.int p), some (.str (chS c)), o1, o2, o3] ∧ Ex H H' ∧ EM.goes (L.drop i) p c = EM.goes L p c)
      ⟨_, _, _, rfl, Evl.Ex.refl H, rfl⟩ (fun i σ H' _ ⟨_, _, _, _, e, _⟩ => Evl.ex_l e hS) ?_ ?_⟩
    · rintro i y σ H' hi ⟨o1, o2, o3, rfl, e, hg⟩
      obtain ⟨l, b, hL, rfl, hT⟩ := dps_ln hA hi
      rw [drop_at hL, goes_cons] at hg
      refine ⟨b, _, rfl, Evl.ex_t e hT, rfl, _, _, rfl, _, _, rfl, _, _, rfl, rfl, ?_⟩
      refine ⟨_, rfl, _, rfl, rfl, _, rfl, ?_⟩
      by_cases h1 : l.1 = p
      · rw [decide_eq_true (show V.int l.1 = V.int p by rw [h1])]
        refine iteT ⟨_, rfl, _, rfl, rfl, _, rfl, ?_⟩
        by_cases h2 : l.2.1 = c
        · rw [decide_eq_true (show V.str (chS l.2.1) = V.str (chS c) by rw [h2])]
          refine iteT ⟨_, rfl, ?_⟩
          rw [if_pos ⟨h1, h2⟩] at hg
          have q := k H' e
          rw [← hg] at q
          exact q
        · rw [decide_eq_false (fun z => h2 (chS_inj (V.str.inj z)))]
          refine iteF ⟨_, _, _, rfl, e, ?_⟩
          rw [if_neg (fun z => h2 z.2)] at hg
          exact hg
      · rw [decide_eq_false (fun z => h1 (V.int.inj z))]
        refine iteF (iteF ⟨_, _, _, rfl, e, ?_⟩)
        rw [if_neg (fun z => h1 z.1)] at hg
        exact hg
    · rintro σ H' ⟨o1, o2, o3, rfl, e, hg⟩
      have q := k H' e
      rw [← hg, hl, List.drop_length] at q
      exact q
end
end E

set_option maxRecDepth 100000
set_option maxHeartbeats 4000000
namespace E
open PySem PySem.Spec PyProof.Rows L2
/-! ### the text: where the defs stand -/
def DfP (K : PySem.W.Frag) (mg : Str → Option Value) (x : Str) (i : Nat) : Prop := ∃ f fd, mg x = some (.ref f) ∧ FnP K x x (top i) f fd
/-- a def that keeps a promise, ready to be called -/
def Df (P : Program) (w : World) (K : PySem.W.Frag) (mg : Str → Option Value) (base : Heap) (x : Str) (k : Nat) (ps : List Str) (sp : Sp) : Prop :=
  ∃ f fd, mg x = some (.ref f) ∧ FnOk P w K mg base CX0 k f fd ps sp ∧ PySem.W.keepIn K (.ref f) = true ∧ Binds K fd ps []
structure Frees (mg : Str → Option Value) : Prop where
  len : mg "len" = none
  isinstance : mg "isinstance" = none
  int : mg "int" = none
  bool : mg "bool" = none
  str : mg "str" = none
  list : mg "list" = none
  tuple : mg "tuple" = none
  set : mg "set" = none
  all : mg "all" = none
  any : mg "any" = none
  sorted : mg "sorted" = none
  enumerate : mg "enumerate" = none
  range : mg "range" = none
  dict : mg "dict" = none
  super_ : mg "super" = none
section
variable {P : Program} {w : World} {K : PySem.W.Frag} {mg : Str → Option Value} {base : Heap}
theorem DfP.df {x : Str} {i k : Nat} {ps : List Str} {sp : Sp} (h : DfP K mg x i) (ok : ∀ f fd, FnP K x x (top i) f fd → FnOk P w K mg base CX0 k f fd ps sp)
    (hb : ∀ (kV doc pm : Value) (an : Option Addr) (cdv ct : Value) (us : List Value), us.length = ps.length → bindArgs (PySem.W.fnOf x x (defArgs (top i)) (defBody (top i)) (defScope (top i)) .none kV doc pm an cdv ct) ⟨us, []⟩ = pure (ps.zip us)) : Df P w K mg base x k ps sp := by
  obtain ⟨f, fd, hm, F⟩ := h
  exact ⟨f, fd, hm, ok f fd F, F.kp, F.bindsN hb⟩
end
section
variable {X : Cx}
theorem pe_df {x : Str} {k : Nat} {ps : List Str} {sp : Sp} {t : TA} {e : Expr} {es : List Expr} {p pos : Pos} (D : Df X.prog X.w X.K X.mg X.base x k ps sp) (hr : Room k X.A) (hg : Gl X x) (ha : PA X (e :: es) t) (hdb : (x == ("__debug__" : Str)) = false := by decide)
    (he : starEach (e :: es) X.env = (false, eval e X.env) :: starEach es X.env := by rfl) (hpl : (backTo pos (starEach es X.env)).any (·.1) = false := by rfl) : PE X (.Call (.Name x p) (e :: es) [] pos) (tCall sp [] E0 t) := by
  obtain ⟨f, fd, hm, F, kp, hb⟩ := D
  exact pe_call F hr hg hm kp hb .nil pass0 ha hdb he hpl
end
/-! ### loops over texts -/
section
variable {w : List Nat} {g : TG} {tb : TS} {D : Ends} {σ : L2.St} {H : Hp}
theorem for_w (Pv : Nat → L2.St → Hp → Prop) (h0 : Pv 0 σ H) (hs : ∀ i c σ H, w[i]? = some c → Pv i σ H → g (.str (chS c)) σ H fun σ2 H2 => tb { D with nx := Pv (i + 1), ct := Pv (i + 1), bk := D.nx } σ2 H2) (hd : ∀ σ H, Pv w.length σ H → D.nx σ H) :
    ∃ W : Nat → Nat → L2.St → Hp → Prop, (∃ m, W 0 m σ H) ∧ ∀ i m σ H, W i m σ H →
      ((Its (wS w)).stop i H ∧ D.nx σ H) ∨ ((Its (wS w)).go i H ∧ ∃ N : L2.St → Hp → Prop, (∀ σ' H', N σ' H' → ∃ m', m' < m ∧ W (i + 1) m' σ' H') ∧ ∀ x H', (Its (wS w)).yld i H x H' → g x σ H' fun σ2 H2 => tb { D with nx := N, ct := N, bk := D.nx } σ2 H2) := by
  have hz : (wS w).cps.size = w.length := by
    show w.toArray.size = w.length
    simp
  refine for_it (walk_str (z := wS w)) Pv h0 (fun _ _ _ _ _ => trivial) ?_ (fun σ H p => hd σ H (hz ▸ p))
  rintro i x σ H H' hi p ⟨e, c, hc, rfl⟩
  subst e
  have hc' : w[i]? = some c := by
    have h2 : w.toArray[i]? = some c := hc
    simpa using h2
  exact hs i c σ H' hc' p
end
section
variable {P : Program} {w : World} {K : PySem.W.Frag} {mg : Str → Option Value} {base : Heap} {f : Addr} {fd : FuncData}
theorem d_goes (h : DfP K mg "_law_goes" 54) : Df P w K mg base "_law_goes" 1 ["_law_lanes", "_law_p", "_law_letter"] (spGoes K) :=
  h.df (fun _ _ F => ok_goes F) fun _ _ _ _ _ _ us hl => match us, hl with | [_, _, _], _ => rfl
/-! ### _law_leads -/
def spLeads (K : PySem.W.Frag) : Sp := fun vs H Q _ => ∃ (v : V) (L : List Ln) (o : Option Int) (u : List Nat), vs = [v, oI o, .str (wS u)] ∧ Dp K H v (lnsD L) ∧ ∀ H', Ex H H' → Q (oI (EM.leads L o u)) H'
theorem scLeads : FnScope ["_law_lanes", "_law_p", "_law_word", "_law_letter"] ["_law_lanes", "_law_p", "_law_word"] (defScope (top 55)) := ⟨rfl, rfl, rfl, by decide +kernel, rfl, by decide +kernel, by decide +kernel⟩
theorem oI_non (o : Option Int) : decide (oI o = V.non) = o.isNone := by
  cases o with
  | none => rfl
  | some i => rfl
theorem ok_leads (D : DfP K mg "_law_goes" 54) (F : FnP K "_law_leads" "_law_leads" (top 55) f fd) : FnOk P w K mg base CX0 2 f fd ["_law_lanes", "_law_p", "_law_word"] (spLeads K) := by
  refine F.ok scLeads (fun vs H Q E h => ?_) (fun cdv A outer s H vs Q E hr h => ?_)
  · obtain ⟨v, L, p, c, rfl, _⟩ := h
    rfl
  · obtain ⟨v, L, o, u, rfl, hd, k⟩ := h
    have D1 : Df P w K mg base "_law_goes" 1 _ _ := d_goes D
    refine ⟨_, PSs.nox (pss_cons (ps_for PassesOwn.never rfl (pi_str (pv 2)) (pg_name (i := 3) scLeads.nd rfl (Or.inl rfl))
      (pss_one (ps_if (pt_cmpR op_notN (pv 1) pe_non (nomark _)) (pss_one (ps_set (i := 1) scLeads.nd rfl (Or.inl rfl) (pe_df D1 hr rfl (pa_cons (pv 0) (pa_cons (pv 1) (pa_cons (pv 3) pa_nil)))))) pss_nil)))
      (pss_one (ps_ret (pv 1)))), ?_⟩
    refine ⟨_, rfl, _, rfl, for_w (fun i σ H' => ∃ o1, σ = [some v, some (oI (EM.leads L o (u.take i))), some (.str (wS u)), o1] ∧ Ex H H') ⟨_, rfl, Evl.Ex.refl H⟩ ?_ ?_⟩
    · rintro i c σ H' hi ⟨o1, rfl, e⟩
      refine ⟨_, rfl, rfl, _, rfl, ?_⟩
      rw [oI_non]
      have step := EM.leads_take L o u i c hi
      cases q : EM.leads L o (u.take i) with
      | none =>
        rw [q] at step
        refine iteF ⟨some (.str (chS c)), ?_, e⟩
        rw [step] <;> rfl
      | some p =>
        rw [q] at step
        refine iteT ⟨_, rfl, _, rfl, _, rfl, v, L, p, c, rfl, dp_mono e hd, fun H2 e2 => ⟨some (.str (chS c)), ?_, e.trans e2⟩⟩
        rw [step] <;> rfl
    · rintro σ H' ⟨o1, rfl, e⟩
      refine ⟨_, rfl, ?_⟩
      have q := k H' e
      rw [List.take_length]
      exact q
theorem d_leads (D : DfP K mg "_law_goes" 54) (h : DfP K mg "_law_leads" 55) : Df P w K mg base "_law_leads" 2 ["_law_lanes", "_law_p", "_law_word"] (spLeads K) :=
  h.df (fun _ _ F => ok_leads D F) fun _ _ _ _ _ _ us hl => match us, hl with | [_, _, _], _ => rfl
end
end E

set_option maxRecDepth 100000
set_option maxHeartbeats 4000000
namespace E
open PySem PySem.Spec PyProof.Rows L2
section
variable {X : Cx}
/-! ### letters.index(letter), found -/
theorem at_sign (w : List Nat) (c : Nat) (i : Nat) : StrLaws.At (wS w) (chS c) (wS w).length i ↔ w[i]? = some c := by
  unfold StrLaws.At Builtin.Str.subAt
  have hl : (wS w).length = w.length := wS_len w
  have h1 : (chS c).length = 1 := rfl
  rw [hl, h1]
  show i + 1 ≤ w.length ∧ (w.toArray.extract i (i + 1) == #[c]) = true ↔ w[i]? = some c
  constructor
  · rintro ⟨h2, h3⟩
    have h4 : w.toArray.extract i (i + 1) = #[c] := beq_iff_eq.mp h3
    have h5 : (w.toArray.extract i (i + 1))[0]? = some c := by rw [h4]; rfl
    rw [Array.getElem?_extract] at h5
    simp at h5
    exact h5.2
  · intro h
    obtain ⟨h2, h3⟩ := List.getElem?_eq_some_iff.mp h
    refine ⟨h2, beq_iff_eq.mpr ?_⟩
    apply Array.ext
    · simp; omega
    · intro j h4 h5
      have e : j = 0 := by
        have : j < 1 := h5
        omega
      subst e
      simp [h3]
theorem occ_idx {w : List Nat} {c : Nat} (h : c ∈ w) : ∃ r, Builtin.Str.occurrences (wS w) (chS c) 0 (wS w).length 1 = w.idxOf c :: r := by
  have hlt : w.idxOf c < w.length := List.idxOf_lt_length_iff.mpr h
  have hat : w[w.idxOf c]? = some c := by rw [List.getElem?_eq_getElem hlt, List.getElem_idxOf hlt]
  rcases StrLaws.occ_head (wS w) (chS c) 1 (Nat.le_refl _) with ⟨_, hn⟩ | ⟨i, r, e, ha, hn⟩
  · exact absurd ((at_sign w c _).mpr hat) (hn _)
  · refine ⟨r, ?_⟩
    rw [e]
    have h1 := (at_sign w c i).mp ha
    have h2 : ¬ w.idxOf c < i := fun q => hn _ q ((at_sign w c _).mpr hat)
    have h3 : w.idxOf c ≤ i := by
      rcases Nat.lt_or_ge i (w.idxOf c) with q | q
      · obtain ⟨h4, h5⟩ := List.getElem?_eq_some_iff.mp h1
        have h6 := List.not_of_lt_findIdx (p := fun x => x == c) (xs := w) (i := i) q
        rw [h5] at h6
        simp at h6
      · exact q
    rw [show i = w.idxOf c by omega]
def rSIndex : V → List V → Hp → VK → Prop := fun x xs H Q => ∃ (w : List Nat) (c : Nat), x = .str (wS w) ∧ xs = [.str (chS c)] ∧ c ∈ w ∧ Q (.int (w.idxOf c : Nat)) H
theorem mt_sidx : MtR X "str.index" rSIndex := by
  intro pins s σ H x xs v us Q I rx rs h
  obtain ⟨w, c, rfl, rfl, hm, q⟩ := h
  obtain ⟨r, e⟩ := occ_idx hm
  exact mt_sindex pins s σ H _ _ v us Q I rx rs ⟨_, _, _, r, rfl, rfl, e, q⟩
/-! ### list(text) -/
def rListW : List V → Hp → VK → Prop := fun vs H Q => ∃ w : List Nat, vs = [.str (wS w)] ∧ w.length ≤ 100000 ∧ ∀ l, H l = none → Q (.ref l) (upd H l (.lst (w.map fun c => V.str (chS c))))
theorem signs_are {w : List Nat} {acc : Array Value} (h : ItemsOf (SignAt (wS w)) acc (wS w).cps.size) : Vals (w.map fun c => V.str (chS c)) acc.toList := by
  obtain ⟨h1, h2⟩ := h
  have h3 : acc.toList.length = w.length := by
    rw [Array.length_toList, h1]
    show w.toArray.size = w.length
    simp
  have key : ∀ (i : Nat) v, acc.toList[i]? = some v → ∃ c, w[i]? = some c ∧ RelV (.str (chS c)) v := fun i v hv => by
    obtain ⟨c, u, e1, e2⟩ := h2 i v (by simpa using hv)
    refine ⟨c, ?_, u, e2⟩
    have e3 : w.toArray[i]? = some c := e1
    simpa using e3
  generalize acc.toList = l at h3 key
  clear h1 h2
  induction w generalizing l with
  | nil =>
    have : l = [] := List.eq_nil_of_length_eq_zero h3
    subst this
    exact .nil
  | cons a r ih =>
    cases l with
    | nil => cases h3
    | cons x l =>
      refine .cons ?_ (ih l (by simpa using h3) fun i v hv => by simpa using key (i + 1) v (by simpa using hv))
      obtain ⟨c, e1, e2⟩ := key 0 x rfl
      have e4 : a = c := by simpa using e1
      rw [e4]
      exact e2
theorem call_listW (hc : X.calm = true) : CallR X (.type "list") rListW := by
  intro pins s σ H xs us Q I r h
  obtain ⟨w, rfl, hl, q⟩ := h
  obtain ⟨u, rfl, rx⟩ := vals1 r
  obtain ⟨t, rfl⟩ := rx
  have hz : (wS w).cps.size = w.length := by
    show w.toArray.size = w.length
    simp
  refine call_list_str (I.ok.hd hc) (wS w) t (fun h' tk acc' c' k e hi => ?_) (by rw [hz]; exact sz_of (by omega))
  exact ⟨.ref s.heap.objs.size, _, I.laid (t' := tk) k (Nat.le_refl _) (show ObjOk X.prog X.w _ h' _ (.lst (w.map fun c => V.str (chS c))) from ⟨by rw [List.length_map]; exact sz_of (by omega), acc'.toList, c', signs_are hi, by simpa using e⟩), rfl, q _ (I.hok.fresh (Nat.le_refl _))⟩
/-! ### text[::-1] -/
def tRevW (te : TE) : TE := fun σ H Q => te σ H fun x H1 => ∃ w : List Nat, x = .str (wS w) ∧ w.length ≤ 100000 ∧ Q (.str (wS w.reverse)) H1
theorem pick_rev (w : List Nat) : ((Builtin.Str.strSliceIndices none none (-1) w.length).filterMap (w.toArray[·]?)).toArray = w.reverse.toArray := by
  have e : Builtin.Str.strSliceIndices none none (-1) w.length = sliceRange ((w.length : Int) - 1) (-1) (-1) := rfl
  rw [e, PySem.W.krv_sliceRange, PySem.W.krv_range, List.filterMap_reverse]
  have h := PySem.W.krv_all w.toArray
  rw [List.size_toArray] at h
  rw [h]
theorem pe_revW {e : Expr} {te : TE} {k : Nat} {p1 p2 p3 pos : Pos} (he : PE X e te) : PE X (.Subscript e (.Slice none none (some (.UnaryOp .USub (.Constant (.int 1) k p1) p2)) p3) pos) (tRevW te) := by
  refine ⟨fun pins s σ H Q I h => ?_⟩
  refine Subscript_ (thn (he.run pins s σ H _ I h) fun v s1 ⟨x, H1, I1, r1, q1⟩ => ?_)
  obtain ⟨w, rfl, hz, q⟩ := q1
  obtain ⟨t, rfl⟩ := r1
  have hst : PO X (some (.UnaryOp .USub (.Constant (.int 1) k p1) p2)) (tPart (tUn (rU fun i => .int (-i)) (tC (.int 1)))) := po_some (pe_un un_neg pe_int)
  refine wpAny_Slice (thn (po_none.run pins s1 σ H1 (fun o H2 => o = none ∧ H2 = H1) I1 ⟨rfl, rfl⟩) fun vl s2 ⟨l, H2, I2, pl, el, e2⟩ => ?_)
  subst el e2
  refine thn (po_none.run pins s2 σ H2 (fun o H3 => o = none ∧ H3 = H2) I2 ⟨rfl, rfl⟩) fun vu s3 ⟨u, H3, I3, pu, eu, e3⟩ => ?_
  subst eu e3
  refine thn (hst.run pins s3 σ H3 (fun o H4 => o = some (-1) ∧ H4 = H3) I3 ⟨1, rfl, -1, rfl, rfl, rfl⟩) fun vs s4 ⟨o, H4, I4, ps, eo, e4⟩ => ?_
  subst eo e4
  have I5 : Inv X pins σ H4 { s4 with heap := s4.heap.push { cls := .type "slice", data := .fields #[vl, vu, vs] } } := I4.kept (t' := s4.toks) fun b ob q => Heap.get?_push_of_some _ q
  show wpAny (model X.prog X.w) X.A (subscriptTail e (.Slice none none (some (.UnaryOp .USub (.Constant (.int 1) k p1) p2)) p3) (.str (wS w) t) (.ref s4.heap.objs.size)) (EP X pins σ Q) X.xe { s4 with heap := s4.heap.push { cls := .type "slice", data := .fields #[vl, vu, vs] } }
  obtain ⟨tk, rfl⟩ : ∃ tk, vs = .int (-1) tk := by
    cases ps with
    | int i t => exact ⟨t, rfl⟩
  obtain rfl : vl = .none := by cases pl; rfl
  obtain rfl : vu = .none := by cases pu; rfl
  refine tail_any (ops := [.str (wS w) t, .ref s4.heap.objs.size]) (typeIs_str _ _ _) PySem.F.slot_str_getitem.lookup ?_ (by with_unfolding_all rfl)
  refine wpAny_getItem_str_slice (l := none) (u := none) (st := some (-1, tk)) ⟨_, Heap.get?_push_size _ rfl, rfl, rfl⟩ rfl ?_
  have hs : sliceMade (wS w) t none none (some (-1, tk)) = .str (wS w.reverse) := by
    show Made.str ⟨((Builtin.Str.strSliceIndices none none (-1) (wS w).length).filterMap ((wS w).cps[·]?)).toArray⟩ = .str (wS w.reverse)
    rw [wS_len]
    show Made.str ⟨((Builtin.Str.strSliceIndices none none (-1) w.length).filterMap (w.toArray[·]?)).toArray⟩ = .str (wS w.reverse)
    rw [pick_rev]
    rfl
  rw [hs]
  exact ⟨by rw [wS_len, List.length_reverse]; exact sz_of (by omega), .str _, H4, I5.tok _, ⟨_, rfl⟩, q⟩
end
/-! ### texts glued, cut -/
theorem glue_go (acc : List Nat) : ∀ ws : List (List Nat), (ws.map wS).foldl (fun (a : Array Nat) p => a ++ (wS []).cps ++ p.cps) acc.toArray = (acc ++ ws.flatten).toArray
  | [] => by simp
  | w :: ws => by
    rw [List.map_cons, List.foldl_cons]
    have e : acc.toArray ++ (wS []).cps ++ (wS w).cps = (acc ++ w).toArray := by
      show acc.toArray ++ ([] : List Nat).toArray ++ w.toArray = _
      simp
    rw [e, glue_go (acc ++ w) ws]
    simp
theorem join_ws (ws : List (List Nat)) : Txt.join (wS []) (ws.map wS) = wS ws.flatten := by
  show Builtin.Str.glued (wS []) (ws.map wS) = wS ws.flatten
  unfold Builtin.Str.glued
  cases ws with
  | nil => rfl
  | cons w ws =>
    show (⟨(ws.map wS).foldl (fun (a : Array Nat) p => a ++ (wS []).cps ++ p.cps) w.toArray⟩ : Str) = wS (w :: ws).flatten
    rw [glue_go]
    rfl
theorem nil_wS : Str.ofString "" = wS [] := by decide +kernel
theorem cut_last (w : List Nat) (m : Nat) (hm : 0 < m) : cutS (wS w) (some (-(m : Int))) none = wS (EM.lastN m w) := by
  unfold cutS EM.lastN
  rw [wS_len, wS_cps]
  have e : HT.sIx w.length 0 (some (-(m : Int))) = w.length - m := by
    show (if -(m : Int) < 0 then (-(m : Int) + (w.length : Int)).toNat else min (-(m : Int)).toNat w.length) = w.length - m
    rw [if_pos (by omega)]
    omega
  rw [e, HT.sIx_none, List.take_of_length_le (by rw [List.length_drop]; omega)]
  rfl
end E

set_option maxRecDepth 100000
set_option maxHeartbeats 4000000
namespace E
open PySem PySem.Spec PyProof.Rows L2
theorem len1 (a : V) : [a].length ≤ sizeLine := by show 1 ≤ sizeLine; decide
theorem len2 (a b : V) : [a, b].length ≤ sizeLine := by show 2 ≤ sizeLine; decide
theorem len3 (a b c : V) : [a, b, c].length ≤ sizeLine := by show 3 ≤ sizeLine; decide
theorem len4 (a b c d : V) : [a, b, c, d].length ≤ sizeLine := by show 4 ≤ sizeLine; decide
/-- a pool stands at p; it was drawn from its own figures at most n times -/
def PoolAt (H : Hp) (p : Addr) (n : Nat) : Prop := ∃ a b c : Int, H p = some (.lst [.int a, .int b, .int c]) ∧ 0 ≤ b ∧ b < 1000000007 ∧ 0 ≤ c ∧ c ≤ (n : Int)
theorem PoolAt.mono {H : Hp} {p : Addr} {n m : Nat} (h : PoolAt H p n) (l : n ≤ m) : PoolAt H p m := by
  obtain ⟨a, b, c, h1, h2, h3, h4, h5⟩ := h
  exact ⟨a, b, c, h1, h2, h3, h4, by omega⟩
theorem PoolAt.ex {H H' : Hp} {p : Addr} {n : Nat} (h : PoolAt H p n) (e : Ex H H') : PoolAt H' p n := by
  obtain ⟨a, b, c, h1, r⟩ := h
  exact ⟨a, b, c, e _ _ h1, r⟩
theorem PoolAt.some {H : Hp} {p : Addr} {n : Nat} (h : PoolAt H p n) : ∃ xs, H p = Option.some (.lst xs) := by
  obtain ⟨a, b, c, h1, r⟩ := h
  exact ⟨_, h1⟩
section
variable {P : Program} {w : World} {K : PySem.W.Frag} {mg : Str → Option Value} {base : Heap} {f : Addr} {fd : FuncData}
/-! ### _law_cell -/
def spCell (K : PySem.W.Frag) : Sp := fun vs H Q _ => ∃ (a : Addr) (ns : List Int) (k : Nat), vs = [.ref a, .int k] ∧ SqL K H a (ns.map V.int) ∧ ∀ i : Int, Q (.int i) H
theorem scCell : FnScope ["_law_script", "_law_k"] ["_law_script", "_law_k"] (defScope (top 46)) := ⟨rfl, rfl, rfl, by decide +kernel, rfl, by decide +kernel, by decide +kernel⟩
theorem ok_cell (T : Frees mg) (F : FnP K "_law_cell" "_law_cell" (top 46) f fd) : FnOk P w K mg base CX0 1 f fd ["_law_script", "_law_k"] (spCell K) := by
  refine F.ok scCell (fun vs H Q E h => ?_) (fun cdv A outer s H vs Q E hr h => ?_)
  · obtain ⟨a, ns, k, rfl, _⟩ := h
    rfl
  · obtain ⟨a, ns, k, rfl, hS, q⟩ := h
    refine ⟨_, PSs.nox (pss_cons (ps_if (pt_cmpR op_lt (pv 1) (pe_callB call_len (by rfl) T.len PySem.boot_len (pa_cons (pv 0) pa_nil)) (nomark _)) (pss_one (ps_ret (pe_ix ix_list (pv 0) (pv 1) (fun _ _ => rfl)))) pss_nil)
      (pss_one (ps_ret pe_int))), ?_⟩
    refine ⟨_, rfl, _, rfl, _, _, rfl, .inl ⟨_, hS, rfl⟩, _, _, rfl, rfl, _, rfl, ?_⟩
    refine ite2 (fun h => ?_) (fun h => q _)
    have hk : k < (ns.map V.int).length := by
      have := of_decide_eq_true h
      omega
    rw [List.length_map] at hk
    refine ⟨_, rfl, _, rfl, a, _, _, .int ns[k], rfl, rfl, hS, atI_nat ?_, q _⟩
    rw [List.getElem?_map, List.getElem?_eq_getElem hk]
    rfl
theorem d_cell (T : Frees mg) (h : DfP K mg "_law_cell" 46) : Df P w K mg base "_law_cell" 1 ["_law_script", "_law_k"] (spCell K) :=
  h.df (fun _ _ F => ok_cell T F) fun _ _ _ _ _ _ us hl => match us, hl with | [_, _], _ => rfl
/-! ### _law_pool -/
def spPool : Sp := fun vs H Q _ => ∃ i : Int, vs = [.int i] ∧ ∀ p H', H p = none → Ex H H' → PoolAt H' p 0 → Q (.ref p) H'
theorem scPool : FnScope ["_law_cell_here", "_law_folded"] ["_law_cell_here"] (defScope (top 47)) := ⟨rfl, rfl, rfl, by decide +kernel, rfl, by decide +kernel, by decide +kernel⟩
theorem ok_pool (T : Frees mg) (F : FnP K "_law_pool" "_law_pool" (top 47) f fd) : FnOk P w K mg base CX0 1 f fd ["_law_cell_here"] spPool := by
  refine F.ok scPool (fun vs H Q E h => ?_) (fun cdv A outer s H vs Q E hr h => ?_)
  · obtain ⟨i, rfl, _⟩ := h
    rfl
  · obtain ⟨i, rfl, q⟩ := h
    have fin : ∀ (x y : Int) (p : Addr), H p = none → Q (.ref p) (upd H p (.lst [.int x, .int (y % 1000000007), .int 0])) := fun x y p hp =>
      q p _ hp (Evl.Ex.new hp) ⟨x, y % 1000000007, 0, upd_same, Int.emod_nonneg _ (by decide), Int.emod_lt_of_pos _ (by decide), by decide, by decide⟩
    have two : CMul 2 i := .inl ⟨by decide, by decide⟩
    refine ⟨_, PSs.nox (pss_cons (ps_set (i := 1) scPool.nd rfl (Or.inl rfl) (pe_op op_mul pe_int (pv 0)))
      (pss_cons (ps_if (pt_cmpR op_lt (pv 0) pe_int (nomark _)) (pss_one (ps_set (i := 1) scPool.nd rfl (Or.inl rfl) (pe_op op_sub (pe_op op_sub pe_int (pe_op op_mul pe_int (pv 0))) pe_int))) pss_nil)
      (pss_cons (ps_if (pt_cmpR op_ge (pv 1) (pe_op op_pow pe_int pe_int) (nomark _)) (pss_one (ps_ret (pe_lst (pa_cons (pv 1) (pa_cons (pe_op op_mod (pe_callTy call_int1 (by rfl) T.int boot_int (pa_cons (pv 1) pa_nil)) pe_int) (pa_cons pe_int pa_nil)))))) pss_nil)
      (pss_one (ps_ret (pe_lst (pa_cons pe_int (pa_cons (pe_op op_mod (pe_callTy call_int1 (by rfl) T.int boot_int (pa_cons (pv 1) pa_nil)) pe_int) (pa_cons pe_int pa_nil))))))))), ?_⟩
    have tail : ∀ z : Int, ∃ v, ([some (V.int i), some (V.int z)] : L2.St)[1]? = some (some v) ∧ ∃ i_1 j, v = V.int i_1 ∧ V.int (10 ^ 18) = V.int j := fun z => ⟨_, rfl, z, _, rfl, rfl⟩
    refine ⟨_, rfl, _, _, rfl, rfl, two, ?_⟩
    refine ⟨_, rfl, _, _, rfl, rfl, _, rfl, ite2 (fun _ => ?_) (fun _ => ?_)⟩
    · refine ⟨_, rfl, _, _, rfl, rfl, two, _, _, rfl, rfl, _, _, rfl, rfl, ?_⟩
      refine ⟨_, rfl, _, _, rfl, rfl, ⟨by decide, by decide, by decide⟩, _, _, rfl, rfl, _, rfl, ite2 (fun _ => ?_) (fun _ => ?_)⟩
      · exact ⟨_, rfl, _, rfl, .inl ⟨_, rfl, _, _, rfl, rfl, (by show (0 : Int) < 1000000007; decide), len3 _ _ _, fun p hp => fin _ _ p hp⟩⟩
      · exact ⟨_, rfl, .inl ⟨_, rfl, _, _, rfl, rfl, (by show (0 : Int) < 1000000007; decide), len3 _ _ _, fun p hp => fin _ _ p hp⟩⟩
    · refine ⟨_, rfl, _, _, rfl, rfl, ⟨by decide, by decide, by decide⟩, _, _, rfl, rfl, _, rfl, ite2 (fun _ => ?_) (fun _ => ?_)⟩
      · exact ⟨_, rfl, _, rfl, .inl ⟨_, rfl, _, _, rfl, rfl, (by show (0 : Int) < 1000000007; decide), len3 _ _ _, fun p hp => fin _ _ p hp⟩⟩
      · exact ⟨_, rfl, .inl ⟨_, rfl, _, _, rfl, rfl, (by show (0 : Int) < 1000000007; decide), len3 _ _ _, fun p hp => fin _ _ p hp⟩⟩
theorem d_pool (T : Frees mg) (h : DfP K mg "_law_pool" 47) : Df P w K mg base "_law_pool" 1 ["_law_cell_here"] spPool :=
  h.df (fun _ _ F => ok_pool T F) fun _ _ _ _ _ _ us hl => match us, hl with | [_], _ => rfl
/-! ### _law_take -/
def spTake : Sp := fun vs H Q _ => ∃ (p : Addr) (m : Int) (n : Nat), vs = [.ref p, .int m] ∧ 0 < m ∧ m < 1000000 ∧ PoolAt H p n ∧ n ≤ 1000000 ∧ ∀ (d : Int) H', 0 ≤ d → d < m → PoolAt H' p (n + 1) → ExB [p] H H' → Q (.int d) H'
theorem scTake : FnScope ["_law_pool_here", "_law_many", "_law_mixed_here", "_law_draw"] ["_law_pool_here", "_law_many"] (defScope (top 48)) := ⟨rfl, rfl, rfl, by decide +kernel, rfl, by decide +kernel, by decide +kernel⟩
theorem ok_take (T : Frees mg) (F : FnP K "_law_take" "_law_take" (top 48) f fd) : FnOk P w K mg base CX0 1 f fd ["_law_pool_here", "_law_many"] spTake := by
  refine F.ok scTake (fun vs H Q E h => ?_) (fun cdv A outer s H vs Q E hr h => ?_)
  · obtain ⟨p, m, n, rfl, _⟩ := h
    rfl
  · obtain ⟨p, m, n, rfl, m0, m1, ⟨a, b, c, hp, b0, b1, c0, c1⟩, hn, q⟩ := h
    refine ⟨_, PSs.nox (pss_cons (ps_if (pt_cmpR op_gt (pe_ix ix_list (pv 0) pe_int (fun _ _ => rfl)) pe_int (nomark _)) (pss_cons (ps_set (i := 3) scTake.nd rfl (Or.inl rfl) (pe_op op_mod (pe_callTy call_int1 (by rfl) T.int boot_int (pa_cons (pe_ix ix_list (pv 0) pe_int (fun _ _ => rfl)) pa_nil)) (pv 1)))
      (pss_cons (ps_asg (pe_op op_fdiv (pe_ix ix_list (pv 0) pe_int (fun _ _ => rfl)) (pv 1)) (pg_sub (pv 0) pe_int set_list))
      (pss_one (ps_ret (pv 3))))) pss_nil)
      (pss_cons (ps_asg (pe_op op_add (pe_ix ix_list (pv 0) pe_int (fun _ _ => rfl)) pe_int) (pg_sub (pv 0) pe_int set_list))
      (pss_cons (ps_set (i := 2) scTake.nd rfl (Or.inl rfl) (pe_op op_mod (pe_callTy call_int1 (by rfl) T.int boot_int (pa_cons (pe_op op_pow (pe_op op_add (pe_op op_add (pe_ix ix_list (pv 0) pe_int (fun _ _ => rfl)) (pe_op op_mul pe_int (pe_ix ix_list (pv 0) pe_int (fun _ _ => rfl)))) pe_int) pe_int) pa_nil)) pe_int))
      (pss_one (ps_ret (pe_op op_mod (pe_op op_mod (pe_callTy call_int1 (by rfl) T.int boot_int (pa_cons (pe_op op_mul (pe_op op_add (pv 2) (pe_ix ix_list (pv 0) pe_int (fun _ _ => rfl))) pe_int) pa_nil)) pe_int) (pv 1))))))), ?_⟩
    have a0 : ∀ (x y z : V), atI [x, y, z] (0 : Int) = some x := fun x y z => rfl
    have a1 : ∀ (x y z : V), atI [x, y, z] (1 : Int) = some y := fun x y z => rfl
    have a2 : ∀ (x y z : V), atI [x, y, z] (2 : Int) = some z := fun x y z => rfl
    refine ⟨_, rfl, p, _, _, _, rfl, rfl, SqL.of hp, a0 _ _ _, _, _, rfl, rfl, _, rfl, ite2 (fun _ => ?_) (fun _ => ?_)⟩
    · refine ⟨_, rfl, p, _, _, _, rfl, rfl, SqL.of hp, a0 _ _ _, .inl ⟨_, rfl, _, rfl, _, _, rfl, rfl, m0, ?_⟩⟩
      refine ⟨_, rfl, p, _, _, _, rfl, rfl, SqL.of hp, a0 _ _ _, _, rfl, _, _, rfl, rfl, ⟨m0, by omega⟩, _, rfl, p, _, _, 0, rfl, rfl, hp, rfl, ?_⟩
      refine ⟨_, rfl, q _ _ (Int.emod_nonneg _ (by omega)) (Int.emod_lt_of_pos _ m0) ⟨_, b, c, upd_same, b0, b1, c0, by omega⟩ ((ExB.refl _ _).upd (by simp))⟩
    · refine ⟨_, rfl, p, _, _, _, rfl, rfl, SqL.of hp, a2 _ _ _, _, _, rfl, rfl, _, rfl, p, _, _, 2, rfl, rfl, hp, rfl, ?_⟩
      have hp2 : (upd H p (.lst [.int a, .int b, .int (c + 1)])) p = some (.lst [.int a, .int b, .int (c + 1)]) := upd_same
      refine ⟨_, rfl, p, _, _, _, rfl, rfl, SqL.of hp2, a1 _ _ _, _, rfl, p, _, _, _, rfl, rfl, SqL.of hp2, a2 _ _ _, _, _, rfl, rfl, .inl ⟨by decide, by decide⟩, _, _, rfl, rfl, _, _, rfl, rfl, _, _, rfl, rfl, ⟨by decide, by decide, ?_⟩, .inl ⟨_, rfl, _, _, rfl, rfl, (by show (0 : Int) < 2147483647; decide), ?_⟩⟩
      · have e : (2 : Nat) ^ 64 = 18446744073709551616 := by decide
        rw [e]
        omega
      · refine ⟨_, rfl, _, rfl, p, _, _, _, rfl, rfl, SqL.of hp2, a2 _ _ _, _, _, rfl, rfl, _, _, rfl, rfl, .inr ⟨by decide, by decide⟩, .inl ⟨_, rfl, _, _, rfl, rfl, (by show (0 : Int) < 2147483629; decide), _, rfl, _, _, rfl, rfl, m0, ?_⟩⟩
        exact q _ _ (Int.emod_nonneg _ (by omega)) (Int.emod_lt_of_pos _ m0) ⟨a, b, c + 1, hp2, b0, b1, by omega, by omega⟩ ((ExB.refl _ _).upd (by simp))
theorem d_take (T : Frees mg) (h : DfP K mg "_law_take" 48) : Df P w K mg base "_law_take" 1 ["_law_pool_here", "_law_many"] spTake :=
  h.df (fun _ _ F => ok_take T F) fun _ _ _ _ _ _ us hl => match us, hl with | [_, _], _ => rfl
end
end E

set_option maxRecDepth 100000
set_option maxHeartbeats 4000000
namespace E
open PySem PySem.Spec PyProof.Rows L2
theorem exb_none {S : List Addr} {H H' : Hp} {a : Addr} (e : ExB S H H') (h : H' a = none) (n : a ∉ S) : H a = none := by
  cases q : H a with
  | none => rfl
  | some o =>
    rw [e a o n q] at h
    cases h
theorem upd_nn {H : Hp} {a b : Addr} {o : HO} (h : upd H a o b = none) : b ≠ a ∧ H b = none := by
  have hn : b ≠ a := fun z => by
    rw [z, upd_same] at h
    cases h
  exact ⟨hn, by rw [upd_ne hn] at h; exact h⟩
theorem PoolAt.ne {H : Hp} {p a : Addr} {n : Nat} (h : PoolAt H p n) (e : H a = none) : a ≠ p := fun q => by
  obtain ⟨_, _, _, h1, _⟩ := h
  rw [q, h1] at e
  cases e
theorem cut_lo {xs : List V} {k : Nat} (h : k ≤ xs.length) : cutV xs none (some (k : Int)) = xs.take k := by
  unfold cutV
  rw [HT.sIx_none, HT.sIx_nat, List.drop_zero, Nat.sub_zero, Nat.min_eq_left h]
theorem cut_hi {xs : List V} {k : Nat} : cutV xs (some ((k : Int) + 1)) none = xs.drop (k + 1) := by
  have e : ((k : Int) + 1) = ((k + 1 : Nat) : Int) := by omega
  unfold cutV
  rw [e, HT.sIx_none, HT.sIx_nat]
  by_cases h : k + 1 ≤ xs.length
  · rw [Nat.min_eq_left h, List.take_of_length_le (by rw [List.length_drop]; omega)]
  · rw [Nat.min_eq_right (by omega), Nat.sub_self, List.take_zero, List.drop_of_length_le (by omega)]
theorem perm_map_inv {α β : Type} (f : α → β) {l1 l2 : List β} (h : l1.Perm l2) : ∀ w : List α, l2 = w.map f → ∃ w' : List α, l1 = w'.map f ∧ w'.Perm w := by
  induction h with
  | nil =>
    intro w e
    exact ⟨w, e, .refl _⟩
  | @cons x l1 l2 _ ih =>
    intro w e
    cases w with
    | nil => cases e
    | cons a w =>
      rw [List.map_cons] at e
      injection e with e1 e2
      obtain ⟨w', h1, h2⟩ := ih w e2
      exact ⟨a :: w', by rw [List.map_cons, e1, h1], h2.cons a⟩
  | swap x y l =>
    intro w e
    match w, e with
    | a :: b :: w, e =>
      rw [List.map_cons, List.map_cons] at e
      injection e with e1 e2
      injection e2 with e2 e3
      exact ⟨b :: a :: w, by rw [List.map_cons, List.map_cons, e1, e2, e3], .swap _ _ _⟩
    | [], e => cases e
    | [a], e => cases e
  | trans _ _ ih1 ih2 =>
    intro w e
    obtain ⟨w2, h1, h2⟩ := ih2 w e
    obtain ⟨w1, h3, h4⟩ := ih1 w2 h1
    exact ⟨w1, h3, h4.trans h2⟩
/-- a text's letters, or a list -/
def Things (K : PySem.W.Frag) (H : Hp) (v : V) (xs : List V) : Prop := (∃ w : List Nat, v = .str (wS w) ∧ xs = w.map (fun c => V.str (chS c)) ∧ w.length ≤ 1000) ∨ (∃ a, v = .ref a ∧ SqL K H a xs ∧ xs.length ≤ 1000)
theorem Things.len {K : PySem.W.Frag} {H : Hp} {v : V} {xs : List V} (h : Things K H v xs) : xs.length ≤ 1000 := by
  rcases h with ⟨w, _, rfl, h⟩ | ⟨a, _, _, h⟩
  · rw [List.length_map]; exact h
  · exact h
theorem list_things {K : PySem.W.Frag} {H : Hp} {v : V} {xs : List V} (h : Things K H v xs) {Q : VK} (q : ∀ l, H l = none → Q (.ref l) (upd H l (.lst xs))) :
    rListW [v] H Q ∨ (∃ p ys, [v] = [V.ref p] ∧ (SqL K H p ys ∨ SqT K H p ys) ∧ ∀ l, H l = none → Q (.ref l) (upd H l (.lst ys))) := by
  rcases h with ⟨w, rfl, rfl, hw⟩ | ⟨a, rfl, hS, hw⟩
  · exact .inl ⟨w, rfl, by omega, q⟩
  · exact .inr ⟨a, xs, rfl, .inl hS, q⟩
section
variable {P : Program} {w : World} {K : PySem.W.Frag} {mg : Str → Option Value} {base : Heap} {f : Addr} {fd : FuncData}
def spMixed (K : PySem.W.Frag) : Sp := fun vs H Q _ => ∃ (p : Addr) (n : Nat) (tv : V) (xs : List V), vs = [.ref p, tv] ∧ Things K H tv xs ∧ PoolAt H p n ∧ n + xs.length ≤ 1000000 ∧
  ∀ q H' ys, ys.Perm xs → H q = none → ExB [p] H H' → H' q = some (.lst ys) → PoolAt H' p (n + xs.length) → Q (.ref q) H'
theorem scMixed : FnScope ["_law_pool_here", "_law_things", "_law_left", "_law_found", "_law_k", "_law_at"] ["_law_pool_here", "_law_things"] (defScope (top 49)) := ⟨rfl, rfl, rfl, by decide +kernel, rfl, by decide +kernel, by decide +kernel⟩
theorem ok_mixed (T : Frees mg) (D : DfP K mg "_law_take" 48) (F : FnP K "_law_mixed" "_law_mixed" (top 49) f fd) : FnOk P w K mg base CX0 2 f fd ["_law_pool_here", "_law_things"] (spMixed K) := by
  refine F.ok scMixed (fun vs H Q E h => ?_) (fun cdv A outer s H vs Q E hr h => ?_)
  · obtain ⟨p, n, tv, xs, rfl, _⟩ := h
    rfl
  · obtain ⟨p, n, tv, xs, rfl, hT, hp, hn, q⟩ := h
    have Dt : Df P w K mg base "_law_take" 1 _ _ := d_take T D
    refine ⟨_, PSs.nox (pss_cons (ps_set (i := 2) scMixed.nd rfl (Or.inl rfl) (pe_callTy (CallR.or (call_listW rfl) call_list_of) (by rfl) T.list boot_list (pa_cons (pv 1) pa_nil)))
      (pss_cons (ps_set (i := 3) scMixed.nd rfl (Or.inl rfl) (pe_lst pa_nil))
      (pss_cons (ps_for PassesOwn.never rfl (pi_range1 rfl T.range (pa_cons (pe_callB call_len (by rfl) T.len PySem.boot_len (pa_cons (pv 1) pa_nil)) pa_nil)) (pg_name (i := 4) scMixed.nd rfl (Or.inl rfl))
        (pss_cons (ps_set (i := 5) scMixed.nd rfl (Or.inl rfl) (pe_df Dt (hr.mono (by decide)) rfl (pa_cons (pv 0) (pa_cons (pe_callB call_len (by rfl) T.len PySem.boot_len (pa_cons (pv 2) pa_nil)) pa_nil))))
      (pss_cons (ps_expr (pe_bm PySem.F.plainAttrs_list PySem.F.slot_list_append PySem.F.type_list_append mt_append (pv 3) (pa_cons (pe_ix ix_list (pv 2) (pv 5) (fun _ _ => rfl)) pa_nil)))
      (pss_one (ps_set (i := 2) scMixed.nd rfl (Or.inl rfl) (pe_op op_cat (pe_slice sl_list (pv 2) po_none (po_some (pv 5))) (pe_slice sl_list (pv 2) (po_some (pe_op op_add (pv 5) pe_int)) po_none)))))))
      (pss_one (ps_ret (pv 3)))))), ?_⟩
    have hx := hT.len
    refine ⟨tv, rfl, list_things hT fun l hl => ?_⟩
    refine ⟨Nat.zero_le _, fun r hrr => ?_⟩
    obtain ⟨hrl, hr0⟩ := upd_nn hrr
    have hlr : l ≠ r := hrl.symm
    have lenT : ∃ z, LenV K tv (upd (upd H l (.lst xs)) r (.lst [])) z ∧ z = xs.length := by
      refine ⟨_, ?_, rfl⟩
      rcases hT with ⟨w, rfl, rfl, hw⟩ | ⟨a, rfl, hS, hw⟩
      · refine ⟨by rw [wS_len]; exact sz_of (by omega), ?_⟩
        rw [wS_len, List.length_map]
      · exact .inl ⟨xs, Evl.ex_l (ex_new (Evl.Ex.new hl) hrr) hS, rfl⟩
    obtain ⟨z, hz, rfl⟩ := lenT
    refine ⟨_, rfl, _, _, rfl, hz, _, rfl, by omega, by omega, for_range (lo := 0) (n := ((xs.length : Nat) : Int).toNat) (fun i σ H' => ∃ l r left found o1 o2, σ = [some (.ref p), some tv, some (.ref l), some (.ref r), o1, o2] ∧ H r = none ∧ H l = none ∧ l ≠ r ∧ ExB [p] H H' ∧ H' l = some (.lst left) ∧ H' r = some (.lst found) ∧
      (found ++ left).Perm xs ∧ left.length + i = xs.length ∧ PoolAt H' p (n + i)) ⟨l, r, xs, [], none, none, rfl, hr0, hl, hlr, .of (ex_new (Evl.Ex.new hl) hrr), by rw [upd_ne hlr, upd_same], upd_same, .refl _, rfl, (hp.ex (ex_new (Evl.Ex.new hl) hrr))⟩ ?_ ?_⟩
    · rintro i σ H' hi ⟨l, r, left, found, o1, o2, rfl, hr0, hl0, hlr, e, hl, hr', pm, hlen, hP⟩
      have hi' : i < xs.length := by omega
      have hlp : l ≠ p := hp.ne hl0
      have hrp : r ≠ p := hp.ne hr0
      refine ⟨_, rfl, _, rfl, _, _, rfl, .inl ⟨_, SqL.of hl, rfl⟩, p, (left.length : Int), n + i, rfl, by omega, by omega, hP, by omega, fun d H2 d0 d1 hP2 e2 => ?_⟩
      obtain ⟨k, rfl⟩ : ∃ k : Nat, d = (k : Int) := ⟨d.toNat, by omega⟩
      have hk : k < left.length := by omega
      have hl2 : H2 l = some (.lst left) := e2 l _ (by simpa using hlp) hl
      have hr2 : H2 r = some (.lst found) := e2 r _ (by simpa using hrp) hr'
      have hlf : (found ++ left).length = xs.length := pm.length_eq
      rw [List.length_append] at hlf
      refine ⟨_, rfl, .inl ⟨rfl, _, SqL.of hr2⟩, _, rfl, _, rfl, l, left, _, left[k], rfl, rfl, SqL.of hl2, atI_nat (List.getElem?_eq_getElem hk), r, found, left[k], rfl, rfl, hr2, sz_lt (by omega), ?_⟩
      have hl3 : (upd H2 r (.lst (found ++ [left[k]]))) l = some (.lst left) := by rw [upd_ne hlr]; exact hl2
      refine ⟨_, rfl, _, rfl, _, rfl, l, left, rfl, SqL.of hl3, fun a ha => ?_⟩
      have hla : l ≠ a := ne_of_none hl3 ha
      refine ⟨_, rfl, _, rfl, _, _, rfl, rfl, _, rfl, l, left, rfl, SqL.of (by rw [upd_ne hla]; exact hl3), fun b hb => ?_⟩
      have hab : a ≠ b := ne_of_none upd_same hb
      refine ⟨a, b, _, _, rfl, rfl, by rw [upd_ne hab, upd_same], upd_same, ?_, fun c hc => ?_⟩
      · rw [cut_lo (Nat.le_of_lt hk), cut_hi, List.length_take, List.length_drop]
        exact sz_of (by omega)
      rw [cut_lo (Nat.le_of_lt hk), cut_hi]
      obtain ⟨hcb, hc1⟩ := upd_nn hc
      obtain ⟨hca, hc1⟩ := upd_nn hc1
      obtain ⟨hcr, hc2⟩ := upd_nn hc1
      obtain ⟨_, ha2⟩ := upd_nn ha
      obtain ⟨_, hb1⟩ := upd_nn hb
      obtain ⟨_, hb2⟩ := upd_nn hb1
      have npc : c ∉ [p] := by simpa using hP2.ne hc2
      have eb := e.trans e2
      have hPm : ∀ x, PoolAt H2 p x → PoolAt (upd (upd (upd (upd H2 r (.lst (found ++ [left[k]]))) a (.lst (left.take k))) b (.lst (left.drop (k + 1)))) c (.lst (left.take k ++ left.drop (k + 1)))) p x := fun x h => by
        obtain ⟨A, B, C, h1, h2⟩ := h
        exact ⟨A, B, C, by rw [upd_ne (hP2.ne hc2).symm, upd_ne (hP2.ne hb2).symm, upd_ne (hP2.ne ha2).symm, upd_ne hrp.symm]; exact h1, h2⟩
      refine ⟨c, r, _, found ++ [left[k]], _, _, rfl, hr0, exb_none eb hc2 npc, hcr, ?_, upd_same, ?_, ?_, ?_, by have := hPm _ hP2; rw [Nat.add_assoc] at this; exact this⟩
      · intro b' o nb hb'
        have hb2' := eb b' o nb hb'
        rw [upd_ne (ne_of_none hb2' hc2), upd_ne (ne_of_none hb2' hb2), upd_ne (ne_of_none hb2' ha2), upd_ne (ne_of_none hb' hr0)]
        exact hb2'
      · rw [upd_ne hcr.symm, upd_ne (show r ≠ b from ne_of_none hr2 hb2), upd_ne (show r ≠ a from ne_of_none hr2 ha2), upd_same]
      · refine List.Perm.trans ?_ pm
        have e3 : left = left.take k ++ left[k] :: left.drop (k + 1) := by
          rw [← List.drop_eq_getElem_cons hk, List.take_append_drop]
        rw [List.append_assoc]
        refine List.Perm.append_left found ?_
        conv => rhs; rw [e3]
        exact (List.perm_middle (a := left[k]) (l₁ := left.take k) (l₂ := left.drop (k + 1))).symm
      · rw [List.length_append, List.length_take, List.length_drop]
        omega
    · rintro σ H' ⟨l, r, left, found, o1, o2, rfl, hr0, hl0, hlr, e, hl, hr', pm, hlen, hP⟩
      have hz : ((xs.length : Nat) : Int).toNat = xs.length := by omega
      rw [hz] at hlen hP
      have e0 : left = [] := List.eq_nil_of_length_eq_zero (by omega)
      subst e0
      rw [List.append_nil] at pm
      exact ⟨_, rfl, q r H' found pm hr0 e hr' hP⟩
theorem d_mixed (T : Frees mg) (D : DfP K mg "_law_take" 48) (h : DfP K mg "_law_mixed" 49) : Df P w K mg base "_law_mixed" 2 ["_law_pool_here", "_law_things"] (spMixed K) :=
  h.df (fun _ _ F => ok_mixed T D F) fun _ _ _ _ _ _ us hl => match us, hl with | [_, _], _ => rfl
/-! ### _law_letters -/
structure LsOk (ls : List Nat) : Prop where
  ne : ls ≠ []
  nd : ls.Nodup
  len : ls.length ≤ 3
  low : ∀ c ∈ ls, 97 ≤ c ∧ c ≤ 122
def spLetters : Sp := fun vs H Q _ => ∃ (p : Addr) (m : Int) (n : Nat), vs = [.ref p, .int m] ∧ 1 ≤ m ∧ m ≤ 3 ∧ PoolAt H p n ∧ n ≤ 900000 ∧ ∀ ls H', LsOk ls → ExB [p] H H' → PoolAt H' p (n + 6) → Q (.str (wS ls)) H'
theorem menu (i : Nat) (h : i < 4) : ∃ w : List Nat, ([V.str "abcd", V.str "zyxw", V.str "qmbe", V.str "tkaz"] : List V)[i]? = some (.str (wS w)) ∧ w.Nodup ∧ w.length = 4 ∧ ∀ c ∈ w, 97 ≤ c ∧ c ≤ 122 := by
  have e0 : ("abcd" : Str) = wS [97, 98, 99, 100] := by decide +kernel
  have e1 : ("zyxw" : Str) = wS [122, 121, 120, 119] := by decide +kernel
  have e2 : ("qmbe" : Str) = wS [113, 109, 98, 101] := by decide +kernel
  have e3 : ("tkaz" : Str) = wS [116, 107, 97, 122] := by decide +kernel
  rw [e0, e1, e2, e3]
  match i, h with
  | 0, _ => exact ⟨_, rfl, by decide, rfl, by decide⟩
  | 1, _ => exact ⟨_, rfl, by decide, rfl, by decide⟩
  | 2, _ => exact ⟨_, rfl, by decide, rfl, by decide⟩
  | 3, _ => exact ⟨_, rfl, by decide, rfl, by decide⟩
theorem flat_chs (l : List Nat) : (l.map fun c => [c]).flatten = l := by
  induction l with
  | nil => rfl
  | cons a r ih => rw [List.map_cons, List.flatten_cons, ih]; rfl
theorem sum_chs (l : List Nat) : ((l.map chS).map (·.length)).sum = l.length := by
  induction l with
  | nil => rfl
  | cons a r ih =>
    rw [List.map_cons, List.map_cons, List.sum_cons, ih, List.length_cons]
    show 1 + r.length = r.length + 1
    omega
theorem scLetters : FnScope ["_law_pool_here", "_law_most", "_law_some"] ["_law_pool_here", "_law_most"] (defScope (top 50)) := ⟨rfl, rfl, rfl, by decide +kernel, rfl, by decide +kernel, by decide +kernel⟩
theorem ok_letters (T : Frees mg) (D : DfP K mg "_law_take" 48) (D2 : DfP K mg "_law_mixed" 49) (F : FnP K "_law_letters" "_law_letters" (top 50) f fd) : FnOk P w K mg base CX0 3 f fd ["_law_pool_here", "_law_most"] spLetters := by
  refine F.ok scLetters (fun vs H Q E h => ?_) (fun cdv A outer s H vs Q E hr h => ?_)
  · obtain ⟨p, m, n, rfl, _⟩ := h
    rfl
  · obtain ⟨p, m, n, rfl, m1, m3, hp, hn, q⟩ := h
    have Dt : Df P w K mg base "_law_take" 1 _ _ := d_take T D
    have Dm : Df P w K mg base "_law_mixed" 2 _ _ := d_mixed T D D2
    refine ⟨_, PSs.nox (pss_cons (ps_set (i := 2) scLetters.nd rfl (Or.inl rfl) (pe_df Dm (hr.mono (by decide)) rfl (pa_cons (pv 0) (pa_cons (pe_ix ix_list (pe_lst (pa_cons pe_str (pa_cons pe_str (pa_cons pe_str (pa_cons pe_str pa_nil))))) (pe_df Dt (hr.mono (by decide)) rfl (pa_cons (pv 0) (pa_cons pe_int pa_nil))) (fun _ _ => rfl)) pa_nil))))
      (pss_one (ps_ret (pe_join pe_str (pe_slice sl_list (pv 2) po_none (po_some (pe_op op_add pe_int (pe_df Dt (hr.mono (by decide)) rfl (pa_cons (pv 0) (pa_cons (pv 1) pa_nil)))))))))), ?_⟩
    refine ⟨_, rfl, len4 _ _ _ _, fun l hl => ?_⟩
    refine ⟨_, rfl, p, 4, n, rfl, by decide, by decide, hp.ex (Evl.Ex.new hl), by omega, fun d H1 d0 d1 hp1 e1 => ?_⟩
    obtain ⟨i, rfl⟩ : ∃ i : Nat, d = (i : Int) := ⟨d.toNat, by omega⟩
    obtain ⟨w, hw, nd, len, low⟩ := menu i (by omega)
    have hl1 : H1 l = some (.lst [V.str "abcd", V.str "zyxw", V.str "qmbe", V.str "tkaz"]) := e1 l _ (by simpa using hp.ne hl) upd_same
    refine ⟨l, _, _, _, rfl, rfl, SqL.of hl1, atI_nat hw, ?_⟩
    refine ⟨p, n + 1, _, w.map (fun c => V.str (chS c)), rfl, .inl ⟨w, rfl, rfl, by omega⟩, hp1, by rw [List.length_map]; omega, fun r H2 ys pm hr2 e2 hr' hp2 => ?_⟩
    obtain ⟨u, rfl, pu⟩ := perm_map_inv _ pm w rfl
    rw [List.length_map, len] at hp2
    have e : ExB [p] H H2 := ((ExB.of (Evl.Ex.new hl)).trans e1).trans e2
    have hul : u.length = 4 := by rw [pu.length_eq, len]
    refine ⟨⟨_, rfl⟩, _, rfl, _, rfl, _, rfl, p, m, _, rfl, by omega, by omega, hp2, by omega, fun d H3 d0 d1 hp3 e3 => ?_⟩
    obtain ⟨k, rfl⟩ : ∃ k : Nat, d = (k : Int) := ⟨d.toNat, by omega⟩
    have hrp : r ≠ p := hp1.ne hr2
    have hr3 : H3 r = some (.lst (u.map fun c => V.str (chS c))) := e3 r _ (by simpa using hrp) hr'
    refine ⟨_, _, rfl, rfl, _, rfl, r, _, rfl, SqL.of hr3, fun x hx => ?_⟩
    have ek : (1 : Int) + (k : Int) = ((1 + k : Nat) : Int) := by omega
    rw [ek, cut_lo (by rw [List.length_map]; omega)]
    have ez : (u.map fun c => V.str (chS c)).take (1 + k) = ((u.take (1 + k)).map chS).map V.str := by
      rw [← List.map_take, List.map_map]
      rfl
    refine ⟨_, x, (u.take (1 + k)).map chS, rfl, rfl, .inl (by rw [← ez]; exact SqL.of upd_same), ?_, ?_⟩
    · rw [sum_chs, List.length_map, List.length_take]
      show min (1 + k) u.length + min (1 + k) u.length * 0 ≤ 16777216
      omega
    · have ej : Txt.join "" ((u.take (1 + k)).map chS) = wS (u.take (1 + k)) := by
        have ec : (u.take (1 + k)).map chS = ((u.take (1 + k)).map fun c => [c]).map wS := by
          rw [List.map_map]
          rfl
        rw [ec, nil_wS, join_ws, flat_chs]
      rw [ej]
      have ndu : u.Nodup := pu.nodup_iff.mpr nd
      refine q _ _ ⟨?_, ndu.sublist (List.take_sublist _ _), ?_, fun c hc => low c (pu.mem_iff.mp (List.mem_of_mem_take hc))⟩ ((e.trans e3).trans (.of (Evl.Ex.new hx))) (hp3.ex (Evl.Ex.new hx))
      · intro z
        have z2 := congrArg List.length z
        rw [List.length_take, List.length_nil] at z2
        omega
      · rw [List.length_take]
        omega
theorem d_letters (T : Frees mg) (D : DfP K mg "_law_take" 48) (D2 : DfP K mg "_law_mixed" 49) (h : DfP K mg "_law_letters" 50) : Df P w K mg base "_law_letters" 3 ["_law_pool_here", "_law_most"] spLetters :=
  h.df (fun _ _ F => ok_letters T D D2 F) fun _ _ _ _ _ _ us hl => match us, hl with | [_, _], _ => rfl
end
end E

set_option maxRecDepth 100000
set_option maxHeartbeats 4000000
namespace E
open PySem PySem.Spec PyProof.Rows L2
section
variable {prog : Program} {w : World} {A : Around} {E : Value → Shared → Prop} {s : Shared}
/-- sorted(x, ..) of anything that is collected, by list.sort on the new list -/
theorem sorted_gen {x : Value} {vs : List Value} {kw : List (Str × Value)} {Q : Value → Shared → Prop} (hL : vs.length ≤ sizeLine) (ha1 : argsOk "sorted" ⟨[x], kw⟩) (ha2 : ∀ a, argsOk "list.sort" ⟨[.ref a], kw⟩)
    (hc : ∀ (Q' : List Value → Shared → Prop) (E' : Value → Shared → Prop), (∀ h' tk, (∀ b o, s.heap.get? b = some o → h'.get? b = some o) → Q' vs { s with heap := h', toks := tk }) → wpAny (model prog w) A.in1 (collect x) Q' E' s)
    (body : ∀ (h' : Heap) (tk : Nat) (E' : Value → Shared → Prop), (∀ b o, s.heap.get? b = some o → h'.get? b = some o) →
      wpAny (model prog w) A.in1.in1 (Builtin.«list.sort» ⟨[.ref h'.objs.size], kw⟩) (fun f s' => f = .done (.ret .none) ∧ Q (.ref h'.objs.size) s') E' { s with heap := h'.push (seqObj "list" vs.toArray 0), toks := tk }) :
    wpAny (model prog w) A (call (.builtin "sorted") [x] kw) Q E s := by
  refine call_function_entry_kw kind_sorted plain_sorted entry_sorted ha1 ?_
  unfold Builtin.«sorted»
  refine wpAny_bind (m := checkCount "sorted" 1 1 _) (wpAny_pure ?_)
  refine wpAny_bind (hc _ _ fun h' tk keep => ?_)
  refine wpAny_bind (wpAny_newList ?_ hL)
  refine wpAny_bind (wpAny_holding (wpAny_call_entry_kw slot_list_sort ⟨_, Heap.get?_push_size _ rfl, rfl⟩ entry_list_sort ?body (ha2 _)))
  case body =>
    refine wpAny_mono (body h' tk _ keep) (fun f s' hf => ?_) fun _ _ e => e
    obtain ⟨rfl, hq⟩ := hf
    exact ⟨_, rfl, wpAny_pure ⟨_, rfl, hq⟩⟩
end
theorem args_sorted_any (x : Value) : argsOk "sorted" ⟨[x], []⟩ := by unfold argsOk; kernel_rfl
section
variable {X : Cx} {pins : List (Addr × Obj)} {σ : L2.St} {H : Hp} {s : Shared}
/-- a value stands for the datum enc b -/
abbrev RD (K : PySem.W.Frag) (H : Hp) {β : Type} (enc : β → PyData) (v : Value) (b : β) : Prop := ∃ x, RelV x v ∧ Dp K H x (enc b)
theorem each_of {β : Type} {enc : β → PyData} : ∀ {xs : List V} {us : List Value} {bs : List β}, Vals xs us → DpAll X.K H xs (bs.map enc) → PySem.W.EachIs (RD X.K H enc) us bs
  | _, _, [], .nil, .nil => .nil
  | _, _, b :: bs, .cons r t, .cons d ds => .cons ⟨_, r, d⟩ (each_of t ds)
theorem of_each {β : Type} {enc : β → PyData} : ∀ {us : List Value} {bs : List β}, PySem.W.EachIs (RD X.K H enc) us bs → ∃ xs, Vals xs us ∧ DpAll X.K H xs (bs.map enc)
  | _, _, .nil => ⟨[], .nil, .nil⟩
  | _, _, .cons ⟨x, r, d⟩ t => by
    obtain ⟨xs, h1, h2⟩ := of_each t
    exact ⟨x :: xs, .cons r h1, .cons d h2⟩
theorem each_reads {β : Type} {enc : β → PyData} (I : Inv X pins σ H s) {us : List Value} {bs : List β} (e : PySem.W.EachIs (RD X.K H enc) us bs) : PySem.W.EachIs (fun v b => ∃ as, Reads s.heap v (enc b) as) us bs :=
  e.mono fun _ _ ⟨x, r, d⟩ => Dp.reads I _ x _ d r
theorem coll_seq (I : Inv X pins σ H s) {a : Addr} {xs : List V} (h : SqL X.K H a xs ∨ SqT X.K H a xs) : ∃ us, Vals xs us ∧ us.length ≤ sizeLine ∧ ∀ (A : Around) (Q' : List Value → Shared → Prop) (E' : Value → Shared → Prop),
    (∀ h' tk, (∀ b o, s.heap.get? b = some o → h'.get? b = some o) → Q' us { s with heap := h', toks := tk }) → wpAny (model X.prog X.w) A (collect (.ref a)) Q' E' s := by
  rcases h with h | h
  · obtain ⟨us, r, ⟨o, n, ho, hc, hd, hdt⟩, hz⟩ := I.list h
    have hz' : us.length ≤ sizeLine := by rw [← r.length]; exact hz
    refine ⟨us, r, hz', fun A Q' E' q => wpAny_collect_seq a (T := "list") (.inl rfl) ho hc hdt (fun h' k => ?_) (by simpa using hz')⟩
    have := q h' s.toks k
    simpa using this
  · obtain ⟨us, r, ⟨o, ho, hc, n, hdt⟩, hz⟩ := I.tuple h
    have hz' : us.length ≤ sizeLine := by rw [← r.length]; exact hz
    refine ⟨us, r, hz', fun A Q' E' q => wpAny_collect_seq a (T := "tuple") (.inr rfl) ho hc hdt (fun h' k => ?_) (by simpa using hz')⟩
    have := q h' s.toks k
    simpa using this
/-- sorted(list | tuple) of data of one shape, any length -/
def rSortD (K : PySem.W.Frag) {β : Type} (enc : β → PyData) : List V → Hp → VK → Prop := fun vs H Q => ∃ (a : Addr) (xs : List V) (bs : List β), vs = [.ref a] ∧ (SqL K H a xs ∨ SqT K H a xs) ∧ DpAll K H xs (bs.map enc) ∧
  ∀ p ys, H p = none → DpAll K H ys ((bs.mergeSort (PySem.W.dataLe false enc)).map enc) → Q (.ref p) (upd H p (.lst ys))
theorem cr_sortD {β : Type} {enc : β → PyData} (hal : ∀ bs : List β, PySem.W.AllAlike (bs.map enc)) (hk : ∀ bs : List β, PySem.W.Sortable (bs.map enc)) (hdep : ∀ b, (enc b).depth ≤ 2) (hu : X.A.units + 64 < cLine) : CallR X (.builtin "sorted") (rSortD X.K enc) := by
  intro pins s σ H vs us Q I r h
  obtain ⟨a, xs, bs, rfl, hS, hD, q⟩ := h
  obtain rfl := Vals.ref1 r
  obtain ⟨ws, rv, hz, hc⟩ := coll_seq I hS
  have e := each_of (X := X) (H := H) rv hD
  refine sorted_gen (vs := ws) hz (args_sorted_any _) (fun _ => args_list_sort _) (fun Q' E' q' => hc _ Q' E' q') fun h' tk E' keep => ?_
  have er := each_reads I e
  have er' : PySem.W.EachIs (fun v b => ∃ as, Reads (PySem.W.sortingHeap (h'.push (seqObj "list" ws.toArray 0)) h'.objs.size ws) v (enc b) as) ws bs :=
    er.mono fun _ _ ⟨as, rd⟩ => ⟨as, PyProof.Rows.Reads.keeps (fun b o ho => PySem.W.sortingHeap_old (Nat.ne_of_lt (Heap.lt_size (keep b o ho))) (Heap.get?_push_of_some _ (keep b o ho))) rd⟩
  refine PySem.W.list_sort_vals (s := { s with heap := h'.push (seqObj "list" ws.toArray 0), toks := tk }) (n := 0) (Heap.get?_push_size _ rfl)
    (PySem.W.SortsAt.data (PySem.W.each_map (R := fun v d => ∃ as, Reads (PySem.W.sortingHeap (h'.push (seqObj "list" ws.toArray 0)) h'.objs.size ws) v d as) enc er') (hal bs) (hk bs) fun d hd => ?_) hz ⟨rfl, ?_⟩
  · obtain ⟨b, _, rfl⟩ := List.mem_map.mp hd
    have := hdep b
    show X.A.units + 2 + _ < cLine
    omega
  have eo := PySem.W.sortVals_data false e er' (hal bs)
  have hl := PySem.W.sortVals_length (κ := PySem.W.dataKind (PySem.W.sortingHeap (h'.push (seqObj "list" ws.toArray 0)) h'.objs.size ws) (bs.map enc)) false (ks := ws) (vs := ws) rfl
  generalize PySem.W.sortVals (PySem.W.dataKind (PySem.W.sortingHeap (h'.push (seqObj "list" ws.toArray 0)) h'.objs.size ws) (bs.map enc)) false ws ws = out at eo hl
  obtain ⟨ys, ro, dy⟩ := of_each (X := X) (H := H) eo
  have hp : h'.get? h'.objs.size = none := Heap.get?_none_of_le (Nat.le_refl _)
  have I1 : Inv X pins σ H { s with heap := h', toks := tk } := I.kept (t' := tk) keep
  obtain ⟨ep, he⟩ := sortedHeap_at (out := out.toArray) (Heap.get?_push_size h' (o := seqObj "list" ws.toArray 0) rfl)
  refine ⟨.ref h'.objs.size, upd H h'.objs.size (.lst ys), I1.laid (t' := tk) (fun b o ho => ?_) (Nat.le_refl _) ⟨by rw [ro.length, hl]; exact hz, out, ep, ro, he⟩, rfl, q _ ys (I1.hok.fresh (Nat.le_refl _)) dy⟩
  have hb := ho
  dsimp only at hb
  rw [sortedHeap_old (Nat.ne_of_lt (Heap.lt_size hb)) (Nat.lt_of_lt_of_le (Heap.lt_size hb) (by rw [Heap.size_push]; exact Nat.le_succ _))]
  exact Heap.get?_push_of_some _ hb
end
end E

set_option maxRecDepth 100000
set_option maxHeartbeats 4000000
namespace E
open PySem PySem.Spec PyProof.Rows L2
theorem ex_hid {H H' : Hp} {D : Addr} (e : Ex H H') (h : H D = none) : Ex H (hid [D] H') := fun a o q => by
  have n : a ≠ D := fun z => by rw [z, h] at q; cases q
  rw [hid_at (by simpa using n)]
  exact e a o q
theorem take_snoc' {α : Type} {L : List α} {i : Nat} {a : α} (h : L[i]? = some a) : L.take (i + 1) = L.take i ++ [a] := by
  rw [List.take_add_one, h] <;> rfl
theorem flat_len {α β : Type} {f : α → List β} (h : ∀ a, (f a).length ≤ 1) : ∀ L : List α, (L.flatMap f).length ≤ L.length
  | [] => Nat.le_refl _
  | a :: r => by
    have := h a
    have := flat_len h r
    rw [List.flatMap_cons, List.length_append, List.length_cons]
    omega
theorem lt_of_get {α : Type} {l : List α} {i : Nat} {a : α} (h : l[i]? = some a) : i < l.length := by
  obtain ⟨h1, _⟩ := List.getElem?_eq_some_iff.mp h
  exact h1
section
variable {J : It} {n : Nat} {G : Hp → Prop} {Y : Nat → Hp → V → Hp → Prop} {K : PySem.W.Frag}
/-- a comprehension whose turns only make new objects: its list stands for f of each -/
theorem lc_dataS (S : List Addr) {α : Type} (w : Walk J n G Y) (L : List α) (f : α → List PyData) (hn : n = L.length) (hz : n < 1000000) {g : TG} {tt : TT} {te : TE} {vs : List Nat} {σ : L2.St} {H1 : Hp} {D : Addr} {Qd : Hp → Prop} (h1 : H1 D = none) (hG : ∀ H, Ex H1 H → G H)
    (hs : ∀ (i : Nat) (a : α) (x : V) (H H' : Hp) (Nx : Hp → Prop), L[i]? = some a → Ex H1 H → (∃ acc, H D = some (.lst acc)) → Y i H x H' →
      (∀ H4 y d, Ex H H4 → f a = [d] → Dp K (hid (D :: S) H4) y d → ∃ acc, H4 D = some (.lst acc) ∧ acc.length < sizeLine ∧ Nx (upd H4 D (.lst (acc ++ [y])))) → (∀ H3, Ex H H3 → f a = [] → Nx H3) →
      g x (wipe σ vs) H' fun σ2 H2 => wipe σ2 vs = wipe σ vs ∧ tt σ2 H2 fun b H3 =>
        if b = true then te σ2 H3 fun y H4 => ∃ acc, H4 D = some (.lst acc) ∧ acc.length < sizeLine ∧ Nx (upd H4 D (.lst (acc ++ [y]))) else Nx H3)
    (hd : ∀ H acc, Ex H1 H → H D = some (.lst acc) → DpAll K (hid (D :: S) H) acc (L.flatMap f) → Qd H) :
    ∃ W : Nat → Nat → Hp → Prop, (∃ m, W 0 m (upd H1 D (.lst []))) ∧ ∀ i m H, W i m H →
      (J.stop i H ∧ Qd H) ∨ (J.go i H ∧ ∃ Nx : Hp → Prop, (∀ H', Nx H' → ∃ m', m' < m ∧ W (i + 1) m' H') ∧ ∀ x H', J.yld i H x H' → g x (wipe σ vs) H' fun σ2 H2 => wipe σ2 vs = wipe σ vs ∧ tt σ2 H2 fun b H3 =>
        if b = true then te σ2 H3 fun y H4 => ∃ acc, H4 D = some (.lst acc) ∧ acc.length < sizeLine ∧ Nx (upd H4 D (.lst (acc ++ [y]))) else Nx H3) := by
  subst hn
  refine lc_it w (fun i H => Ex H1 H ∧ ∃ acc, H D = some (.lst acc) ∧ acc.length ≤ i ∧ DpAll K (hid (D :: S) H) acc ((L.take i).flatMap f)) ⟨Evl.Ex.new h1, [], upd_same, Nat.le_refl _, .nil⟩ (fun i H _ p => hG H p.1) ?_ ?_
  · rintro i x H H' hi ⟨e, acc, hD, hl, hA⟩ y
    have ha : L[i]? = some L[i] := List.getElem?_eq_getElem hi
    refine hs i L[i] x H H' _ ha e ⟨acc, hD⟩ y (fun H4 y d e4 ef hy => ?_) fun H3 e3 ef => ?_
    · refine ⟨acc, e4 _ _ hD, sz_lt (by omega), ?_, acc ++ [y], upd_same, by rw [List.length_append, List.length_singleton]; omega, ?_⟩
      · exact fun a o q => by
          have n : a ≠ D := fun z => by rw [z, h1] at q; cases q
          rw [upd_ne n]
          exact e4 _ _ (e _ _ q)
      · rw [hid_upd (by simp), take_snoc' ha, List.flatMap_append]
        refine dps_app (dps_mono (hid_mono e4) hA) ?_
        rw [List.flatMap_cons, ef, List.flatMap_nil, List.append_nil]
        exact dps_one hy
    · refine ⟨e.trans e3, acc, e3 _ _ hD, by omega, ?_⟩
      rw [take_snoc' ha, List.flatMap_append, List.flatMap_cons, ef, List.flatMap_nil, List.append_nil, List.append_nil]
      exact dps_mono (hid_mono e3) hA
  · rintro H ⟨e, acc, hD, hl, hA⟩
    rw [List.take_length] at hA
    exact hd H acc e hD hA
/-- a comprehension whose turns only make new objects: its list stands for f of each -/
theorem lc_data {α : Type} (w : Walk J n G Y) (L : List α) (f : α → List PyData) (hn : n = L.length) (hz : n < 1000000) {g : TG} {tt : TT} {te : TE} {vs : List Nat} {σ : L2.St} {H1 : Hp} {D : Addr} {Qd : Hp → Prop} (h1 : H1 D = none) (hG : ∀ H, Ex H1 H → G H)
    (hs : ∀ (i : Nat) (a : α) (x : V) (H H' : Hp) (Nx : Hp → Prop), L[i]? = some a → Ex H1 H → (∃ acc, H D = some (.lst acc)) → Y i H x H' →
      (∀ H4 y d, Ex H H4 → f a = [d] → Dp K (hid [D] H4) y d → ∃ acc, H4 D = some (.lst acc) ∧ acc.length < sizeLine ∧ Nx (upd H4 D (.lst (acc ++ [y])))) → (∀ H3, Ex H H3 → f a = [] → Nx H3) →
      g x (wipe σ vs) H' fun σ2 H2 => wipe σ2 vs = wipe σ vs ∧ tt σ2 H2 fun b H3 =>
        if b = true then te σ2 H3 fun y H4 => ∃ acc, H4 D = some (.lst acc) ∧ acc.length < sizeLine ∧ Nx (upd H4 D (.lst (acc ++ [y]))) else Nx H3)
    (hd : ∀ H acc, Ex H1 H → H D = some (.lst acc) → DpAll K (hid [D] H) acc (L.flatMap f) → Qd H) :
    ∃ W : Nat → Nat → Hp → Prop, (∃ m, W 0 m (upd H1 D (.lst []))) ∧ ∀ i m H, W i m H →
      (J.stop i H ∧ Qd H) ∨ (J.go i H ∧ ∃ Nx : Hp → Prop, (∀ H', Nx H' → ∃ m', m' < m ∧ W (i + 1) m' H') ∧ ∀ x H', J.yld i H x H' → g x (wipe σ vs) H' fun σ2 H2 => wipe σ2 vs = wipe σ vs ∧ tt σ2 H2 fun b H3 =>
        if b = true then te σ2 H3 fun y H4 => ∃ acc, H4 D = some (.lst acc) ∧ acc.length < sizeLine ∧ Nx (upd H4 D (.lst (acc ++ [y]))) else Nx H3) :=
  lc_dataS [] w L f hn hz h1 hG hs hd
end
section
variable {X : Cx} {s0 : Shared} {H0 : Hp}
/-- a block's context, to find its terms by -/
abbrev Cx.b0 (X : Cx) (s : Shared) (H : Hp) (scope : Scope) : Cx := X.blk s H scope (compEnvC scope [] 0 X.env) []
theorem pe_lcD {elt tg iter : Expr} {ifs : List Expr} {scope : Scope} {own : List (Str × Nat)} {pos : Pos} {wi : TI} {g : TG} {tt : TT} {te : TE} (s0 : Shared) (H0 : Hp) (hc : X.calm = true) (hN : X.N.Nodup) (hi : PI X tg iter wi) (ok : BlkOk X.N X.env.scope scope own)
    (g0 : PG (Cx.b0 X s0 H0 scope) tg g) (t0 : PTs (Cx.b0 X s0 H0 scope) ifs tt) (h0 : PE (Cx.b0 X s0 H0 scope) elt te)
    (hg : ∀ (s : Shared) (H : Hp) (C : Addr) (cl : List (Str × Addr)) (fp : List Addr), PG (X.blk s H scope (compEnvC scope cl C X.env) fp) tg g) (ht : ∀ (s : Shared) (H : Hp) (C : Addr) (cl : List (Str × Addr)) (fp : List Addr), PTs (X.blk s H scope (compEnvC scope cl C X.env) fp) ifs tt)
    (he : ∀ (s : Shared) (H : Hp) (C : Addr) (cl : List (Str × Addr)) (fp : List Addr), PE (X.blk s H scope (compEnvC scope cl C X.env) fp) elt te) (hs : ∀ x, foldedSetIterable iter X.env x = pure x := by intro _; rfl) :
    PE X (.ListComp elt [⟨tg, iter, ifs, 0⟩] scope pos) (tLc wi g tt te (own.map (·.2))) := pe_lc hc hN hi ok hg ht he hs
theorem ps_setLcD {i : Nat} {y : Str} {py : Pos} {elt tg iter : Expr} {ifs : List Expr} {scope : Scope} {own : List (Str × Nat)} {pos spos : Pos} {wi : TI} {g : TG} {tt : TT} {te : TE} (s0 : Shared) (H0 : Hp) (hc : X.calm = true) (hN : X.N.Nodup) (hy : X.N[i]? = some y) (hyl : X.env.scope.names.lookup y = some .local)
    (hsw : swapsWith (.ListComp elt [⟨tg, iter, ifs, 0⟩] scope pos) (some (.Name y py)) spos.line X.env = pure true) (hi : PI X tg iter wi) (ok : BlkOk X.N X.env.scope scope own)
    (g0 : PG (Cx.b0 X s0 H0 scope) tg g) (t0 : PTs (Cx.b0 X s0 H0 scope) ifs tt) (h0 : PE (Cx.b0 X s0 H0 scope) elt te)
    (hg : ∀ (s : Shared) (H : Hp) (C : Addr) (cl : List (Str × Addr)) (fp : List Addr), PG (X.blk s H scope (compEnvC scope cl C X.env) fp) tg g) (ht : ∀ (s : Shared) (H : Hp) (C : Addr) (cl : List (Str × Addr)) (fp : List Addr), PTs (X.blk s H scope (compEnvC scope cl C X.env) fp) ifs tt)
    (he : ∀ (s : Shared) (H : Hp) (C : Addr) (cl : List (Str × Addr)) (fp : List Addr), PE (X.blk s H scope (compEnvC scope cl C X.env) fp) elt te) (hs : ∀ x, foldedSetIterable iter X.env x = pure x := by intro _; rfl) :
    PS X (.Assign [.Name y py] (.ListComp elt [⟨tg, iter, ifs, 0⟩] scope pos) spos) (tAsg (tLc wi g tt te (own.map (·.2))) (gName i)) := ps_setLc hc hN hy hyl hsw hi ok hg ht he hs
theorem pe_dcD {kx vx tg iter : Expr} {ifs : List Expr} {scope : Scope} {own : List (Str × Nat)} {pos : Pos} {wi : TI} {g : TG} {tt : TT} {tk tv : TE} (s0 : Shared) (H0 : Hp) (hc : X.calm = true) (hN : X.N.Nodup) (hi : PI X tg iter wi) (ok : BlkOk X.N X.env.scope scope own)
    (g0 : PG (Cx.b0 X s0 H0 scope) tg g) (t0 : PTs (Cx.b0 X s0 H0 scope) ifs tt) (k0 : PE (Cx.b0 X s0 H0 scope) kx tk) (h0 : PE (Cx.b0 X s0 H0 scope) vx tv)
    (hg : ∀ (s : Shared) (H : Hp) (C : Addr) (cl : List (Str × Addr)) (fp : List Addr), PG (X.blk s H scope (compEnvC scope cl C X.env) fp) tg g) (ht : ∀ (s : Shared) (H : Hp) (C : Addr) (cl : List (Str × Addr)) (fp : List Addr), PTs (X.blk s H scope (compEnvC scope cl C X.env) fp) ifs tt)
    (hk : ∀ (s : Shared) (H : Hp) (C : Addr) (cl : List (Str × Addr)) (fp : List Addr), PE (X.blk s H scope (compEnvC scope cl C X.env) fp) kx tk)
    (he : ∀ (s : Shared) (H : Hp) (C : Addr) (cl : List (Str × Addr)) (fp : List Addr), PE (X.blk s H scope (compEnvC scope cl C X.env) fp) vx tv) (hs : ∀ x, foldedSetIterable iter X.env x = pure x := by intro _; rfl) :
    PE X (.DictComp kx vx [⟨tg, iter, ifs, 0⟩] scope pos) (tDc wi g tt tk tv (own.map (·.2))) := pe_dc hc hN hi ok hg ht hk he hs
theorem pe_lc2D {elt tg iter tg1 iter1 : Expr} {ifs ifs1 : List Expr} {scope : Scope} {own : List (Str × Nat)} {vs1 : List Nat} {pos : Pos} {wi wi1 : TI} {g g1 : TG} {tt tt1 : TT} {te : TE} (s0 : Shared) (H0 : Hp) (hc : X.calm = true) (hN : X.N.Nodup) (hi : PI X tg iter wi) (ok : BlkOk X.N X.env.scope scope own) (hv : ∀ i ∈ vs1, i ∈ own.map (·.2))
    (g0 : PG (Cx.b0 X s0 H0 scope) tg g) (t0 : PTs (Cx.b0 X s0 H0 scope) ifs tt) (i10 : PI (Cx.b0 X s0 H0 scope) tg1 iter1 wi1) (g10 : PG (Cx.b0 X s0 H0 scope) tg1 g1) (t10 : PTs (Cx.b0 X s0 H0 scope) ifs1 tt1) (h0 : PE (Cx.b0 X s0 H0 scope) elt te)
    (hg : ∀ (s : Shared) (H : Hp) (C : Addr) (cl : List (Str × Addr)) (fp : List Addr), PG (X.blk s H scope (compEnvC scope cl C X.env) fp) tg g) (ht : ∀ (s : Shared) (H : Hp) (C : Addr) (cl : List (Str × Addr)) (fp : List Addr), PTs (X.blk s H scope (compEnvC scope cl C X.env) fp) ifs tt)
    (hi1 : ∀ (s : Shared) (H : Hp) (C : Addr) (cl : List (Str × Addr)) (fp : List Addr), PI (X.blk s H scope (compEnvC scope cl C X.env) fp) tg1 iter1 wi1)
    (hg1 : ∀ (s : Shared) (H : Hp) (C : Addr) (cl : List (Str × Addr)) (fp : List Addr), PG (X.blk s H scope (compEnvC scope cl C X.env) fp) tg1 g1) (ht1 : ∀ (s : Shared) (H : Hp) (C : Addr) (cl : List (Str × Addr)) (fp : List Addr), PTs (X.blk s H scope (compEnvC scope cl C X.env) fp) ifs1 tt1)
    (he : ∀ (s : Shared) (H : Hp) (C : Addr) (cl : List (Str × Addr)) (fp : List Addr), PE (X.blk s H scope (compEnvC scope cl C X.env) fp) elt te) (hs : ∀ x, foldedSetIterable iter X.env x = pure x := by intro _; rfl) (hs1 : ∀ env x, foldedSetIterable iter1 env x = pure x := by intro _ _; rfl) :
    PE X (.ListComp elt [⟨tg, iter, ifs, 0⟩, ⟨tg1, iter1, ifs1, 0⟩] scope pos) (tLc2 wi g tt wi1 g1 tt1 te (own.map (·.2)) vs1) := pe_lc2 hc hN hi ok hv hg ht hi1 hg1 ht1 he hs hs1
theorem ex_hidS {S : List Addr} {H H' : Hp} {D : Addr} (e : Ex H H') (h : H D = none) : Ex (hid S H) (hid (D :: S) H') := fun a o q => by
  unfold hid at q ⊢
  split at q
  · cases q
  · rename_i hb
    have n : a ≠ D := fun z => by rw [z, h] at q; cases q
    rw [if_neg (by simp [n, hb])]
    exact e a o q
theorem hid_sub {S T : List Addr} {H : Hp} (h : ∀ a ∈ S, a ∈ T) : Ex (hid T H) (hid S H) := fun a o q => by
  unfold hid at q ⊢
  split at q
  · cases q
  · rename_i hb
    rw [if_neg (fun z => hb (h a z))]
    exact q
end
theorem yesT {p q : Prop} (h : p) : if true = true then p else q := h
theorem noT {p q : Prop} (h : q) : if false = true then p else q := h
theorem flat_one {α β : Type} (f : α → β) : ∀ L : List α, L.flatMap (fun a => [f a]) = L.map f
  | [] => rfl
  | a :: r => by rw [List.flatMap_cons, flat_one f r]; rfl
theorem flat_if {α β : Type} (c : α → Bool) (f : α → β) : ∀ L : List α, L.flatMap (fun a => if c a = true then [f a] else []) = (L.filter c).map f
  | [] => rfl
  | a :: r => by
    rw [List.flatMap_cons, flat_if c f r, List.filter_cons]
    cases c a <;> rfl
theorem dps_hid {K : PySem.W.Frag} {S : List Addr} {H : Hp} {vs : List V} {ds : List PyData} (h : DpAll K (hid S H) vs ds) : DpAll K H vs ds := dps_mono (hid_ex S H) h
/-- the walk over a text's letters -/
theorem walk_w {w : List Nat} : Walk (Its (wS w)) w.length (fun _ => True) (fun i H v H' => H' = H ∧ ∃ c, w[i]? = some c ∧ v = .str (chS c)) := by
  have hz : (wS w).cps.size = w.length := by
    show w.toArray.size = w.length
    simp
  have h := walk_str (z := wS w)
  rw [hz] at h
  refine h.mono (fun _ _ => trivial) fun i H x H' _ _ ⟨e, c, hc, hx⟩ => ⟨e, c, ?_, hx⟩
  have h2 : w.toArray[i]? = some c := hc
  simpa using h2
end E
namespace E
open PySem PySem.Spec PyProof.Rows L2
/-! ### data that may be compared whole -/
theorem lay_all : ∀ ds : List PyData, (∀ d ∈ ds, d.canLay0 = true) → PyData.canLayAll0 ds = true
  | [], _ => by simp [PyData.canLayAll0]
  | d :: ds, h => by simp [PyData.canLayAll0, h d (by simp), lay_all ds fun x hx => h x (by simp [hx])]
theorem depth_all (n : Nat) : ∀ ds : List PyData, (∀ d ∈ ds, d.depth ≤ n) → PyData.depthAll ds ≤ n
  | [], _ => by simp [PyData.depthAll]
  | d :: ds, h => by
    have h1 := h d (by simp)
    have h2 := depth_all n ds fun x hx => h x (by simp [hx])
    simp only [PyData.depthAll]
    omega
theorem shaped_of {d : PyData} (h1 : d.canLay0 = true) (h2 : d.depth ≤ 64) : SeqAt.shaped d = true := by
  show (d.canLay0 && decide (d.depth ≤ 64)) = true
  rw [Bool.and_eq_true]
  exact ⟨h1, decide_eq_true h2⟩
def okD (n : Nat) (d : PyData) : Prop := d.canLay0 = true ∧ d.depth ≤ n
theorem okD.shaped {n : Nat} {d : PyData} (h : okD n d) (hn : n ≤ 64) : SeqAt.shaped d = true := shaped_of h.1 (Nat.le_trans h.2 hn)
theorem okD.int (i : Int) : okD 0 (.int i) := ⟨by simp [PyData.canLay0], by simp [PyData.depth]⟩
theorem okD.str {w : List Nat} (h : ∀ c ∈ w, c < 1114112) : okD 0 (.str (wS w)) := ⟨by
  simp only [PyData.canLay0]
  show (wS w).cps.all (fun c => decide (c < 0x110000)) = true
  rw [← Array.all_toList, wS_cps, List.all_eq_true]
  exact fun c hc => decide_eq_true (h c hc), by simp [PyData.depth]⟩
theorem okD.non : okD 0 .none := ⟨by simp [PyData.canLay0], by simp [PyData.depth]⟩
theorem okD.list {n : Nat} {ds : List PyData} (h : ∀ d ∈ ds, okD n d) : okD (n + 1) (.list ds) := ⟨by simp only [PyData.canLay0]; exact lay_all ds fun d hd => (h d hd).1, by
  have := depth_all n ds fun d hd => (h d hd).2
  simp only [PyData.depth]
  omega⟩
theorem okD.tup {n : Nat} {ds : List PyData} (h : ∀ d ∈ ds, okD n d) : okD (n + 1) (.tuple ds) := ⟨by simp only [PyData.canLay0]; exact lay_all ds fun d hd => (h d hd).1, by
  have := depth_all n ds fun d hd => (h d hd).2
  simp only [PyData.depth]
  omega⟩
theorem okD.mono {n m : Nat} {d : PyData} (h : okD n d) (l : n ≤ m) : okD m d := ⟨h.1, Nat.le_trans h.2 l⟩
theorem okD.map {α : Type} {n : Nat} {f : α → PyData} {L : List α} (h : ∀ a ∈ L, okD n (f a)) : ∀ d ∈ L.map f, okD n d := fun d hd => by
  obtain ⟨a, ha, rfl⟩ := List.mem_map.mp hd
  exact h a ha
end E
namespace L2
open PySem
theorem Room.u1 {k : Nat} {A : Around} (r : Room k A) : A.units + 1 < cLine := by have := r.un; omega
theorem Room.u65 {k : Nat} {A : Around} (r : Room k A) : A.units + 65 < cLine := by have := r.un; omega
end L2

set_option maxRecDepth 100000
set_option maxHeartbeats 4000000
namespace E
open PySem PySem.Spec PyProof.Rows L2
theorem dig (k : Nat) (h : k < 3) : (toString ((k : Nat) : Int) : Str) = chS (48 + k) := by
  match k, h with
  | 0, _ => decide +kernel
  | 1, _ => decide +kernel
  | 2, _ => decide +kernel
theorem dig_back (k : Nat) (h : k < 3) : PySem.intText? (chS (48 + k)) = some (k : Int) := by
  match k, h with
  | 0, _ => decide +kernel
  | 1, _ => decide +kernel
  | 2, _ => decide +kernel
theorem LsOk.ix {ls : List Nat} (h : LsOk ls) {c : Nat} (hc : c ∈ ls) : ls.idxOf c < 3 := Nat.lt_of_lt_of_le (List.idxOf_lt_length_iff.mpr hc) h.len
theorem join_chs (l : List Nat) : Txt.join "" (l.map chS) = wS l := by
  have ec : l.map chS = (l.map fun c => [c]).map wS := by
    rw [List.map_map] <;> rfl
  rw [ec, nil_wS, join_ws, flat_chs]
section
variable {P : Program} {w : World} {K : PySem.W.Frag} {mg : Str → Option Value} {base : Heap} {f : Addr} {fd : FuncData}
def spKey : Sp := fun vs H Q _ => ∃ (ls u : List Nat), vs = [.str (wS ls), .str (wS u)] ∧ LsOk ls ∧ (∀ c ∈ u, c ∈ ls) ∧ u.length ≤ 100000 ∧ ∀ H', Ex H H' → Q (.str (wS (EM.kc ls u))) H'
theorem scKey : FnScope ["_law_letters_here", "_law_word", "_law_letter"] ["_law_letters_here", "_law_word"] (defScope (top 51)) := ⟨rfl, rfl, rfl, by decide +kernel, rfl, by decide +kernel, by decide +kernel⟩
theorem ok_key (T : Frees mg) (F : FnP K "_law_key" "_law_key" (top 51) f fd) : FnOk P w K mg base CX0 1 f fd ["_law_letters_here", "_law_word"] spKey := by
  refine F.ok scKey (fun vs H Q E h => ?_) (fun cdv A outer s H vs Q E hr h => ?_)
  · obtain ⟨ls, u, rfl, _⟩ := h
    rfl
  · obtain ⟨ls, u, rfl, hL, hu, hz, q⟩ := h
    refine ⟨_, PSs.nox (pss_one (ps_ret (pe_join pe_str (pe_lcD (own := [("_law_letter", 2)]) s H rfl scKey.nd (pi_str (pe_revW (pv 1))) (blkOk_by (own := [("_law_letter", 2)]) (N := ["_law_letters_here", "_law_word", "_law_letter"]) (sc := (defScope (top 51))) (by decide +kernel)) (pg_name (i := 2) scKey.nd rfl (Or.inl rfl)) pts_nil (pe_callTy call_str_int (by rfl) T.str boot_str (pa_cons (pe_bm PySem.F.plainAttrs_str PySem.F.slot_str_index PySem.F.type_str_index mt_sidx (pv 0) (pa_cons (pv 2) pa_nil)) pa_nil)) (fun _ _ _ _ _ => (pg_name (i := 2) scKey.nd rfl (Or.inl rfl))) (fun _ _ _ _ _ => pts_nil) (fun _ _ _ _ _ => (pe_callTy call_str_int (by rfl) T.str boot_str (pa_cons (pe_bm PySem.F.plainAttrs_str PySem.F.slot_str_index PySem.F.type_str_index mt_sidx (pv 0) (pa_cons (pv 2) pa_nil)) pa_nil))))))), ?_⟩
    refine ⟨⟨_, rfl⟩, _, rfl, u, rfl, hz, _, rfl, fun D hD => ?_⟩
    refine lc_data (K := K) walk_w u.reverse (fun c => [.str (chS (48 + ls.idxOf c))]) rfl (by rw [List.length_reverse]; omega) hD (fun _ _ => trivial) ?_ ?_
    · rintro i c x H2 H' Nx hi e _ ⟨rfl, c', hc', rfl⟩ put skip
      rw [hi] at hc'
      obtain rfl := Option.some.inj hc'
      have hm : c ∈ ls := hu c (by simpa using List.mem_of_getElem? hi)
      refine ⟨rfl, _, rfl, rfl, _, rfl, ls, c, rfl, rfl, hm, _, rfl, ?_, ?_⟩
      · have := hL.ix hm
        have e3 : ∀ k : Nat, k < 3 → ((k : Int)).natAbs.log2 < 1920 := by decide
        exact e3 _ this
      · rw [dig _ (hL.ix hm)]
        exact put _ _ _ (Evl.Ex.refl _) rfl (.str _)
    · intro H2 acc e hD2 hA
      rw [flat_one] at hA
      have ha : acc = ((u.reverse.map fun c => 48 + ls.idxOf c).map chS).map V.str := by
        have h2 : (u.reverse.map fun c => PyData.str (chS (48 + ls.idxOf c))) = ((u.reverse.map fun c => 48 + ls.idxOf c).map chS).map PyData.str := by
          rw [List.map_map, List.map_map] <;> rfl
        rw [h2] at hA
        exact dps_strs hA
      rw [ha] at hD2
      refine ⟨_, D, _, rfl, rfl, .inl (SqL.of hD2), ?_, ?_⟩
      · rw [sum_chs, List.length_map, List.length_map, List.length_reverse]
        show u.length + u.length * 0 ≤ 16777216
        omega
      · rw [join_chs]
        exact q _ e
theorem d_key (T : Frees mg) (h : DfP K mg "_law_key" 51) : Df P w K mg base "_law_key" 1 ["_law_letters_here", "_law_word"] spKey :=
  h.df (fun _ _ F => ok_key T F) fun _ _ _ _ _ _ us hl => match us, hl with | [_, _], _ => rfl
def spBefore : Sp := fun vs H Q _ => ∃ (ls u v : List Nat), vs = [.str (wS ls), .str (wS u), .str (wS v)] ∧ LsOk ls ∧ (∀ c ∈ u, c ∈ ls) ∧ (∀ c ∈ v, c ∈ ls) ∧ u.length ≤ 100000 ∧ v.length ≤ 100000 ∧ ∀ H', Ex H H' → Q (.bl (decide (EM.kc ls u < EM.kc ls v))) H'
theorem scBefore : FnScope ["_law_letters_here", "_law_u", "_law_v"] ["_law_letters_here", "_law_u", "_law_v"] (defScope (top 52)) := ⟨rfl, rfl, rfl, by decide +kernel, rfl, by decide +kernel, by decide +kernel⟩
theorem ok_before (T : Frees mg) (D : DfP K mg "_law_key" 51) (F : FnP K "_law_before" "_law_before" (top 52) f fd) : FnOk P w K mg base CX0 2 f fd ["_law_letters_here", "_law_u", "_law_v"] spBefore := by
  refine F.ok scBefore (fun vs H Q E h => ?_) (fun cdv A outer s H vs Q E hr h => ?_)
  · obtain ⟨ls, u, v, rfl, _⟩ := h
    rfl
  · obtain ⟨ls, u, v, rfl, hL, hu, hv, zu, zv, q⟩ := h
    have Dk : Df P w K mg base "_law_key" 1 _ _ := d_key T D
    refine ⟨_, PSs.nox (pss_one (ps_ret (pe_cmpR op_lt_str (pe_df Dk (hr.mono (by decide)) rfl (pa_cons (pv 0) (pa_cons (pv 1) pa_nil))) (pe_df Dk (hr.mono (by decide)) rfl (pa_cons (pv 0) (pa_cons (pv 2) pa_nil))) (nomark _)))), ?_⟩
    refine ⟨_, rfl, _, rfl, ls, u, rfl, hL, hu, zu, fun H1 e1 => ⟨_, rfl, _, rfl, ls, v, rfl, hL, hv, zv, fun H2 e2 => ⟨_, _, rfl, rfl, ?_⟩⟩⟩
    rw [wS_cps, wS_cps]
    exact q H2 (e1.trans e2)
theorem d_before (T : Frees mg) (D : DfP K mg "_law_key" 51) (h : DfP K mg "_law_before" 52) : Df P w K mg base "_law_before" 2 ["_law_letters_here", "_law_u", "_law_v"] spBefore :=
  h.df (fun _ _ F => ok_before T D F) fun _ _ _ _ _ _ us hl => match us, hl with | [_, _, _], _ => rfl
end
end E

set_option maxRecDepth 100000
set_option maxHeartbeats 4000000
namespace E
open PySem PySem.Spec PyProof.Rows L2
def encW (u : List Nat) : PyData := .str (wS u)
def encI (i : Int) : PyData := .int i
theorem cr_sortW {X : Cx} (hu : X.A.units + 64 < cLine) : CallR X (.builtin "sorted") (rSortD X.K encW) :=
  cr_sortD (fun bs => PySem.W.AllAlike.of fun _ _ => rfl) (fun bs => .inr fun d hd => by
    obtain ⟨b, _, rfl⟩ := List.mem_map.mp hd
    exact ⟨(fun z => nomatch z), (fun _ z => nomatch z)⟩) (fun b => by show (PyData.str (wS b)).depth ≤ 2; simp [PyData.depth]) hu
theorem cr_sortN {X : Cx} (hu : X.A.units + 64 < cLine) : CallR X (.builtin "sorted") (rSortD X.K encI) :=
  cr_sortD (fun bs => PySem.W.AllAlike.of fun _ _ => rfl) (fun bs => .inr fun d hd => by
    obtain ⟨b, _, rfl⟩ := List.mem_map.mp hd
    exact ⟨(fun z => nomatch z), (fun _ z => nomatch z)⟩) (fun b => by show (PyData.int b).depth ≤ 2; simp [PyData.depth]) hu
theorem le_trans_w {a b c : List Nat} (h1 : a ≤ b) (h2 : b ≤ c) : a ≤ c := List.le_trans h1 h2
theorem leW : PySem.W.dataLe false encW = fun a b => decide (a ≤ b) := by
  have h := PySem.W.dataLe_str (β := List Nat) wS
  have e : (fun b => PyData.str (wS b)) = encW := rfl
  rw [e] at h
  rw [h]
  funext a b
  rw [wS_cps, wS_cps]
theorem leI : PySem.W.dataLe false encI = fun a b => decide (a ≤ b) := PySem.W.dataLe_int (β := Int) id
theorem sortW_pw (bs : List (List Nat)) : (bs.mergeSort (PySem.W.dataLe false encW)).Pairwise (· ≤ ·) := by
  rw [leW]
  have h := List.pairwise_mergeSort (le := fun (a b : List Nat) => decide (a ≤ b)) (fun a b c h1 h2 => decide_eq_true (List.le_trans (of_decide_eq_true h1) (of_decide_eq_true h2)))
    (fun a b => by
      rcases List.le_total a b with h | h
      · simp [h]
      · simp [h]) bs
  exact h.imp fun h => of_decide_eq_true h
theorem sortI_pw (bs : List Int) : (bs.mergeSort (PySem.W.dataLe false encI)).Pairwise (· ≤ ·) := by
  rw [leI]
  have h := List.pairwise_mergeSort (le := fun (a b : Int) => decide (a ≤ b)) (fun a b c h1 h2 => decide_eq_true (Int.le_trans (of_decide_eq_true h1) (of_decide_eq_true h2)))
    (fun a b => by
      rcases Int.le_total a b with h | h
      · simp [h]
      · simp [h]) bs
  exact h.imp fun h => of_decide_eq_true h
theorem lt_of_le_ne {a b : List Nat} (h : a ≤ b) (n : a ≠ b) : a < b := by
  rcases EM.tri a b with h1 | h1 | h1
  · exact h1
  · exact absurd h1 n
  · exact absurd h (List.not_le.mpr h1)
theorem pw_last {l : List (List Nat)} (h : l.Pairwise (· < ·)) {x : List Nat} (e : l.getLast? = some x) {y : List Nat} (hy : y ∈ l) : y ≤ x := by
  obtain ⟨l', rfl⟩ : ∃ l', l = l' ++ [x] := by
    rw [List.getLast?_eq_some_iff] at e
    exact e
  rcases List.mem_append.mp hy with h1 | h1
  · exact List.le_of_lt ((List.pairwise_append.mp h).2.2 y h1 x (by simp))
  · rw [List.mem_singleton.mp h1]
    exact List.le_refl _
/-- the word that a key tells -/
def dec (ls : List Nat) (k : List Nat) : List Nat := k.reverse.map fun d => ls.getD (d - 48) 0
theorem dec_kc {ls u : List Nat} (h : ∀ c ∈ u, c ∈ ls) : dec ls (EM.kc ls u) = u := by
  unfold dec EM.kc
  rw [← List.map_reverse, List.reverse_reverse, List.map_map]
  conv => rhs; rw [← List.map_id u]
  refine List.map_congr_left fun c hc => ?_
  have hlt : ls.idxOf c < ls.length := List.idxOf_lt_length_iff.mpr (h c hc)
  show ls.getD (48 + ls.idxOf c - 48) 0 = c
  rw [Nat.add_sub_cancel_left, List.getD_eq_getElem?_getD, List.getElem?_eq_getElem hlt]
  exact List.getElem_idxOf hlt
section
variable {P : Program} {w : World} {K : PySem.W.Frag} {mg : Str → Option Value} {base : Heap} {f : Addr} {fd : FuncData}
def wV (u : List Nat) : V := .str (wS u)
theorem dps_w {H : Hp} {vs : List V} {us : List (List Nat)} (h : DpAll K H vs (us.map encW)) : vs = us.map wV := by
  have h2 : us.map encW = (us.map wS).map PyData.str := by rw [List.map_map] <;> rfl
  rw [h2] at h
  rw [dps_strs h, List.map_map] <;> rfl
theorem dps_of_w {H : Hp} (us : List (List Nat)) : DpAll K H (us.map wV) (us.map encW) := by
  have h2 : us.map encW = (us.map wS).map PyData.str := by rw [List.map_map] <;> rfl
  have h3 : us.map wV = (us.map wS).map V.str := by rw [List.map_map] <;> rfl
  rw [h2, h3]
  exact dps_of_strs _
theorem atI_last {xs : List V} {x : V} (h : xs.getLast? = some x) : atI xs (-1) = some x := by
  have hne : 0 < xs.length := by
    rcases xs with _ | ⟨a, r⟩
    · cases h
    · exact Nat.succ_pos _
  have e : ((xs.length : Int) + (-1)) = ((xs.length - 1 : Nat) : Int) := by omega
  rw [List.getLast?_eq_getElem?] at h
  unfold atI ixN
  rw [if_neg (by decide), if_pos (by omega)]
  show xs[(-1 + (xs.length : Int)).toNat]? = some x
  rw [show (-1 + (xs.length : Int)).toNat = xs.length - 1 by omega]
  exact h
theorem eqv_nil (us : List PyData) : PyData.eqv (.list us) (.list []) = us.isEmpty := by
  cases us <;> rfl
theorem kc_low {ls u : List Nat} (hL : LsOk ls) (hu : ∀ c ∈ u, c ∈ ls) : ∀ d ∈ EM.kc ls u, d < 1114112 := fun d hd => by
  obtain ⟨c, hc, rfl⟩ := List.mem_map.mp hd
  have := hL.ix (hu c (by simpa using hc))
  omega
def spOrdered (K : PySem.W.Frag) : Sp := fun vs H Q _ => ∃ (ls : List Nat) (ws : List (List Nat)) (v : V), vs = [.str (wS ls), v] ∧ LsOk ls ∧ Dp K H v (.list (ws.map encW)) ∧ (∀ u ∈ ws, (∀ c ∈ u, c ∈ ls) ∧ u.length ≤ 600) ∧ ws.length ≤ 100000 ∧
  ∀ (r : Addr) (us : List (List Nat)) (H' : Hp), Ex H H' → (∀ u ∈ us, u ∈ ws) → us.Pairwise (fun u v => EM.kc ls u < EM.kc ls v) → us.length ≤ ws.length → SqL K H' r (us.map wV) → Q (.ref r) H'
def OrdI (H : Hp) (ls : List Nat) (a p r : Addr) (sr : List (List Nat)) (i : Nat) (σ : L2.St) (H' : Hp) : Prop := ∃ (found : List (List Nat)) (o1 o2 o3 : Option V), σ = [some (.str (wS ls)), some (.ref a), some (.ref p), some (.ref r), o1, o2, o3] ∧ Ex H H' ∧ H' p = some (.lst (sr.map wV)) ∧ H' r = some (.lst (found.map wV)) ∧
      found.length ≤ i ∧ found.Pairwise (· < ·) ∧ (∀ k ∈ found, k ∈ sr) ∧ ∀ k ∈ found, ∀ z ∈ sr.drop i, k ≤ z
theorem scOrdered : FnScope ["_law_letters_here", "_law_words", "_law_keys", "_law_found", "_law_key_here", "_law_word", "_law_sign"] ["_law_letters_here", "_law_words"] (defScope (top 53)) := ⟨rfl, rfl, rfl, by decide +kernel, rfl, by decide +kernel, by decide +kernel⟩
theorem ok_ordered (T : Frees mg) (D : DfP K mg "_law_key" 51) (F : FnP K "_law_ordered" "_law_ordered" (top 53) f fd) : FnOk P w K mg base CX0 2 f fd ["_law_letters_here", "_law_words"] (spOrdered K) := by
  refine F.ok scOrdered (fun vs H Q E h => ?_) (fun cdv A outer s H vs Q E hr h => ?_)
  · obtain ⟨ls, ws, v, rfl, _⟩ := h
    rfl
  · obtain ⟨ls, ws, v, rfl, hL, hv, hw, hz, q⟩ := h
    obtain ⟨a, xs, rfl, hS, hA⟩ := dp_lst hv
    obtain rfl := dps_w hA
    have hu := hr.units
    have Dk : Df P w K mg base "_law_key" 1 _ _ := d_key T D
    refine ⟨_, PSs.nox (pss_cons (ps_set (i := 2) scOrdered.nd rfl (Or.inl rfl) (pe_callB (cr_sortW hu) (by rfl) T.sorted boot_sorted (pa_cons (pe_lcD (own := [("_law_word", 5)]) s H rfl scOrdered.nd (pi_list (pv 1)) (blkOk_by (own := [("_law_word", 5)]) (N := ["_law_letters_here", "_law_words", "_law_keys", "_law_found", "_law_key_here", "_law_word", "_law_sign"]) (sc := (defScope (top 53))) (by decide +kernel)) (pg_name (i := 5) scOrdered.nd rfl (Or.inl rfl)) pts_nil (pe_df Dk (hr.mono (by decide)) rfl (pa_cons (pv 0) (pa_cons (pv 5) pa_nil))) (fun _ _ _ _ _ => (pg_name (i := 5) scOrdered.nd rfl (Or.inl rfl))) (fun _ _ _ _ _ => pts_nil) (fun _ _ _ _ _ => (pe_df Dk (hr.mono (by decide)) rfl (pa_cons (pv 0) (pa_cons (pv 5) pa_nil))))) pa_nil)))
      (pss_cons (ps_set (i := 3) scOrdered.nd rfl (Or.inl rfl) (pe_lst pa_nil))
      (pss_cons (ps_for PassesOwn.never rfl (pi_list (pv 2)) (pg_name (i := 4) scOrdered.nd rfl (Or.inl rfl))
        (pss_one (ps_if (PW.pt (pw_or (pt_cmpR (op_eqD hu) (pv 3) (pe_lst pa_nil) (nomark _)) (pw_or1 (pt_cmpR op_ne (pe_ix ix_list (pv 3) (pe_un un_neg pe_int) (fun _ _ => rfl)) (pv 4) (nomark _))))) (pss_one (ps_expr (pe_bm PySem.F.plainAttrs_list PySem.F.slot_list_append PySem.F.type_list_append mt_append (pv 3) (pa_cons (pv 4) pa_nil)))) pss_nil)))
      (pss_one (ps_ret (pe_lcD (own := [("_law_key_here", 4)]) s H rfl scOrdered.nd (pi_list (pv 3)) (blkOk_by (own := [("_law_key_here", 4)]) (N := ["_law_letters_here", "_law_words", "_law_keys", "_law_found", "_law_key_here", "_law_word", "_law_sign"]) (sc := (defScope (top 53))) (by decide +kernel)) (pg_name (i := 4) scOrdered.nd rfl (Or.inl rfl)) pts_nil (pe_join pe_str (pe_lcD (own := [("_law_sign", 6)]) s H rfl scOrdered.nd (pi_str (pe_revW (pv 4))) (blkOk_by (own := [("_law_sign", 6)]) (N := ["_law_letters_here", "_law_words", "_law_keys", "_law_found", "_law_key_here", "_law_word", "_law_sign"]) (sc := { kind := .function, names := [(".0", .local), ("_law_key_here", .local), ("_law_letters_here", .cell)], isGenerator := false, isCoroutine := false }) (by decide +kernel)) (pg_name (i := 6) scOrdered.nd rfl (Or.inl rfl)) pts_nil (pe_ix ix_str (pv 0) (pe_callTy call_int_str (by rfl) T.int boot_int (pa_cons (pv 6) pa_nil)) (fun _ _ => rfl)) (fun _ _ _ _ _ => (pg_name (i := 6) scOrdered.nd rfl (Or.inl rfl))) (fun _ _ _ _ _ => pts_nil) (fun _ _ _ _ _ => (pe_ix ix_str (pv 0) (pe_callTy call_int_str (by rfl) T.int boot_int (pa_cons (pv 6) pa_nil)) (fun _ _ => rfl))))) (fun _ _ _ _ _ => (pg_name (i := 4) scOrdered.nd rfl (Or.inl rfl))) (fun _ _ _ _ _ => pts_nil) (fun _ _ _ _ _ => (pe_join pe_str (pe_lcD (own := [("_law_sign", 6)]) s H rfl scOrdered.nd (pi_str (pe_revW (pv 4))) (blkOk_by (own := [("_law_sign", 6)]) (N := ["_law_letters_here", "_law_words", "_law_keys", "_law_found", "_law_key_here", "_law_word", "_law_sign"]) (sc := { kind := .function, names := [(".0", .local), ("_law_key_here", .local), ("_law_letters_here", .cell)], isGenerator := false, isCoroutine := false }) (by decide +kernel)) (pg_name (i := 6) scOrdered.nd rfl (Or.inl rfl)) pts_nil (pe_ix ix_str (pv 0) (pe_callTy call_int_str (by rfl) T.int boot_int (pa_cons (pv 6) pa_nil)) (fun _ _ => rfl)) (fun _ _ _ _ _ => (pg_name (i := 6) scOrdered.nd rfl (Or.inl rfl))) (fun _ _ _ _ _ => pts_nil) (fun _ _ _ _ _ => (pe_ix ix_str (pv 0) (pe_callTy call_int_str (by rfl) T.int boot_int (pa_cons (pv 6) pa_nil)) (fun _ _ => rfl)))))))))))), ?_⟩
    refine ⟨_, rfl, a, rfl, ⟨_, hS⟩, fun D1 hD1 => ?_⟩
    refine lc_data (K := K) (walk_list (xs := ws.map wV)) ws (fun u => [encW (EM.kc ls u)]) (by rw [List.length_map]) (by rw [List.length_map]; omega) hD1 (fun H2 e => Evl.ex_l e hS) ?_ ?_
    · rintro i u x H2 H' Nx hi e _ ⟨rfl, hx⟩ put skip
      rw [List.getElem?_map, hi] at hx
      obtain rfl := Option.some.inj hx
      have hm := List.mem_of_getElem? hi
      refine ⟨rfl, _, rfl, _, rfl, ls, u, rfl, hL, (hw u hm).1, Nat.le_trans (hw u hm).2 (by decide), fun H3 e3 => ?_⟩
      exact put _ _ _ e3 rfl (.str _)
    intro H2 acc e1 hacc hAcc
    rw [flat_one] at hAcc
    have hAcc' := dps_hid hAcc
    have h2 : (ws.map fun u => encW (EM.kc ls u)) = (ws.map (EM.kc ls)).map encW := by rw [List.map_map] <;> rfl
    rw [h2] at hAcc'
    refine ⟨D1, acc, ws.map (EM.kc ls), rfl, .inl (SqL.of hacc), hAcc', fun p ys hp hY => ?_⟩
    have hsrt := sortW_pw (ws.map (EM.kc ls))
    have hmem : ∀ k ∈ (ws.map (EM.kc ls)).mergeSort (PySem.W.dataLe false encW), ∃ u ∈ ws, EM.kc ls u = k := fun k hk => by
      have := (List.mergeSort_perm _ _).mem_iff.mp hk
      exact List.mem_map.mp this
    have hlen : ((ws.map (EM.kc ls)).mergeSort (PySem.W.dataLe false encW)).length = ws.length := by rw [List.length_mergeSort, List.length_map]
    generalize (ws.map (EM.kc ls)).mergeSort (PySem.W.dataLe false encW) = sr at hY hsrt hmem hlen
    obtain rfl := dps_w hY
    refine ⟨Nat.zero_le _, fun r hrr => ?_⟩
    obtain ⟨hrp, hr2⟩ := upd_nn hrr
    have eH : Ex H H2 := e1
    have hr0 : H r = none := ex_none eH hr2
    have e2 : Ex H (upd (upd H2 p (.lst (sr.map wV))) r (.lst [])) := ex_new (ex_new eH hp) hrr
    have hp0 : H p = none := ex_none eH hp
    refine ⟨_, rfl, p, rfl, ⟨_, SqL.of (by rw [upd_ne hrp.symm, upd_same])⟩, for_list (K := K) (xs := sr.map wV) (OrdI H ls a p r sr) ⟨[], _, _, _, rfl, e2, by rw [upd_ne hrp.symm, upd_same], upd_same, Nat.le_refl _, .nil, (fun _ h => by cases h), (fun _ h => by cases h)⟩ (fun i σ H' _ ⟨_, _, _, _, _, _, h, _⟩ => SqL.of h) ?_ ?_⟩
    · rintro i x σ H' hi ⟨found, o1, o2, o3, rfl, e, hp', hr', hfl, hpw, hin, hle⟩
      rw [List.getElem?_map] at hi
      cases hk : sr[i]? with
      | none => rw [hk] at hi; cases hi
      | some k =>
        rw [hk] at hi
        obtain rfl := Option.some.inj hi
        have hd := drop_at hk
        have hlek : ∀ y ∈ found, y ≤ k := fun y hy => hle y hy k (by rw [hd]; exact List.mem_cons_self)
        have hkz : ∀ z ∈ sr.drop (i + 1), k ≤ z := fun z hz => by
          have h3 : (k :: sr.drop (i + 1)).Pairwise (· ≤ ·) := by rw [← hd]; exact hsrt.sublist (List.drop_sublist _ _)
          exact (List.pairwise_cons.mp h3).1 z hz
        have stay : ∀ z ∈ sr.drop (i + 1), z ∈ sr.drop i := fun z hz => by rw [hd]; exact List.mem_cons_of_mem _ hz
        refine ⟨_, rfl, Nat.zero_le _, fun g hg => ⟨.list (found.map encW), .list [], .lst (SqL.of (by rw [upd_ne (ne_of_none hr' hg)]; exact hr')) (dps_of_w _), .lst (SqL.of upd_same) .nil, ?_, ?_, ?_⟩⟩
        · refine (okD.list (okD.map fun k hk => okD.str ?_)).shaped (by decide)
          obtain ⟨u, hu1, rfl⟩ := hmem k (hin k hk)
          exact kc_low hL (hw u hu1).1
        · exact (okD.list (n := 0) (fun _ h => by cases h)).shaped (by decide)
        · have hr3 : (upd H' g (.lst [])) r = some (.lst (found.map wV)) := by rw [upd_ne (ne_of_none hr' hg)]; exact hr'
          have hp3 : (upd H' g (.lst [])) p = some (.lst (sr.map wV)) := by rw [upd_ne (ne_of_none hp' hg)]; exact hp'
          have e3 : Ex H (upd H' g (.lst [])) := ex_new e hg
          have fin : (∀ y ∈ found, y < k) → OrdI H ls a p r sr (i + 1) [some (.str (wS ls)), some (.ref a), some (.ref p), some (.ref r), some (wV k), o2, o3] (upd (upd H' g (.lst [])) r (.lst (found.map wV ++ [wV k]))) := fun hlt => by
            refine ⟨found ++ [k], _, _, _, rfl, ex_upd e3 hr0, by rw [upd_ne hrp.symm]; exact hp3, by rw [upd_same, List.map_append]; rfl, by rw [List.length_append, List.length_singleton]; omega, ?_, ?_, ?_⟩
            · rw [List.pairwise_append]
              exact ⟨hpw, List.pairwise_singleton _ _, fun y hy z hz => by rw [List.mem_singleton.mp hz]; exact hlt y hy⟩
            · intro y hy
              rcases List.mem_append.mp hy with h1 | h1
              · exact hin y h1
              · rw [List.mem_singleton.mp h1]
                exact List.mem_of_getElem? hk
            · intro y hy z hz
              rcases List.mem_append.mp hy with h1 | h1
              · exact hle y h1 z (stay z hz)
              · rw [List.mem_singleton.mp h1]
                exact hkz z hz
          rw [eqv_nil]
          refine ⟨_, rfl, ?_⟩
          have hcase : found = [] ∨ ∃ x, found.getLast? = some x := by
            cases hc : found.getLast? with
            | none => exact .inl (List.getLast?_eq_none_iff.mp hc)
            | some x => exact .inr ⟨x, rfl⟩
          rcases hcase with rfl | ⟨x, hx⟩
          · exact ⟨_, rfl, ⟨.inl ⟨rfl, _, SqL.of hr3⟩, _, rfl, r, [], wV k, rfl, rfl, hr3, sz_lt (by show 0 < 16000000; decide), fin (fun _ h => by cases h)⟩⟩
          · have hne : found ≠ [] := fun z => by rw [z] at hx; cases hx
            have hem : (found.map encW).isEmpty = false := by
              cases found with
              | nil => exact absurd rfl hne
              | cons y t => rfl
            rw [hem]
            have hlV : (found.map wV).getLast? = some (wV x) := by
              rw [List.getLast?_map, hx] <;> rfl
            refine ⟨_, rfl, _, rfl, r, found.map wV, _, wV x, rfl, rfl, SqL.of hr3, atI_last hlV, _, rfl, rfl, _, rfl, ?_⟩
            refine ite2 (fun h1 => ?_) (fun h1 => ?_)
            · have hxk : x ≠ k := fun z => by
                rw [z] at h1
                simp at h1
              have hlt : ∀ y ∈ found, y < k := fun y hy => by
                refine lt_of_le_ne (hlek y hy) fun z => hxk ?_
                subst z
                exact List.le_antisymm (hlek x (List.mem_of_getLast? hx)) (pw_last hpw hx hy)
              exact ⟨_, rfl, ⟨.inl ⟨rfl, _, SqL.of hr3⟩, _, rfl, r, found.map wV, wV k, rfl, rfl, hr3, sz_lt (by rw [List.length_map]; have := lt_of_get hk; omega), fin hlt⟩⟩
            · exact ⟨found, _, _, _, rfl, e3, hp3, hr3, by omega, hpw, hin, fun y hy z hz => hle y hy z (stay z hz)⟩
    · rintro σ H' ⟨found, o1, o2, o3, rfl, e, hp', hr', hfl, hpw, hin, hle⟩
      rw [List.length_map] at hfl
      refine ⟨_, rfl, r, rfl, ⟨_, SqL.of hr'⟩, fun D2 hD2 => ?_⟩
      refine lc_data (K := K) (walk_list (xs := found.map wV)) found (fun k => [encW (dec ls k)]) (by rw [List.length_map]) (by rw [List.length_map]; omega) hD2 (fun H3 e3 => SqL.of (e3 _ _ hr')) ?_ ?_
      · rintro i k x H3 H4 Nx hi e3 _ ⟨rfl, hx⟩ put skip
        rw [List.getElem?_map, hi] at hx
        obtain rfl := Option.some.inj hx
        obtain ⟨u, hu1, hk⟩ := hmem k (hin k (List.mem_of_getElem? hi))
        subst hk
        rw [dec_kc (hw u hu1).1] at put
        have hul : (EM.kc ls u).length = u.length := by
          unfold EM.kc
          rw [List.length_map, List.length_reverse]
        refine ⟨rfl, ⟨_, rfl⟩, _, rfl, EM.kc ls u, rfl, by have := (hw u hu1).2; omega, _, rfl, fun D3 hD3 => ?_⟩
        refine lc_data (K := K) walk_w (EM.kc ls u).reverse (fun d => [.str (chS (ls.getD (d - 48) 0))]) rfl (by rw [List.length_reverse, hul]; have := (hw u hu1).2; omega) hD3 (fun _ _ => trivial) ?_ ?_
        · rintro j d x H5 H6 Nx2 hj e5 _ ⟨rfl, d', hd', rfl⟩ put2 skip2
          rw [hj] at hd'
          obtain rfl := Option.some.inj hd'
          have hmd : d ∈ EM.kc ls u := by simpa using List.mem_of_getElem? hj
          obtain ⟨c, hc, rfl⟩ := List.mem_map.mp hmd
          have hcl : c ∈ ls := (hw u hu1).1 c (by simpa using hc)
          have hix := hL.ix hcl
          have hlt : ls.idxOf c < ls.length := List.idxOf_lt_length_iff.mpr hcl
          refine ⟨rfl, _, rfl, _, rfl, _, _, rfl, dig_back _ hix, by show 1 ≤ 640; decide, ?_⟩
          refine ⟨_, _, c, rfl, rfl, by rw [wS_len]; exact sz_of (by have := hL.len; omega), ?_, ?_⟩
          · rw [wS_cps]
            exact atI_nat (by rw [List.getElem?_eq_getElem hlt, List.getElem_idxOf hlt])
          · refine put2 _ _ _ (Evl.Ex.refl _) rfl ?_
            have e7 : ls.getD (48 + ls.idxOf c - 48) 0 = c := by
              rw [Nat.add_sub_cancel_left, List.getD_eq_getElem?_getD, List.getElem?_eq_getElem hlt]
              exact List.getElem_idxOf hlt
            rw [e7]
            exact .str _
        · intro H5 acc5 e5 hacc5 hA5
          rw [flat_one] at hA5
          have ha5 : acc5 = (u.map chS).map V.str := by
            have h3 : ((EM.kc ls u).reverse.map fun d => PyData.str (chS (ls.getD (d - 48) 0))) = (u.map chS).map PyData.str := by
              rw [List.map_map]
              conv => rhs; rw [← dec_kc (hw u hu1).1]
              unfold dec
              rw [List.map_map] <;> rfl
            rw [h3] at hA5
            exact dps_strs hA5
          rw [ha5] at hacc5
          refine ⟨_, D3, _, rfl, rfl, .inl (SqL.of hacc5), ?_, ?_⟩
          · rw [sum_chs, List.length_map]
            show u.length + u.length * 0 ≤ 16777216
            have := (hw u hu1).2
            omega
          · rw [join_chs]
            exact put _ _ _ e5 rfl (.str _)
      · intro H3 acc3 e3 hacc3 hA3
        rw [flat_one] at hA3
        have h3 : (found.map fun k => encW (dec ls k)) = (found.map (dec ls)).map encW := by rw [List.map_map] <;> rfl
        rw [h3] at hA3
        obtain rfl := dps_w hA3
        refine q D2 (found.map (dec ls)) H3 (e.trans e3) ?_ ?_ (by rw [List.length_map]; omega) (SqL.of hacc3)
        · intro u hu1
          obtain ⟨k, hk, rfl⟩ := List.mem_map.mp hu1
          obtain ⟨u, hu2, rfl⟩ := hmem k (hin k hk)
          rw [dec_kc (hw u hu2).1]
          exact hu2
        · rw [List.pairwise_map]
          refine hpw.imp_of_mem fun {x y} hx hy h => ?_
          obtain ⟨u, hu2, rfl⟩ := hmem x (hin x hx)
          obtain ⟨u', hu3, rfl⟩ := hmem y (hin y hy)
          rw [dec_kc (hw u hu2).1, dec_kc (hw u' hu3).1]
          exact h
theorem d_ordered (T : Frees mg) (D : DfP K mg "_law_key" 51) (h : DfP K mg "_law_ordered" 53) : Df P w K mg base "_law_ordered" 2 ["_law_letters_here", "_law_words"] (spOrdered K) :=
  h.df (fun _ _ F => ok_ordered T D F) fun _ _ _ _ _ _ us hl => match us, hl with | [_, _], _ => rfl
end
end E

set_option maxRecDepth 100000
set_option maxHeartbeats 4000000
namespace E
open PySem PySem.Spec PyProof.Rows L2
abbrev WP := List Nat × Int
def prW (x : WP) : PyData := .tuple [.str (wS x.1), .int x.2]
structure LvW (L : List Ln) (ls : List Nat) (n : Nat) (x : WP) : Prop where
  at_ : EM.leads L (some 0) x.1 = some x.2
  let_ : ∀ c ∈ x.1, c ∈ ls
  len : x.1.length ≤ n
section
variable {P : Program} {w : World} {K : PySem.W.Frag} {mg : Str → Option Value} {base : Heap} {f : Addr} {fd : FuncData}
theorem dps_prW {H : Hp} {xs : List V} {lw : List WP} {i : Nat} {v : V} (h : DpAll K H xs (lw.map prW)) (e : xs[i]? = some v) : ∃ x a, lw[i]? = some x ∧ v = .ref a ∧ SqT K H a [.str (wS x.1), .int x.2] := by
  obtain ⟨d, h1, h2⟩ := dps_at h e
  rw [List.getElem?_map] at h1
  cases q : lw[i]? with
  | none => rw [q] at h1; cases h1
  | some x =>
    rw [q] at h1
    have h3 : prW x = d := Option.some.inj h1
    rw [← h3] at h2
    obtain ⟨a, xs, rfl, h4, h5⟩ := dp_tup h2
    cases h5 with
    | cons p t =>
      cases t with
      | cons p2 t =>
        cases t
        rw [dp_str p, dp_int p2] at h4
        exact ⟨x, a, rfl, rfl, h4⟩
theorem dp_prW {H : Hp} {a : Addr} {u : List Nat} {p : Int} (h : H a = some (.tup [.str (wS u), .int p])) : Dp K H (.ref a) (prW (u, p)) := .tup (SqT.of h) (.cons (.str _) (.cons (.int _) .nil))
def spLevels (K : PySem.W.Frag) : Sp := fun vs H Q _ => ∃ (v : V) (L : List Ln) (ls : List Nat), vs = [v, .str (wS ls), .int 5] ∧ LsOk ls ∧ Dp K H v (lnsD L) ∧
  ∀ (r : Addr) (fw : List WP) (H' : Hp), Ex H H' → (∀ x ∈ fw, LvW L ls 5 x) → fw.length ≤ 2000 → Dp K H' (.ref r) (.list (fw.map prW)) → Q (.ref r) H'
/-- the turns -/
def LvO (K : PySem.W.Frag) (H : Hp) (v : V) (ls : List Nat) (L : List Ln) (fa : Addr) (i : Nat) (σ : L2.St) (H' : Hp) : Prop := ∃ (la : Addr) (fx lx : List V) (fw lw : List WP) (o5 o6 o7 o8 o9 o10 : Option V),
  σ = [some v, some (.str (wS ls)), some (.int 5), some (.ref fa), some (.ref la), o5, o6, o7, o8, o9, o10] ∧ Ex H H' ∧ H' fa = some (.lst fx) ∧ DpAll K (hid [fa] H') fx (fw.map prW) ∧ SqL K (hid [fa] H') la lx ∧ DpAll K (hid [fa] H') lx (lw.map prW) ∧
  (∀ x ∈ fw, LvW L ls 5 x) ∧ (∀ x ∈ lw, LvW L ls i x) ∧ lw.length ≤ 3 ^ i ∧ fw.length ≤ (i + 1) * 243
/-- the words of a level, b letters looked at in all -/
def LvI (K : PySem.W.Frag) (H1 : Hp) (v : V) (ls : List Nat) (L : List Ln) (fa la r : Addr) (t : Nat) (o5 : Option V) (b : Nat) (tl : List (Option V) → Prop) (σ : L2.St) (H' : Hp) : Prop := ∃ (rx : List V) (rw_ : List WP) (os : List (Option V)),
  σ = [some v, some (.str (wS ls)), some (.int 5), some (.ref fa), some (.ref la), o5, some (.ref r)] ++ os ∧ tl os ∧ Ex H1 H' ∧ H' r = some (.lst rx) ∧ DpAll K (hid [fa, r] H') rx (rw_.map prW) ∧ (∀ x ∈ rw_, LvW L ls (t + 1) x) ∧ rw_.length ≤ b
theorem scLevels : FnScope ["_law_lanes", "_law_letters_here", "_law_most", "_law_found", "_law_level", "_law_turn", "_law_further", "_law_word", "_law_p", "_law_letter", "_law_q"] ["_law_lanes", "_law_letters_here", "_law_most"] (defScope (top 56)) := ⟨rfl, rfl, rfl, by decide +kernel, rfl, by decide +kernel, by decide +kernel⟩
theorem ok_levels (T : Frees mg) (D : DfP K mg "_law_goes" 54) (F : FnP K "_law_levels" "_law_levels" (top 56) f fd) : FnOk P w K mg base CX0 2 f fd ["_law_lanes", "_law_letters_here", "_law_most"] (spLevels K) := by
  refine F.ok scLevels (fun vs H Q E h => ?_) (fun cdv A outer s H vs Q E hr h => ?_)
  · obtain ⟨v, L, ls, rfl, _⟩ := h
    rfl
  · obtain ⟨v, L, ls, rfl, hL, hv, q⟩ := h
    have Dg : Df P w K mg base "_law_goes" 1 _ _ := d_goes D
    refine ⟨_, PSs.nox (pss_cons (ps_set (i := 3) scLevels.nd rfl (Or.inl rfl) (pe_lst (pa_cons (pe_tup (pa_cons pe_str (pa_cons pe_int pa_nil))) pa_nil)))
      (pss_cons (ps_set (i := 4) scLevels.nd rfl (Or.inl rfl) (pe_lst (pa_cons (pe_tup (pa_cons pe_str (pa_cons pe_int pa_nil))) pa_nil)))
      (pss_cons (ps_for PassesOwn.never rfl (pi_range1 rfl T.range (pa_cons (pv 2) pa_nil)) (pg_name (i := 5) scLevels.nd rfl (Or.inl rfl))
        (pss_cons (ps_set (i := 6) scLevels.nd rfl (Or.inl rfl) (pe_lst pa_nil))
      (pss_cons (ps_for PassesOwn.never rfl (pi_list (pv 4)) (pg_tup rfl (pgs_cons (pg_name (i := 7) scLevels.nd rfl (Or.inl rfl)) (pgs_cons (pg_name (i := 8) scLevels.nd rfl (Or.inl rfl)) pgs_nil)))
        (pss_one (ps_for PassesOwn.never rfl (pi_str (pv 1)) (pg_name (i := 9) scLevels.nd rfl (Or.inl rfl))
        (pss_cons (ps_set (i := 10) scLevels.nd rfl (Or.inl rfl) (pe_df Dg (hr.mono (by decide)) rfl (pa_cons (pv 0) (pa_cons (pv 8) (pa_cons (pv 9) pa_nil)))))
      (pss_one (ps_if (pt_cmpR op_notN (pv 10) pe_non (nomark _)) (pss_one (ps_expr (pe_bm PySem.F.plainAttrs_list PySem.F.slot_list_append PySem.F.type_list_append mt_append (pv 6) (pa_cons (pe_tup (pa_cons (pe_op op_add_str (pv 7) (pv 9)) (pa_cons (pv 10) pa_nil))) pa_nil)))) pss_nil))))))
      (pss_cons (ps_expr (pe_bm PySem.F.plainAttrs_list PySem.F.slot_list_extend PySem.F.type_list_extend mt_extend (pv 3) (pa_cons (pv 6) pa_nil)))
      (pss_one (ps_set (i := 4) scLevels.nd rfl (Or.inl rfl) (pe_callTy call_list_of (by rfl) T.list boot_list (pa_cons (pv 6) pa_nil))))))))
      (pss_one (ps_ret (pv 3)))))), ?_⟩
    have nilW : LvW L ls 0 ([], 0) := ⟨rfl, (fun _ h => by cases h), Nat.le_refl _⟩
    refine ⟨len2 _ _, fun t1 ht1 => ⟨len1 _, fun fa hfa => ?_⟩⟩
    refine ⟨len2 _ _, fun t2 ht2 => ⟨len1 _, fun la hla => ?_⟩⟩
    obtain ⟨hf1, hf0⟩ := upd_nn hfa
    obtain ⟨h21, ht2'⟩ := upd_nn ht2
    obtain ⟨h22, ht2''⟩ := upd_nn ht2'
    obtain ⟨hl1, hla'⟩ := upd_nn hla
    obtain ⟨hl2, hla''⟩ := upd_nn hla'
    obtain ⟨hl3, hl0⟩ := upd_nn hla''
    have e0 : Ex H (upd (upd (upd (upd H t1 (.tup [.str "", .int 0])) fa (.lst [.ref t1])) t2 (.tup [.str "", .int 0])) la (.lst [.ref t2])) := ex_new (ex_new (ex_new (Evl.Ex.new ht1) hfa) ht2) hla
    refine ⟨_, rfl, _, rfl, by decide, by decide, for_range (lo := 0) (n := 5) (LvO K H v ls L fa) ⟨la, [.ref t1], [.ref t2], [([], 0)], [([], 0)], _, _, _, _, _, _, rfl, e0, ?_, ?_, ?_, ?_, ?_, ?_, ?_, ?_⟩ ?_ ?_⟩
    · rw [upd_ne hl2.symm, upd_ne h21.symm, upd_same]
    · refine dps_one (dp_prW ?_)
      rw [hid_at (by simpa using hf1.symm), upd_ne hl3.symm, upd_ne h22.symm, upd_ne hf1.symm, upd_same, nil_wS]
    · exact SqL.of (by rw [hid_at (by simpa using hl2), upd_same])
    · refine dps_one (dp_prW ?_)
      rw [hid_at (by simpa using h21), upd_ne hl1.symm, upd_same, nil_wS]
    · intro x hx
      rw [List.mem_singleton.mp hx]
      exact ⟨rfl, (fun _ h => by cases h), Nat.zero_le _⟩
    · intro x hx
      rw [List.mem_singleton.mp hx]
      exact nilW
    · exact Nat.le_refl _
    · decide
    · rintro i σ H1 hi ⟨la, fx, lx, fw, lw, o5, o6, o7, o8, o9, o10, rfl, e1, hF, hFd, hLs, hLd, gF, gL, zL, zF⟩
      have hp : 3 ^ i ≤ 243 := by
        have : i ≤ 5 := by omega
        calc 3 ^ i ≤ 3 ^ 5 := Nat.pow_le_pow_right (by decide) this
          _ = 243 := by decide
      have hlx : lx.length = lw.length := by
        have := dps_len hLd
        rw [List.length_map] at this
        exact this
      have hfx : fx.length = fw.length := by
        have := dps_len hFd
        rw [List.length_map] at this
        exact this
      refine ⟨Nat.zero_le _, fun r hrn => ?_⟩
      have hLs1 : SqL K H1 la lx := Evl.ex_l (hid_ex _ _) hLs
      have hLd1 := dps_hid hLd
      have hfr : fa ≠ r := ne_of_none hF hrn
      have hr0 : H r = none := ex_none e1 hrn
      have frn : r ∉ [fa] := by simpa using hfr.symm
      refine ⟨_, rfl, la, rfl, ⟨_, Evl.ex_l (Evl.Ex.new hrn) hLs1⟩, for_list (K := K) (xs := lx) (fun j σ H' => LvI K H1 v ls L fa la r i (some (.int (0 + (i : Nat)))) (3 * j) (fun os => ∃ o7 o8 o9 o10, os = [o7, o8, o9, o10]) σ H')
        ⟨[], [], _, rfl, ⟨_, _, _, _, rfl⟩, Evl.Ex.new hrn, upd_same, .nil, (fun _ h => by cases h), Nat.zero_le _⟩ (fun j σ H' _ hI => ?_) ?_ ?_⟩
      · obtain ⟨rx, rw_, os, _, _, e, _⟩ := hI
        exact Evl.ex_l e hLs1
      · rintro j x σ H2 hj ⟨rx, rw_, os, rfl, ⟨o7, o8, o9, o10, rfl⟩, e2, hR, hRd, gR, zR⟩
        obtain ⟨⟨u, p⟩, b, hb, rfl, hT⟩ := dps_prW hLd1 hj
        have gx := gL _ (List.mem_of_getElem? hb)
        refine ⟨b, _, rfl, Evl.ex_t e2 hT, rfl, ?_⟩
        refine ⟨_, _, rfl, _, _, rfl, rfl, _, rfl, _, rfl, for_w (fun k σ H' => LvI K H1 v ls L fa la r i (some (.int (0 + (i : Nat)))) (3 * j + k) (fun os => ∃ o9 o10, os = [some (.str (wS u)), some (.int p), o9, o10]) σ H')
          ⟨rx, rw_, _, rfl, ⟨_, _, rfl⟩, e2, hR, hRd, gR, zR⟩ ?_ ?_⟩
        · rintro k c σ H3 hk ⟨rx, rw_, os, rfl, ⟨o9, o10, rfl⟩, e3, hR, hRd, gR, zR⟩
          have hc : c ∈ ls := List.mem_of_getElem? hk
          refine ⟨_, rfl, _, rfl, _, rfl, v, L, p, c, rfl, dp_mono (e1.trans e3) hv, fun H4 e4 => ?_⟩
          have hR4 := e4 _ _ hR
          have hRd4 := dps_mono (hid_mono (S := [fa, r]) e4) hRd
          have e14 := e3.trans e4
          refine ⟨_, rfl, rfl, _, rfl, ?_⟩
          rw [oI_non]
          cases hg : EM.goes L p c with
          | none =>
            refine iteF ?_
            exact ⟨rx, rw_, _, rfl, ⟨_, _, rfl⟩, e14, hR4, hRd4, gR, by omega⟩
          | some q' =>
            refine iteT ⟨_, rfl, .inl ⟨rfl, _, SqL.of hR4⟩, _, rfl, _, rfl, _, _, rfl, rfl, ?_, _, rfl, len2 _ _, fun t ht => ⟨r, rx, _, rfl, rfl, ?_, ?_, ?_⟩⟩
            · rw [wS_len]
              have h5 : u.length ≤ i := gx.len
              show u.length + 1 ≤ sizeLine
              exact sz_of (by omega)
            · rw [upd_ne (ne_of_none hR4 ht)]
              exact hR4
            · have h5 : rx.length = rw_.length := by rw [dps_len hRd, List.length_map]
              have h6 := hL.len
              have h7 := lt_of_get hk
              have hjl := lt_of_get hj
              rw [hlx] at hjl
              rw [h5]
              exact sz_lt (by omega)
            · have htr : t ≠ r := (ne_of_none hR4 ht).symm
              have htf : t ≠ fa := fun z => by
                have := e14 _ _ hF
                rw [z] at ht
                rw [ht] at this
                cases this
              refine ⟨rx ++ [.ref t], rw_ ++ [(u ++ [c], q')], _, rfl, ⟨_, _, rfl⟩, ?_, upd_same, ?_, ?_, ?_⟩
              · exact ex_upd (ex_new e14 ht) hrn
              · rw [List.map_append, hid_upd (by simp)]
                refine dps_app (dps_mono (hid_mono (Evl.Ex.new ht)) hRd4) (dps_one (dp_prW ?_))
                rw [hid_at (by simp [htr, htf]), upd_same, wS_snoc]
                rfl
              · intro x hx
                rcases List.mem_append.mp hx with h1 | h1
                · exact gR x h1
                · rw [List.mem_singleton.mp h1]
                  refine ⟨?_, ?_, ?_⟩
                  · show EM.leads L (some 0) (u ++ [c]) = some q'
                    rw [EM.leads_snoc, gx.at_]
                    exact hg
                  · intro d hd
                    rcases List.mem_append.mp hd with h2 | h2
                    · exact gx.let_ d h2
                    · rw [List.mem_singleton.mp h2]; exact hc
                  · show (u ++ [c]).length ≤ i + 1
                    rw [List.length_append, List.length_singleton]
                    have := gx.len
                    exact Nat.succ_le_succ this
              · rw [List.length_append, List.length_singleton]
                omega
        · rintro σ H3 ⟨rx, rw_, os, rfl, ⟨o9, o10, rfl⟩, e3, hR, hRd, gR, zR⟩
          exact ⟨rx, rw_, _, rfl, ⟨_, _, _, _, rfl⟩, e3, hR, hRd, gR, by have := hL.len; omega⟩
      · rintro σ H2 ⟨rx, rw_, os, rfl, ⟨o7, o8, o9, o10, rfl⟩, e2, hR, hRd, gR, zR⟩
        have hF2 := e2 _ _ hF
        have hrx : rx.length = rw_.length := by
          have := dps_len hRd
          rw [List.length_map] at this
          exact this
        have hz2 : rw_.length ≤ 3 * 3 ^ i := by omega
        have hp3 : 3 * 3 ^ i = 3 ^ (i + 1) := by rw [Nat.pow_succ, Nat.mul_comm]
        have hp4 : 3 ^ (i + 1) ≤ 243 := by
          calc 3 ^ (i + 1) ≤ 3 ^ 5 := Nat.pow_le_pow_right (by decide) (by omega)
            _ = 243 := by decide
        have hRd2 : DpAll K (hid [fa] H2) rx (rw_.map prW) := dps_mono (fun a o q => by
          unfold hid at q ⊢
          split at q
          · cases q
          · rename_i hb
            rw [if_neg (fun z => hb (by simp at z; simp [z]))]
            exact q) hRd
        refine ⟨_, rfl, .inl ⟨rfl, _, SqL.of hF2⟩, _, rfl, fa, r, fx, rx, rfl, rfl, hF2, hR, sz_of (by omega), ?_⟩
        have hr2 : (upd H2 fa (.lst (fx ++ rx))) r = some (.lst rx) := by rw [upd_ne hfr.symm]; exact hR
        refine ⟨_, rfl, r, rx, rfl, .inl (SqL.of hr2), fun l hl => ?_⟩
        obtain ⟨hlf, hl2⟩ := upd_nn hl
        have hid2 : Ex (hid [fa] H2) (hid [fa] (upd (upd H2 fa (.lst (fx ++ rx))) l (.lst rx))) := by
          have h3 := hid_new (S := [fa]) (o := .lst rx) hl
          rw [hid_upd (by simp)] at h3
          exact h3
        have hfd2 : DpAll K (hid [fa] H2) fx (fw.map prW) := dps_mono (hid_mono e2) hFd
        refine ⟨l, fx ++ rx, rx, fw ++ rw_, rw_, _, _, _, _, _, _, rfl, ?_, ?_, ?_, ?_, ?_, ?_, ?_, ?_, ?_⟩
        · exact ex_new (ex_upd (e1.trans e2) hf0) hl
        · rw [upd_ne hlf.symm, upd_same]
        · rw [List.map_append]
          exact dps_mono hid2 (dps_app hfd2 hRd2)
        · exact SqL.of (by rw [hid_at (by simpa using hlf), upd_same])
        · exact dps_mono hid2 hRd2
        · intro x hx
          rcases List.mem_append.mp hx with h1 | h1
          · exact gF x h1
          · exact ⟨(gR x h1).at_, (gR x h1).let_, Nat.le_trans (gR x h1).len (by omega)⟩
        · exact gR
        · omega
        · rw [List.length_append]
          omega
    · rintro σ H1 ⟨la, fx, lx, fw, lw, o5, o6, o7, o8, o9, o10, rfl, e1, hF, hFd, hLs, hLd, gF, gL, zL, zF⟩
      exact ⟨_, rfl, q fa fw H1 e1 gF (by omega) (.lst (SqL.of hF) (dps_hid hFd))⟩
theorem d_levels (T : Frees mg) (D : DfP K mg "_law_goes" 54) (h : DfP K mg "_law_levels" 56) : Df P w K mg base "_law_levels" 2 ["_law_lanes", "_law_letters_here", "_law_most"] (spLevels K) :=
  h.df (fun _ _ F => ok_levels T D F) fun _ _ _ _ _ _ us hl => match us, hl with | [_, _, _], _ => rfl
end
end E

set_option maxRecDepth 100000
set_option maxHeartbeats 4000000
namespace EM
/-! ### what _law_useful leaves -/
structure Good (L : List Ln) (E : List Int) : Prop where
  det : DetP L
  at_ : ∀ l ∈ L, (Reach L l.1 ∧ Co L E l.1) ∧ (Reach L l.2.2 ∧ Co L E l.2.2)
  ends : ∀ e ∈ E, Reach L e
  zero : (L = [] ∧ E = []) ∨ Co L E 0
/-- each is 0 or one that a lane leads to from an earlier one -/
def Met (L : List Ln) (mt : List Int) : Prop := ∀ (i : Nat) (p : Int), mt[i]? = some p → p = 0 ∨ ∃ (j : Nat) (r : Int) (c : Nat), j < i ∧ mt[j]? = some r ∧ (r, c, p) ∈ L
/-- each is an end or one that a lane leads from to an earlier one -/
def Fnd (L : List Ln) (E : List Int) (fs : List Int) : Prop := ∀ (i : Nat) (p : Int), fs[i]? = some p → p ∈ E ∨ ∃ (j : Nat) (q : Int) (c : Nat), j < i ∧ fs[j]? = some q ∧ (p, c, q) ∈ L
theorem Met.snoc {L : List Ln} {mt : List Int} (h : Met L mt) {r : Int} {c : Nat} {p : Int} (hr : r ∈ mt) (hl : (r, c, p) ∈ L) : Met L (mt ++ [p]) := by
  intro i x hx
  rcases Nat.lt_or_ge i mt.length with hi | hi
  · rw [List.getElem?_append_left hi] at hx
    rcases h i x hx with h1 | ⟨j, r', c', h1, h2, h3⟩
    · exact .inl h1
    · exact .inr ⟨j, r', c', h1, by rw [List.getElem?_append_left (by omega)]; exact h2, h3⟩
  · rw [List.getElem?_append_right hi] at hx
    have e : i - mt.length = 0 := by
      obtain ⟨h1, _⟩ := List.getElem?_eq_some_iff.mp hx
      simp at h1
      omega
    rw [e] at hx
    have e2 : p = x := Option.some.inj hx
    subst e2
    obtain ⟨j, hj⟩ := List.mem_iff_getElem?.mp hr
    obtain ⟨hj1, _⟩ := List.getElem?_eq_some_iff.mp hj
    exact .inr ⟨j, r, c, by omega, by rw [List.getElem?_append_left hj1]; exact hj, hl⟩
theorem Fnd.snoc {L : List Ln} {E fs : List Int} (h : Fnd L E fs) {q : Int} {c : Nat} {p : Int} (hq : q ∈ fs) (hl : (p, c, q) ∈ L) : Fnd L E (fs ++ [p]) := by
  intro i x hx
  rcases Nat.lt_or_ge i fs.length with hi | hi
  · rw [List.getElem?_append_left hi] at hx
    rcases h i x hx with h1 | ⟨j, r', c', h1, h2, h3⟩
    · exact .inl h1
    · exact .inr ⟨j, r', c', h1, by rw [List.getElem?_append_left (by omega)]; exact h2, h3⟩
  · rw [List.getElem?_append_right hi] at hx
    have e : i - fs.length = 0 := by
      obtain ⟨h1, _⟩ := List.getElem?_eq_some_iff.mp hx
      simp at h1
      omega
    rw [e] at hx
    have e2 : p = x := Option.some.inj hx
    subst e2
    obtain ⟨j, hj⟩ := List.mem_iff_getElem?.mp hq
    obtain ⟨hj1, _⟩ := List.getElem?_eq_some_iff.mp hj
    exact .inr ⟨j, q, c, by omega, by rw [List.getElem?_append_left hj1]; exact hj, hl⟩
def keepL (fs : List Int) (L : List Ln) : List Ln := L.filter fun l => decide (l.1 ∈ fs) && decide (l.2.2 ∈ fs)
def keepE (fs : List Int) (E : List Int) : List Int := E.filter fun e => decide (e ∈ fs)
theorem mem_keepL {fs : List Int} {L : List Ln} {l : Ln} : l ∈ keepL fs L ↔ l ∈ L ∧ l.1 ∈ fs ∧ l.2.2 ∈ fs := by
  unfold keepL
  rw [List.mem_filter, Bool.and_eq_true, decide_eq_true_eq, decide_eq_true_eq]
theorem mem_keepE {fs E : List Int} {e : Int} : e ∈ keepE fs E ↔ e ∈ E ∧ e ∈ fs := by
  unfold keepE
  rw [List.mem_filter, decide_eq_true_eq]
theorem useful_good {L : List Ln} {E mt fs : List Int} (d : DetP L) (hm : Met L mt) (hf : Fnd L E fs) (hs : ∀ p ∈ fs, p ∈ mt) (hc : ∀ l ∈ L, l.2.2 ∈ fs → l.1 ∈ mt → l.1 ∈ fs) (h0 : (0 : Int) ∈ fs) : Good (keepL fs L) (keepE fs E) := by
  have co : ∀ (n i : Nat) (p : Int), i ≤ n → fs[i]? = some p → Co (keepL fs L) (keepE fs E) p := by
    intro n
    induction n with
    | zero =>
      intro i p hi hp
      rcases hf i p hp with h1 | ⟨j, q, c, h1, _⟩
      · exact .e (mem_keepE.mpr ⟨h1, List.mem_of_getElem? hp⟩)
      · omega
    | succ n ih =>
      intro i p hi hp
      rcases hf i p hp with h1 | ⟨j, q, c, h1, h2, h3⟩
      · exact .e (mem_keepE.mpr ⟨h1, List.mem_of_getElem? hp⟩)
      · exact .s (mem_keepL.mpr ⟨h3, List.mem_of_getElem? hp, List.mem_of_getElem? h2⟩) (ih j q (by omega) h2)
  have co' : ∀ p ∈ fs, Co (keepL fs L) (keepE fs E) p := fun p hp => by
    obtain ⟨i, hi⟩ := List.mem_iff_getElem?.mp hp
    exact co i i p (Nat.le_refl _) hi
  have re : ∀ (n i : Nat) (p : Int), i ≤ n → mt[i]? = some p → p ∈ fs → Reach (keepL fs L) p := by
    intro n
    induction n with
    | zero =>
      intro i p hi hp _
      rcases hm i p hp with h1 | ⟨j, q, c, h1, _⟩
      · rw [h1]; exact .z
      · omega
    | succ n ih =>
      intro i p hi hp hpf
      rcases hm i p hp with h1 | ⟨j, r, c, h1, h2, h3⟩
      · rw [h1]; exact .z
      · have hr : r ∈ fs := hc _ h3 hpf (List.mem_of_getElem? h2)
        exact .s (ih j r (by omega) h2 hr) (mem_keepL.mpr ⟨h3, hr, hpf⟩)
  have re' : ∀ p ∈ fs, Reach (keepL fs L) p := fun p hp => by
    obtain ⟨i, hi⟩ := List.mem_iff_getElem?.mp (hs p hp)
    exact re i i p (Nat.le_refl _) hi hp
  refine ⟨d.sublist (List.filter_sublist), fun l hl => ?_, fun e he => re' e (mem_keepE.mp he).2, .inr (co' 0 h0)⟩
  obtain ⟨_, h1, h2⟩ := mem_keepL.mp hl
  exact ⟨⟨re' _ h1, co' _ h1⟩, re' _ h2, co' _ h2⟩
theorem good_nil : Good [] [] := ⟨List.Pairwise.nil, (fun _ h => by cases h), (fun _ h => by cases h), .inl ⟨rfl, rfl⟩⟩
/-- a round that adds nothing leaves nothing to add -/
def todo (L : List Ln) (fs : List Int) : List Ln := L.filter fun l => !decide (l.1 ∈ fs)
theorem todo_mono {L : List Ln} {fs gs : List Int} (h : ∀ p ∈ fs, p ∈ gs) : (todo L gs).length ≤ (todo L fs).length :=
  filter_length_le _ _ L fun l _ hl => by
    simp only [Bool.not_eq_true', decide_eq_false_iff_not] at hl ⊢
    exact fun z => hl (h _ z)
theorem todo_lt {L : List Ln} {fs gs : List Int} (h : ∀ p ∈ fs, p ∈ gs) {l : Ln} (hl : l ∈ L) (h1 : l.1 ∉ fs) (h2 : l.1 ∈ gs) : (todo L gs).length < (todo L fs).length :=
  filter_length_lt _ _ L l hl (by simp [h2]) (by simp [h1]) fun l _ hl => by
    simp only [Bool.not_eq_true', decide_eq_false_iff_not] at hl ⊢
    exact fun z => hl (h _ z)
end EM
namespace E
open PySem PySem.Spec PyProof.Rows L2
theorem eqV_int (a b : Int) : eqV (.int a) (.int b) = decide (a = b) := by
  show (a == b) = decide (a = b)
  rfl
theorem inV_int (i : Int) : ∀ ns : List Int, inV (.int i) (ns.map V.int) = decide (i ∈ ns) := by
  intro ns
  have h : ∀ b : Bool, (b = true ↔ i ∈ ns) → b = decide (i ∈ ns) := fun b hb => by
    by_cases hi : i ∈ ns
    · rw [decide_eq_true hi]; exact hb.mpr hi
    · rw [decide_eq_false hi]
      cases b with
      | false => rfl
      | true => exact absurd (hb.mp rfl) hi
  refine h _ ?_
  unfold inV
  rw [List.any_eq_true]
  constructor
  · rintro ⟨x, hx, he⟩
    obtain ⟨j, hj, rfl⟩ := List.mem_map.mp hx
    rw [eqV_int] at he
    rw [← of_decide_eq_true he]
    exact hj
  · intro hi
    exact ⟨.int i, List.mem_map.mpr ⟨i, hi, rfl⟩, by rw [eqV_int]; exact decide_eq_true rfl⟩
theorem flat_ints (ns : List Int) : (ns.map V.int).all flatV = true := by
  rw [List.all_eq_true]
  rintro x hx
  obtain ⟨j, _, rfl⟩ := List.mem_map.mp hx
  rfl
theorem cut_one {xs : List V} : cutV xs none (some 1) = xs.take 1 := by
  have e : (1 : Int) = ((1 : Nat) : Int) := rfl
  unfold cutV
  rw [e, HT.sIx_none, HT.sIx_nat, List.drop_zero, Nat.sub_zero]
  cases xs with
  | nil => rfl
  | cons a r => simp
section
variable {P : Program} {w : World} {K : PySem.W.Frag} {mg : Str → Option Value} {base : Heap} {f : Addr} {fd : FuncData}
theorem ints_of_filter {H : Hp} {acc : List V} {α : Type} {c : α → Bool} {g : α → Int} {L : List α} (h : DpAll K H acc (L.flatMap fun l => if c l = true then [PyData.int (g l)] else [])) : acc = ((L.filter c).map g).map V.int := by
  rw [flat_if] at h
  have e : (L.filter c).map (fun l => PyData.int (g l)) = ((L.filter c).map g).map PyData.int := by rw [List.map_map] <;> rfl
  rw [e] at h
  exact dps_ints h
def spUseful (K : PySem.W.Frag) : Sp := fun vs H Q _ => ∃ (S : List Addr) (v ve : V) (L : List Ln) (Es : List Int), vs = [v, ve] ∧ (∀ a ∈ S, H a ≠ none) ∧ Dp K (hid S H) v (lnsD L) ∧ Dp K H ve (intsD Es) ∧ EM.DetP L ∧ L.length ≤ 1000 ∧ Es.length ≤ 1000 ∧
  ∀ (r : Addr) (L' : List Ln) (E' : List Int) (H' : Hp), Ex H H' → L'.Sublist L → E'.Sublist Es → EM.Good L' E' → Dp K (hid S H') (.ref r) (partsD L' E') → Q (.ref r) H'
def Clo (L : List Ln) (mt fs : List Int) : Prop := ∀ l ∈ L, l.2.2 ∈ fs → l.1 ∈ mt → l.1 ∈ fs
def UsO (H : Hp) (L : List Ln) (Es mt : List Int) (a b m D : Addr) (i : Nat) (σ : L2.St) (H' : Hp) : Prop := ∃ (fs : List Int) (o3 o6 o7 o8 : Option V), σ = [some (.ref a), some (.ref b), some (.ref m), o3, some (.ref D), none, o6, o7, o8, none] ∧ Ex H H' ∧ H' m = some (.lst (mt.map V.int)) ∧ H' D = some (.lst (fs.map V.int)) ∧
  EM.Fnd L Es fs ∧ (∀ p ∈ fs, p ∈ mt) ∧ fs.length + (EM.todo L fs).length ≤ Es.length + L.length ∧ (Clo L mt fs ∨ (EM.todo L fs).length + i ≤ L.length)
def UsI (H : Hp) (L : List Ln) (Es mt fs0 : List Int) (a b m D : Addr) (o3 : Option V) (j : Nat) (σ : L2.St) (H' : Hp) : Prop := ∃ (fs : List Int) (o6 o7 o8 : Option V), σ = [some (.ref a), some (.ref b), some (.ref m), o3, some (.ref D), none, o6, o7, o8, none] ∧ Ex H H' ∧ H' m = some (.lst (mt.map V.int)) ∧ H' D = some (.lst (fs.map V.int)) ∧
  EM.Fnd L Es fs ∧ (∀ p ∈ fs, p ∈ mt) ∧ fs.length + (EM.todo L fs).length ≤ Es.length + L.length ∧ (∀ p ∈ fs0, p ∈ fs) ∧ (∀ l ∈ L.take j, l.2.2 ∈ fs0 → l.1 ∈ mt → l.1 ∈ fs) ∧ (fs = fs0 ∨ (EM.todo L fs).length < (EM.todo L fs0).length) ∧ (Clo L mt fs0 → fs = fs0)
theorem scUseful : FnScope ["_law_lanes", "_law_ends", "_law_met", "_law_turn", "_law_found", "_law_end", "_law_p", "_law_letter", "_law_q", "_law_lane"] ["_law_lanes", "_law_ends"] (defScope (top 57)) := ⟨rfl, rfl, rfl, by decide +kernel, rfl, by decide +kernel, by decide +kernel⟩
theorem ok_useful (T : Frees mg) (F : FnP K "_law_useful" "_law_useful" (top 57) f fd) : FnOk P w K mg base CX0 1 f fd ["_law_lanes", "_law_ends"] (spUseful K) := by
  refine F.ok scUseful (fun vs H Q E h => ?_) (fun cdv A outer s H vs Q E hr h => ?_)
  · obtain ⟨S, v, ve, L, Es, rfl, _⟩ := h
    rfl
  · obtain ⟨S, v, ve, L, Es, rfl, hSn, hvS, hve, hdet, zL, zE, q⟩ := h
    have hv := dp_mono (hid_ex S H) hvS
    obtain ⟨a, xs, rfl, hSS, hAS⟩ := dp_lst hvS
    have hS := Evl.ex_l (hid_ex S H) hSS
    have hA := dps_mono (hid_ex S H) hAS
    have nS : ∀ {z : Addr}, H z = none → z ∉ S := fun h hz => hSn _ hz h
    obtain ⟨b, ys, rfl, hSb, hB⟩ := dp_lst hve
    obtain rfl := dps_ints hB
    have hxl : xs.length = L.length := by rw [dps_len hA, List.length_map]
    refine ⟨_, PSs.nox (pss_cons (ps_set (i := 2) scUseful.nd rfl (Or.inr rfl) (pe_lst (pa_cons pe_int pa_nil)))
      (pss_cons (ps_for PassesOwn.never rfl (pi_range1 rfl T.range (pa_cons (pe_op op_add (pe_callB call_len (by rfl) T.len PySem.boot_len (pa_cons (pv 0) pa_nil)) pe_int) pa_nil)) (pg_name (i := 3) scUseful.nd rfl (Or.inl rfl))
        (pss_one (ps_expr (pe_bm PySem.F.plainAttrs_list PySem.F.slot_list_extend PySem.F.type_list_extend mt_extend (pv 2) (pa_cons (pe_slice sl_list (pe_lcD (own := [("_law_p", 6), ("_law_letter", 7), ("_law_q", 8)]) s H rfl scUseful.nd (pi_list (pv 0)) (blkOk_by (own := [("_law_p", 6), ("_law_letter", 7), ("_law_q", 8)]) (N := ["_law_lanes", "_law_ends", "_law_met", "_law_turn", "_law_found", "_law_end", "_law_p", "_law_letter", "_law_q", "_law_lane"]) (sc := (defScope (top 57))) (by decide +kernel)) (pg_tup rfl (pgs_cons (pg_name (i := 6) scUseful.nd rfl (Or.inl rfl)) (pgs_cons (pg_name (i := 7) scUseful.nd rfl (Or.inl rfl)) (pgs_cons (pg_name (i := 8) scUseful.nd rfl (Or.inl rfl)) pgs_nil)))) (pts_one (PW.pt (pw_and (pt_cmpR op_in_seq (pv 6) (pv 2) (by rfl)) (pw_and1 (pt_cmpR op_notIn_seq (pv 8) (pv 2) (by rfl)))))) (pv 8) (fun _ _ _ _ _ => (pg_tup rfl (pgs_cons (pg_name (i := 6) scUseful.nd rfl (Or.inl rfl)) (pgs_cons (pg_name (i := 7) scUseful.nd rfl (Or.inl rfl)) (pgs_cons (pg_name (i := 8) scUseful.nd rfl (Or.inl rfl)) pgs_nil))))) (fun _ _ _ _ _ => (pts_one (PW.pt (pw_and (pt_cmpR op_in_seq (pv 6) (pv 2) (by rfl)) (pw_and1 (pt_cmpR op_notIn_seq (pv 8) (pv 2) (by rfl))))))) (fun _ _ _ _ _ => (pv 8))) po_none (po_some pe_int)) pa_nil)))))
      (pss_cons (ps_set (i := 4) scUseful.nd rfl (Or.inr rfl) (pe_lcD (own := [("_law_end", 5)]) s H rfl scUseful.nd (pi_list (pv 1)) (blkOk_by (own := [("_law_end", 5)]) (N := ["_law_lanes", "_law_ends", "_law_met", "_law_turn", "_law_found", "_law_end", "_law_p", "_law_letter", "_law_q", "_law_lane"]) (sc := (defScope (top 57))) (by decide +kernel)) (pg_name (i := 5) scUseful.nd rfl (Or.inl rfl)) (pts_one (pt_cmpR op_in_seq (pv 5) (pv 2) (by rfl))) (pv 5) (fun _ _ _ _ _ => (pg_name (i := 5) scUseful.nd rfl (Or.inl rfl))) (fun _ _ _ _ _ => (pts_one (pt_cmpR op_in_seq (pv 5) (pv 2) (by rfl)))) (fun _ _ _ _ _ => (pv 5))))
      (pss_cons (ps_for PassesOwn.never rfl (pi_range1 rfl T.range (pa_cons (pe_op op_add (pe_callB call_len (by rfl) T.len PySem.boot_len (pa_cons (pv 0) pa_nil)) pe_int) pa_nil)) (pg_name (i := 3) scUseful.nd rfl (Or.inl rfl))
        (pss_one (ps_for PassesOwn.never rfl (pi_list (pv 0)) (pg_tup rfl (pgs_cons (pg_name (i := 6) scUseful.nd rfl (Or.inl rfl)) (pgs_cons (pg_name (i := 7) scUseful.nd rfl (Or.inl rfl)) (pgs_cons (pg_name (i := 8) scUseful.nd rfl (Or.inl rfl)) pgs_nil))))
        (pss_one (ps_if (PW.pt (pw_and (pt_cmpR op_in_seq (pv 8) (pv 4) (by rfl)) (pw_and (pt_cmpR op_in_seq (pv 6) (pv 2) (by rfl)) (pw_and1 (pt_cmpR op_notIn_seq (pv 6) (pv 4) (by rfl)))))) (pss_one (ps_expr (pe_bm PySem.F.plainAttrs_list PySem.F.slot_list_append PySem.F.type_list_append mt_append (pv 4) (pa_cons (pv 6) pa_nil)))) pss_nil)))))
      (pss_cons (ps_if (pt_cmpR op_notIn_seq pe_int (pv 4) (by rfl)) (pss_one (ps_ret (pe_tup (pa_cons (pe_lst pa_nil) (pa_cons (pe_lst pa_nil) pa_nil))))) pss_nil)
      (pss_one (ps_ret (pe_tup (pa_cons (pe_lcD (own := [("_law_lane", 9)]) s H rfl scUseful.nd (pi_list (pv 0)) (blkOk_by (own := [("_law_lane", 9)]) (N := ["_law_lanes", "_law_ends", "_law_met", "_law_turn", "_law_found", "_law_end", "_law_p", "_law_letter", "_law_q", "_law_lane"]) (sc := (defScope (top 57))) (by decide +kernel)) (pg_name (i := 9) scUseful.nd rfl (Or.inl rfl)) (pts_one (PW.pt (pw_and (pt_cmpR op_in_seq (pe_ix ix_tup (pv 9) pe_int (fun _ _ => rfl)) (pv 4) (by rfl)) (pw_and1 (pt_cmpR op_in_seq (pe_ix ix_tup (pv 9) pe_int (fun _ _ => rfl)) (pv 4) (by rfl)))))) (pv 9) (fun _ _ _ _ _ => (pg_name (i := 9) scUseful.nd rfl (Or.inl rfl))) (fun _ _ _ _ _ => (pts_one (PW.pt (pw_and (pt_cmpR op_in_seq (pe_ix ix_tup (pv 9) pe_int (fun _ _ => rfl)) (pv 4) (by rfl)) (pw_and1 (pt_cmpR op_in_seq (pe_ix ix_tup (pv 9) pe_int (fun _ _ => rfl)) (pv 4) (by rfl))))))) (fun _ _ _ _ _ => (pv 9))) (pa_cons (pe_lcD (own := [("_law_end", 5)]) s H rfl scUseful.nd (pi_list (pv 1)) (blkOk_by (own := [("_law_end", 5)]) (N := ["_law_lanes", "_law_ends", "_law_met", "_law_turn", "_law_found", "_law_end", "_law_p", "_law_letter", "_law_q", "_law_lane"]) (sc := (defScope (top 57))) (by decide +kernel)) (pg_name (i := 5) scUseful.nd rfl (Or.inl rfl)) (pts_one (pt_cmpR op_in_seq (pv 5) (pv 4) (by rfl))) (pv 5) (fun _ _ _ _ _ => (pg_name (i := 5) scUseful.nd rfl (Or.inl rfl))) (fun _ _ _ _ _ => (pts_one (pt_cmpR op_in_seq (pv 5) (pv 4) (by rfl)))) (fun _ _ _ _ _ => (pv 5))) pa_nil)))))))))), ?_⟩
    refine ⟨len1 _, fun m hm => ?_⟩
    have hm0 := hm
    have hS1 : SqL K (upd H m (.lst [.int 0])) a xs := Evl.ex_l (Evl.Ex.new hm) hS
    refine ⟨_, rfl, _, _, rfl, .inl ⟨_, hS1, rfl⟩, _, _, rfl, rfl, _, rfl, by omega, by omega, for_range (lo := 0) (n := xs.length + 1) (fun i σ H' => ∃ (mt : List Int) (o3 : Option V), σ = [some (.ref a), some (.ref b), some (.ref m), o3, none, none, none, none, none, none] ∧ Ex H H' ∧ H' m = some (.lst (mt.map V.int)) ∧ EM.Met L mt ∧ mt.length ≤ i + 1)
      ⟨[0], none, rfl, Evl.Ex.new hm, upd_same, ?_, Nat.le_refl _⟩ ?_ ?_⟩
    · intro i p hp
      have e0 : i = 0 := by
        have := lt_of_get hp
        simp at this
        omega
      rw [e0] at hp
      exact .inl (Option.some.inj hp).symm
    · rintro i σ H1 hi ⟨mt, o3, rfl, e1, hM, hMet, zM⟩
      have hxs : SqL K H1 a xs := Evl.ex_l e1 hS
      refine ⟨_, rfl, .inl ⟨rfl, _, SqL.of hM⟩, _, rfl, a, rfl, ⟨_, hxs⟩, fun D hD => ?_⟩
      refine lc_data (K := K) (walk_list (xs := xs)) L (fun l => if (decide (l.1 ∈ mt) && !decide (l.2.2 ∈ mt)) = true then [PyData.int l.2.2] else []) hxl (by omega) hD (fun H2 e => Evl.ex_l e hxs) ?_ ?_
      · rintro k l x H2 H' Nx hk e2 _ ⟨rfl, hx⟩ put skip
        obtain ⟨l', c, hl', rfl, hT⟩ := dps_ln hA hx
        rw [hk] at hl'
        obtain rfl := Option.some.inj hl'
        have hM2 := e2 _ _ hM
        refine ⟨c, _, rfl, Evl.ex_t (e1.trans e2) hT, rfl, _, _, rfl, _, _, rfl, _, _, rfl, rfl, rfl, ?_⟩
        refine ⟨_, rfl, _, rfl, m, _, rfl, .inl (SqL.of hM2), rfl, flat_ints _, _, rfl, ?_⟩
        rw [inV_int]
        by_cases h1 : l.1 ∈ mt
        · rw [decide_eq_true h1] at put skip ⊢
          refine iteT ⟨_, rfl, _, rfl, m, _, rfl, .inl (SqL.of hM2), rfl, flat_ints _, _, rfl, ?_⟩
          rw [inV_int]
          by_cases h2 : l.2.2 ∈ mt
          · rw [decide_eq_true h2] at put skip ⊢
            exact skip _ (Evl.Ex.refl _) rfl
          · rw [decide_eq_false h2] at put skip ⊢
            exact ⟨_, rfl, put _ _ _ (Evl.Ex.refl _) rfl (.int _)⟩
        · rw [decide_eq_false h1] at put skip ⊢
          exact iteF (skip _ (Evl.Ex.refl _) rfl)
      · intro H2 acc e2 hacc hAcc
        obtain rfl := ints_of_filter (dps_hid hAcc)
        have hM2 := e2 _ _ hM
        refine ⟨_, rfl, D, _, rfl, SqL.of hacc, fun p hp => ?_⟩
        rw [cut_one]
        have hpm : m ≠ p := ne_of_none hM2 hp
        refine ⟨m, p, mt.map V.int, _, rfl, rfl, by rw [upd_ne hpm]; exact hM2, upd_same, ?_, ?_⟩
        · rw [List.length_map, List.length_take]
          exact sz_of (by omega)
        · have e3 : Ex H (upd (upd H2 p (.lst ((((L.filter fun l => decide (l.1 ∈ mt) && !decide (l.2.2 ∈ mt)).map fun l => l.2.2).map V.int).take 1))) m (.lst (mt.map V.int ++ (((L.filter fun l => decide (l.1 ∈ mt) && !decide (l.2.2 ∈ mt)).map fun l => l.2.2).map V.int).take 1))) :=
            ex_upd (ex_new (e1.trans e2) hp) hm0
          cases hL1 : L.filter fun l => decide (l.1 ∈ mt) && !decide (l.2.2 ∈ mt) with
          | nil =>
            rw [hL1] at e3
            refine ⟨mt, _, rfl, e3, ?_, hMet, by omega⟩
            rw [upd_same]
            simp
          | cons l r =>
            rw [hL1] at e3
            have hl : l ∈ L.filter fun l => decide (l.1 ∈ mt) && !decide (l.2.2 ∈ mt) := by rw [hL1]; exact List.mem_cons_self
            rw [List.mem_filter, Bool.and_eq_true, decide_eq_true_eq] at hl
            refine ⟨mt ++ [l.2.2], _, rfl, e3, ?_, hMet.snoc (r := l.1) (c := l.2.1) hl.2.1 hl.1, ?_⟩
            · rw [upd_same, List.map_append]
              rfl
            · rw [List.length_append, List.length_singleton]
              omega
    · rintro σ H1 ⟨mt, o3, rfl, e1, hM, hMet, zM⟩
      have hys : SqL K H1 b (Es.map V.int) := Evl.ex_l e1 hSb
      refine ⟨_, rfl, b, rfl, ⟨_, hys⟩, fun D hD => ?_⟩
      refine lc_data (K := K) (walk_list (xs := Es.map V.int)) Es (fun e => if decide (e ∈ mt) = true then [PyData.int e] else []) (by rw [List.length_map]) (by rw [List.length_map]; omega) hD (fun H2 e => Evl.ex_l e hys) ?_ ?_
      · rintro k l x H2 H' Nx hk e2 _ ⟨rfl, hx⟩ put skip
        rw [List.getElem?_map, hk] at hx
        obtain rfl := Option.some.inj hx
        have hM2 := e2 _ _ hM
        refine ⟨rfl, _, rfl, _, rfl, m, _, rfl, .inl (SqL.of hM2), rfl, flat_ints _, _, rfl, ?_⟩
        rw [inV_int]
        by_cases h1 : l ∈ mt
        · rw [decide_eq_true h1] at put ⊢
          exact ⟨_, rfl, put _ _ _ (Evl.Ex.refl _) rfl (.int _)⟩
        · rw [decide_eq_false h1] at skip ⊢
          exact skip _ (Evl.Ex.refl _) rfl
      intro H2 acc e2 hacc hAcc
      have hacc2 := ints_of_filter (g := fun e => e) (c := fun e => decide (e ∈ mt)) (dps_hid hAcc)
      subst hacc2
      have hM2 := e2 _ _ hM
      have e12 := e1.trans e2
      have hD0 : H D = none := ex_none e1 hD
      rw [show ((Es.filter fun e => decide (e ∈ mt)).map fun e => e) = Es.filter fun e => decide (e ∈ mt) by simp] at hacc
      have hxs2 : SqL K H2 a xs := Evl.ex_l e12 hS
      have hmD : m ≠ D := ne_of_none hM hD
      have tl : ∀ fs : List Int, (EM.todo L fs).length ≤ L.length := fun fs => List.length_filter_le _ _
      refine ⟨_, rfl, _, _, rfl, .inl ⟨_, hxs2, rfl⟩, _, _, rfl, rfl, _, rfl, by omega, by omega, for_range (lo := 0) (n := xs.length + 1) (UsO H L Es mt a b m D) ⟨Es.filter fun e => decide (e ∈ mt), _, _, _, _, rfl, e12, hM2, hacc, ?_, ?_, ?_, .inr (by have := tl (Es.filter fun e => decide (e ∈ mt)); omega)⟩ ?_ ?_⟩
      · intro i p hp
        have := List.mem_of_getElem? hp
        rw [List.mem_filter] at this
        exact .inl this.1
      · intro p hp
        rw [List.mem_filter] at hp
        exact of_decide_eq_true hp.2
      · have := tl (Es.filter fun e => decide (e ∈ mt))
        have := List.length_filter_le (fun e => decide (e ∈ mt)) Es
        omega
      · rintro i σ H3 hi ⟨fs0, o3, o6, o7, o8, rfl, e3, hM3, hD3, hF3, hs3, z3, c3⟩
        have hxs3 : SqL K H3 a xs := Evl.ex_l e3 hS
        refine ⟨_, rfl, a, rfl, ⟨_, hxs3⟩, for_list (K := K) (xs := xs) (UsI H L Es mt fs0 a b m D (some (.int (0 + (i : Nat))))) ⟨fs0, _, _, _, rfl, e3, hM3, hD3, hF3, hs3, z3, fun _ h => h, (fun l hl => by simp at hl), .inl rfl, fun _ => rfl⟩
          (fun j σ H' _ hI => ?_) ?_ ?_⟩
        · obtain ⟨_, _, _, _, _, e, _⟩ := hI
          exact Evl.ex_l e hS
        · rintro j x σ H4 hj ⟨fs, o6, o7, o8, rfl, e4, hM4, hD4, hF4, hs4, z4, sub4, t4, d4, cl4⟩
          obtain ⟨l, c, hl, rfl, hT⟩ := dps_ln hA hj
          have hlm := List.mem_of_getElem? hl
          have grow : ∀ {gs : List Int}, (∀ p ∈ fs, p ∈ gs) → (l.2.2 ∈ fs0 → l.1 ∈ mt → l.1 ∈ gs) → ∀ l' ∈ L.take (j + 1), l'.2.2 ∈ fs0 → l'.1 ∈ mt → l'.1 ∈ gs := fun {gs} h1 h2 l' hl' h3 h4 => by
            rw [take_snoc' hl] at hl'
            rcases List.mem_append.mp hl' with h5 | h5
            · exact h1 _ (t4 l' h5 h3 h4)
            · rw [List.mem_singleton.mp h5] at h3 h4 ⊢
              exact h2 h3 h4
          have stay : (l.2.2 ∈ fs0 → l.1 ∈ mt → l.1 ∈ fs) → UsI H L Es mt fs0 a b m D (some (.int (0 + (i : Nat)))) (j + 1) [some (.ref a), some (.ref b), some (.ref m), some (.int (0 + (i : Nat))), some (.ref D), none, some (.int l.1), some (.str (chS l.2.1)), some (.int l.2.2), none] H4 := fun h =>
            ⟨fs, _, _, _, rfl, e4, hM4, hD4, hF4, hs4, z4, sub4, grow (fun _ h => h) h, d4, cl4⟩
          refine ⟨c, _, rfl, Evl.ex_t e4 hT, rfl, _, _, rfl, _, _, rfl, _, _, rfl, rfl, ?_⟩
          refine ⟨_, rfl, _, rfl, D, _, rfl, .inl (SqL.of hD4), rfl, flat_ints _, _, rfl, ?_⟩
          rw [inV_int]
          by_cases h1 : l.2.2 ∈ fs
          · rw [decide_eq_true h1]
            refine iteT ⟨_, rfl, _, rfl, m, _, rfl, .inl (SqL.of hM4), rfl, flat_ints _, _, rfl, ?_⟩
            rw [inV_int]
            by_cases h2 : l.1 ∈ mt
            · rw [decide_eq_true h2]
              refine iteT ⟨_, rfl, _, rfl, D, _, rfl, .inl (SqL.of hD4), rfl, flat_ints _, _, rfl, ?_⟩
              rw [inV_int]
              by_cases h3 : l.1 ∈ fs
              · rw [decide_eq_true h3]
                exact iteF (stay fun _ _ => h3)
              · rw [decide_eq_false h3]
                have tlt := EM.todo_lt (L := L) (fs := fs) (gs := fs ++ [l.1]) (fun p h => by simp [h]) hlm h3 (by simp)
                refine iteT ⟨_, rfl, .inl ⟨rfl, _, SqL.of hD4⟩, _, rfl, D, _, _, rfl, rfl, hD4, ?_, ?_⟩
                · rw [List.length_map]
                  exact sz_lt (by omega)
                · have nD : D ≠ m := hmD.symm
                  refine ⟨fs ++ [l.1], _, _, _, rfl, ex_upd e4 hD0, by rw [upd_ne hmD]; exact hM4, by rw [upd_same, List.map_append]; rfl, hF4.snoc (q := l.2.2) (c := l.2.1) h1 hlm, ?_, ?_, fun p h => by simp [sub4 p h], grow (fun p h => by simp [h]) (fun _ _ => by simp), .inr ?_, fun hc => ?_⟩
                  · intro p hp
                    rcases List.mem_append.mp hp with h5 | h5
                    · exact hs4 p h5
                    · rw [List.mem_singleton.mp h5]; exact h2
                  · rw [List.length_append, List.length_singleton]
                    omega
                  · rcases d4 with h5 | h5
                    · rw [h5] at tlt
                      rw [h5]
                      exact tlt
                    · omega
                  · exfalso
                    have h5 := cl4 hc
                    rw [h5] at h1 h3
                    exact h3 (hc l hlm h1 h2)
            · rw [decide_eq_false h2]
              exact iteF (iteF (stay fun _ h => absurd h h2))
          · rw [decide_eq_false h1]
            exact iteF (iteF (stay fun h _ => absurd (sub4 _ h) h1))
        · rintro σ H4 ⟨fs, o6, o7, o8, rfl, e4, hM4, hD4, hF4, hs4, z4, sub4, t4, d4, cl4⟩
          refine ⟨fs, _, _, _, _, rfl, e4, hM4, hD4, hF4, hs4, z4, ?_⟩
          rw [hxl, List.take_length] at t4
          rcases d4 with h5 | h5
          · subst h5
            exact .inl t4
          · rcases c3 with h6 | h6
            · have h7 := cl4 h6
              subst h7
              exact .inl h6
            · exact .inr (by omega)
      · rintro σ H3 ⟨fs, o3, o6, o7, o8, rfl, e3, hM3, hD3, hF3, hs3, z3, c3⟩
        have hclo : Clo L mt fs := by
          rcases c3 with h | h
          · exact h
          · omega
        have hxs3 : SqL K H3 a xs := Evl.ex_l e3 hS
        have hys3 : SqL K H3 b (Es.map V.int) := Evl.ex_l e3 hSb
        refine ⟨_, rfl, D, _, rfl, .inl (SqL.of hD3), rfl, flat_ints _, _, rfl, ?_⟩
        refine ite2 (fun hb => ?_) (fun hb => ?_)
        · refine ⟨Nat.zero_le _, fun p1 h1 => ⟨Nat.zero_le _, fun p2 h2 => ⟨len2 _ _, fun t ht => ?_⟩⟩⟩
          obtain ⟨h21, h22⟩ := upd_nn h2
          obtain ⟨ht2, ht'⟩ := upd_nn ht
          obtain ⟨ht1, ht0⟩ := upd_nn ht'
          refine q t [] [] _ (ex_new (ex_new (ex_new e3 h1) h2) ht) (List.nil_sublist _) (List.nil_sublist _) EM.good_nil (.tup (SqT.of (by rw [hid_at (nS (ex_none e3 ht0)), upd_same])) (.cons (.lst (SqL.of ?_) .nil) (.cons (.lst (SqL.of ?_) .nil) .nil)))
          · rw [hid_at (nS (ex_none e3 h1)), upd_ne ht1.symm, upd_ne h21.symm, upd_same]
          · rw [hid_at (nS (ex_none e3 h22)), upd_ne ht2.symm, upd_same]
        · have h0 : (0 : Int) ∈ fs := by
            rw [if_pos rfl, inV_int] at hb
            simpa using hb
          refine ⟨_, rfl, a, rfl, ⟨_, hxs3⟩, fun D2 hD2 => ?_⟩
          refine lc_dataS (K := K) S (walk_list (xs := xs)) L (fun l => if (decide (l.1 ∈ fs) && decide (l.2.2 ∈ fs)) = true then [lnD l] else []) hxl (by omega) hD2 (fun H4 e => Evl.ex_l e hxs3) ?_ ?_
          · rintro k l x H4 H' Nx hk e4 _ ⟨rfl, hx⟩ put skip
            obtain ⟨l', c, hl', rfl, hT⟩ := dps_ln hA hx
            rw [hk] at hl'
            obtain rfl := Option.some.inj hl'
            have hD4 := e4 _ _ hD3
            have hT4 := Evl.ex_t (e3.trans e4) hT
            have hdl : Dp K (hid (D2 :: S) H') (.ref c) (lnD l) := by
              obtain ⟨l2, c2, hl2, hc2, hT2⟩ := dps_ln hAS hx
              rw [hk] at hl2
              obtain rfl := Option.some.inj hl2
              obtain rfl := V.ref.inj hc2
              exact dp_mono (ex_hidS (e3.trans e4) (ex_none e3 hD2)) (dp_ln_mk hT2)
            refine ⟨rfl, _, rfl, c, _, _, _, rfl, rfl, hT4, rfl, _, rfl, D, _, rfl, .inl (SqL.of hD4), rfl, flat_ints _, _, rfl, ?_⟩
            rw [inV_int]
            by_cases h1 : l.1 ∈ fs
            · rw [decide_eq_true h1] at put skip ⊢
              refine iteT ⟨_, rfl, c, _, _, _, rfl, rfl, hT4, rfl, _, rfl, D, _, rfl, .inl (SqL.of hD4), rfl, flat_ints _, _, rfl, ?_⟩
              rw [inV_int]
              by_cases h2 : l.2.2 ∈ fs
              · rw [decide_eq_true h2] at put skip ⊢
                exact ⟨_, rfl, put _ _ _ (Evl.Ex.refl _) rfl hdl⟩
              · rw [decide_eq_false h2] at put skip ⊢
                exact skip _ (Evl.Ex.refl _) rfl
            · rw [decide_eq_false h1] at put skip ⊢
              exact iteF (skip _ (Evl.Ex.refl _) rfl)
          intro H4 acc e4 hacc4 hAcc4
          rw [flat_if] at hAcc4
          have hAcc5 : DpAll K (hid S H4) acc ((L.filter fun l => decide (l.1 ∈ fs) && decide (l.2.2 ∈ fs)).map lnD) := dps_mono (hid_sub fun a h => List.mem_cons_of_mem _ h) hAcc4
          have e34 := e3.trans e4
          have hys4 : SqL K H4 b (Es.map V.int) := Evl.ex_l e34 hSb
          refine ⟨_, rfl, b, rfl, ⟨_, hys4⟩, fun D5 hD5 => ?_⟩
          refine lc_data (K := K) (walk_list (xs := Es.map V.int)) Es (fun e => if decide (e ∈ fs) = true then [PyData.int e] else []) (by rw [List.length_map]) (by rw [List.length_map]; omega) hD5 (fun H2 e => Evl.ex_l e hys4) ?_ ?_
          · rintro k l x H2 H' Nx hk e2 _ ⟨rfl, hx⟩ put skip
            rw [List.getElem?_map, hk] at hx
            obtain rfl := Option.some.inj hx
            have hM2 := e2 _ _ (e4 _ _ hD3)
            refine ⟨rfl, _, rfl, _, rfl, D, _, rfl, .inl (SqL.of hM2), rfl, flat_ints _, _, rfl, ?_⟩
            rw [inV_int]
            by_cases h1 : l ∈ fs
            · rw [decide_eq_true h1] at put ⊢
              exact ⟨_, rfl, put _ _ _ (Evl.Ex.refl _) rfl (.int _)⟩
            · rw [decide_eq_false h1] at skip ⊢
              exact skip _ (Evl.Ex.refl _) rfl
          intro H5 acc5 e5 hacc5 hAcc5'
          refine ⟨len2 _ _, fun t ht => ?_⟩
          have e45 := e5.trans (Evl.Ex.new (o := .tup [.ref D2, .ref D5]) ht)
          have nt : t ∉ S := nS (ex_none (e34.trans e5) ht)
          have nD2 : D2 ∉ S := nS (ex_none e3 hD2)
          have nD5 : D5 ∉ S := nS (ex_none e34 hD5)
          rw [flat_if] at hAcc5'
          have e9 := dps_hid hAcc5'
          refine q t (EM.keepL fs L) (EM.keepE fs Es) _ (ex_new (e34.trans e5) ht) List.filter_sublist List.filter_sublist (EM.useful_good hdet hMet hF3 hs3 hclo h0)
            (.tup (SqT.of (by rw [hid_at nt, upd_same])) (.cons (.lst (SqL.of (by rw [hid_at nD2]; exact e45 _ _ hacc4)) (dps_mono (hid_mono e45) hAcc5)) (.cons (.lst (SqL.of (by rw [hid_at nD5]; exact Evl.Ex.new ht _ _ hacc5)) ?_) .nil)))
          have h10 : acc5 = ((Es.filter fun e => decide (e ∈ fs)).map fun e => e).map V.int := by
            have e11 : (Es.filter fun e => decide (e ∈ fs)).map (fun e => PyData.int e) = ((Es.filter fun e => decide (e ∈ fs)).map fun e => e).map PyData.int := by rw [List.map_map] <;> rfl
            rw [e11] at e9
            exact dps_ints e9
          rw [h10]
          rw [show ((Es.filter fun e => decide (e ∈ fs)).map fun e => e) = EM.keepE fs Es by simp [EM.keepE]]
          exact dps_of_ints _
theorem d_useful (T : Frees mg) (h : DfP K mg "_law_useful" 57) : Df P w K mg base "_law_useful" 1 ["_law_lanes", "_law_ends"] (spUseful K) :=
  h.df (fun _ _ F => ok_useful T F) fun _ _ _ _ _ _ us hl => match us, hl with | [_, _], _ => rfl
end
end E

set_option maxRecDepth 100000
set_option maxHeartbeats 4000000
namespace EM
/-- what is known of machines drawn by chance, as parts -/
structure Raw (ls : List Nat) (L : List Ln) (E : List Int) : Prop where
  good : Good L E
  lets : ∀ l ∈ L, l.2.1 ∈ ls
  pos : ∀ l ∈ L, 0 ≤ l.1 ∧ 0 ≤ l.2.2
  epos : ∀ e ∈ E, 0 ≤ e
  zL : L.length ≤ 60
  zE : E.length ≤ 60
def Stands (ls : List Nat) (L : List Ln) : Prop := ∃ (m : Nat) (t : Int → List Nat), 0 < m ∧ Tailed m ls L t
/-- lanes laid place by place, letter by letter -/
def Laid (ls : List Nat) (p : Int) (k : Nat) (L : List Ln) : Prop := DetP L ∧ (∀ l ∈ L, l.1 < p ∨ (l.1 = p ∧ l.2.1 ∈ ls.take k)) ∧ ∀ l ∈ L, l.2.1 ∈ ls
theorem Laid.nil (ls : List Nat) (p : Int) (k : Nat) : Laid ls p k [] := ⟨List.Pairwise.nil, (fun _ h => by cases h), (fun _ h => by cases h)⟩
theorem Laid.more {ls : List Nat} {p : Int} {k : Nat} {L : List Ln} (h : Laid ls p k L) : Laid ls p (k + 1) L := ⟨h.1, fun l hl => by
  rcases h.2.1 l hl with h1 | ⟨h1, h2⟩
  · exact .inl h1
  · refine .inr ⟨h1, ?_⟩
    rw [List.take_add_one]
    exact List.mem_append_left _ h2, h.2.2⟩
theorem Laid.add {ls : List Nat} (nd : ls.Nodup) {p : Int} {k c : Nat} {q : Int} {L : List Ln} (hc : ls[k]? = some c) (h : Laid ls p k L) : Laid ls p (k + 1) (L ++ [(p, c, q)]) := by
  have hn : c ∉ ls.take k := fun hm => by
    obtain ⟨j, hj⟩ := List.mem_iff_getElem?.mp hm
    obtain ⟨hj1, _⟩ := List.getElem?_eq_some_iff.mp hj
    rw [List.length_take] at hj1
    rw [List.getElem?_take_of_lt (by omega)] at hj
    obtain ⟨h1, h2⟩ := List.getElem?_eq_some_iff.mp hj
    obtain ⟨h3, h4⟩ := List.getElem?_eq_some_iff.mp hc
    have := List.pairwise_iff_getElem.mp nd j k h1 h3 (by omega)
    rw [h2, h4] at this
    exact this rfl
  refine ⟨?_, ?_, ?_⟩
  · refine List.pairwise_append.mpr ⟨h.1, List.pairwise_singleton _ _, fun l hl l' hl' => ?_⟩
    rw [List.mem_singleton.mp hl']
    rintro ⟨h1, h2⟩
    rcases h.2.1 l hl with h3 | ⟨_, h3⟩
    · have h1' : l.1 = p := h1
      omega
    · have h2' : l.2.1 = c := h2
      rw [h2'] at h3
      exact hn h3
  · intro l hl
    rcases List.mem_append.mp hl with h1 | h1
    · exact h.more.2.1 l h1
    · rw [List.mem_singleton.mp h1]
      refine .inr ⟨rfl, ?_⟩
      rw [List.take_add_one, hc]
      exact List.mem_append_right _ (by simp)
  · intro l hl
    rcases List.mem_append.mp hl with h1 | h1
    · exact h.2.2 l h1
    · rw [List.mem_singleton.mp h1]
      exact List.mem_of_getElem? hc
theorem Laid.next {ls : List Nat} {p : Int} {k : Nat} {L : List Ln} (h : Laid ls p k L) : Laid ls (p + 1) 0 L := ⟨h.1, fun l hl => by
  rcases h.2.1 l hl with h1 | ⟨h1, _⟩
  · exact .inl (by omega)
  · exact .inl (by omega), h.2.2⟩
theorem nodup_le {α : Type} [DecidableEq α] : ∀ {l1 l2 : List α}, l1.Nodup → (∀ x ∈ l1, x ∈ l2) → l1.length ≤ l2.length
  | [], _, _, _ => Nat.zero_le _
  | a :: r, l2, nd, h => by
    obtain ⟨n1, n2⟩ := List.nodup_cons.mp nd
    have ha := h a List.mem_cons_self
    have ih := nodup_le (l2 := l2.erase a) n2 fun x hx => (List.mem_erase_of_ne (fun z => n1 (by rw [← z]; exact hx))).mpr (h x (List.mem_cons_of_mem _ hx))
    rw [List.length_erase_of_mem ha] at ih
    have := List.length_pos_of_mem ha
    rw [List.length_cons]
    omega
end EM
namespace E
open PySem PySem.Spec PyProof.Rows L2
theorem LsOk.nodup {ls : List Nat} (h : LsOk ls) : ls.Nodup := h.nd
section
variable {P : Program} {w : World} {K : PySem.W.Frag} {mg : Str → Option Value} {base : Heap} {f : Addr} {fd : FuncData}
def spDrawn (K : PySem.W.Frag) : Sp := fun vs H Q _ => ∃ (p0 : Addr) (ls : List Nat) (n : Nat), vs = [.ref p0, .str (wS ls), .int 5] ∧ LsOk ls ∧ PoolAt H p0 n ∧ n ≤ 900000 ∧
  ∀ (r : Addr) (L : List Ln) (Es : List Int) (H' : Hp), ExB [p0] H H' → PoolAt H' p0 (n + 30) → EM.Raw ls L Es → Dp K (hid [p0] H') (.ref r) (partsD L Es) → Q (.ref r) H'
/-- the lanes drawn so far: at place i, k letters done -/
def DrI (K : PySem.W.Frag) (H : Hp) (p0 r : Addr) (ls : List Nat) (n many : Nat) (fx : Option V → Prop) (i k : Nat) (σ : L2.St) (H' : Hp) : Prop := ∃ (L : List Ln) (xs : List V) (o5 o7 o8 : Option V), fx o5 ∧ σ = [some (.ref p0), some (.str (wS ls)), some (.int 5), some (.int many), some (.ref r), o5, none, o7, o8] ∧
  ExB [p0] H H' ∧ PoolAt H' p0 (n + 1 + 3 * i + k) ∧ H' r = some (.lst xs) ∧ DpAll K (hid [p0, r] H') xs (L.map lnD) ∧ EM.Laid ls (i : Int) k L ∧ (∀ l ∈ L, 0 ≤ l.1 ∧ 0 ≤ l.2.2) ∧ L.length ≤ 3 * i + k
theorem scDrawn : FnScope ["_law_pool_here", "_law_letters_here", "_law_most", "_law_many", "_law_lanes", "_law_p", "_law_ends", "_law_letter", "_law_q"] ["_law_pool_here", "_law_letters_here", "_law_most"] (defScope (top 58)) := ⟨rfl, rfl, rfl, by decide +kernel, rfl, by decide +kernel, by decide +kernel⟩
theorem ok_drawn (T : Frees mg) (D : DfP K mg "_law_take" 48) (D2 : DfP K mg "_law_useful" 57) (F : FnP K "_law_drawn" "_law_drawn" (top 58) f fd) : FnOk P w K mg base CX0 2 f fd ["_law_pool_here", "_law_letters_here", "_law_most"] (spDrawn K) := by
  refine F.ok scDrawn (fun vs H Q E h => ?_) (fun cdv A outer s H vs Q E hr h => ?_)
  · obtain ⟨p0, ls, n, rfl, _⟩ := h
    rfl
  · obtain ⟨p0, ls, n, rfl, hL, hp, hn, q⟩ := h
    have Dt : Df P w K mg base "_law_take" 1 _ _ := d_take T D
    have Du : Df P w K mg base "_law_useful" 1 _ _ := d_useful T D2
    refine ⟨_, PSs.nox (pss_cons (ps_set (i := 3) scDrawn.nd rfl (Or.inl rfl) (pe_op op_add pe_int (pe_df Dt (hr.mono (by decide)) rfl (pa_cons (pv 0) (pa_cons (pv 2) pa_nil)))))
      (pss_cons (ps_set (i := 4) scDrawn.nd rfl (Or.inl rfl) (pe_lst pa_nil))
      (pss_cons (ps_for PassesOwn.never rfl (pi_range1 rfl T.range (pa_cons (pv 3) pa_nil)) (pg_name (i := 5) scDrawn.nd rfl (Or.inl rfl))
        (pss_one (ps_for PassesOwn.never rfl (pi_str (pv 1)) (pg_name (i := 7) scDrawn.nd rfl (Or.inl rfl))
        (pss_cons (ps_set (i := 8) scDrawn.nd rfl (Or.inl rfl) (pe_df Dt (hr.mono (by decide)) rfl (pa_cons (pv 0) (pa_cons (pe_op op_add (pe_op op_add (pv 3) pe_int) (pe_op op_fdiv (pv 3) pe_int)) pa_nil))))
      (pss_one (ps_if (pt_cmpR op_lt (pv 8) (pv 3) (nomark _)) (pss_one (ps_expr (pe_bm PySem.F.plainAttrs_list PySem.F.slot_list_append PySem.F.type_list_append mt_append (pv 4) (pa_cons (pe_tup (pa_cons (pv 5) (pa_cons (pv 7) (pa_cons (pv 8) pa_nil)))) pa_nil)))) pss_nil))))))
      (pss_cons (ps_setLcD (i := 6) (own := [("_law_p", 5)]) s H rfl scDrawn.nd rfl rfl (sw_true rfl rfl rfl (by decide +kernel)) (pi_range1 rfl T.range (pa_cons (pv 3) pa_nil)) (blkOk_by (own := [("_law_p", 5)]) (N := ["_law_pool_here", "_law_letters_here", "_law_most", "_law_many", "_law_lanes", "_law_p", "_law_ends", "_law_letter", "_law_q"]) (sc := (defScope (top 58))) (by decide +kernel)) (pg_name (i := 5) scDrawn.nd rfl (Or.inl rfl)) (pts_one (pt_cmpR op_eq (pe_df Dt (hr.mono (by decide)) rfl (pa_cons (pv 0) (pa_cons pe_int pa_nil))) pe_int (nomark _))) (pv 5) (fun _ _ _ _ _ => (pg_name (i := 5) scDrawn.nd rfl (Or.inl rfl))) (fun _ _ _ _ _ => (pts_one (pt_cmpR op_eq (pe_df Dt (hr.mono (by decide)) rfl (pa_cons (pv 0) (pa_cons pe_int pa_nil))) pe_int (nomark _)))) (fun _ _ _ _ _ => (pv 5)))
      (pss_one (ps_ret (pe_df Du (hr.mono (by decide)) rfl (pa_cons (pv 4) (pa_cons (pv 6) pa_nil))))))))), ?_⟩
    refine ⟨_, rfl, _, rfl, p0, 5, n, rfl, by decide, by decide, hp, by omega, fun d H1 d0 d1 hp1 e1 => ?_⟩
    obtain ⟨many, em, hm, hm0⟩ : ∃ many : Nat, (1 : Int) + d = (many : Int) ∧ many ≤ 5 ∧ 0 < many := ⟨(1 + d).toNat, by omega, by omega, by omega⟩
    refine ⟨_, _, rfl, rfl, ?_⟩
    dsimp only
    rw [em]
    refine ⟨Nat.zero_le _, fun r hrn => ?_⟩
    have hrp : r ≠ p0 := hp1.ne hrn
    have hr0 : H r = none := exb_none e1 hrn (by simpa using hrp)
    have step0 : ExB [p0] H (upd H1 r (.lst [])) := e1.trans (.of (Evl.Ex.new hrn))
    refine ⟨_, rfl, _, rfl, by omega, by omega, for_range (lo := 0) (n := ((many : Nat) : Int).toNat) (fun i => DrI K H p0 r ls n many (fun _ => True) i 0) ⟨[], [], none, none, none, trivial, rfl, step0, hp1.ex (Evl.Ex.new hrn), upd_same, .nil, EM.Laid.nil _ _ _, (fun _ h => by cases h), Nat.zero_le _⟩ ?_ ?_⟩
    · rintro i σ H2 hi ⟨L, xs, o5, o7, o8, _, rfl, e2, hp2, hr2, hD2, hl2, hpos2, z2⟩
      have hi' : i < many := by omega
      refine ⟨_, rfl, _, rfl, for_w (fun k => DrI K H p0 r ls n many (fun o => o = some (.int (0 + (i : Nat)))) i k) ⟨L, xs, _, _, _, rfl, rfl, e2, hp2, hr2, hD2, hl2, hpos2, z2⟩ ?_ ?_⟩
      · rintro k c σ H3 hk ⟨L, xs, o5, o7, o8, rfl, rfl, e3, hp3, hr3, hD3, hl3, hpos3, z3⟩
        have hk3 : k < 3 := Nat.lt_of_lt_of_le (lt_of_get hk) hL.len
        have hc : c ∈ ls := List.mem_of_getElem? hk
        have hdv0 : (0 : Int) ≤ (many : Int) / 3 := by omega
        have hdv1 : (many : Int) / 3 ≤ 5 := by omega
        refine ⟨_, rfl, _, rfl, _, _, rfl, rfl, _, rfl, _, _, rfl, rfl, ⟨by decide, by decide⟩, _, _, rfl, rfl, p0, _, _, rfl, by omega, by omega, hp3, by omega, fun d H4 d0 d1 hp4 e4 => ?_⟩
        have hr4 : H4 r = some (.lst xs) := e4 r _ (by simpa using hrp) hr3
        have hD4 : DpAll K (hid [p0, r] H4) xs (L.map lnD) := dps_mono (fun a o hq => by
          unfold hid at hq ⊢
          split at hq
          · cases hq
          · rename_i hb
            rw [if_neg hb]
            exact e4 a o (by simp at hb; simp [hb.1]) hq) hD3
        have e34 := e3.trans e4
        refine ⟨_, rfl, _, rfl, _, _, rfl, rfl, _, rfl, ?_⟩
        refine ite2 (fun hb => ?_) (fun hb => ?_)
        · have hxl : xs.length = L.length := by rw [dps_len hD3, List.length_map]
          refine ⟨_, rfl, .inl ⟨rfl, _, SqL.of hr4⟩, _, rfl, _, rfl, _, rfl, len3 _ _ _, fun t ht => ⟨r, xs, _, rfl, rfl, ?_, sz_lt (by omega), ?_⟩⟩
          · rw [upd_ne (ne_of_none hr4 ht)]
            exact hr4
          · have htr : t ≠ r := (ne_of_none hr4 ht).symm
            have htp : t ≠ p0 := hp4.ne ht
            refine ⟨L ++ [(((i : Nat) : Int), c, d)], _, _, _, _, rfl, rfl, ?_, ?_, upd_same, ?_, hl3.add hL.nd hk, ?_, ?_⟩
            · intro b o nb hb2
              have h1 := e34 b o nb hb2
              rw [upd_ne (ne_of_none hb2 hr0), upd_ne (ne_of_none h1 ht)]
              exact h1
            · have h1 : PoolAt (upd H4 t (.tup [.int (0 + (i : Nat)), .str (chS c), .int d])) p0 (n + 1 + 3 * i + k + 1) := hp4.ex (Evl.Ex.new ht)
              obtain ⟨x1, x2, x3, h2, h3⟩ := h1
              exact ⟨x1, x2, x3, by rw [upd_ne hrp.symm]; exact h2, h3⟩
            · rw [List.map_append, hid_upd (by simp)]
              refine dps_app (dps_mono (hid_mono (Evl.Ex.new ht)) hD4) (dps_one (dp_ln_mk (SqT.of ?_)))
              rw [hid_at (by simp [htr, htp]), upd_same, Int.zero_add]
            · intro l hl
              rcases List.mem_append.mp hl with h1 | h1
              · exact hpos3 l h1
              · rw [List.mem_singleton.mp h1]
                exact ⟨by show (0 : Int) ≤ (i : Int); omega, d0⟩
            · rw [List.length_append, List.length_singleton]
              omega
        · exact ⟨L, xs, _, _, _, rfl, rfl, e34, hp4, hr4, hD4, hl3.more, hpos3, by omega⟩
      · rintro σ H3 ⟨L, xs, o5, o7, o8, _, rfl, e3, hp3, hr3, hD3, hl3, hpos3, z3⟩
        have hlen := hL.len
        exact ⟨L, xs, _, _, _, trivial, rfl, e3, hp3.mono (by omega), hr3, hD3, by have := hl3.next; exact this, hpos3, by omega⟩
    · rintro σ H2 ⟨L, xs, o5, o7, o8, _, rfl, e2, hp2, hr2, hD2, hl2, hpos2, z2⟩
      have en : ((many : Nat) : Int).toNat = many := by omega
      rw [en] at hp2 hl2 z2
      have hxl : xs.length = L.length := by rw [dps_len hD2, List.length_map]
      refine ⟨_, rfl, _, rfl, by omega, by omega, fun D hD => ?_⟩
      have hDr : D ≠ r := (ne_of_none hr2 hD).symm
      have hDp : D ≠ p0 := hp2.ne hD
      rw [en]
      refine lc_range (lo := 0) (n := many) (fun i H' => ∃ Es : List Int, ExB [p0] H2 H' ∧ PoolAt H' p0 (n + 1 + 3 * many + i) ∧ H' D = some (.lst (Es.map V.int)) ∧ Es.length ≤ i ∧ ∀ e ∈ Es, 0 ≤ e) ⟨[], .of (Evl.Ex.new hD), hp2.ex (Evl.Ex.new hD), upd_same, Nat.le_refl _, (fun _ h => by cases h)⟩ ?_ ?_
      · rintro i H3 hi ⟨Es, e3, hp3, hD3, z3, p3⟩
        refine ⟨rfl, _, rfl, p0, 3, _, rfl, by decide, by decide, hp3, by omega, fun d H4 d0 d1 hp4 e4 => ?_⟩
        have hD4 : H4 D = some (.lst (Es.map V.int)) := e4 D _ (by simpa using hDp) hD3
        refine ⟨rfl, _, rfl, ?_⟩
        refine ite2 (fun hb => ?_) (fun hb => ?_)
        · refine ⟨_, rfl, _, hD4, sz_lt (by rw [List.length_map]; omega), Es ++ [0 + ((i : Nat) : Int)], ?_, ?_, ?_, ?_, ?_⟩
          · intro b o nb hb2
            have h1 := e4 b o nb (e3 b o nb hb2)
            rw [upd_ne (ne_of_none hb2 hD)]
            exact h1
          · obtain ⟨x1, x2, x3, h2, h3⟩ := hp4
            exact ⟨x1, x2, x3, by rw [upd_ne hDp.symm]; exact h2, h3⟩
          · rw [upd_same, List.map_append]
            rfl
          · rw [List.length_append, List.length_singleton]
            omega
          · intro e he
            rcases List.mem_append.mp he with h1 | h1
            · exact p3 e h1
            · rw [List.mem_singleton.mp h1]; omega
        · exact ⟨Es, e3.trans e4, hp4, hD4, by omega, p3⟩
      · rintro H3 ⟨Es, e3, hp3, hD3, z3, p3⟩
        have hr3 : H3 r = some (.lst xs) := e3 r _ (by simpa using hrp) hr2
        have hdd : DpAll K (hid [p0] H3) xs (L.map lnD) := dps_mono (fun a o hq => by
          unfold hid at hq ⊢
          split at hq
          · cases hq
          · rename_i hb
            rw [if_neg (by simp at hb; simp [hb.1])]
            exact e3 a o (by simp at hb; simp [hb.1]) hq) hD2
        refine ⟨_, rfl, _, rfl, [p0], _, _, L, Es, rfl, (fun a ha => by
          obtain ⟨x1, x2, x3, h2, _⟩ := hp3
          rw [List.mem_singleton.mp ha, h2]
          exact fun z => by cases z), .lst (SqL.of (by rw [hid_at (by simpa using hrp)]; exact hr3)) hdd, .lst (SqL.of hD3) (dps_of_ints _), hl2.1, by omega, by omega, fun r' L' E' H4 e4 sL sE g' d' => ?_⟩
        refine q r' L' E' H4 ((e2.trans e3).trans (.of e4)) ((hp3.ex e4).mono (by omega)) ⟨g', fun l hl => hl2.2.2 l (sL.subset hl), fun l hl => hpos2 l (sL.subset hl), fun e he => p3 e (sE.subset he), ?_, ?_⟩ d'
        · have := sL.length_le
          omega
        · have := sE.length_le
          omega
theorem d_drawn (T : Frees mg) (D : DfP K mg "_law_take" 48) (D2 : DfP K mg "_law_useful" 57) (h : DfP K mg "_law_drawn" 58) : Df P w K mg base "_law_drawn" 2 ["_law_pool_here", "_law_letters_here", "_law_most"] (spDrawn K) :=
  h.df (fun _ _ F => ok_drawn T D D2 F) fun _ _ _ _ _ _ us hl => match us, hl with | [_, _, _], _ => rfl
end
end E

set_option maxRecDepth 100000
set_option maxHeartbeats 4000000
namespace EM
/-- texts met so far, and the lanes between them -/
structure TaW (ls : List Nat) (m : Nat) (tx : List (List Nat)) (L : List Ln) : Prop where
  z : tx[0]? = some []
  nd : tx.Nodup
  ok : ∀ u ∈ tx, (∀ c ∈ u, c ∈ ls) ∧ u.length ≤ m
  la : ∀ l ∈ L, ∃ (i j : Nat) (u v : List Nat), l.1 = (i : Int) ∧ l.2.2 = (j : Int) ∧ tx[i]? = some u ∧ tx[j]? = some v ∧ v = lastN m (u ++ [l.2.1])
theorem TaW.init (ls : List Nat) (m : Nat) : TaW ls m [[]] [] := ⟨rfl, by simp, fun u hu => by
  rw [List.mem_singleton.mp hu]
  exact ⟨(fun _ h => by cases h), Nat.zero_le _⟩, (fun _ h => by cases h)⟩
theorem get_app {α : Type} {l : List α} {i : Nat} {x : α} (h : l[i]? = some x) (r : List α) : (l ++ r)[i]? = some x := by
  obtain ⟨h1, _⟩ := List.getElem?_eq_some_iff.mp h
  rw [List.getElem?_append_left h1]
  exact h
theorem TaW.text {ls : List Nat} {m : Nat} {tx : List (List Nat)} {L : List Ln} (h : TaW ls m tx L) {u : List Nat} (hn : u ∉ tx) (hu : (∀ c ∈ u, c ∈ ls) ∧ u.length ≤ m) : TaW ls m (tx ++ [u]) L := by
  refine ⟨get_app h.z _, ?_, fun v hv => ?_, fun l hl => ?_⟩
  · rw [List.nodup_append]
    exact ⟨h.nd, by simp, fun a ha b hb => by
      rw [List.mem_singleton.mp hb]
      exact fun z => hn (by rw [← z]; exact ha)⟩
  · rcases List.mem_append.mp hv with h1 | h1
    · exact h.ok v h1
    · rw [List.mem_singleton.mp h1]; exact hu
  · obtain ⟨i, j, u', v, h1, h2, h3, h4, h5⟩ := h.la l hl
    exact ⟨i, j, u', v, h1, h2, get_app h3 _, get_app h4 _, h5⟩
theorem TaW.lane {ls : List Nat} {m : Nat} {tx : List (List Nat)} {L : List Ln} (h : TaW ls m tx L) {i j c : Nat} {u v : List Nat} (hi : tx[i]? = some u) (hj : tx[j]? = some v) (e : v = lastN m (u ++ [c])) : TaW ls m tx (L ++ [((i : Int), c, (j : Int))]) :=
  ⟨h.z, h.nd, h.ok, fun l hl => by
    rcases List.mem_append.mp hl with h1 | h1
    · exact h.la l h1
    · rw [List.mem_singleton.mp h1]
      exact ⟨i, j, u, v, rfl, rfl, hi, hj, e⟩⟩
theorem lastN_ok {m : Nat} {ls u : List Nat} {c : Nat} (hu : ∀ c ∈ u, c ∈ ls) (hc : c ∈ ls) : (∀ d ∈ lastN m (u ++ [c]), d ∈ ls) ∧ (lastN m (u ++ [c])).length ≤ m := by
  refine ⟨fun d hd => ?_, ?_⟩
  · have := List.mem_of_mem_drop hd
    rcases List.mem_append.mp this with h1 | h1
    · exact hu d h1
    · rw [List.mem_singleton.mp h1]; exact hc
  · unfold lastN
    rw [List.length_drop]
    omega
def allW (ls : List Nat) : List (List Nat) := [] :: (ls.map fun a => [a]) ++ ls.flatMap fun a => ls.map fun b => [a, b]
theorem flat_const {α β : Type} {f : α → List β} {n : Nat} (h : ∀ a, (f a).length = n) : ∀ L : List α, (L.flatMap f).length = L.length * n
  | [] => by simp
  | a :: r => by
    rw [List.flatMap_cons, List.length_append, h, flat_const h r, List.length_cons, Nat.succ_mul, Nat.add_comm]
theorem TaW.few {ls : List Nat} {m : Nat} {tx : List (List Nat)} {L : List Ln} (h : TaW ls m tx L) (hm : m ≤ 2) (hl : ls.length ≤ 3) : tx.length ≤ 13 := by
  have h1 : tx.length ≤ (allW ls).length := nodup_le h.nd fun u hu => by
    obtain ⟨h2, h3⟩ := h.ok u hu
    unfold allW
    match u, h2, h3 with
    | [], _, _ => simp
    | [a], h2, _ => simp [h2 a (by simp)]
    | [a, b], h2, _ =>
      refine List.mem_append_right _ (List.mem_flatMap.mpr ⟨a, h2 a (by simp), List.mem_map.mpr ⟨b, h2 b (by simp), rfl⟩⟩)
    | a :: b :: c :: r, _, h3 =>
      exfalso
      simp at h3
      omega
  have h2 : (allW ls).length = 1 + ls.length + ls.length * ls.length := by
    unfold allW
    rw [List.length_append, List.length_cons, List.length_map, flat_const (n := ls.length) (fun a => by simp)]
    omega
  have h3 : ls.length * ls.length ≤ 3 * 3 := Nat.mul_le_mul hl hl
  omega
theorem TaW.tailed {ls : List Nat} {m : Nat} {tx : List (List Nat)} {L : List Ln} (h : TaW ls m tx L) {L' : List Ln} (hs : ∀ l ∈ L', l ∈ L) : Tailed m ls L' (fun i => (tx[i.toNat]?).getD []) := by
  have key : ∀ l ∈ L', ∃ (i j : Nat) (u v : List Nat), l.1 = (i : Int) ∧ l.2.2 = (j : Int) ∧ tx[i]? = some u ∧ tx[j]? = some v ∧ v = lastN m (u ++ [l.2.1]) := fun l hl => h.la l (hs l hl)
  refine ⟨by show (tx[0]?).getD [] = []; rw [h.z]; rfl, fun l hl => ?_, fun l hl l' hl' e => ?_, fun l hl c hc => ?_⟩
  · obtain ⟨i, j, u, v, h1, h2, h3, h4, h5⟩ := key l hl
    show (tx[l.2.2.toNat]?).getD [] = lastN m ((tx[l.1.toNat]?).getD [] ++ [l.2.1])
    rw [h1, h2, Int.toNat_natCast, Int.toNat_natCast, h3, h4]
    exact h5
  · obtain ⟨i, j, u, v, h1, h2, h3, h4, h5⟩ := key l hl
    obtain ⟨i', j', u', v', h1', h2', h3', h4', h5'⟩ := key l' hl'
    have e2 : (tx[l.2.2.toNat]?).getD [] = (tx[l'.2.2.toNat]?).getD [] := e
    rw [h2, h2', Int.toNat_natCast, Int.toNat_natCast, h4, h4'] at e2
    have e3 : v = v' := e2
    subst e3
    obtain ⟨g1, g2⟩ := List.getElem?_eq_some_iff.mp h4
    obtain ⟨g3, g4⟩ := List.getElem?_eq_some_iff.mp h4'
    have ej : j = j' := by
      rcases Nat.lt_trichotomy j j' with q | q | q
      · exact absurd (g2.trans g4.symm) (List.pairwise_iff_getElem.mp h.nd j j' g1 g3 q)
      · exact q
      · exact absurd (g4.trans g2.symm) (List.pairwise_iff_getElem.mp h.nd j' j g3 g1 q)
    rw [h2, h2', ej]
  · obtain ⟨i, j, u, v, h1, h2, h3, h4, h5⟩ := key l hl
    have hc' : c ∈ (tx[l.2.2.toNat]?).getD [] := hc
    rw [h2, Int.toNat_natCast, h4] at hc'
    exact (h.ok v (List.mem_of_getElem? h4)).1 c hc'
end EM
namespace E
open PySem PySem.Spec PyProof.Rows L2
theorem eqV_w (a b : List Nat) : eqV (wV a) (wV b) = decide (a = b) := by
  show (wS a == wS b) = decide (a = b)
  by_cases h : a = b
  · rw [h, decide_eq_true rfl]
    exact beq_iff_eq.mpr rfl
  · rw [decide_eq_false h]
    exact beq_eq_false_iff_ne.mpr fun z => h (wS_inj z)
theorem inV_w (u : List Nat) (us : List (List Nat)) : inV (wV u) (us.map wV) = decide (u ∈ us) := by
  have h : ∀ b : Bool, (b = true ↔ u ∈ us) → b = decide (u ∈ us) := fun b hb => by
    by_cases hi : u ∈ us
    · rw [decide_eq_true hi]; exact hb.mpr hi
    · rw [decide_eq_false hi]
      cases b with
      | false => rfl
      | true => exact absurd (hb.mp rfl) hi
  refine h _ ?_
  unfold inV
  rw [List.any_eq_true]
  constructor
  · rintro ⟨x, hx, he⟩
    obtain ⟨j, hj, rfl⟩ := List.mem_map.mp hx
    rw [eqV_w] at he
    rw [← of_decide_eq_true he]
    exact hj
  · intro hi
    exact ⟨wV u, List.mem_map.mpr ⟨u, hi, rfl⟩, by rw [eqV_w]; exact decide_eq_true rfl⟩
theorem flat_ws (us : List (List Nat)) : (us.map wV).all flatV = true := by
  rw [List.all_eq_true]
  rintro x hx
  obtain ⟨j, _, rfl⟩ := List.mem_map.mp hx
  rfl
section
variable {P : Program} {w : World} {K : PySem.W.Frag} {mg : Str → Option Value} {base : Heap} {f : Addr} {fd : FuncData}
def spTailed (K : PySem.W.Frag) : Sp := fun vs H Q _ => ∃ (p0 : Addr) (ls : List Nat) (n : Nat) (mo : Int), vs = [.ref p0, .str (wS ls), .int mo] ∧ LsOk ls ∧ PoolAt H p0 n ∧ n ≤ 900000 ∧ 1 ≤ mo ∧ mo ≤ 1 + 1 ∧ (mo = 1 ∨ mo = 2) ∧
  ∀ (r : Addr) (L : List Ln) (Es : List Int) (H' : Hp), ExB [p0] H H' → PoolAt H' p0 (n + 60) → EM.Raw ls L Es → EM.Stands ls L → Dp K (hid [p0] H') (.ref r) (partsD L Es) → Q (.ref r) H'
def TaI (K : PySem.W.Frag) (H : Hp) (p0 ta r : Addr) (ls : List Nat) (n : Nat) (mo : Int) (many : Nat) (b : Bool) (at_ k : Nat) (σ : L2.St) (H' : Hp) : Prop := ∃ (tx : List (List Nat)) (L : List Ln) (xs : List V) (o7 o8 : Option V),
  σ = [some (.ref p0), some (.str (wS ls)), some (.int mo), some (.int many), some (.ref ta), some (.ref r), some (.int at_), o7, o8, none] ∧
  ExB [p0] H H' ∧ PoolAt H' p0 (n + 1 + 3 * at_ + k) ∧ H' ta = some (.lst (tx.map wV)) ∧ H' r = some (.lst xs) ∧ DpAll K (hid [p0, ta, r] H') xs (L.map lnD) ∧ EM.Laid ls (at_ : Int) k L ∧ EM.TaW ls many tx L ∧ L.length ≤ 3 * at_ + k ∧ at_ ≤ tx.length ∧ (b = true → at_ < tx.length)
theorem scTailed : FnScope ["_law_pool_here", "_law_letters_here", "_law_most", "_law_many", "_law_texts", "_law_lanes", "_law_at", "_law_letter", "_law_then", "_law_p"] ["_law_pool_here", "_law_letters_here", "_law_most"] (defScope (top 59)) := ⟨rfl, rfl, rfl, by decide +kernel, rfl, by decide +kernel, by decide +kernel⟩
theorem ok_tailed (T : Frees mg) (D : DfP K mg "_law_take" 48) (D2 : DfP K mg "_law_useful" 57) (F : FnP K "_law_tailed" "_law_tailed" (top 59) f fd) : FnOk P w K mg base CX0 2 f fd ["_law_pool_here", "_law_letters_here", "_law_most"] (spTailed K) := by
  refine F.ok scTailed (fun vs H Q E h => ?_) (fun cdv A outer s H vs Q E hr h => ?_)
  · obtain ⟨p0, ls, n, mo, rfl, _⟩ := h
    rfl
  · obtain ⟨p0, ls, n, mo, rfl, hL, hp, hn, mo1, mo2, _, q⟩ := h
    have Dt : Df P w K mg base "_law_take" 1 _ _ := d_take T D
    have Du : Df P w K mg base "_law_useful" 1 _ _ := d_useful T D2
    refine ⟨_, PSs.nox (pss_cons (ps_set (i := 3) scTailed.nd rfl (Or.inl rfl) (pe_op op_add pe_int (pe_df Dt (hr.mono (by decide)) rfl (pa_cons (pv 0) (pa_cons (pv 2) pa_nil)))))
      (pss_cons (ps_set (i := 4) scTailed.nd rfl (Or.inl rfl) (pe_lst (pa_cons pe_str pa_nil)))
      (pss_cons (ps_set (i := 5) scTailed.nd rfl (Or.inl rfl) (pe_lst pa_nil))
      (pss_cons (ps_set (i := 6) scTailed.nd rfl (Or.inl rfl) pe_int)
      (pss_cons (ps_while PassesOwn.never (pt_cmpR op_lt (pv 6) (pe_callB call_len (by rfl) T.len PySem.boot_len (pa_cons (pv 4) pa_nil)) (nomark _))
        (pss_cons (ps_for PassesOwn.never rfl (pi_str (pv 1)) (pg_name (i := 7) scTailed.nd rfl (Or.inl rfl))
        (pss_cons (ps_set (i := 8) scTailed.nd rfl (Or.inl rfl) (pe_slice sl_str (pe_op op_add_str (pe_ix ix_list (pv 4) (pv 6) (fun _ _ => rfl)) (pv 7)) (po_some (pe_un un_neg (pv 3))) po_none))
      (pss_one (ps_if (pt_cmpR op_gt (pe_df Dt (hr.mono (by decide)) rfl (pa_cons (pv 0) (pa_cons pe_int pa_nil))) pe_int (nomark _)) (pss_cons (ps_if (pt_cmpR op_notIn_seq (pv 8) (pv 4) (by rfl)) (pss_one (ps_expr (pe_bm PySem.F.plainAttrs_list PySem.F.slot_list_append PySem.F.type_list_append mt_append (pv 4) (pa_cons (pv 8) pa_nil)))) pss_nil)
      (pss_one (ps_expr (pe_bm PySem.F.plainAttrs_list PySem.F.slot_list_append PySem.F.type_list_append mt_append (pv 5) (pa_cons (pe_tup (pa_cons (pv 6) (pa_cons (pv 7) (pa_cons (pe_bm PySem.F.plainAttrs_list PySem.F.slot_list_index PySem.F.type_list_index mt_index (pv 4) (pa_cons (pv 8) pa_nil)) pa_nil)))) pa_nil))))) pss_nil))))
      (pss_one (ps_set (i := 6) scTailed.nd rfl (Or.inl rfl) (pe_op op_add (pv 6) pe_int)))))
      (pss_one (ps_ret (pe_df Du (hr.mono (by decide)) rfl (pa_cons (pv 5) (pa_cons (pe_lcD (own := [("_law_p", 9)]) s H rfl scTailed.nd (pi_range1 rfl T.range (pa_cons (pe_callB call_len (by rfl) T.len PySem.boot_len (pa_cons (pv 4) pa_nil)) pa_nil)) (blkOk_by (own := [("_law_p", 9)]) (N := ["_law_pool_here", "_law_letters_here", "_law_most", "_law_many", "_law_texts", "_law_lanes", "_law_at", "_law_letter", "_law_then", "_law_p"]) (sc := (defScope (top 59))) (by decide +kernel)) (pg_name (i := 9) scTailed.nd rfl (Or.inl rfl)) (pts_one (pt_cmpR op_eq (pe_df Dt (hr.mono (by decide)) rfl (pa_cons (pv 0) (pa_cons pe_int pa_nil))) pe_int (nomark _))) (pv 9) (fun _ _ _ _ _ => (pg_name (i := 9) scTailed.nd rfl (Or.inl rfl))) (fun _ _ _ _ _ => (pts_one (pt_cmpR op_eq (pe_df Dt (hr.mono (by decide)) rfl (pa_cons (pv 0) (pa_cons pe_int pa_nil))) pe_int (nomark _)))) (fun _ _ _ _ _ => (pv 9))) pa_nil)))))))))), ?_⟩
    refine ⟨_, rfl, _, rfl, p0, mo, n, rfl, by omega, by omega, hp, by omega, fun d H1 d0 d1 hp1 e1 => ?_⟩
    obtain ⟨many, em, hm, hm0⟩ : ∃ many : Nat, (1 : Int) + d = (many : Int) ∧ many ≤ 2 ∧ 0 < many := ⟨(1 + d).toNat, by omega, by omega, by omega⟩
    refine ⟨_, _, rfl, rfl, ?_⟩
    dsimp only
    rw [em]
    refine ⟨len1 _, fun ta hta => ⟨Nat.zero_le _, fun r hrn => ?_⟩⟩
    obtain ⟨hrt, hrn'⟩ := upd_nn hrn
    have htp : ta ≠ p0 := hp1.ne hta
    have hrp : r ≠ p0 := hp1.ne hrn'
    have ht0 : H ta = none := exb_none e1 hta (by simpa using htp)
    have hr0 : H r = none := exb_none e1 hrn' (by simpa using hrp)
    have e00 : Ex H1 (upd (upd H1 ta (.lst [.str ""])) r (.lst [])) := ex_new (Evl.Ex.new hta) hrn
    refine ⟨fun m σ H' => ∃ at_, m = 14 - at_ ∧ TaI K H p0 ta r ls n mo many false at_ 0 σ H', ⟨14, 0, rfl, [[]], [], [], none, none, rfl, e1.trans (.of e00), hp1.ex e00, ?_, upd_same, .nil, EM.Laid.nil _ _ _, EM.TaW.init _ _, Nat.zero_le _, Nat.zero_le _, (fun h => absurd h (by decide))⟩, ?_⟩
    · rw [upd_ne hrt.symm, upd_same]
      show some (HO.lst [V.str (Str.ofString "")]) = some (HO.lst [V.str (wS [])])
      rw [nil_wS]
    · rintro m σ H2 ⟨at_, rfl, tx, L, xs, o7, o8, rfl, e2, hp2, ht2, hr2, hD2, hl2, hw2, z2, za2, _⟩
      have few := hw2.few hm hL.len
      refine ⟨_, rfl, _, rfl, _, _, rfl, .inl ⟨_, SqL.of ht2, rfl⟩, _, _, rfl, rfl, _, rfl, ?_⟩
      refine ite2 (fun hb => ⟨fun σ' H' => ∃ m', m' < 14 - at_ ∧ ∃ a', m' = 14 - a' ∧ TaI K H p0 ta r ls n mo many false a' 0 σ' H', fun _ _ h => h, ?_⟩) (fun hb => ?_)
      · have hat : at_ < tx.length := by
          have := of_decide_eq_true hb
          rw [List.length_map] at this
          omega
        refine ⟨_, rfl, _, rfl, for_w (fun k => TaI K H p0 ta r ls n mo many true at_ k) ⟨tx, L, xs, _, _, rfl, e2, hp2, ht2, hr2, hD2, hl2, hw2, z2, za2, fun _ => hat⟩ ?_ ?_⟩
        · rintro k c σ H3 hk ⟨tx, L, xs, o7, o8, rfl, e3, hp3, ht3, hr3, hD3, hl3, hw3, z3, za3, zb3⟩
          have few3 := hw3.few hm hL.len
          have hc : c ∈ ls := List.mem_of_getElem? hk
          have hk3 : k < 3 := Nat.lt_of_lt_of_le (lt_of_get hk) hL.len
          have hat3 : at_ < tx.length := zb3 rfl
          obtain ⟨u, hu⟩ : ∃ u, tx[at_]? = some u := ⟨_, List.getElem?_eq_getElem hat3⟩
          have hu2 := hw3.ok u (List.mem_of_getElem? hu)
          have htr : ta ≠ r := hrt.symm
          refine ⟨_, rfl, _, rfl, ta, tx.map wV, _, wV u, rfl, rfl, SqL.of ht3, atI_nat (by rw [List.getElem?_map, hu]; rfl), _, rfl, wS u, chS c, rfl, rfl, ?_, _, rfl, _, rfl, _, rfl, wS u ++ chS c, rfl, ?_, ?_⟩
          · rw [wS_len]
            show u.length + 1 ≤ sizeLine
            exact sz_of (by omega)
          · rw [wS_snoc, wS_len, List.length_append, List.length_singleton]
            exact sz_of (by omega)
          rw [wS_snoc, cut_last _ _ hm0]
          have lok := EM.lastN_ok (m := many) hu2.1 hc
          generalize hv : EM.lastN many (u ++ [c]) = v at lok
          refine ⟨_, rfl, p0, 6, _, rfl, by decide, by decide, hp3, by omega, fun d H4 d0 d1 hp4 e4 => ?_⟩
          have ht4 : H4 ta = some (.lst (tx.map wV)) := e4 ta _ (by simpa using htp) ht3
          have hr4 : H4 r = some (.lst xs) := e4 r _ (by simpa using hrp) hr3
          have hD4 : DpAll K (hid [p0, ta, r] H4) xs (L.map lnD) := dps_mono (fun a o hq => by
            unfold hid at hq ⊢
            split at hq
            · cases hq
            · rename_i hb
              rw [if_neg hb]
              exact e4 a o (by simp at hb; simp [hb.1]) hq) hD3
          have e34 := e3.trans e4
          have hxl : xs.length = L.length := by rw [dps_len hD3, List.length_map]
          refine ⟨_, _, rfl, rfl, _, rfl, ?_⟩
          refine ite2 (fun hb => ?_) (fun hb => ?_)
          · -- the lane is laid: behind the text's own step
            have lay : ∀ (tx' : List (List Nat)) (H5 : Hp), EM.TaW ls many tx' L → v ∈ tx' → (∀ (i : Nat) u, tx[i]? = some u → tx'[i]? = some u) → ExB [p0] H H5 → PoolAt H5 p0 (n + 1 + 3 * at_ + k + 1) → H5 ta = some (.lst (tx'.map wV)) → H5 r = some (.lst xs) → DpAll K (hid [p0, ta, r] H5) xs (L.map lnD) →
                ∀ t, H5 t = none → TaI K H p0 ta r ls n mo many true at_ (k + 1) [some (.ref p0), some (.str (wS ls)), some (.int mo), some (.int many), some (.ref ta), some (.ref r), some (.int at_), some (.str (chS c)), some (.str (wS v)), none]
                  (upd (upd H5 t (.tup [.int at_, .str (chS c), .int (tx'.idxOf v : Nat)])) r (.lst (xs ++ [.ref t]))) := fun tx' H5 w5 hv5 ext e5 hp5 ht5 hr5 hD5 t ht => by
              have htr' : t ≠ r := (ne_of_none hr5 ht).symm
              have htt : t ≠ ta := (ne_of_none ht5 ht).symm
              have htp' : t ≠ p0 := hp5.ne ht
              have hlt : tx'.idxOf v < tx'.length := List.idxOf_lt_length_iff.mpr hv5
              have hj : tx'[tx'.idxOf v]? = some v := by rw [List.getElem?_eq_getElem hlt, List.getElem_idxOf hlt]
              refine ⟨tx', L ++ [((at_ : Int), c, ((tx'.idxOf v : Nat) : Int))], _, _, _, rfl, ?_, ?_, ?_, upd_same, ?_, hl3.add hL.nd hk, w5.lane (ext _ _ hu) hj hv.symm, ?_, ?_, ?_⟩
              · intro b o nb hb2
                have h1 := e5 b o nb hb2
                rw [upd_ne (ne_of_none hb2 hr0), upd_ne (ne_of_none h1 ht)]
                exact h1
              · obtain ⟨x1, x2, x3, h2, h3⟩ := hp5
                exact ⟨x1, x2, x3, by rw [upd_ne hrp.symm, upd_ne htp'.symm]; exact h2, h3⟩
              · rw [upd_ne htr, upd_ne htt.symm]
                exact ht5
              · rw [List.map_append, hid_upd (by simp)]
                refine dps_app (dps_mono (hid_mono (Evl.Ex.new ht)) hD5) (dps_one (dp_ln_mk (SqT.of ?_)))
                rw [hid_at (by simp [htr', htp', htt]), upd_same]
              · rw [List.length_append, List.length_singleton]
                omega
              · have := (List.getElem?_eq_some_iff.mp (ext _ _ hu)).1
                omega
              · exact fun _ => (List.getElem?_eq_some_iff.mp (ext _ _ hu)).1
            have idx : ∀ (tx' : List (List Nat)), v ∈ tx' → (tx'.map wV)[tx'.idxOf v]? = some (wV v) ∧ ∀ (m : Nat) (z' : V), m < tx'.idxOf v → (tx'.map wV)[m]? = some z' → eqV z' (wV v) = false := fun tx' hv5 => by
              have hlt : tx'.idxOf v < tx'.length := List.idxOf_lt_length_iff.mpr hv5
              refine ⟨by rw [List.getElem?_map, List.getElem?_eq_getElem hlt, List.getElem_idxOf hlt]; rfl, fun m z' hm hz => ?_⟩
              rw [List.getElem?_map, List.getElem?_eq_getElem (by omega)] at hz
              obtain rfl := Option.some.inj hz
              rw [eqV_w, decide_eq_false]
              have h6 := List.not_of_lt_findIdx (p := fun x => x == v) (xs := tx') (i := m) hm
              simpa using h6
            refine ⟨_, rfl, _, rfl, ta, _, rfl, .inl (SqL.of ht4), rfl, flat_ws _, _, rfl, ?_⟩
            have hin : inV (V.str (wS v)) (tx.map wV) = decide (v ∈ tx) := inV_w v tx
            rw [hin]
            by_cases hvt : v ∈ tx
            · rw [decide_eq_true hvt]
              refine iteF ?_
              refine ⟨_, rfl, .inl ⟨rfl, _, SqL.of hr4⟩, _, rfl, _, rfl, _, rfl, .inl ⟨rfl, _, SqL.of ht4⟩, _, rfl, ta, tx.map wV, wV v, tx.idxOf v, wV v, rfl, rfl, SqL.of ht4, rfl, flat_ws _, (idx tx hvt).1, by rw [eqV_w]; exact decide_eq_true rfl, (idx tx hvt).2, len3 _ _ _, fun t ht => ⟨r, xs, _, rfl, rfl, ?_, sz_lt (by omega), lay tx H4 hw3 hvt (fun _ _ h => h) e34 hp4 ht4 hr4 hD4 t ht⟩⟩
              rw [upd_ne (ne_of_none hr4 ht)]
              exact hr4
            · rw [decide_eq_false hvt]
              refine iteT ⟨_, rfl, .inl ⟨rfl, _, SqL.of ht4⟩, _, rfl, ta, tx.map wV, wV v, rfl, rfl, ht4, sz_lt (by rw [List.length_map]; omega), ?_⟩
              have e5 : ExB [p0] H (upd H4 ta (.lst (tx.map wV ++ [wV v]))) := fun b o nb hb2 => by
                rw [upd_ne (ne_of_none hb2 ht0)]
                exact e34 b o nb hb2
              have hr5 : (upd H4 ta (.lst (tx.map wV ++ [wV v]))) r = some (.lst xs) := by rw [upd_ne hrt]; exact hr4
              have ht5 : (upd H4 ta (.lst (tx.map wV ++ [wV v]))) ta = some (.lst ((tx ++ [v]).map wV)) := by rw [upd_same, List.map_append]; rfl
              have hD5 : DpAll K (hid [p0, ta, r] (upd H4 ta (.lst (tx.map wV ++ [wV v])))) xs (L.map lnD) := by
                rw [hid_upd (by simp)]
                exact hD4
              have hp5 : PoolAt (upd H4 ta (.lst (tx.map wV ++ [wV v]))) p0 (n + 1 + 3 * at_ + k + 1) := by
                obtain ⟨x1, x2, x3, h2, h3⟩ := hp4
                exact ⟨x1, x2, x3, by rw [upd_ne htp.symm]; exact h2, h3⟩
              have hv5 : v ∈ tx ++ [v] := by simp
              refine ⟨_, rfl, .inl ⟨rfl, _, SqL.of hr5⟩, _, rfl, _, rfl, _, rfl, .inl ⟨rfl, _, SqL.of ht5⟩, _, rfl, ta, (tx ++ [v]).map wV, wV v, (tx ++ [v]).idxOf v, wV v, rfl, rfl, SqL.of ht5, rfl, flat_ws _, (idx _ hv5).1, by rw [eqV_w]; exact decide_eq_true rfl, (idx _ hv5).2, len3 _ _ _, fun t ht => ⟨r, xs, _, rfl, rfl, ?_, sz_lt (by omega), lay (tx ++ [v]) _ (hw3.text hvt lok) hv5 (fun _ _ h => EM.get_app h _) e5 hp5 ht5 hr5 hD5 t ht⟩⟩
              rw [upd_ne (ne_of_none hr5 ht)]
              exact hr5
          · exact ⟨tx, L, xs, _, _, rfl, e34, hp4, ht4, hr4, hD4, hl3.more, hw3, by omega, za3, fun _ => hat3⟩
        · rintro σ H3 ⟨tx, L, xs, o7, o8, rfl, e3, hp3, ht3, hr3, hD3, hl3, hw3, z3, za3, zb3⟩
          have hlen := hL.len
          have few3 := hw3.few hm hL.len
          have hat3 := zb3 rfl
          exact ⟨_, rfl, _, _, rfl, rfl, 14 - (at_ + 1), by omega, at_ + 1, rfl, tx, L, xs, _, _, rfl, e3, hp3.mono (by omega), ht3, hr3, hD3, by have := hl3.next; exact this, hw3, by omega, by omega, fun h => by cases h⟩
      · refine ⟨_, rfl, _, rfl, _, _, rfl, .inl ⟨_, SqL.of ht2, rfl⟩, _, rfl, ?_, ?_, fun D hD => ?_⟩
        · rw [List.length_map]; omega
        · rw [List.length_map]; omega
        have hDr : D ≠ r := (ne_of_none hr2 hD).symm
        have hDt : D ≠ ta := (ne_of_none ht2 hD).symm
        have hDp : D ≠ p0 := hp2.ne hD
        have hxl : xs.length = L.length := by rw [dps_len hD2, List.length_map]
        have en : (((tx.map wV).length : Nat) : Int).toNat = tx.length := by rw [List.length_map]; omega
        rw [en]
        refine lc_range (lo := 0) (n := tx.length) (fun i H' => ∃ Es : List Int, ExB [p0] H2 H' ∧ PoolAt H' p0 (n + 1 + 3 * at_ + 0 + i) ∧ H' D = some (.lst (Es.map V.int)) ∧ Es.length ≤ i ∧ ∀ e ∈ Es, 0 ≤ e) ⟨[], .of (Evl.Ex.new hD), hp2.ex (Evl.Ex.new hD), upd_same, Nat.le_refl _, (fun _ h => by cases h)⟩ ?_ ?_
        · rintro i H3 hi ⟨Es, e3, hp3, hD3, z3, p3⟩
          refine ⟨rfl, _, rfl, p0, 2, _, rfl, by decide, by decide, hp3, by omega, fun d H4 d0 d1 hp4 e4 => ?_⟩
          have hD4 : H4 D = some (.lst (Es.map V.int)) := e4 D _ (by simpa using hDp) hD3
          refine ⟨rfl, _, rfl, ?_⟩
          refine ite2 (fun hb => ?_) (fun hb => ?_)
          · refine ⟨_, rfl, _, hD4, sz_lt (by rw [List.length_map]; omega), Es ++ [0 + ((i : Nat) : Int)], ?_, ?_, ?_, ?_, ?_⟩
            · intro b o nb hb2
              have h1 := e4 b o nb (e3 b o nb hb2)
              rw [upd_ne (ne_of_none hb2 hD)]
              exact h1
            · obtain ⟨x1, x2, x3, h2, h3⟩ := hp4
              exact ⟨x1, x2, x3, by rw [upd_ne hDp.symm]; exact h2, h3⟩
            · rw [upd_same, List.map_append]
              rfl
            · rw [List.length_append, List.length_singleton]
              omega
            · intro e he
              rcases List.mem_append.mp he with h1 | h1
              · exact p3 e h1
              · rw [List.mem_singleton.mp h1]; omega
          · exact ⟨Es, e3.trans e4, hp4, hD4, by omega, p3⟩
        · rintro H3 ⟨Es, e3, hp3, hD3, z3, p3⟩
          have hr3 : H3 r = some (.lst xs) := e3 r _ (by simpa using hrp) hr2
          have hdd : DpAll K (hid [p0] H3) xs (L.map lnD) := dps_mono (fun a o hq => by
            unfold hid at hq ⊢
            split at hq
            · cases hq
            · rename_i hb
              rw [if_neg (by simp at hb; simp [hb.1])]
              exact e3 a o (by simp at hb; simp [hb.1]) hq) hD2
          refine ⟨[p0], _, _, L, Es, rfl, (fun a ha => by
            obtain ⟨x1, x2, x3, h2, _⟩ := hp3
            rw [List.mem_singleton.mp ha, h2]
            exact fun z => by cases z), .lst (SqL.of (by rw [hid_at (by simpa using hrp)]; exact hr3)) hdd, .lst (SqL.of hD3) (dps_of_ints _), hl2.1, by omega, by omega, fun r' L' E' H4 e4 sL sE g' d' => ?_⟩
          refine q r' L' E' H4 ((e2.trans e3).trans (.of e4)) ((hp3.ex e4).mono (by omega)) ⟨g', fun l hl => hl2.2.2 l (sL.subset hl), fun l hl => ?_, fun e he => p3 e (sE.subset he), ?_, ?_⟩ ⟨many, _, hm0, hw2.tailed fun l hl => sL.subset hl⟩ d'
          · obtain ⟨i, j, _, _, h1, h2, _⟩ := hw2.la l (sL.subset hl)
            rw [h1, h2]
            exact ⟨by omega, by omega⟩
          · have := sL.length_le
            omega
          · have := sE.length_le
            omega
theorem d_tailed (T : Frees mg) (D : DfP K mg "_law_take" 48) (D2 : DfP K mg "_law_useful" 57) (h : DfP K mg "_law_tailed" 59) : Df P w K mg base "_law_tailed" 2 ["_law_pool_here", "_law_letters_here", "_law_most"] (spTailed K) :=
  h.df (fun _ _ F => ok_tailed T D D2 F) fun _ _ _ _ _ _ us hl => match us, hl with | [_, _, _], _ => rfl
end
end E

set_option maxRecDepth 100000
set_option maxHeartbeats 4000000
namespace EM
/-! ### places renamed -/
def ren (f : Int → Int) (L : List Ln) : List Ln := L.map fun l => (f l.1, l.2.1, f l.2.2)
theorem mem_ren {f : Int → Int} {L : List Ln} {l : Ln} : l ∈ ren f L ↔ ∃ k ∈ L, l = (f k.1, k.2.1, f k.2.2) := by
  unfold ren
  rw [List.mem_map]
  constructor
  · rintro ⟨k, h1, h2⟩
    exact ⟨k, h1, h2.symm⟩
  · rintro ⟨k, h1, h2⟩
    exact ⟨k, h1, h2.symm⟩
theorem mem_ren' {f : Int → Int} {L : List Ln} {p q : Int} {c : Nat} (h : (p, c, q) ∈ L) : (f p, c, f q) ∈ ren f L := mem_ren.mpr ⟨_, h, rfl⟩
theorem Reach.ren {f : Int → Int} {L : List Ln} (h0 : f 0 = 0) {p : Int} (h : Reach L p) : Reach (EM.ren f L) (f p) := by
  induction h with
  | z => rw [h0]; exact .z
  | s _ hl ih => exact .s ih (mem_ren' hl)
theorem Co.ren {f : Int → Int} {L : List Ln} {E : List Int} {p : Int} (h : Co L E p) : Co (EM.ren f L) (E.map f) (f p) := by
  induction h with
  | e he => exact .e (List.mem_map_of_mem he)
  | s hl _ ih => exact .s (mem_ren' hl) ih
def InjOn (S : Int → Prop) (f : Int → Int) : Prop := ∀ x y, S x → S y → f x = f y → x = y
theorem DetP.ren {S : Int → Prop} {f : Int → Int} {L : List Ln} (hi : InjOn S f) (hS : ∀ l ∈ L, S l.1 ∧ S l.2.2) (d : DetP L) : DetP (EM.ren f L) := by
  unfold EM.ren
  refine List.pairwise_map.mpr (List.Pairwise.imp_of_mem (fun {a b} ha hb h => ?_) d)
  rintro ⟨h1, h2⟩
  exact h ⟨hi _ _ (hS a ha).1 (hS b hb).1 h1, h2⟩
theorem Good.ren {S : Int → Prop} {f : Int → Int} {L : List Ln} {E : List Int} (hi : InjOn S f) (hS : ∀ l ∈ L, S l.1 ∧ S l.2.2) (h0 : f 0 = 0) (g : Good L E) : Good (EM.ren f L) (E.map f) := by
  refine ⟨g.det.ren hi hS, fun l hl => ?_, fun e he => ?_, ?_⟩
  · obtain ⟨k, hk, rfl⟩ := mem_ren.mp hl
    obtain ⟨⟨h1, h2⟩, h3, h4⟩ := g.at_ k hk
    exact ⟨⟨h1.ren h0, h2.ren⟩, h3.ren h0, h4.ren⟩
  · obtain ⟨x, hx, rfl⟩ := List.mem_map.mp he
    exact (g.ends x hx).ren h0
  · rcases g.zero with ⟨h1, h2⟩ | h
    · exact .inl ⟨by rw [h1]; rfl, by rw [h2]; rfl⟩
    · right
      have := h.ren (f := f)
      rw [h0] at this
      exact this
theorem Stands.ren {ls : List Nat} {S : Int → Prop} {f : Int → Int} {L : List Ln} (hi : InjOn S f) (hS : ∀ l ∈ L, S l.1 ∧ S l.2.2) (h00 : S 0) (h0 : f 0 = 0) (s : Stands ls L) : Stands ls (EM.ren f L) := by
  obtain ⟨m, t, hm, T⟩ := s
  classical
  refine ⟨m, fun y => if h : ∃ x, S x ∧ f x = y then t (Classical.choose h) else [], hm, ?_⟩
  have key : ∀ x, S x → (if h : ∃ x', S x' ∧ f x' = f x then t (Classical.choose h) else []) = t x := fun x hx => by
    have h : ∃ x', S x' ∧ f x' = f x := ⟨x, hx, rfl⟩
    rw [dif_pos h]
    obtain ⟨h1, h2⟩ := Classical.choose_spec h
    rw [hi _ _ h1 hx h2]
  refine ⟨?_, fun l hl => ?_, fun l hl l' hl' e => ?_, fun l hl c hc => ?_⟩
  · have := key 0 h00
    rw [h0] at this
    exact this.trans T.z
  · obtain ⟨k, hk, rfl⟩ := mem_ren.mp hl
    show (if h : ∃ x', S x' ∧ f x' = f k.2.2 then t (Classical.choose h) else []) = lastN m ((if h : ∃ x', S x' ∧ f x' = f k.1 then t (Classical.choose h) else []) ++ [k.2.1])
    rw [key _ (hS k hk).1, key _ (hS k hk).2]
    exact T.step k hk
  · obtain ⟨k, hk, rfl⟩ := mem_ren.mp hl
    obtain ⟨k', hk', rfl⟩ := mem_ren.mp hl'
    have e2 : (if h : ∃ x', S x' ∧ f x' = f k.2.2 then t (Classical.choose h) else []) = (if h : ∃ x', S x' ∧ f x' = f k'.2.2 then t (Classical.choose h) else []) := e
    rw [key _ (hS k hk).2, key _ (hS k' hk').2] at e2
    show f k.2.2 = f k'.2.2
    rw [T.inj k hk k' hk' e2]
  · obtain ⟨k, hk, rfl⟩ := mem_ren.mp hl
    have hc2 : c ∈ (if h : ∃ x', S x' ∧ f x' = f k.2.2 then t (Classical.choose h) else []) := hc
    rw [key _ (hS k hk).2] at hc2
    exact T.lets k hk c hc2
/-- the new name: 0 stays, the i-th of os is the i-th of nw -/
def nm (os nw : List Int) (x : Int) : Int := if x = 0 then 0 else (nw[os.idxOf x]?).getD 0
def Pl (os : List Int) (x : Int) : Prop := x = 0 ∨ x ∈ os
theorem nm_inj {os nw : List Int} (hz : os.length ≤ nw.length) (nd : nw.Nodup) (pos : ∀ x ∈ nw, 0 < x) (h0 : (0 : Int) ∉ os) : InjOn (Pl os) (nm os nw) := by
  have at_ : ∀ x ∈ os, ∃ h : os.idxOf x < nw.length, nm os nw x = nw[os.idxOf x] := fun x hx => by
    have hlt : os.idxOf x < os.length := List.idxOf_lt_length_iff.mpr hx
    have hlt2 : os.idxOf x < nw.length := by omega
    refine ⟨hlt2, ?_⟩
    unfold nm
    rw [if_neg (fun z => h0 (by rw [← z]; exact hx)), List.getElem?_eq_getElem hlt2]
    rfl
  have z0 : nm os nw 0 = 0 := if_pos rfl
  rintro x y (rfl | hx) (rfl | hy) e
  · rfl
  · obtain ⟨h, e2⟩ := at_ y hy
    rw [z0, e2] at e
    have := pos _ (List.getElem_mem h)
    omega
  · obtain ⟨h, e2⟩ := at_ x hx
    rw [z0, e2] at e
    have := pos _ (List.getElem_mem h)
    omega
  · obtain ⟨h1, e1⟩ := at_ x hx
    obtain ⟨h2, e2⟩ := at_ y hy
    rw [e1, e2] at e
    have hi : os.idxOf x = os.idxOf y := by
      rcases Nat.lt_trichotomy (os.idxOf x) (os.idxOf y) with q | q | q
      · exact absurd e (List.pairwise_iff_getElem.mp nd _ _ h1 h2 q)
      · exact q
      · exact absurd e.symm (List.pairwise_iff_getElem.mp nd _ _ h2 h1 q)
    have hlt : os.idxOf x < os.length := List.idxOf_lt_length_iff.mpr hx
    have g1 : os[os.idxOf x] = x := List.getElem_idxOf hlt
    have hlt2 : os.idxOf y < os.length := List.idxOf_lt_length_iff.mpr hy
    have g2 : os[os.idxOf y] = y := List.getElem_idxOf hlt2
    rw [← g1, ← g2]
    congr 1
theorem nm_pos {os nw : List Int} (pos : ∀ x ∈ nw, 0 < x) (x : Int) : 0 ≤ nm os nw x := by
  unfold nm
  split
  · exact Int.le_refl _
  · cases h : nw[os.idxOf x]? with
    | none => exact Int.le_refl _
    | some y =>
      have := pos y (List.mem_of_getElem? h)
      show 0 ≤ y
      omega
def newNames (n : Nat) : List Int := (List.range n).map fun (k : Nat) => ((k : Int) + 1 + 10 * (if (6 : Int) < (k : Int) then 1 else 0))
theorem newNames_nd (n : Nat) : (newNames n).Nodup := by
  refine List.pairwise_map.mpr (List.nodup_range.imp fun {a b} h => ?_)
  intro e
  apply h
  split at e <;> split at e <;> omega
theorem newNames_pos (n : Nat) : ∀ x ∈ newNames n, 0 < x := fun x hx => by
  obtain ⟨k, _, rfl⟩ := List.mem_map.mp hx
  show 0 < ((k : Int) + 1 + 10 * (if (6 : Int) < (k : Int) then 1 else 0))
  split <;> omega
theorem newNames_len (n : Nat) : (newNames n).length = n := by simp [newNames]
end EM
namespace E
open PySem PySem.Spec PyProof.Rows L2
section
variable {P : Program} {w : World} {K : PySem.W.Frag} {mg : Str → Option Value} {base : Heap} {f : Addr} {fd : FuncData}
theorem dp_parts {H : Hp} {v : V} {L : List Ln} {Es : List Int} (h : Dp K H v (partsD L Es)) : ∃ a b c xs, v = .ref a ∧ SqT K H a [.ref b, .ref c] ∧ SqL K H b xs ∧ DpAll K H xs (L.map lnD) ∧ SqL K H c (Es.map V.int) := by
  obtain ⟨a, xs, rfl, h1, h2⟩ := dp_tup h
  cases h2 with
  | cons p t =>
    cases t with
    | cons p2 t =>
      cases t
      obtain ⟨b, ys, rfl, h3, h4⟩ := dp_lst p
      obtain ⟨c, zs, rfl, h5, h6⟩ := dp_lst p2
      rw [dps_ints h6] at h5
      exact ⟨a, b, c, ys, rfl, h1, h3, h4, h5⟩
theorem dp_parts_mk {H : Hp} {a b c : Addr} {xs : List V} {L : List Ln} {Es : List Int} (h1 : SqT K H a [.ref b, .ref c]) (h2 : SqL K H b xs) (h3 : DpAll K H xs (L.map lnD)) (h4 : SqL K H c (Es.map V.int)) : Dp K H (.ref a) (partsD L Es) :=
  .tup h1 (.cons (.lst h2 h3) (.cons (.lst h4 (dps_of_ints _)) .nil))
/-- names given to the first i of os -/
def NmI (H : Hp) (p0 pa o b c nwA d : Addr) (os nw : List Int) (n : Nat) (r : List (Option V)) (i : Nat) (σ : L2.St) (H' : Hp) : Prop := ∃ (kvs : List (Key × V)) (o5 : Option V), σ = [some (.ref p0), some (.ref pa), some (.ref o), some (.ref nwA), some (.ref d), o5, some (.ref b), some (.ref c)] ++ r ∧ ExB [p0] H H' ∧ PoolAt H' p0 n ∧ H' o = some (.lst (os.map V.int)) ∧ H' nwA = some (.lst (nw.map V.int)) ∧ H' d = some (.dK kvs) ∧
  kvs.length ≤ i + 1 ∧ valV kvs (.inl 0) = some (.int 0) ∧ ∀ j x, j < i → os[j]? = some x → valV kvs (.inl x) = some (.int (EM.nm os nw x))
theorem reach_last {L : List Ln} {e : Int} (h : EM.Reach L e) : e = 0 ∨ ∃ l ∈ L, l.2.2 = e := by
  cases h with
  | z => exact .inl rfl
  | s _ hl => exact .inr ⟨_, hl, rfl⟩
def spRenamed (K : PySem.W.Frag) : Sp := fun vs H Q _ => ∃ (p0 : Addr) (v : V) (ls : List Nat) (L : List Ln) (Es : List Int) (n : Nat), vs = [.ref p0, v] ∧ Dp K (hid [p0] H) v (partsD L Es) ∧ PoolAt H p0 n ∧ n ≤ 900000 ∧ EM.Raw ls L Es ∧
  ∀ (r : Addr) (L' : List Ln) (E' : List Int) (H' : Hp), ExB [p0] H H' → PoolAt H' p0 (n + 200) → EM.Raw ls L' E' → (EM.Stands ls L → EM.Stands ls L') → Dp K (hid [p0] H') (.ref r) (partsD L' E') → Q (.ref r) H'
/-- the places met so far -/
def ReO (H : Hp) (p0 pa o b c : Addr) (L : List Ln) (i : Nat) (σ : L2.St) (H' : Hp) : Prop := ∃ (os : List Int) (o8 o9 o10 o11 : Option V), σ = [some (.ref p0), some (.ref pa), some (.ref o), none, none, none, some (.ref b), some (.ref c), o8, o9, o10, o11, none] ∧ Ex H H' ∧ H' o = some (.lst (os.map V.int)) ∧ os.Nodup ∧ (0 : Int) ∉ os ∧ (∀ l ∈ L.take i, EM.Pl os l.1 ∧ EM.Pl os l.2.2) ∧ os.length ≤ 2 * i
def ReI (H : Hp) (p0 pa o b c : Addr) (L : List Ln) (i : Nat) (l : Ln) (j : Nat) (σ : L2.St) (H' : Hp) : Prop := ∃ (os : List Int) (o11 : Option V), σ = [some (.ref p0), some (.ref pa), some (.ref o), none, none, none, some (.ref b), some (.ref c), some (.int l.1), some (.str (chS l.2.1)), some (.int l.2.2), o11, none] ∧ Ex H H' ∧ H' o = some (.lst (os.map V.int)) ∧ os.Nodup ∧ (0 : Int) ∉ os ∧ (∀ l ∈ L.take i, EM.Pl os l.1 ∧ EM.Pl os l.2.2) ∧ os.length ≤ 2 * i + j ∧ ∀ x ∈ [l.1, l.2.2].take j, EM.Pl os x
theorem scRenamed : FnScope ["_law_pool_here", "_law_parts", "_law_olds", "_law_news", "_law_names", "_law_k", "_law_lanes", "_law_ends", "_law_p", "_law_letter", "_law_q", "_law_place", "_law_end"] ["_law_pool_here", "_law_parts"] (defScope (top 60)) := ⟨rfl, rfl, rfl, by decide +kernel, rfl, by decide +kernel, by decide +kernel⟩
theorem ok_renamed (T : Frees mg) (D : DfP K mg "_law_take" 48) (D2 : DfP K mg "_law_mixed" 49) (F : FnP K "_law_renamed" "_law_renamed" (top 60) f fd) : FnOk P w K mg base CX0 3 f fd ["_law_pool_here", "_law_parts"] (spRenamed K) := by
  refine F.ok scRenamed (fun vs H Q E h => ?_) (fun cdv A outer s H vs Q E hr h => ?_)
  · obtain ⟨p0, v, ls, L, Es, n, rfl, _⟩ := h
    rfl
  · obtain ⟨p0, v, ls, L, Es, n, rfl, hv, hp, hn, hR, q⟩ := h
    obtain ⟨pa, b, c, xs, rfl, hS, hb, hA, hc⟩ := dp_parts hv
    have hu := hr.u1
    have Dm : Df P w K mg base "_law_mixed" 2 _ _ := d_mixed T D D2
    refine ⟨_, PSs.nox (pss_cons (ps_asg (pv 1) (pg_tup rfl (pgs_cons (pg_name (i := 6) scRenamed.nd rfl (Or.inl rfl)) (pgs_cons (pg_name (i := 7) scRenamed.nd rfl (Or.inl rfl)) pgs_nil))))
      (pss_cons (ps_set (i := 2) scRenamed.nd rfl (Or.inl rfl) (pe_lst pa_nil))
      (pss_cons (ps_for PassesOwn.never rfl (pi_list (pv 6)) (pg_tup rfl (pgs_cons (pg_name (i := 8) scRenamed.nd rfl (Or.inl rfl)) (pgs_cons (pg_name (i := 9) scRenamed.nd rfl (Or.inl rfl)) (pgs_cons (pg_name (i := 10) scRenamed.nd rfl (Or.inl rfl)) pgs_nil))))
        (pss_one (ps_for PassesOwn.never rfl (pi_tup (pe_tup (pa_cons (pv 8) (pa_cons (pv 10) pa_nil)))) (pg_name (i := 11) scRenamed.nd rfl (Or.inl rfl))
        (pss_one (ps_if (PW.pt (pw_and (pt_cmpR op_ne (pv 11) pe_int (nomark _)) (pw_and1 (pt_cmpR op_notIn_seq (pv 11) (pv 2) (by rfl))))) (pss_one (ps_expr (pe_bm PySem.F.plainAttrs_list PySem.F.slot_list_append PySem.F.type_list_append mt_append (pv 2) (pa_cons (pv 11) pa_nil)))) pss_nil)))))
      (pss_cons (ps_set (i := 3) scRenamed.nd rfl (Or.inl rfl) (pe_df Dm (hr.mono (by decide)) rfl (pa_cons (pv 0) (pa_cons (pe_lcD (own := [("_law_k", 5)]) s H rfl scRenamed.nd (pi_range1 rfl T.range (pa_cons (pe_op op_add (pe_callB call_len (by rfl) T.len PySem.boot_len (pa_cons (pv 2) pa_nil)) pe_int) pa_nil)) (blkOk_by (own := [("_law_k", 5)]) (N := ["_law_pool_here", "_law_parts", "_law_olds", "_law_news", "_law_names", "_law_k", "_law_lanes", "_law_ends", "_law_p", "_law_letter", "_law_q", "_law_place", "_law_end"]) (sc := (defScope (top 60))) (by decide +kernel)) (pg_name (i := 5) scRenamed.nd rfl (Or.inl rfl)) pts_nil (pe_op op_add (pe_op op_add (pv 5) pe_int) (pe_op op_mul pe_int (pe_callTy call_int1 (by rfl) T.int boot_int (pa_cons (pe_cmpR op_gt (pv 5) pe_int (nomark _)) pa_nil)))) (fun _ _ _ _ _ => (pg_name (i := 5) scRenamed.nd rfl (Or.inl rfl))) (fun _ _ _ _ _ => pts_nil) (fun _ _ _ _ _ => (pe_op op_add (pe_op op_add (pv 5) pe_int) (pe_op op_mul pe_int (pe_callTy call_int1 (by rfl) T.int boot_int (pa_cons (pe_cmpR op_gt (pv 5) pe_int (nomark _)) pa_nil)))))) pa_nil))))
      (pss_cons (ps_set (i := 4) scRenamed.nd rfl (Or.inr rfl) (pe_disp (pps_cons pe_int pe_int pps_nil) (by rfl) (by rfl) (fun z => by cases z) (by decide)))
      (pss_cons (ps_for PassesOwn.never rfl (pi_range1 rfl T.range (pa_cons (pe_callB call_len (by rfl) T.len PySem.boot_len (pa_cons (pv 2) pa_nil)) pa_nil)) (pg_name (i := 5) scRenamed.nd rfl (Or.inl rfl))
        (pss_one (ps_dput hu (pv 4) (pe_ix ix_list (pv 2) (pv 5) (fun _ _ => rfl)) (pe_ix ix_list (pv 3) (pv 5) (fun _ _ => rfl)) rfl)))
      (pss_one (ps_ret (pe_tup (pa_cons (pe_lcD (own := [("_law_p", 8), ("_law_letter", 9), ("_law_q", 10)]) s H rfl scRenamed.nd (pi_list (pv 6)) (blkOk_by (own := [("_law_p", 8), ("_law_letter", 9), ("_law_q", 10)]) (N := ["_law_pool_here", "_law_parts", "_law_olds", "_law_news", "_law_names", "_law_k", "_law_lanes", "_law_ends", "_law_p", "_law_letter", "_law_q", "_law_place", "_law_end"]) (sc := (defScope (top 60))) (by decide +kernel)) (pg_tup rfl (pgs_cons (pg_name (i := 8) scRenamed.nd rfl (Or.inl rfl)) (pgs_cons (pg_name (i := 9) scRenamed.nd rfl (Or.inl rfl)) (pgs_cons (pg_name (i := 10) scRenamed.nd rfl (Or.inl rfl)) pgs_nil)))) pts_nil (pe_tup (pa_cons (pe_dget hu (pv 4) (pv 8) (fun _ _ => rfl)) (pa_cons (pv 9) (pa_cons (pe_dget hu (pv 4) (pv 10) (fun _ _ => rfl)) pa_nil)))) (fun _ _ _ _ _ => (pg_tup rfl (pgs_cons (pg_name (i := 8) scRenamed.nd rfl (Or.inl rfl)) (pgs_cons (pg_name (i := 9) scRenamed.nd rfl (Or.inl rfl)) (pgs_cons (pg_name (i := 10) scRenamed.nd rfl (Or.inl rfl)) pgs_nil))))) (fun _ _ _ _ _ => pts_nil) (fun _ _ _ _ _ => (pe_tup (pa_cons (pe_dget hu (pv 4) (pv 8) (fun _ _ => rfl)) (pa_cons (pv 9) (pa_cons (pe_dget hu (pv 4) (pv 10) (fun _ _ => rfl)) pa_nil)))))) (pa_cons (pe_lcD (own := [("_law_end", 12)]) s H rfl scRenamed.nd (pi_list (pv 7)) (blkOk_by (own := [("_law_end", 12)]) (N := ["_law_pool_here", "_law_parts", "_law_olds", "_law_news", "_law_names", "_law_k", "_law_lanes", "_law_ends", "_law_p", "_law_letter", "_law_q", "_law_place", "_law_end"]) (sc := (defScope (top 60))) (by decide +kernel)) (pg_name (i := 12) scRenamed.nd rfl (Or.inl rfl)) pts_nil (pe_dget hu (pv 4) (pv 12) (fun _ _ => rfl)) (fun _ _ _ _ _ => (pg_name (i := 12) scRenamed.nd rfl (Or.inl rfl))) (fun _ _ _ _ _ => pts_nil) (fun _ _ _ _ _ => (pe_dget hu (pv 4) (pv 12) (fun _ _ => rfl)))) pa_nil))))))))))), ?_⟩
    have hS0 := Evl.ex_t (hid_ex _ _) hS
    have hb0 := Evl.ex_l (hid_ex _ _) hb
    have hc0 := Evl.ex_l (hid_ex _ _) hc
    have hA0 := dps_hid hA
    have zL := hR.zL
    have hxl : xs.length = L.length := by rw [dps_len hA, List.length_map]
    refine ⟨_, rfl, pa, _, rfl, hS0, rfl, _, _, rfl, _, _, rfl, rfl, ?_⟩
    refine ⟨Nat.zero_le _, fun o ho => ?_⟩
    have hop : o ≠ p0 := hp.ne ho
    refine ⟨_, rfl, b, rfl, ⟨_, Evl.ex_l (Evl.Ex.new ho) hb0⟩, for_list (K := K) (xs := xs) (ReO H p0 pa o b c L) ⟨[], _, _, _, _, rfl, Evl.Ex.new ho, upd_same, .nil, (fun h => by cases h), (fun _ h => by simp at h), Nat.le_refl _⟩ (fun i σ H' _ h => ?_) ?_ ?_⟩
    · obtain ⟨_, _, _, _, _, _, e, _⟩ := h
      exact Evl.ex_l e hb0
    · rintro i x σ H1 hi ⟨os, o8, o9, o10, o11, rfl, e1, ho1, nd1, z1, m1, len1⟩
      obtain ⟨l, cc, hl, rfl, hT⟩ := dps_ln hA0 hi
      refine ⟨cc, _, rfl, Evl.ex_t e1 hT, rfl, _, _, rfl, _, _, rfl, _, _, rfl, rfl, ?_⟩
      refine ⟨_, rfl, _, rfl, len2 _ _, fun t ht => ⟨t, rfl, ⟨_, SqT.of upd_same⟩, ?_⟩⟩
      have e1t := ex_new (o := .tup [.int l.1, .int l.2.2]) e1 ht
      refine for_tup (K := K) (xs := [.int l.1, .int l.2.2]) (fun j σ H' => ReI H p0 pa o b c L i l j σ H' ∧ H' t = some (.tup [.int l.1, .int l.2.2])) ⟨⟨os, _, rfl, e1t, by rw [upd_ne (ne_of_none ho1 ht)]; exact ho1, nd1, z1, m1, by omega, (fun _ h => by simp at h)⟩, upd_same⟩ (fun _ _ _ _ h => SqT.of h.2) ?_ ?_
      · rintro j x σ H2 hj ⟨⟨os, o11, rfl, e2, ho2, nd2, z2, m2, len2, mj⟩, hT2⟩
        obtain ⟨y, hy, rfl⟩ : ∃ y, [l.1, l.2.2][j]? = some y ∧ x = .int y := by
          match j, hj with
          | 0, hj => exact ⟨_, rfl, (Option.some.inj hj).symm⟩
          | 1, hj => exact ⟨_, rfl, (Option.some.inj hj).symm⟩
        have grow : ∀ {os' : List Int}, (∀ z ∈ os, z ∈ os') → EM.Pl os' y → ∀ z ∈ [l.1, l.2.2].take (j + 1), EM.Pl os' z := fun {os'} h1 h2 z hz => by
          rw [take_snoc' hy] at hz
          rcases List.mem_append.mp hz with h3 | h3
          · rcases mj z h3 with h4 | h4
            · exact .inl h4
            · exact .inr (h1 _ h4)
          · rw [List.mem_singleton.mp h3]; exact h2
        refine ⟨_, rfl, rfl, _, rfl, ?_⟩
        refine ite2 (fun hb => ?_) (fun hb => ?_)
        · have hy0 : y ≠ 0 := fun z => by
            rw [z] at hb
            simp at hb
          refine ⟨_, rfl, _, rfl, o, _, rfl, .inl (SqL.of ho2), rfl, flat_ints _, _, rfl, ?_⟩
          rw [if_pos rfl, inV_int]
          by_cases hm : y ∈ os
          · rw [decide_eq_true hm]
            exact iteF ⟨⟨os, _, rfl, e2, ho2, nd2, z2, m2, by omega, grow (fun _ h => h) (.inr hm)⟩, hT2⟩
          · rw [decide_eq_false hm]
            refine iteT ⟨_, rfl, .inl ⟨rfl, _, SqL.of ho2⟩, _, rfl, o, _, _, rfl, rfl, ho2, ?_, ?_⟩
            · have := lt_of_get hi
              exact sz_lt (by rw [List.length_map]; have := lt_of_get hy; simp at this; omega)
            · refine ⟨⟨os ++ [y], _, rfl, ex_upd e2 ho, by rw [upd_same, List.map_append]; rfl, ?_, ?_, ?_, ?_, grow (fun z h => by simp [h]) (.inr (by simp))⟩, ?_⟩
              · rw [List.nodup_append]
                exact ⟨nd2, by simp, fun a ha b hb => by
                  rw [List.mem_singleton.mp hb]
                  exact fun z => hm (by rw [← z]; exact ha)⟩
              · intro h
                rcases List.mem_append.mp h with h1 | h1
                · exact z2 h1
                · exact hy0 (List.mem_singleton.mp h1).symm
              · intro l' hl'
                obtain ⟨h1, h2⟩ := m2 l' hl'
                exact ⟨h1.imp id fun h => by simp [h], h2.imp id fun h => by simp [h]⟩
              · rw [List.length_append, List.length_singleton]
                omega
              · rw [upd_ne (fun z => by rw [z, ho2] at hT2; cases hT2)]
                exact hT2
        · have hy0 : y = 0 := by simpa using hb
          exact ⟨⟨os, _, rfl, e2, ho2, nd2, z2, m2, by omega, grow (fun _ h => h) (.inl hy0)⟩, hT2⟩
      · rintro σ H2 ⟨⟨os, o11, rfl, e2, ho2, nd2, z2, m2, len2, mj⟩, hT2⟩
        refine ⟨os, _, _, _, _, rfl, e2, ho2, nd2, z2, fun l' hl' => ?_, by simp at len2; omega⟩
        rw [take_snoc' hl] at hl'
        rcases List.mem_append.mp hl' with h3 | h3
        · exact m2 l' h3
        · rw [List.mem_singleton.mp h3]
          exact ⟨mj _ (by simp), mj _ (by simp)⟩
    · rintro σ H1 ⟨os, o8, o9, o10, o11, rfl, e1, ho1, nd1, z1, m1, len1⟩
      rw [hxl, List.take_length] at m1
      rw [hxl] at len1
      have hop1 := ho1
      refine ⟨_, rfl, _, rfl, _, _, rfl, .inl ⟨_, SqL.of ho1, rfl⟩, _, _, rfl, rfl, _, rfl, by rw [List.length_map]; omega, by rw [List.length_map]; omega, fun D hD => ?_⟩
      refine lc_data (K := K) walk_range (List.range (os.length + 2)) (fun (k : Nat) => [PyData.int ((k : Int) + 1 + 10 * (if (6 : Int) < (k : Int) then 1 else 0))]) (by rw [List.length_range, List.length_map]; omega) (by rw [List.length_map]; omega) hD (fun _ _ => trivial) ?_ ?_
      · rintro i k x H2 H' Nx hi e2 _ ⟨rfl, rfl⟩ put skip
        have hik : i = k := by
          obtain ⟨h1, h2⟩ := List.getElem?_eq_some_iff.mp hi
          simpa using h2
        subst hik
        have hk : ((0 : Int) + (i : Int)) + 1 + 10 * (if decide ((6 : Int) < 0 + (i : Int)) = true then 1 else 0) = (i : Int) + 1 + 10 * (if (6 : Int) < (i : Int) then 1 else 0) := by
          rw [Int.zero_add]
          simp only [decide_eq_true_eq]
        refine ⟨rfl, _, rfl, _, _, rfl, rfl, _, rfl, _, _, rfl, rfl, .inr ⟨_, rfl, _, _, rfl, rfl, .inl ⟨by decide, by decide⟩, _, _, rfl, rfl, put _ _ _ (Evl.Ex.refl _) rfl ?_⟩⟩
        rw [← hk]
        exact .int _
      intro H2 acc e2 hacc hAcc
      have hacc2 : acc = (EM.newNames (os.length + 2)).map V.int := by
        have h1 := dps_hid hAcc
        rw [flat_one] at h1
        have h2 : (List.range (os.length + 2)).map (fun (k : Nat) => PyData.int ((k : Int) + 1 + 10 * (if (6 : Int) < (k : Int) then 1 else 0))) = (EM.newNames (os.length + 2)).map PyData.int := by
          unfold EM.newNames
          rw [List.map_map] <;> rfl
        rw [h2] at h1
        exact dps_ints h1
      subst hacc2
      have e12 := e1.trans e2
      have hp2 := hp.ex e12
      have nnl := EM.newNames_len (os.length + 2)
      refine ⟨p0, n, .ref D, _, rfl, .inr ⟨D, rfl, SqL.of hacc, by rw [List.length_map, nnl]; omega⟩, hp2, by rw [List.length_map, nnl]; omega, fun nwA H3 ys pm hn3 e3 hnw hp3 => ?_⟩
      obtain ⟨nw, rfl, pnw⟩ := perm_map_inv _ pm _ rfl
      have nwl : nw.length = os.length + 2 := by rw [pnw.length_eq, nnl]
      have nwnd : nw.Nodup := pnw.nodup_iff.mpr (EM.newNames_nd _)
      have nwpos : ∀ x ∈ nw, 0 < x := fun x hx => EM.newNames_pos _ x (pnw.mem_iff.mp hx)
      rw [List.length_map, nnl] at hp3
      have ho2 := e2 _ _ ho1
      have ho3 := e3 o _ (by simpa using hop) ho2
      have e03 : ExB [p0] H H3 := (ExB.of e12).trans e3
      have inj := EM.nm_inj (os := os) (nw := nw) (by omega) nwnd nwpos z1
      have nm0 : EM.nm os nw 0 = 0 := if_pos rfl
      refine fun d hd => ⟨upd_same, [(.inl 0, .int 0)], rfl, by decide, ?_⟩
      have hdp : d ≠ p0 := hp3.ne hd
      have hd0 : H d = none := exb_none e03 hd (by simpa using hdp)
      have hdo : d ≠ o := (ne_of_none ho3 hd).symm
      have hdn : d ≠ nwA := (ne_of_none hnw hd).symm
      have e04 : ExB [p0] H (upd (upd H3 d (.dK [])) d (.dK (mergeK [] [(.inl 0, .int 0)]))) := fun a ob na ha => by
        rw [upd_ne (ne_of_none ha hd0), upd_ne (ne_of_none ha hd0)]
        exact e03 a ob na ha
      have two : ∀ a, a ≠ d → (upd (upd H3 d (.dK [])) d (.dK (mergeK [] [(.inl 0, .int 0)]))) a = H3 a := fun a ha => by rw [upd_ne ha, upd_ne ha]
      have hp4 : PoolAt (upd (upd H3 d (.dK [])) d (.dK (mergeK [] [(.inl 0, .int 0)]))) p0 (n + (os.length + 2)) := by
        obtain ⟨x1, x2, x3, h2, h3⟩ := hp3
        exact ⟨x1, x2, x3, by rw [two _ hdp.symm]; exact h2, h3⟩
      refine ⟨_, rfl, _, _, rfl, .inl ⟨_, SqL.of (by rw [two _ hdo.symm]; exact ho3), rfl⟩, _, rfl, by rw [List.length_map]; omega, by rw [List.length_map]; omega, for_range (lo := 0) (n := (((os.map V.int).length : Nat) : Int).toNat) (NmI H p0 pa o b c nwA d os nw (n + (os.length + 2)) [o8, o9, o10, o11, none]) ⟨_, _, rfl, e04, hp4, by rw [two _ hdo.symm]; exact ho3, by rw [two _ hdn.symm]; exact hnw, upd_same, Nat.le_refl _, rfl, (fun j x h => by omega)⟩ ?_ ?_⟩
      · rintro i σ H4 hi ⟨kvs, o5, rfl, e4, hp4, ho4, hnw4, hd4, zk, v0, vj⟩
        have hio : i < os.length := by
          rw [List.length_map] at hi
          omega
        have hin : i < nw.length := by omega
        have hosi : os[i]? = some os[i] := List.getElem?_eq_getElem hio
        have hnwi : nw[i]? = some nw[i] := List.getElem?_eq_getElem hin
        have hnm : EM.nm os nw os[i] = nw[i] := by
          unfold EM.nm
          rw [if_neg (fun z => z1 (by rw [← z]; exact List.getElem_mem hio)), List.Nodup.idxOf_getElem nd1, hnwi]
          rfl
        have ei : (0 : Int) + (i : Int) = ((i : Nat) : Int) := by omega
        rw [ei]
        refine ⟨_, rfl, _, rfl, nwA, nw.map V.int, _, .int nw[i], rfl, rfl, SqL.of hnw4, atI_nat (by rw [List.getElem?_map, hnwi]; rfl), _, rfl, _, rfl, _, rfl, o, os.map V.int, _, .int os[i], rfl, rfl, SqL.of ho4, atI_nat (by rw [List.getElem?_map, hosi]; rfl), d, _, rfl, DPut.k (k := .inl os[i]) hd4 (sz_lt (by omega)), ?_⟩
        refine ⟨_, _, rfl, ?_, ?_, ?_, ?_, upd_same, ?_, ?_, ?_⟩
        · intro a ob na ha
          rw [upd_ne (ne_of_none ha hd0)]
          exact e4 a ob na ha
        · obtain ⟨x1, x2, x3, h2, h3⟩ := hp4
          exact ⟨x1, x2, x3, by rw [upd_ne hdp.symm]; exact h2, h3⟩
        · rw [upd_ne hdo.symm]; exact ho4
        · rw [upd_ne hdn.symm]; exact hnw4
        · have := length_putK kvs (.inl os[i]) (.int nw[i])
          omega
        · rw [valV_put, if_neg (fun z => z1 (by rw [Sum.inl.inj z]; exact List.getElem_mem hio))]
          exact v0
        · intro j x hj hx
          rw [valV_put]
          by_cases e : (Sum.inl x : Key) = .inl os[i]
          · rw [if_pos e, Sum.inl.inj e, hnm]
          · rw [if_neg e]
            refine vj j x ?_ hx
            rcases Nat.lt_or_ge j i with h | h
            · exact h
            · exfalso
              have : j = i := by omega
              subst this
              rw [hosi] at hx
              exact e (by rw [Option.some.inj hx])
      · rintro σ H4 ⟨kvs, o5, rfl, e4, hp4, ho4, hnw4, hd4, zk, v0, vj⟩
        rw [show (((os.map V.int).length : Nat) : Int).toNat = os.length by rw [List.length_map]; omega] at vj
        have val : ∀ x, EM.Pl os x → valV kvs (.inl x) = some (.int (EM.nm os nw x)) := fun x hx => by
          rcases hx with rfl | hx
          · rw [nm0]; exact v0
          · obtain ⟨j, hj⟩ := List.mem_iff_getElem?.mp hx
            exact vj j x (lt_of_get hj) hj
        have hg : ∀ {H' : Hp}, Ex H4 H' → ∀ x, EM.Pl os x → DGet H' d (.int x) (some (.int (EM.nm os nw x))) := fun {H'} e x hx => by
          have h1 := DGet.k (k := .inl x) (e _ _ hd4)
          rw [val x hx] at h1
          exact h1
        have hb4 : SqL K (hid [p0] H4) b xs := Evl.ex_l e4.hid hb
        have hA4 : DpAll K (hid [p0] H4) xs (L.map lnD) := dps_mono e4.hid hA
        have hc4 : SqL K (hid [p0] H4) c (Es.map V.int) := Evl.ex_l e4.hid hc
        have hb5 := Evl.ex_l (hid_ex _ _) hb4
        have hc5 := Evl.ex_l (hid_ex _ _) hc4
        have hA5 := dps_hid hA4
        refine ⟨_, rfl, b, rfl, ⟨_, hb5⟩, fun D2 hD2 => ?_⟩
        have hD2p : D2 ≠ p0 := hp4.ne hD2
        refine lc_dataS (K := K) [p0] (walk_list (xs := xs)) L (fun l => [lnD (EM.nm os nw l.1, l.2.1, EM.nm os nw l.2.2)]) hxl (by omega) hD2 (fun H5 e => Evl.ex_l e hb5) ?_ ?_
        · rintro k l x H5 H' Nx hk e5 hacc ⟨rfl, hx⟩ put skip
          obtain ⟨l', cc, hl', rfl, hT⟩ := dps_ln hA5 hx
          rw [hk] at hl'
          obtain rfl := Option.some.inj hl'
          obtain ⟨m11, m12⟩ := m1 l (List.mem_of_getElem? hk)
          refine ⟨cc, _, rfl, Evl.ex_t e5 hT, rfl, _, _, rfl, _, _, rfl, _, _, rfl, rfl, rfl, _, rfl, _, rfl, d, _, rfl, hg e5 _ m11, _, rfl, _, rfl, _, rfl, d, _, rfl, hg e5 _ m12, len3 _ _ _, fun t ht => ?_⟩
          obtain ⟨accv, hacc⟩ := hacc
          have htD : t ≠ D2 := (ne_of_none hacc ht).symm
          have htp : t ≠ p0 := (hp4.ex e5).ne ht
          refine put _ _ _ (Evl.Ex.new ht) rfl (dp_ln_mk (SqT.of ?_))
          rw [hid_at (by simp [htD, htp]), upd_same]
        intro H5 acc5 e5 hacc5 hAcc5
        rw [flat_one] at hAcc5
        refine ⟨_, rfl, c, rfl, ⟨_, Evl.ex_l e5 hc5⟩, fun D3 hD3 => ?_⟩
        have hD3p : D3 ≠ p0 := (hp4.ex e5).ne hD3
        have plE : ∀ e ∈ Es, EM.Pl os e := fun e he => by
          rcases reach_last (hR.good.ends e he) with h | ⟨l, hl, rfl⟩
          · exact .inl h
          · exact (m1 l hl).2
        refine lc_data (K := K) (walk_list (xs := Es.map V.int)) Es (fun e => [PyData.int (EM.nm os nw e)]) (by rw [List.length_map]) (by rw [List.length_map]; have := hR.zE; omega) hD3 (fun H6 e => Evl.ex_l (e5.trans e) hc5) ?_ ?_
        · rintro k e x H6 H' Nx hk e6 hacc ⟨rfl, hx⟩ put skip
          rw [List.getElem?_map, hk] at hx
          obtain rfl := Option.some.inj hx
          exact ⟨rfl, _, rfl, _, rfl, d, _, rfl, hg (e5.trans e6) _ (plE _ (List.mem_of_getElem? hk)), put _ _ _ (Evl.Ex.refl _) rfl (.int _)⟩
        intro H6 acc6 e6 hacc6 hAcc6
        rw [flat_one] at hAcc6
        have hacc7 : acc6 = (Es.map (EM.nm os nw)).map V.int := by
          have h1 := dps_hid hAcc6
          have h2 : Es.map (fun e => PyData.int (EM.nm os nw e)) = (Es.map (EM.nm os nw)).map PyData.int := by rw [List.map_map] <;> rfl
          rw [h2] at h1
          exact dps_ints h1
        subst hacc7
        refine ⟨len2 _ _, fun t ht => ?_⟩
        have e56 := e5.trans e6
        have htp : t ≠ p0 := (hp4.ex e56).ne ht
        have ef : Ex H4 (upd H6 t (.tup [.ref D2, .ref D3])) := ex_new e56 ht
        have hp7 := hp4.ex ef
        have hSn : ∀ l ∈ L, EM.Pl os l.1 ∧ EM.Pl os l.2.2 := m1
        refine q t (EM.ren (EM.nm os nw) L) (Es.map (EM.nm os nw)) _ (e4.trans (.of ef)) (hp7.mono (by omega)) ⟨hR.good.ren inj hSn nm0, ?_, ?_, ?_, by unfold EM.ren; rw [List.length_map]; exact hR.zL, by rw [List.length_map]; exact hR.zE⟩ (fun st => st.ren inj hSn (.inl rfl) nm0) ?_
        · intro l hl
          obtain ⟨k, hk, rfl⟩ := EM.mem_ren.mp hl
          exact hR.lets k hk
        · intro l hl
          obtain ⟨k, hk, rfl⟩ := EM.mem_ren.mp hl
          exact ⟨EM.nm_pos nwpos _, EM.nm_pos nwpos _⟩
        · intro e he
          obtain ⟨x, _, rfl⟩ := List.mem_map.mp he
          exact EM.nm_pos nwpos _
        · refine dp_parts_mk (b := D2) (c := D3) (xs := acc5) (SqT.of (by rw [hid_at (by simpa using htp), upd_same])) (SqL.of (by rw [hid_at (by simpa using hD2p)]; exact Evl.Ex.new ht _ _ (e6 _ _ hacc5))) ?_ (SqL.of (by rw [hid_at (by simpa using hD3p)]; exact Evl.Ex.new ht _ _ hacc6))
          unfold EM.ren
          rw [List.map_map]
          exact dps_mono ((hid_sub (T := D2 :: [p0]) fun a h => List.mem_cons_of_mem _ h).trans (hid_mono (e6.trans (Evl.Ex.new ht)))) hAcc5
theorem d_renamed (T : Frees mg) (D : DfP K mg "_law_take" 48) (D2 : DfP K mg "_law_mixed" 49) (h : DfP K mg "_law_renamed" 60) : Df P w K mg base "_law_renamed" 3 ["_law_pool_here", "_law_parts"] (spRenamed K) :=
  h.df (fun _ _ F => ok_renamed T D D2 F) fun _ _ _ _ _ _ us hl => match us, hl with | [_, _], _ => rfl
end
end E

set_option maxRecDepth 100000
set_option maxHeartbeats 4000000
namespace EM
/-- the places of some lanes -/
def PlL (L : List Ln) (x : Int) : Prop := x = 0 ∨ ∃ l ∈ L, x = l.1 ∨ x = l.2.2
structure PlS (L : List Ln) (ps : List Int) : Prop where
  lt : ps.Pairwise (· < ·)
  mem : ∀ x, x ∈ ps ↔ PlL L x
theorem sorted_ext : ∀ {a b : List Int}, a.Pairwise (· < ·) → b.Pairwise (· < ·) → (∀ x, x ∈ a ↔ x ∈ b) → a = b
  | [], [], _, _, _ => rfl
  | [], y :: b, _, _, h => by have := (h y).mpr List.mem_cons_self; cases this
  | x :: a, [], _, _, h => by have := (h x).mp List.mem_cons_self; cases this
  | x :: a, y :: b, ha, hb, h => by
    obtain ⟨ha1, ha2⟩ := List.pairwise_cons.mp ha
    obtain ⟨hb1, hb2⟩ := List.pairwise_cons.mp hb
    have e : x = y := by
      rcases List.mem_cons.mp ((h x).mp List.mem_cons_self) with h1 | h1
      · exact h1
      · rcases List.mem_cons.mp ((h y).mpr List.mem_cons_self) with h2 | h2
        · exact h2.symm
        · have := hb1 x h1
          have := ha1 y h2
          omega
    subst e
    rw [sorted_ext ha2 hb2 fun z => ?_]
    constructor
    · intro hz
      rcases List.mem_cons.mp ((h z).mp (List.mem_cons_of_mem _ hz)) with h1 | h1
      · have := ha1 z hz
        omega
      · exact h1
    · intro hz
      rcases List.mem_cons.mp ((h z).mpr (List.mem_cons_of_mem _ hz)) with h1 | h1
      · have := hb1 z hz
        omega
      · exact h1
theorem PlS.eq {L : List Ln} {a b : List Int} (ha : PlS L a) (hb : PlS L b) : a = b := sorted_ext ha.lt hb.lt fun x => (ha.mem x).trans (hb.mem x).symm
end EM
namespace E
open PySem PySem.Spec PyProof.Rows L2
section
variable {P : Program} {w : World} {K : PySem.W.Frag} {mg : Str → Option Value} {base : Heap} {f : Addr} {fd : FuncData}
def spPlaces (K : PySem.W.Frag) : Sp := fun vs H Q _ => ∃ (v : V) (L : List Ln) (Es : List Int), vs = [v] ∧ Dp K H v (partsD L Es) ∧ L.length ≤ 60 ∧
  ∀ (r : Addr) (ps : List Int) (H' : Hp), H r = none → Ex H H' → EM.PlS L ps → ps.length ≤ 121 → H' r = some (.lst (ps.map V.int)) → Q (.ref r) H'
def PcO (H : Hp) (pa o : Addr) (L : List Ln) (i : Nat) (σ : L2.St) (H' : Hp) : Prop := ∃ (os : List Int) (o2 o3 o4 o5 : Option V), σ = [some (.ref pa), some (.ref o), o2, o3, o4, o5] ∧ Ex H H' ∧ H' o = some (.lst (os.map V.int)) ∧ os.Nodup ∧ (∀ x, x ∈ os ↔ EM.PlL (L.take i) x) ∧ os.length ≤ 2 * i + 1
def PcI (H : Hp) (pa o : Addr) (L : List Ln) (i : Nat) (l : Ln) (j : Nat) (σ : L2.St) (H' : Hp) : Prop := ∃ (os : List Int) (o5 : Option V), σ = [some (.ref pa), some (.ref o), some (.int l.1), some (.str (chS l.2.1)), some (.int l.2.2), o5] ∧ Ex H H' ∧ H' o = some (.lst (os.map V.int)) ∧ os.Nodup ∧ (∀ x, x ∈ os ↔ (EM.PlL (L.take i) x ∨ x ∈ [l.1, l.2.2].take j)) ∧ os.length ≤ 2 * i + 1 + j
theorem scPlaces : FnScope ["_law_parts", "_law_found", "_law_p", "_law_letter", "_law_q", "_law_place"] ["_law_parts"] (defScope (top 62)) := ⟨rfl, rfl, rfl, by decide +kernel, rfl, by decide +kernel, by decide +kernel⟩
theorem ok_places (T : Frees mg) (F : FnP K "_law_places" "_law_places" (top 62) f fd) : FnOk P w K mg base CX0 1 f fd ["_law_parts"] (spPlaces K) := by
  refine F.ok scPlaces (fun vs H Q E h => ?_) (fun cdv A outer s H vs Q E hr h => ?_)
  · obtain ⟨v, L, Es, rfl, _⟩ := h
    rfl
  · obtain ⟨v, L, Es, rfl, hv, zL, q⟩ := h
    obtain ⟨pa, b, c, xs, rfl, hS, hb, hA, hc⟩ := dp_parts hv
    have hu := hr.units
    refine ⟨_, PSs.nox (pss_cons (ps_set (i := 1) scPlaces.nd rfl (Or.inl rfl) (pe_lst (pa_cons pe_int pa_nil)))
      (pss_cons (ps_for PassesOwn.never rfl (pi_list (pe_ix ix_tup (pv 0) pe_int (fun _ _ => rfl))) (pg_tup rfl (pgs_cons (pg_name (i := 2) scPlaces.nd rfl (Or.inl rfl)) (pgs_cons (pg_name (i := 3) scPlaces.nd rfl (Or.inl rfl)) (pgs_cons (pg_name (i := 4) scPlaces.nd rfl (Or.inl rfl)) pgs_nil))))
        (pss_one (ps_for PassesOwn.never rfl (pi_tup (pe_tup (pa_cons (pv 2) (pa_cons (pv 4) pa_nil)))) (pg_name (i := 5) scPlaces.nd rfl (Or.inl rfl))
        (pss_one (ps_if (pt_cmpR op_notIn_seq (pv 5) (pv 1) (by rfl)) (pss_one (ps_expr (pe_bm PySem.F.plainAttrs_list PySem.F.slot_list_append PySem.F.type_list_append mt_append (pv 1) (pa_cons (pv 5) pa_nil)))) pss_nil)))))
      (pss_one (ps_ret (pe_callB (cr_sortN hu) (by rfl) T.sorted boot_sorted (pa_cons (pv 1) pa_nil)))))), ?_⟩
    have hxl : xs.length = L.length := by rw [dps_len hA, List.length_map]
    refine ⟨len1 _, fun o ho => ?_⟩
    refine ⟨_, rfl, pa, _, _, _, rfl, rfl, Evl.ex_t (Evl.Ex.new ho) hS, rfl, b, rfl, ⟨_, Evl.ex_l (Evl.Ex.new ho) hb⟩, for_list (K := K) (xs := xs) (PcO H pa o L) ⟨[0], _, _, _, _, rfl, Evl.Ex.new ho, upd_same, by simp, fun x => ?_, Nat.le_refl _⟩ (fun i σ H' _ h => ?_) ?_ ?_⟩
    · simp [EM.PlL]
    · obtain ⟨_, _, _, _, _, _, e, _⟩ := h
      exact Evl.ex_l e hb
    · rintro i x σ H1 hi ⟨os, o2, o3, o4, o5, rfl, e1, ho1, nd1, m1, len1⟩
      obtain ⟨l, cc, hl, rfl, hT⟩ := dps_ln hA hi
      refine ⟨cc, _, rfl, Evl.ex_t e1 hT, rfl, _, _, rfl, _, _, rfl, _, _, rfl, rfl, ?_⟩
      refine ⟨_, rfl, _, rfl, len2 _ _, fun t ht => ⟨t, rfl, ⟨_, SqT.of upd_same⟩, ?_⟩⟩
      have e1t := ex_new (o := .tup [.int l.1, .int l.2.2]) e1 ht
      refine for_tup (K := K) (xs := [.int l.1, .int l.2.2]) (fun j σ H' => PcI H pa o L i l j σ H' ∧ H' t = some (.tup [.int l.1, .int l.2.2])) ⟨⟨os, _, rfl, e1t, by rw [upd_ne (ne_of_none ho1 ht)]; exact ho1, nd1, (fun x => by rw [m1]; simp), len1⟩, upd_same⟩ (fun _ _ _ _ h => SqT.of h.2) ?_ ?_
      · rintro j x σ H2 hj ⟨⟨os, o5, rfl, e2, ho2, nd2, m2, len2⟩, hT2⟩
        obtain ⟨y, hy, rfl⟩ : ∃ y, [l.1, l.2.2][j]? = some y ∧ x = .int y := by
          match j, hj with
          | 0, hj => exact ⟨_, rfl, (Option.some.inj hj).symm⟩
          | 1, hj => exact ⟨_, rfl, (Option.some.inj hj).symm⟩
        have hj2 : j < 2 := lt_of_get hy
        refine ⟨_, rfl, _, rfl, o, _, rfl, .inl (SqL.of ho2), rfl, flat_ints _, _, rfl, ?_⟩
        rw [if_pos rfl, inV_int]
        by_cases hm : y ∈ os
        · rw [decide_eq_true hm]
          refine iteF ⟨⟨os, _, rfl, e2, ho2, nd2, fun x => ?_, by omega⟩, hT2⟩
          rw [take_snoc' hy, m2, List.mem_append, List.mem_singleton]
          constructor
          · rintro (h | h)
            · exact .inl h
            · exact .inr (.inl h)
          · rintro (h | h | h)
            · exact .inl h
            · exact .inr h
            · rw [h]; exact (m2 y).mp hm
        · rw [decide_eq_false hm]
          refine iteT ⟨_, rfl, .inl ⟨rfl, _, SqL.of ho2⟩, _, rfl, o, _, _, rfl, rfl, ho2, ?_, ?_⟩
          · have := lt_of_get hi
            exact sz_lt (by rw [List.length_map]; omega)
          · refine ⟨⟨os ++ [y], _, rfl, ex_upd e2 ho, by rw [upd_same, List.map_append]; rfl, ?_, fun x => ?_, ?_⟩, ?_⟩
            · rw [List.nodup_append]
              exact ⟨nd2, by simp, fun a ha b hb => by
                rw [List.mem_singleton.mp hb]
                exact fun z => hm (by rw [← z]; exact ha)⟩
            · rw [take_snoc' hy, List.mem_append, m2, List.mem_append, or_assoc]
            · rw [List.length_append, List.length_singleton]
              omega
            · rw [upd_ne (fun z => by rw [z, ho2] at hT2; cases hT2)]
              exact hT2
      · rintro σ H2 ⟨⟨os, o5, rfl, e2, ho2, nd2, m2, len2⟩, hT2⟩
        refine ⟨os, _, _, _, _, rfl, e2, ho2, nd2, fun x => ?_, by simp at len2; omega⟩
        rw [m2, take_snoc' hl]
        unfold EM.PlL
        simp only [List.mem_append, List.mem_singleton]
        constructor
        · rintro ((h | ⟨l', h1, h2⟩) | h)
          · exact .inl h
          · exact .inr ⟨l', .inl h1, h2⟩
          · have h3 : x = l.1 ∨ x = l.2.2 := by simpa using h
            exact .inr ⟨l, .inr rfl, h3⟩
        · rintro (h | ⟨l', h1 | h1, h2⟩)
          · exact .inl (.inl h)
          · exact .inl (.inr ⟨l', h1, h2⟩)
          · rw [h1] at h2
            exact .inr (by simpa using h2)
    · rintro σ H1 ⟨os, o2, o3, o4, o5, rfl, e1, ho1, nd1, m1, len1⟩
      rw [hxl, List.take_length] at m1
      rw [hxl] at len1
      refine ⟨_, rfl, o, os.map V.int, os, rfl, .inl (SqL.of ho1), dps_of_ints _, fun r ys hr1 hY => ?_⟩
      have hpm := List.mergeSort_perm os (PySem.W.dataLe false encI)
      have hpw := sortI_pw os
      have h2 : ys = (os.mergeSort (PySem.W.dataLe false encI)).map V.int := dps_ints hY
      subst h2
      refine q r (os.mergeSort (PySem.W.dataLe false encI)) _ (ex_none e1 hr1) (ex_new e1 hr1) ⟨?_, fun x => by rw [hpm.mem_iff, m1]⟩ (by rw [hpm.length_eq]; omega) upd_same
      have nd2 : (os.mergeSort (PySem.W.dataLe false encI)).Nodup := hpm.nodup_iff.mpr nd1
      exact (hpw.and nd2).imp fun h => by omega
theorem d_places (T : Frees mg) (h : DfP K mg "_law_places" 62) : Df P w K mg base "_law_places" 1 ["_law_parts"] (spPlaces K) :=
  h.df (fun _ _ F => ok_places T F) fun _ _ _ _ _ _ us hl => match us, hl with | [_], _ => rfl
end
end E

set_option maxRecDepth 100000
set_option maxHeartbeats 4000000
namespace EM
abbrev Pr := Int × Int
/-- what the list of pairs holds: only pairs ahead, none twice -/
structure AhS (ls : List Nat) (L : List Ln) (fs : List Pr) : Prop where
  snd : ∀ x ∈ fs, Ah ls L x.1 x.2
  nd : fs.Nodup
def AhC (ls : List Nat) (L : List Ln) (l : Ln) (fs : List Pr) : Prop := (0, l.2.2) ∈ fs ∧ ∀ l' ∈ L, ls.idxOf l'.2.1 < ls.idxOf l.2.1 → (l'.2.2, l.2.2) ∈ fs
def AhN (ls : List Nat) (L : List Ln) (x : Pr) (fs : List Pr) (c : Nat) : Prop := ∀ p' q', goes L x.1 c = some p' → goes L x.2 c = some q' → (p', q') ∈ fs
theorem AhS.add {ls : List Nat} {L : List Ln} {fs : List Pr} (h : AhS ls L fs) {x : Pr} (hx : Ah ls L x.1 x.2) (hn : x ∉ fs) : AhS ls L (fs ++ [x]) := ⟨fun y hy => by
    rcases List.mem_append.mp hy with h1 | h1
    · exact h.snd y h1
    · rw [List.mem_singleton.mp h1]; exact hx, by
  rw [List.nodup_append]
  exact ⟨h.nd, by simp, fun a ha b hb => by
    rw [List.mem_singleton.mp hb]
    exact fun z => hn (by rw [← z]; exact ha)⟩⟩
theorem AhC.mono {ls : List Nat} {L : List Ln} {l : Ln} {fs gs : List Pr} (h : AhC ls L l fs) (s : ∀ x ∈ fs, x ∈ gs) : AhC ls L l gs := ⟨s _ h.1, fun l' h1 h2 => s _ (h.2 l' h1 h2)⟩
theorem AhN.mono {ls : List Nat} {L : List Ln} {x : Pr} {fs gs : List Pr} {c : Nat} (h : AhN ls L x fs c) (s : ∀ x ∈ fs, x ∈ gs) : AhN ls L x gs c := fun p' q' h1 h2 => s _ (h p' q' h1 h2)
theorem AhS.few {ls : List Nat} {L : List Ln} {fs : List Pr} (h : AhS ls L fs) (z : L.length ≤ 60) : fs.length ≤ 3721 := by
  have h1 : fs.length ≤ ((0 :: L.map (·.2.2)).flatMap fun p => (0 :: L.map (·.2.2)).map fun q => (p, q)).length := nodup_le h.nd fun x hx => by
    have ha := h.snd x hx
    refine List.mem_flatMap.mpr ⟨x.1, ?_, List.mem_map.mpr ⟨x.2, ?_, rfl⟩⟩
    · rcases ha.left with h2 | ⟨l, h2, h3⟩
      · rw [h2]; exact List.mem_cons_self
      · exact List.mem_cons_of_mem _ (List.mem_map.mpr ⟨l, h2, h3⟩)
    · obtain ⟨l, h2, h3⟩ := ha.right
      exact List.mem_cons_of_mem _ (List.mem_map.mpr ⟨l, h2, h3⟩)
  rw [flat_const (n := (0 :: L.map (·.2.2)).length) (fun a => by rw [List.length_map]), List.length_cons, List.length_map] at h1
  have h2 : (L.length + 1) * (L.length + 1) ≤ 61 * 61 := Nat.mul_le_mul (by omega) (by omega)
  omega
theorem Ah.all {ls : List Nat} {L : List Ln} {fs : List Pr} (d : DetP L) (hl : ∀ l ∈ L, l.2.1 ∈ ls) (hb : ∀ l ∈ L, AhC ls L l fs) (hn : ∀ x ∈ fs, ∀ c ∈ ls, AhN ls L x fs c) {p q : Int} (h : Ah ls L p q) : (p, q) ∈ fs := by
  induction h with
  | emp hm => exact (hb _ hm).1
  | let_ hm hm' hlt => exact (hb _ hm).2 _ hm' hlt
  | step _ hm hm' ih => exact hn _ ih _ (hl _ hm) _ _ (goes_of d hm) (goes_of d hm')
end EM
namespace E
open PySem PySem.Spec PyProof.Rows L2
abbrev Pr := EM.Pr
def prP (x : Pr) : PyData := .tuple [.int x.1, .int x.2]
theorem okD_prP (x : Pr) : okD 1 (prP x) := okD.tup (n := 0) fun d hd => by
  rcases List.mem_cons.mp hd with h | h
  · rw [h]; exact okD.int _
  · rw [List.mem_singleton.mp h]; exact okD.int _
theorem shaped_prP (x : Pr) : SeqAt.shaped (prP x) = true := (okD_prP x).shaped (by decide)
theorem shaped_prPs (fs : List Pr) : SeqAt.shaped (.list (fs.map prP)) = true := (okD.list (okD.map fun x _ => okD_prP x)).shaped (by decide)
theorem prP_eqv (x y : Pr) : PyData.eqv (prP x) (prP y) = decide (x = y) := by
  obtain ⟨a, b⟩ := x
  obtain ⟨c, d⟩ := y
  simp [prP, PyData.eqv, PyData.eqvAll]
  rfl
theorem any_prP (x : Pr) (fs : List Pr) : ((fs.map prP).any fun z => PyData.eqv z (prP x)) = decide (x ∈ fs) := by
  have h : ∀ b : Bool, (b = true ↔ x ∈ fs) → b = decide (x ∈ fs) := fun b hb => by
    by_cases hi : x ∈ fs
    · rw [decide_eq_true hi]; exact hb.mpr hi
    · rw [decide_eq_false hi]
      cases b with
      | false => rfl
      | true => exact absurd (hb.mp rfl) hi
  refine h _ ?_
  rw [List.any_eq_true]
  constructor
  · rintro ⟨z, hz, he⟩
    obtain ⟨y, hy, rfl⟩ := List.mem_map.mp hz
    rw [prP_eqv] at he
    rw [← of_decide_eq_true he]
    exact hy
  · intro hi
    exact ⟨prP x, List.mem_map.mpr ⟨x, hi, rfl⟩, by rw [prP_eqv]; exact decide_eq_true rfl⟩
section
variable {P : Program} {w : World} {K : PySem.W.Frag} {mg : Str → Option Value} {base : Heap} {f : Addr} {fd : FuncData}
theorem dp_prP {H : Hp} {a : Addr} {x : Pr} (h : H a = some (.tup [.int x.1, .int x.2])) : Dp K H (.ref a) (prP x) := .tup (SqT.of h) (.cons (.int _) (.cons (.int _) .nil))
theorem dps_prP {H : Hp} {xs : List V} {fs : List Pr} {i : Nat} {v : V} (h : DpAll K H xs (fs.map prP)) (e : xs[i]? = some v) : ∃ x a, fs[i]? = some x ∧ v = .ref a ∧ SqT K H a [.int x.1, .int x.2] := by
  obtain ⟨d, h1, h2⟩ := dps_at h e
  rw [List.getElem?_map] at h1
  cases q : fs[i]? with
  | none => rw [q] at h1; cases h1
  | some x =>
    rw [q] at h1
    have h3 : prP x = d := Option.some.inj h1
    rw [← h3] at h2
    obtain ⟨a, xs, rfl, h4, h5⟩ := dp_tup h2
    cases h5 with
    | cons p t =>
      cases t with
      | cons p2 t =>
        cases t
        rw [dp_int p, dp_int p2] at h4
        exact ⟨x, a, rfl, rfl, h4⟩
def spAhead (K : PySem.W.Frag) : Sp := fun vs H Q _ => ∃ (v : V) (ls : List Nat) (L : List Ln) (Es : List Int), vs = [v, .str (wS ls)] ∧ Dp K H v (partsD L Es) ∧ LsOk ls ∧ EM.Raw ls L Es ∧
  ∀ (r : Addr) (fs : List Pr) (H' : Hp), H r = none → Ex H H' → (∀ p q, (p, q) ∈ fs ↔ EM.Ah ls L p q) → fs.length ≤ 3721 → Dp K H' (.ref r) (.list (fs.map prP)) → Q (.ref r) H'
/-- the list of pairs at o -/
def AhO (K : PySem.W.Frag) (H : Hp) (ls : List Nat) (L : List Ln) (o : Addr) (fs : List Pr) (H' : Hp) : Prop := Ex H H' ∧ EM.AhS ls L fs ∧ ∃ fx, H' o = some (.lst fx) ∧ fx.length = fs.length ∧ DpAll K (hid [o] H') fx (fs.map prP)
theorem AhO.ex {H : Hp} {ls : List Nat} {L : List Ln} {o : Addr} {fs : List Pr} {H' H2 : Hp} (h : AhO K H ls L o fs H') (e : Ex H' H2) : AhO K H ls L o fs H2 := by
  obtain ⟨h1, h2, fx, h3, h4, h5⟩ := h
  exact ⟨h1.trans e, h2, fx, e _ _ h3, h4, dps_mono (hid_mono e) h5⟩
theorem AhO.app {H : Hp} {ls : List Nat} {L : List Ln} {o : Addr} {fs : List Pr} {H' : Hp} (ho : H o = none) (h : AhO K H ls L o fs H') {x : Pr} {t : Addr} (hn : x ∉ fs) (ha : EM.Ah ls L x.1 x.2) (ht : H' t = some (.tup [.int x.1, .int x.2])) {fx : List V} (hfx : H' o = some (.lst fx)) :
    AhO K H ls L o (fs ++ [x]) (upd H' o (.lst (fx ++ [.ref t]))) := by
  obtain ⟨h1, h2, fx', h3, h4, h5⟩ := h
  rw [hfx] at h3
  obtain rfl : fx = fx' := by injection h3 with h3; injection h3
  have hto : t ≠ o := fun z => by rw [z, hfx] at ht; cases ht
  refine ⟨ex_upd h1 ho, h2.add ha hn, _, upd_same, by simp [h4], ?_⟩
  rw [List.map_append, hid_upd (by simp)]
  exact dps_app h5 (dps_one (dp_prP (by rw [hid_at (by simpa using hto)]; exact ht)))
/-- x not in found -/
theorem AhO.notin {H : Hp} {ls : List Nat} {L : List Ln} {o : Addr} {fs : List Pr} {H' : Hp} (h : AhO K H ls L o fs H') (x : Pr) {t : Addr} (ht : H' t = some (.tup [.int x.1, .int x.2])) {Q : VK} (q : Q (.bl (!decide (x ∈ fs))) H') : rNotInD K (.ref t) (.ref o) H' Q := by
  obtain ⟨h1, h2, fx, h3, h4, h5⟩ := h
  refine ⟨prP x, fs.map prP, dp_prP ht, .lst (SqL.of h3) (dps_hid h5), shaped_prP x, shaped_prPs fs, ?_⟩
  rw [any_prP]
  exact q
theorem scAhead : FnScope ["_law_parts", "_law_letters_here", "_law_lanes", "_law_found", "_law_at", "_law_p", "_law_letter", "_law_q", "_law_one", "_law_sign", "_law_other", "_law_pair"] ["_law_parts", "_law_letters_here"] (defScope (top 63)) := ⟨rfl, rfl, rfl, by decide +kernel, rfl, by decide +kernel, by decide +kernel⟩
def A1 (K : PySem.W.Frag) (H : Hp) (ls : List Nat) (L : List Ln) (pa b o : Addr) (i : Nat) (σ : L2.St) (H' : Hp) : Prop := ∃ (fs : List Pr) (o5 o6 o7 o8 o9 o10 : Option V), σ = [some (.ref pa), some (.str (wS ls)), some (.ref b), some (.ref o), none, o5, o6, o7, o8, o9, o10, none] ∧ AhO K H ls L o fs H' ∧ ∀ l ∈ L.take i, EM.AhC ls L l fs
def A2 (K : PySem.W.Frag) (H : Hp) (ls : List Nat) (L : List Ln) (pa b o : Addr) (l : Ln) (fs1 : List Pr) (j : Nat) (σ : L2.St) (H' : Hp) : Prop := ∃ (fs : List Pr) (o8 o9 o10 : Option V), σ = [some (.ref pa), some (.str (wS ls)), some (.ref b), some (.ref o), none, some (.int l.1), some (.str (chS l.2.1)), some (.int l.2.2), o8, o9, o10, none] ∧ AhO K H ls L o fs H' ∧ (∀ x ∈ fs1, x ∈ fs) ∧ ∀ l' ∈ L.take j, ls.idxOf l'.2.1 < ls.idxOf l.2.1 → (l'.2.2, l.2.2) ∈ fs
def A3 (K : PySem.W.Frag) (H : Hp) (ls : List Nat) (L : List Ln) (pa b o : Addr) (at_ : Nat) (σ : L2.St) (H' : Hp) : Prop := ∃ (fs : List Pr) (o5 o6 o7 o8 o9 o10 o11 : Option V), σ = [some (.ref pa), some (.str (wS ls)), some (.ref b), some (.ref o), some (.int at_), o5, o6, o7, o8, o9, o10, o11] ∧ AhO K H ls L o fs H' ∧ (∀ l ∈ L, EM.AhC ls L l fs) ∧ (∀ (i : Nat) (x : Pr), i < at_ → fs[i]? = some x → ∀ c ∈ ls, EM.AhN ls L x fs c) ∧ at_ ≤ fs.length
def A4 (K : PySem.W.Frag) (H : Hp) (ls : List Nat) (L : List Ln) (pa b o : Addr) (at_ : Nat) (x : Pr) (fs0 : List Pr) (k : Nat) (σ : L2.St) (H' : Hp) : Prop := ∃ (fs : List Pr) (o5 o6 o7 o8 o9 o10 o11 : Option V), σ = [some (.ref pa), some (.str (wS ls)), some (.ref b), some (.ref o), some (.int at_), o5, o6, o7, o8, o9, o10, o11] ∧ AhO K H ls L o fs H' ∧ (∃ r, fs = fs0 ++ r) ∧ ∀ c ∈ ls.take k, EM.AhN ls L x fs c
theorem ok_ahead (T : Frees mg) (D : DfP K mg "_law_goes" 54) (F : FnP K "_law_ahead" "_law_ahead" (top 63) f fd) : FnOk P w K mg base CX0 2 f fd ["_law_parts", "_law_letters_here"] (spAhead K) := by
  refine F.ok scAhead (fun vs H Q E h => ?_) (fun cdv A outer s H vs Q E hr h => ?_)
  · obtain ⟨v, ls, L, Es, rfl, _⟩ := h
    rfl
  · obtain ⟨v, ls, L, Es, rfl, hv, hL, hR, q⟩ := h
    obtain ⟨pa, b, c, xs, rfl, hS, hb, hA, hc⟩ := dp_parts hv
    have hu := hr.u65
    have Dg : Df P w K mg base "_law_goes" 1 _ _ := d_goes D
    refine ⟨_, PSs.nox (pss_cons (ps_set (i := 2) scAhead.nd rfl (Or.inl rfl) (pe_ix ix_tup (pv 0) pe_int (fun _ _ => rfl)))
      (pss_cons (ps_set (i := 3) scAhead.nd rfl (Or.inl rfl) (pe_lst pa_nil))
      (pss_cons (ps_for PassesOwn.never rfl (pi_list (pv 2)) (pg_tup rfl (pgs_cons (pg_name (i := 5) scAhead.nd rfl (Or.inl rfl)) (pgs_cons (pg_name (i := 6) scAhead.nd rfl (Or.inl rfl)) (pgs_cons (pg_name (i := 7) scAhead.nd rfl (Or.inl rfl)) pgs_nil))))
        (pss_cons (ps_if (pt_cmpR (op_notInD hu) (pe_tup (pa_cons pe_int (pa_cons (pv 7) pa_nil))) (pv 3) (by rfl)) (pss_one (ps_expr (pe_bm PySem.F.plainAttrs_list PySem.F.slot_list_append PySem.F.type_list_append mt_append (pv 3) (pa_cons (pe_tup (pa_cons pe_int (pa_cons (pv 7) pa_nil))) pa_nil)))) pss_nil)
      (pss_one (ps_for PassesOwn.never rfl (pi_list (pv 2)) (pg_tup rfl (pgs_cons (pg_name (i := 8) scAhead.nd rfl (Or.inl rfl)) (pgs_cons (pg_name (i := 9) scAhead.nd rfl (Or.inl rfl)) (pgs_cons (pg_name (i := 10) scAhead.nd rfl (Or.inl rfl)) pgs_nil))))
        (pss_one (ps_if (PW.pt (pw_and (pt_cmpR op_lt (pe_bm PySem.F.plainAttrs_str PySem.F.slot_str_index PySem.F.type_str_index mt_sidx (pv 1) (pa_cons (pv 9) pa_nil)) (pe_bm PySem.F.plainAttrs_str PySem.F.slot_str_index PySem.F.type_str_index mt_sidx (pv 1) (pa_cons (pv 6) pa_nil)) (nomark _)) (pw_and1 (pt_cmpR (op_notInD hu) (pe_tup (pa_cons (pv 10) (pa_cons (pv 7) pa_nil))) (pv 3) (by rfl))))) (pss_one (ps_expr (pe_bm PySem.F.plainAttrs_list PySem.F.slot_list_append PySem.F.type_list_append mt_append (pv 3) (pa_cons (pe_tup (pa_cons (pv 10) (pa_cons (pv 7) pa_nil))) pa_nil)))) pss_nil))))))
      (pss_cons (ps_set (i := 4) scAhead.nd rfl (Or.inl rfl) pe_int)
      (pss_cons (ps_while PassesOwn.never (pt_cmpR op_lt (pv 4) (pe_callB call_len (by rfl) T.len PySem.boot_len (pa_cons (pv 3) pa_nil)) (nomark _))
        (pss_cons (ps_for PassesOwn.never rfl (pi_str (pv 1)) (pg_name (i := 6) scAhead.nd rfl (Or.inl rfl))
        (pss_cons (ps_set (i := 11) scAhead.nd rfl (Or.inl rfl) (pe_tup (pa_cons (pe_df Dg (hr.mono (by decide)) rfl (pa_cons (pv 2) (pa_cons (pe_ix ix_tup (pe_ix ix_list (pv 3) (pv 4) (fun _ _ => rfl)) pe_int (fun _ _ => rfl)) (pa_cons (pv 6) pa_nil)))) (pa_cons (pe_df Dg (hr.mono (by decide)) rfl (pa_cons (pv 2) (pa_cons (pe_ix ix_tup (pe_ix ix_list (pv 3) (pv 4) (fun _ _ => rfl)) pe_int (fun _ _ => rfl)) (pa_cons (pv 6) pa_nil)))) pa_nil))))
      (pss_one (ps_if (PW.pt (pw_and (pt_cmpR op_notIn_seq pe_non (pv 11) (by rfl)) (pw_and1 (pt_cmpR (op_notInD hu) (pv 11) (pv 3) (by rfl))))) (pss_one (ps_expr (pe_bm PySem.F.plainAttrs_list PySem.F.slot_list_append PySem.F.type_list_append mt_append (pv 3) (pa_cons (pv 11) pa_nil)))) pss_nil))))
      (pss_one (ps_set (i := 4) scAhead.nd rfl (Or.inl rfl) (pe_op op_add (pv 4) pe_int)))))
      (pss_one (ps_ret (pv 3)))))))), ?_⟩
    have hxl : xs.length = L.length := by rw [dps_len hA, List.length_map]
    have zL := hR.zL
    have hlet := hR.lets
    have hdet := hR.good.det
    refine ⟨_, rfl, pa, _, _, _, rfl, rfl, hS, rfl, Nat.zero_le _, fun o ho => ?_⟩
    have e0 := Evl.Ex.new (o := .lst []) ho
    have hA00 : AhO K H ls L o [] (upd H o (.lst [])) := ⟨e0, ⟨(fun _ h => by cases h), .nil⟩, [], upd_same, rfl, .nil⟩
    refine ⟨_, rfl, b, rfl, ⟨_, Evl.ex_l e0 hb⟩, for_list (K := K) (xs := xs) (A1 K H ls L pa b o) ⟨[], _, _, _, _, _, _, rfl, hA00, (fun _ h => by simp at h)⟩ (fun i σ H' _ h => ?_) ?_ ?_⟩
    · obtain ⟨_, _, _, _, _, _, _, _, h1, _⟩ := h
      exact Evl.ex_l h1.1 hb
    · rintro i x σ H1 hi ⟨fs, o5, o6, o7, o8, o9, o10, rfl, hA1, c1⟩
      obtain ⟨l, cc, hl, rfl, hT⟩ := dps_ln hA hi
      have hm := hlet l (List.mem_of_getElem? hl)
      refine ⟨cc, _, rfl, Evl.ex_t hA1.1 hT, rfl, _, _, rfl, _, _, rfl, _, _, rfl, rfl, ?_⟩
      refine ⟨_, rfl, len2 _ _, fun t1 ht1 => ⟨_, rfl, (hA1.ex (Evl.Ex.new ht1)).notin (0, l.2.2) upd_same ⟨_, rfl, ?_⟩⟩⟩
      have hA2 := hA1.ex (Evl.Ex.new (o := .tup [.int 0, .int l.2.2]) ht1)
      by_cases hin : ((0, l.2.2) : Pr) ∈ fs
      · rw [decide_eq_true hin]
        refine iteF ?_
        generalize hH3 : upd H1 t1 (.tup [.int 0, .int l.2.2]) = H3 at hA2 ⊢
        obtain ⟨fs1, rfl⟩ : ∃ fs1, fs1 = fs := ⟨_, rfl⟩
        have hA3 := hA2
        have h0 := hin
        have subf : ∀ z ∈ fs1, z ∈ fs1 := fun _ h => h
        have hb3 : SqL K H3 b xs := Evl.ex_l hA3.1 hb
        refine ⟨_, rfl, b, rfl, ⟨_, hb3⟩, for_list (K := K) (xs := xs) (A2 K H ls L pa b o l fs1) ⟨fs1, _, _, _, rfl, hA3, fun _ h => h, (fun _ h => by simp at h)⟩ (fun i σ H' _ h => ?_) ?_ ?_⟩
        · obtain ⟨_, _, _, _, _, h1, _⟩ := h
          exact Evl.ex_l h1.1 hb
        · rintro j y σ H4 hj ⟨fs, o8, o9, o10, rfl, hA4, sub4, c4⟩
          obtain ⟨l', cc', hl', rfl, hT'⟩ := dps_ln hA hj
          have hm' := hlet l' (List.mem_of_getElem? hl')
          have grow : ∀ {gs : List Pr}, (∀ z ∈ fs, z ∈ gs) → (ls.idxOf l'.2.1 < ls.idxOf l.2.1 → (l'.2.2, l.2.2) ∈ gs) → ∀ l'' ∈ L.take (j + 1), ls.idxOf l''.2.1 < ls.idxOf l.2.1 → (l''.2.2, l.2.2) ∈ gs := fun {gs} h1 h2 l'' hl'' h3 => by
            rw [take_snoc' hl'] at hl''
            rcases List.mem_append.mp hl'' with h4 | h4
            · exact h1 _ (c4 l'' h4 h3)
            · rw [List.mem_singleton.mp h4] at h3 ⊢
              exact h2 h3
          refine ⟨cc', _, rfl, Evl.ex_t hA4.1 hT', rfl, _, _, rfl, _, _, rfl, _, _, rfl, rfl, ?_⟩
          refine ⟨_, rfl, rfl, _, rfl, ls, l'.2.1, rfl, rfl, hm', _, rfl, rfl, _, rfl, ls, l.2.1, rfl, rfl, hm, _, _, rfl, rfl, _, rfl, ?_⟩
          by_cases hlt : ls.idxOf l'.2.1 < ls.idxOf l.2.1
          · rw [decide_eq_true (show ((ls.idxOf l'.2.1 : Nat) : Int) < ((ls.idxOf l.2.1 : Nat) : Int) by omega)]
            refine iteT ⟨_, rfl, _, rfl, len2 _ _, fun t1 ht1 => ⟨_, rfl, (hA4.ex (Evl.Ex.new ht1)).notin (l'.2.2, l.2.2) upd_same ⟨_, rfl, ?_⟩⟩⟩
            have hA5 := hA4.ex (Evl.Ex.new (o := .tup [.int l'.2.2, .int l.2.2]) ht1)
            by_cases hin : ((l'.2.2, l.2.2) : Pr) ∈ fs
            · rw [decide_eq_true hin]
              exact iteF ⟨fs, _, _, _, rfl, hA5, sub4, grow (fun _ h => h) fun _ => hin⟩
            · rw [decide_eq_false hin]
              obtain ⟨e5, s5, fx, hfx, lfx, dfx⟩ := id hA5
              have few := s5.few zL
              refine iteT ⟨_, rfl, .inl ⟨rfl, _, SqL.of hfx⟩, _, rfl, _, rfl, len2 _ _, fun t2 ht2 => ⟨o, fx, _, rfl, rfl, Evl.Ex.new ht2 _ _ hfx, sz_lt (by omega), ?_⟩⟩
              exact ⟨fs ++ [(l'.2.2, l.2.2)], _, _, _, rfl, (hA5.ex (Evl.Ex.new ht2)).app ho hin (.let_ (List.mem_of_getElem? hl) (List.mem_of_getElem? hl') hlt) upd_same (Evl.Ex.new ht2 _ _ hfx), fun z h => by simp [sub4 z h], grow (fun z h => by simp [h]) fun _ => by simp⟩
          · rw [decide_eq_false (show ¬ ((ls.idxOf l'.2.1 : Nat) : Int) < ((ls.idxOf l.2.1 : Nat) : Int) by omega)]
            exact iteF (iteF ⟨fs, _, _, _, rfl, hA4, sub4, grow (fun _ h => h) fun h => absurd h hlt⟩)
        · rintro σ H4 ⟨fs, o8, o9, o10, rfl, hA4, sub4, c4⟩
          rw [hxl, List.take_length] at c4
          refine ⟨fs, _, _, _, _, _, _, rfl, hA4, fun l' hl' => ?_⟩
          rw [take_snoc' hl] at hl'
          rcases List.mem_append.mp hl' with h4 | h4
          · exact (c1 l' h4).mono fun z h => sub4 z (subf z h)
          · rw [List.mem_singleton.mp h4]
            exact ⟨sub4 _ h0, c4⟩
      · rw [decide_eq_false hin]
        obtain ⟨e5, s5, fx, hfx, lfx, dfx⟩ := id hA2
        have few := s5.few zL
        refine iteT ⟨_, rfl, .inl ⟨rfl, _, SqL.of hfx⟩, _, rfl, len2 _ _, fun t2 ht2 => ⟨o, fx, _, rfl, rfl, Evl.Ex.new ht2 _ _ hfx, sz_lt (by omega), ?_⟩⟩
        have hA3 := (hA2.ex (Evl.Ex.new (o := .tup [.int 0, .int l.2.2]) ht2)).app (x := (0, l.2.2)) ho hin (.emp (List.mem_of_getElem? hl)) upd_same (Evl.Ex.new ht2 _ _ hfx)
        generalize hH3 : upd (upd (upd H1 t1 (.tup [.int 0, .int l.2.2])) t2 (.tup [.int 0, .int l.2.2])) o (.lst (fx ++ [.ref t2])) = H3 at hA3 ⊢
        obtain ⟨fs1, hfs1⟩ : ∃ fs1, fs1 = fs ++ [((0, l.2.2) : Pr)] := ⟨_, rfl⟩
        rw [← hfs1] at hA3
        have h0 : ((0, l.2.2) : Pr) ∈ fs1 := by rw [hfs1]; simp
        have subf : ∀ z ∈ fs, z ∈ fs1 := fun z h => by rw [hfs1]; simp [h]
        have hb3 : SqL K H3 b xs := Evl.ex_l hA3.1 hb
        refine ⟨_, rfl, b, rfl, ⟨_, hb3⟩, for_list (K := K) (xs := xs) (A2 K H ls L pa b o l fs1) ⟨fs1, _, _, _, rfl, hA3, fun _ h => h, (fun _ h => by simp at h)⟩ (fun i σ H' _ h => ?_) ?_ ?_⟩
        · obtain ⟨_, _, _, _, _, h1, _⟩ := h
          exact Evl.ex_l h1.1 hb
        · rintro j y σ H4 hj ⟨fs, o8, o9, o10, rfl, hA4, sub4, c4⟩
          obtain ⟨l', cc', hl', rfl, hT'⟩ := dps_ln hA hj
          have hm' := hlet l' (List.mem_of_getElem? hl')
          have grow : ∀ {gs : List Pr}, (∀ z ∈ fs, z ∈ gs) → (ls.idxOf l'.2.1 < ls.idxOf l.2.1 → (l'.2.2, l.2.2) ∈ gs) → ∀ l'' ∈ L.take (j + 1), ls.idxOf l''.2.1 < ls.idxOf l.2.1 → (l''.2.2, l.2.2) ∈ gs := fun {gs} h1 h2 l'' hl'' h3 => by
            rw [take_snoc' hl'] at hl''
            rcases List.mem_append.mp hl'' with h4 | h4
            · exact h1 _ (c4 l'' h4 h3)
            · rw [List.mem_singleton.mp h4] at h3 ⊢
              exact h2 h3
          refine ⟨cc', _, rfl, Evl.ex_t hA4.1 hT', rfl, _, _, rfl, _, _, rfl, _, _, rfl, rfl, ?_⟩
          refine ⟨_, rfl, rfl, _, rfl, ls, l'.2.1, rfl, rfl, hm', _, rfl, rfl, _, rfl, ls, l.2.1, rfl, rfl, hm, _, _, rfl, rfl, _, rfl, ?_⟩
          by_cases hlt : ls.idxOf l'.2.1 < ls.idxOf l.2.1
          · rw [decide_eq_true (show ((ls.idxOf l'.2.1 : Nat) : Int) < ((ls.idxOf l.2.1 : Nat) : Int) by omega)]
            refine iteT ⟨_, rfl, _, rfl, len2 _ _, fun t1 ht1 => ⟨_, rfl, (hA4.ex (Evl.Ex.new ht1)).notin (l'.2.2, l.2.2) upd_same ⟨_, rfl, ?_⟩⟩⟩
            have hA5 := hA4.ex (Evl.Ex.new (o := .tup [.int l'.2.2, .int l.2.2]) ht1)
            by_cases hin : ((l'.2.2, l.2.2) : Pr) ∈ fs
            · rw [decide_eq_true hin]
              exact iteF ⟨fs, _, _, _, rfl, hA5, sub4, grow (fun _ h => h) fun _ => hin⟩
            · rw [decide_eq_false hin]
              obtain ⟨e5, s5, fx, hfx, lfx, dfx⟩ := id hA5
              have few := s5.few zL
              refine iteT ⟨_, rfl, .inl ⟨rfl, _, SqL.of hfx⟩, _, rfl, _, rfl, len2 _ _, fun t2 ht2 => ⟨o, fx, _, rfl, rfl, Evl.Ex.new ht2 _ _ hfx, sz_lt (by omega), ?_⟩⟩
              exact ⟨fs ++ [(l'.2.2, l.2.2)], _, _, _, rfl, (hA5.ex (Evl.Ex.new ht2)).app ho hin (.let_ (List.mem_of_getElem? hl) (List.mem_of_getElem? hl') hlt) upd_same (Evl.Ex.new ht2 _ _ hfx), fun z h => by simp [sub4 z h], grow (fun z h => by simp [h]) fun _ => by simp⟩
          · rw [decide_eq_false (show ¬ ((ls.idxOf l'.2.1 : Nat) : Int) < ((ls.idxOf l.2.1 : Nat) : Int) by omega)]
            exact iteF (iteF ⟨fs, _, _, _, rfl, hA4, sub4, grow (fun _ h => h) fun h => absurd h hlt⟩)
        · rintro σ H4 ⟨fs, o8, o9, o10, rfl, hA4, sub4, c4⟩
          rw [hxl, List.take_length] at c4
          refine ⟨fs, _, _, _, _, _, _, rfl, hA4, fun l' hl' => ?_⟩
          rw [take_snoc' hl] at hl'
          rcases List.mem_append.mp hl' with h4 | h4
          · exact (c1 l' h4).mono fun z h => sub4 z (subf z h)
          · rw [List.mem_singleton.mp h4]
            exact ⟨sub4 _ h0, c4⟩
    · rintro σ H1 ⟨fs, o5, o6, o7, o8, o9, o10, rfl, hA1, c1⟩
      rw [hxl, List.take_length] at c1
      refine ⟨fun m σ H' => ∃ at_, m = 3722 - at_ ∧ A3 K H ls L pa b o at_ σ H', ⟨3722, 0, rfl, fs, _, _, _, _, _, _, _, rfl, hA1, c1, (fun i x h => by omega), Nat.zero_le _⟩, ?_⟩
      rintro m σ H2 ⟨at_, rfl, fs, o5, o6, o7, o8, o9, o10, o11, rfl, hA2, c2, n2, z2⟩
      obtain ⟨e2, s2, fx, hfx, lfx, dfx⟩ := id hA2
      have few := s2.few zL
      refine ⟨_, rfl, _, rfl, _, _, rfl, .inl ⟨_, SqL.of hfx, rfl⟩, _, _, rfl, rfl, _, rfl, ?_⟩
      refine ite2 (fun hb1 => ⟨fun σ' H' => ∃ m', m' < 3722 - at_ ∧ ∃ a', m' = 3722 - a' ∧ A3 K H ls L pa b o a' σ' H', fun _ _ h => h, ?_⟩) (fun hb1 => ?_)
      · have hat : at_ < fs.length := by
          have := of_decide_eq_true hb1
          rw [lfx] at this
          omega
        obtain ⟨x, hx⟩ : ∃ x, fs[at_]? = some x := ⟨_, List.getElem?_eq_getElem hat⟩
        refine ⟨_, rfl, _, rfl, for_w (A4 K H ls L pa b o at_ x fs) ⟨fs, _, _, _, _, _, _, _, rfl, hA2, ⟨[], by simp⟩, (fun _ h => by simp at h)⟩ ?_ ?_⟩
        · rintro k c σ H3 hk ⟨fs', o5, o6, o7, o8, o9, o10, o11, rfl, hA3, ⟨r, rfl⟩, n3⟩
          have hc : c ∈ ls := List.mem_of_getElem? hk
          have hx3 : (fs ++ r)[at_]? = some x := EM.get_app hx r
          obtain ⟨e3, s3, fx3, hfx3, lfx3, dfx3⟩ := id hA3
          have few3 := s3.few zL
          obtain ⟨vx, hvx⟩ : ∃ vx, fx3[at_]? = some vx := ⟨_, List.getElem?_eq_getElem (by rw [lfx3]; exact lt_of_get hx3)⟩
          obtain ⟨x', a, hx', rfl, hT⟩ := dps_prP (dps_hid dfx3) hvx
          rw [hx3] at hx'
          obtain rfl := Option.some.inj hx'
          have hbL : ∀ {H' : Hp}, Ex H3 H' → Dp K H' (.ref b) (lnsD L) := fun e => dp_mono (e3.trans e) (.lst hb hA)
          refine ⟨_, rfl, _, rfl, _, rfl, o, fx3, _, .ref a, rfl, rfl, SqL.of hfx3, atI_nat hvx, a, _, _, _, rfl, rfl, hT, rfl, _, rfl, .ref b, L, x.1, c, rfl, hbL (Evl.Ex.refl _), fun H4 e4 => ?_⟩
          refine ⟨_, rfl, _, rfl, _, rfl, o, fx3, _, .ref a, rfl, rfl, SqL.of (e4 _ _ hfx3), atI_nat hvx, a, _, _, _, rfl, rfl, Evl.ex_t e4 hT, rfl, _, rfl, .ref b, L, x.2, c, rfl, hbL e4, fun H5 e5 => ⟨len2 _ _, fun t ht => ?_⟩⟩
          have e35 := e4.trans e5
          have hA6 := hA3.ex (ex_new (o := .tup [oI (EM.goes L x.1 c), oI (EM.goes L x.2 c)]) e35 ht)
          have fl : ∀ u v : Option Int, [oI u, oI v].all flatV = true := fun u v => by cases u <;> cases v <;> rfl
          refine ⟨_, rfl, t, _, rfl, .inr (SqT.of upd_same), rfl, fl _ _, _, rfl, ?_⟩
          have grow : ∀ {gs : List Pr}, (∀ z ∈ fs ++ r, z ∈ gs) → EM.AhN ls L x gs c → ∀ d ∈ ls.take (k + 1), EM.AhN ls L x gs d := fun {gs} h1 h2 d hd => by
            rw [take_snoc' hk] at hd
            rcases List.mem_append.mp hd with h4 | h4
            · exact (n3 d h4).mono h1
            · rw [List.mem_singleton.mp h4]; exact h2
          cases hg1 : EM.goes L x.1 c with
          | none =>
            have hin : inV V.non [oI none, oI (EM.goes L x.2 c)] = true := rfl
            rw [hg1] at hA6
            rw [hin]
            exact iteF (iteF ⟨fs ++ r, _, _, _, _, _, _, _, rfl, hA6, ⟨r, rfl⟩, grow (fun _ h => h) fun p' q' h _ => by rw [hg1] at h; cases h⟩)
          | some p' =>
            cases hg2 : EM.goes L x.2 c with
            | none =>
              have hin : inV V.non [oI (some p'), oI none] = true := rfl
              rw [hg1, hg2] at hA6
              rw [hin]
              exact iteF (iteF ⟨fs ++ r, _, _, _, _, _, _, _, rfl, hA6, ⟨r, rfl⟩, grow (fun _ h => h) fun _ _ _ h => by rw [hg2] at h; cases h⟩)
            | some q' =>
              have hin : inV V.non [oI (some p'), oI (some q')] = false := rfl
              rw [hg1, hg2] at hA6
              rw [hin]
              refine iteT ⟨_, rfl, _, rfl, hA6.notin (p', q') upd_same ⟨_, rfl, ?_⟩⟩
              have nx : ∀ {gs : List Pr}, (p', q') ∈ gs → EM.AhN ls L x gs c := fun h p2 q2 h1 h2 => by
                rw [hg1] at h1
                rw [hg2] at h2
                rw [← Option.some.inj h1, ← Option.some.inj h2]
                exact h
              by_cases hin2 : ((p', q') : Pr) ∈ fs ++ r
              · rw [decide_eq_true hin2]
                exact iteF ⟨fs ++ r, _, _, _, _, _, _, _, rfl, hA6, ⟨r, rfl⟩, grow (fun _ h => h) (nx hin2)⟩
              · rw [decide_eq_false hin2]
                obtain ⟨e6, s6, fx6, hfx6, lfx6, dfx6⟩ := id hA6
                refine iteT ⟨_, rfl, .inl ⟨rfl, _, SqL.of hfx6⟩, _, rfl, o, fx6, _, rfl, rfl, hfx6, sz_lt (by omega), ?_⟩
                refine ⟨fs ++ r ++ [(p', q')], _, _, _, _, _, _, _, rfl, hA6.app ho hin2 (.step (s3.snd x (List.mem_of_getElem? hx3)) (EM.goes_mem hg1) (EM.goes_mem hg2)) upd_same hfx6, ⟨r ++ [(p', q')], by rw [List.append_assoc]⟩, grow (fun z h => List.mem_append_left _ h) (nx (by simp))⟩
        · rintro σ H3 ⟨fs', o5, o6, o7, o8, o9, o10, o11, rfl, hA3, ⟨r, rfl⟩, n3⟩
          rw [List.take_length] at n3
          have s3 := hA3.2.1.few zL
          refine ⟨_, rfl, _, _, rfl, rfl, 3722 - (at_ + 1), by omega, at_ + 1, rfl, fs ++ r, _, _, _, _, _, _, _, rfl, hA3, fun l hl => (c2 l hl).mono fun z h => by simp [h], fun i y hi hy c hc => ?_, by rw [List.length_append]; omega⟩
          rcases Nat.lt_or_ge i at_ with h | h
          · rw [List.getElem?_append_left (by omega)] at hy
            exact (n2 i y h hy c hc).mono fun z h => by simp [h]
          · have : i = at_ := by omega
            subst this
            rw [EM.get_app hx r] at hy
            obtain rfl := Option.some.inj hy
            exact n3 c hc
      · have hat : at_ = fs.length := by
          have h1 : ¬ ((at_ : Int) < (fx.length : Nat)) := by
            intro z
            exact hb1 (decide_eq_true z)
          rw [lfx] at h1
          omega
        refine ⟨_, rfl, q o fs H2 ho e2 (fun p' q' => ⟨fun h => s2.snd _ h, fun h => h.all hdet hlet c2 (fun x hx c hc => ?_)⟩) few (.lst (SqL.of hfx) (dps_hid dfx))⟩
        obtain ⟨i, hi⟩ := List.mem_iff_getElem?.mp hx
        exact n2 i x (by rw [hat]; exact lt_of_get hi) hi c hc
theorem d_ahead (T : Frees mg) (D : DfP K mg "_law_goes" 54) (h : DfP K mg "_law_ahead" 63) : Df P w K mg base "_law_ahead" 2 ["_law_parts", "_law_letters_here"] (spAhead K) :=
  h.df (fun _ _ F => ok_ahead T D F) fun _ _ _ _ _ _ us hl => match us, hl with | [_, _], _ => rfl
end
end E

set_option maxRecDepth 100000
set_option maxHeartbeats 4000000
namespace EM
noncomputable def aB (ls : List Nat) (L : List Ln) (p q : Int) : Bool := @decide (Ah ls L p q) (Classical.propDecidable _)
theorem aB_iff {ls : List Nat} {L : List Ln} {p q : Int} : aB ls L p q = true ↔ Ah ls L p q := by
  unfold aB
  exact @decide_eq_true_iff _ (Classical.propDecidable _)
theorem aB_eq {ls : List Nat} {L : List Ln} {fs : List Pr} (h : ∀ p q, (p, q) ∈ fs ↔ Ah ls L p q) (p q : Int) : decide ((p, q) ∈ fs) = aB ls L p q := by
  by_cases hm : (p, q) ∈ fs
  · rw [decide_eq_true hm, aB_iff.mpr ((h p q).mp hm)]
  · rw [decide_eq_false hm]
    cases e : aB ls L p q with
    | false => rfl
    | true => exact absurd ((h p q).mpr (aB_iff.mp e)) hm
noncomputable def crR (ls : List Nat) (L : List Ln) (ps : List Int) (p : Int) : List Pr := (ps.filter fun q => decide (p < q) && (aB ls L p q && aB ls L q p)).map fun q => (p, q)
noncomputable def crL (ls : List Nat) (L : List Ln) (ps : List Int) : List Pr := ps.flatMap (crR ls L ps)
theorem crR_len (ls : List Nat) (L : List Ln) (ps : List Int) (p : Int) : (crR ls L ps p).length ≤ ps.length := by
  unfold crR
  rw [List.length_map]
  exact List.length_filter_le _ _
theorem flat_le {α β : Type} {f : α → List β} {n : Nat} (h : ∀ a, (f a).length ≤ n) : ∀ L : List α, (L.flatMap f).length ≤ L.length * n
  | [] => by simp
  | a :: r => by
    have h1 := h a
    have h2 := flat_le h r
    rw [List.flatMap_cons, List.length_append, List.length_cons, Nat.succ_mul]
    omega
theorem mem_crL {ls : List Nat} {L : List Ln} {ps : List Int} {p q : Int} : (p, q) ∈ crL ls L ps ↔ p ∈ ps ∧ q ∈ ps ∧ p < q ∧ Ah ls L p q ∧ Ah ls L q p := by
  unfold crL crR
  rw [List.mem_flatMap]
  constructor
  · rintro ⟨x, hx, h⟩
    obtain ⟨y, hy, e⟩ := List.mem_map.mp h
    injection e with e1 e2
    subst e1 e2
    rw [List.mem_filter, Bool.and_eq_true, Bool.and_eq_true, decide_eq_true_eq, aB_iff, aB_iff] at hy
    exact ⟨hx, hy.1, hy.2.1, hy.2.2.1, hy.2.2.2⟩
  · rintro ⟨h1, h2, h3, h4, h5⟩
    refine ⟨p, h1, List.mem_map.mpr ⟨q, ?_, rfl⟩⟩
    rw [List.mem_filter, Bool.and_eq_true, Bool.and_eq_true, decide_eq_true_eq, aB_iff, aB_iff]
    exact ⟨h2, h3, h4, h5⟩
theorem Ah.places {ls : List Nat} {L : List Ln} {p q : Int} (h : Ah ls L p q) : PlL L p ∧ PlL L q := by
  refine ⟨?_, ?_⟩
  · rcases h.left with h1 | ⟨l, h1, h2⟩
    · exact .inl h1
    · exact .inr ⟨l, h1, .inr h2.symm⟩
  · obtain ⟨l, h1, h2⟩ := h.right
    exact .inr ⟨l, h1, .inr h2.symm⟩
/-- no pair crosses -/
theorem crL_nil {ls : List Nat} {L : List Ln} {ps : List Int} (hp : PlS L ps) : crL ls L ps = [] ↔ NoCross ls L := by
  constructor
  · intro h p q hne h1 h2
    have hp1 := (hp.mem p).mpr h1.places.1
    have hq1 := (hp.mem q).mpr h1.places.2
    have key : ∀ a b : Int, a < b → a ∈ ps → b ∈ ps → Ah ls L a b → Ah ls L b a → False := fun a b hl ha hb h3 h4 => by
      have := mem_crL.mpr ⟨ha, hb, hl, h3, h4⟩
      rw [h] at this
      cases this
    rcases Int.lt_or_lt_of_ne hne with h3 | h3
    · exact key p q h3 hp1 hq1 h1 h2
    · exact key q p h3 hq1 hp1 h2 h1
  · intro h
    rcases e : crL ls L ps with _ | ⟨x, r⟩
    · rfl
    · exfalso
      have hx : (x.1, x.2) ∈ crL ls L ps := by rw [e]; exact List.mem_cons_self
      obtain ⟨_, _, h1, h2, h3⟩ := mem_crL.mp hx
      exact h _ _ (by omega) h2 h3
end EM
namespace E
open PySem PySem.Spec PyProof.Rows L2
section
variable {P : Program} {w : World} {K : PySem.W.Frag} {mg : Str → Option Value} {base : Heap} {f : Addr} {fd : FuncData}
theorem in_prP {H : Hp} {o t : Addr} {fs : List Pr} (h : Dp K H (.ref o) (.list (fs.map prP))) (x : Pr) (ht : H t = some (.tup [.int x.1, .int x.2])) {Q : VK} (q : Q (.bl (decide (x ∈ fs))) H) : rInD K (.ref t) (.ref o) H Q := by
  refine ⟨prP x, fs.map prP, dp_prP ht, h, shaped_prP x, shaped_prPs fs, ?_⟩
  rw [any_prP]
  exact q
def spCrossed (K : PySem.W.Frag) : Sp := fun vs H Q _ => ∃ (v : V) (ls : List Nat) (L : List Ln) (Es : List Int), vs = [v, .str (wS ls)] ∧ Dp K H v (partsD L Es) ∧ LsOk ls ∧ EM.Raw ls L Es ∧
  ∀ (r : Addr) (ps : List Int) (H' : Hp), H r = none → Ex H H' → EM.PlS L ps → ps.length ≤ 121 → Dp K H' (.ref r) (.list ((EM.crL ls L ps).map prP)) → Q (.ref r) H'
def CrO (K : PySem.W.Frag) (H : Hp) (v : V) (ls : List Nat) (L : List Ln) (ps : List Int) (o r pl : Addr) (i : Nat) (σ : L2.St) (H' : Hp) : Prop := ∃ (fx : List V) (o4 : Option V), σ = [some v, some (.str (wS ls)), some (.ref o), some (.ref r), o4, none] ∧ Ex H H' ∧ H' pl = some (.lst (ps.map V.int)) ∧ H' r = some (.lst fx) ∧ DpAll K (hid [r] H') fx (((ps.take i).flatMap (EM.crR ls L ps)).map prP)
theorem scCrossed : FnScope ["_law_parts", "_law_letters_here", "_law_pairs", "_law_found", "_law_p", "_law_q"] ["_law_parts", "_law_letters_here"] (defScope (top 64)) := ⟨rfl, rfl, rfl, by decide +kernel, rfl, by decide +kernel, by decide +kernel⟩
theorem ok_crossed (T : Frees mg) (D : DfP K mg "_law_goes" 54) (D2 : DfP K mg "_law_places" 62) (D3 : DfP K mg "_law_ahead" 63) (F : FnP K "_law_crossed" "_law_crossed" (top 64) f fd) : FnOk P w K mg base CX0 3 f fd ["_law_parts", "_law_letters_here"] (spCrossed K) := by
  refine F.ok scCrossed (fun vs H Q E h => ?_) (fun cdv A outer s H vs Q E hr h => ?_)
  · obtain ⟨v, ls, L, Es, rfl, _⟩ := h
    rfl
  · obtain ⟨v, ls, L, Es, rfl, hv, hL, hR, q⟩ := h
    have hu := hr.u65
    have Dp_ : Df P w K mg base "_law_places" 1 _ _ := d_places T D2
    have Da : Df P w K mg base "_law_ahead" 2 _ _ := d_ahead T D D3
    refine ⟨_, PSs.nox (pss_cons (ps_set (i := 2) scCrossed.nd rfl (Or.inr rfl) (pe_df Da (hr.mono (by decide)) rfl (pa_cons (pv 0) (pa_cons (pv 1) pa_nil))))
      (pss_cons (ps_set (i := 3) scCrossed.nd rfl (Or.inl rfl) (pe_lst pa_nil))
      (pss_cons (ps_for PassesOwn.never rfl (pi_list (pe_df Dp_ (hr.mono (by decide)) rfl (pa_cons (pv 0) pa_nil))) (pg_name (i := 4) scCrossed.nd rfl (Or.inr rfl))
        (pss_one (ps_expr (pe_bm PySem.F.plainAttrs_list PySem.F.slot_list_extend PySem.F.type_list_extend mt_extend (pv 3) (pa_cons (pe_lcD (own := [("_law_q", 5)]) s H rfl scCrossed.nd (pi_list (pe_df Dp_ (hr.mono (by decide)) rfl (pa_cons (pv 0) pa_nil))) (blkOk_by (own := [("_law_q", 5)]) (N := ["_law_parts", "_law_letters_here", "_law_pairs", "_law_found", "_law_p", "_law_q"]) (sc := (defScope (top 64))) (by decide +kernel)) (pg_name (i := 5) scCrossed.nd rfl (Or.inl rfl)) (pts_one (PW.pt (pw_and (pt_cmpR op_lt (pv 4) (pv 5) (nomark _)) (pw_and (pt_cmpR (op_inD hu) (pe_tup (pa_cons (pv 4) (pa_cons (pv 5) pa_nil))) (pv 2) (by rfl)) (pw_and1 (pt_cmpR (op_inD hu) (pe_tup (pa_cons (pv 5) (pa_cons (pv 4) pa_nil))) (pv 2) (by rfl))))))) (pe_tup (pa_cons (pv 4) (pa_cons (pv 5) pa_nil))) (fun _ _ _ _ _ => (pg_name (i := 5) scCrossed.nd rfl (Or.inl rfl))) (fun _ _ _ _ _ => (pts_one (PW.pt (pw_and (pt_cmpR op_lt (pv 4) (pv 5) (nomark _)) (pw_and (pt_cmpR (op_inD hu) (pe_tup (pa_cons (pv 4) (pa_cons (pv 5) pa_nil))) (pv 2) (by rfl)) (pw_and1 (pt_cmpR (op_inD hu) (pe_tup (pa_cons (pv 5) (pa_cons (pv 4) pa_nil))) (pv 2) (by rfl)))))))) (fun _ _ _ _ _ => (pe_tup (pa_cons (pv 4) (pa_cons (pv 5) pa_nil))))) pa_nil)))))
      (pss_one (ps_ret (pv 3)))))), ?_⟩
    refine ⟨_, rfl, _, rfl, v, ls, L, Es, rfl, hv, hL, hR, fun o fs H1 _ e1 hfs zfs hdf => ?_⟩
    refine ⟨Nat.zero_le _, fun r hrn => ?_⟩
    have e2 := ex_new (o := .lst []) e1 hrn
    have hr0 : H r = none := ex_none e1 hrn
    refine ⟨_, rfl, v, L, Es, rfl, dp_mono e2 hv, hR.zL, fun pl ps H2 hpn e3 hps zps hpl => ?_⟩
    obtain ⟨hplr, _⟩ := upd_nn hpn
    have e13 := e2.trans e3
    have e12 : Ex H1 H2 := (Evl.Ex.new hrn).trans e3
    have hr2 : H2 r = some (.lst []) := e3 _ _ upd_same
    refine ⟨pl, rfl, ⟨_, SqL.of hpl⟩, for_list (K := K) (xs := ps.map V.int) (CrO K H1 v ls L ps o r pl) ⟨[], _, rfl, e12, hpl, hr2, .nil⟩ (fun i σ H' _ h => ?_) ?_ ?_⟩
    · obtain ⟨_, _, _, _, h, _⟩ := h
      exact SqL.of h
    · rintro i x σ H3 hi ⟨fx, o4, rfl, e3', hpl3, hr3, hd3⟩
      rw [List.getElem?_map] at hi
      cases hp : ps[i]? with
      | none => rw [hp] at hi; cases hi
      | some p =>
        rw [hp] at hi
        obtain rfl := Option.some.inj hi
        have eH3 := e1.trans e3'
        refine ⟨_, rfl, .inl ⟨rfl, _, SqL.of hr3⟩, _, rfl, v, L, Es, rfl, dp_mono eH3 hv, hR.zL, fun pl2 ps2 H4 hpn2 e4 hps2 zps2 hpl2 => ?_⟩
        obtain rfl := hps2.eq hps
        have hr4 := e4 _ _ hr3
        refine ⟨pl2, rfl, ⟨_, SqL.of hpl2⟩, fun D hD => ?_⟩
        refine lc_dataS (K := K) [r] (walk_list (xs := ps2.map V.int)) ps2 (fun q => if (decide (p < q) && (EM.aB ls L p q && EM.aB ls L q p)) = true then [prP (p, q)] else []) (by rw [List.length_map]) (by rw [List.length_map]; omega) hD (fun H5 e => SqL.of (e _ _ hpl2)) ?_ ?_
        · rintro k y x H5 H' Nx hk e5 hacc ⟨rfl, hx⟩ put skip
          rw [List.getElem?_map, hk] at hx
          obtain rfl := Option.some.inj hx
          obtain ⟨accv, hacc⟩ := hacc
          have hdo : ∀ {H7 : Hp}, Ex H' H7 → Dp K H7 (.ref o) (.list (fs.map prP)) := fun e => dp_mono (((e3'.trans e4).trans e5).trans e) hdf
          refine ⟨rfl, _, rfl, _, rfl, _, _, rfl, rfl, _, rfl, ?_⟩
          by_cases h1 : p < y
          · rw [decide_eq_true h1] at put skip ⊢
            refine iteT ⟨_, rfl, _, rfl, len2 _ _, fun t1 ht1 => ⟨_, rfl, in_prP (hdo (Evl.Ex.new ht1)) (p, y) upd_same ⟨_, rfl, ?_⟩⟩⟩
            have en1 := Evl.Ex.new (o := .tup [.int p, .int y]) ht1
            rw [EM.aB_eq hfs]
            cases h2 : EM.aB ls L p y with
            | false =>
              rw [h2] at put skip
              exact iteF (skip _ en1 rfl)
            | true =>
              rw [h2] at put skip
              refine iteT ⟨_, rfl, _, rfl, len2 _ _, fun t2 ht2 => ⟨_, rfl, in_prP (hdo (en1.trans (Evl.Ex.new ht2))) (y, p) upd_same ⟨_, rfl, ?_⟩⟩⟩
              have en2 := en1.trans (Evl.Ex.new (o := .tup [.int y, .int p]) ht2)
              rw [EM.aB_eq hfs]
              cases h3 : EM.aB ls L y p with
              | false =>
                rw [h3] at put skip
                exact skip _ en2 rfl
              | true =>
                rw [h3] at put skip
                refine ⟨_, rfl, _, rfl, len2 _ _, fun t ht => ?_⟩
                have htD : t ≠ D := (ne_of_none (en2 _ _ hacc) ht).symm
                have htr : t ≠ r := (ne_of_none ((e5.trans en2) _ _ hr4) ht).symm
                exact put _ _ _ (en2.trans (Evl.Ex.new ht)) rfl (dp_prP (x := (p, y)) (by rw [hid_at (by simp [htD, htr]), upd_same]))
          · rw [decide_eq_false h1] at put skip ⊢
            exact iteF (iteF (skip _ (Evl.Ex.refl _) rfl))
        · intro H5 acc e5 hacc hAcc
          rw [flat_if] at hAcc
          have hAcc' := dps_hid hAcc
          have hr5 := e5 _ _ hr4
          have hDr : D ≠ r := (ne_of_none hr4 hD).symm
          have hcr : ((ps2.filter fun q => decide (p < q) && (EM.aB ls L p q && EM.aB ls L q p)).map fun q => prP (p, q)) = (EM.crR ls L ps2 p).map prP := by
            unfold EM.crR
            rw [List.map_map] <;> rfl
          rw [hcr] at hAcc hAcc'
          have l1 : acc.length ≤ 121 := by
            rw [dps_len hAcc', List.length_map]
            exact Nat.le_trans (EM.crR_len _ _ _ _) zps
          have l2 : fx.length ≤ 121 * 121 := by
            rw [dps_len hd3, List.length_map]
            refine Nat.le_trans (EM.flat_le (n := 121) (fun a => Nat.le_trans (EM.crR_len _ _ _ _) zps) _) ?_
            exact Nat.mul_le_mul_right _ (Nat.le_trans (by rw [List.length_take]; exact Nat.min_le_right _ _) zps)
          refine ⟨r, D, fx, acc, rfl, rfl, hr5, hacc, sz_of (by omega), ?_⟩
          refine ⟨fx ++ acc, _, rfl, ex_upd ((e3'.trans e4).trans e5) hrn, by rw [upd_ne hplr]; exact (e4.trans e5) _ _ hpl3, upd_same, ?_⟩
          rw [hid_upd (by simp), take_snoc' hp, List.flatMap_append, List.map_append]
          refine dps_app (dps_mono (hid_mono (e4.trans e5)) hd3) ?_
          rw [List.flatMap_cons, List.flatMap_nil, List.append_nil]
          exact dps_mono (hid_sub fun a h => List.mem_cons_of_mem _ h) hAcc
    · rintro σ H3 ⟨fx, o4, rfl, e3', hpl3, hr3, hd3⟩
      rw [List.length_map, List.take_length] at hd3
      exact ⟨_, rfl, q r ps H3 hr0 (e1.trans e3') hps zps (.lst (SqL.of hr3) (dps_hid hd3))⟩
theorem d_crossed (T : Frees mg) (D : DfP K mg "_law_goes" 54) (D2 : DfP K mg "_law_places" 62) (D3 : DfP K mg "_law_ahead" 63) (h : DfP K mg "_law_crossed" 64) : Df P w K mg base "_law_crossed" 3 ["_law_parts", "_law_letters_here"] (spCrossed K) :=
  h.df (fun _ _ F => ok_crossed T D D2 D3 F) fun _ _ _ _ _ _ us hl => match us, hl with | [_, _], _ => rfl
end
end E

set_option maxRecDepth 100000
set_option maxHeartbeats 4000000
namespace E
open PySem PySem.Spec PyProof.Rows L2
section
variable {X : Cx}
theorem ints_are : ∀ {us : List Value} {ns : List Int}, Vals (ns.map V.int) us → IntsAre us ns
  | _, [], .nil => .nil
  | _, n :: ns, .cons ⟨t, rfl⟩ r => .cons n t (ints_are r)
/-- tuple.index of a number that is there -/
def rTIdx (K : PySem.W.Frag) : V → List V → Hp → VK → Prop := fun x xs H Q => ∃ (a : Addr) (ns : List Int) (k : Int), x = .ref a ∧ xs = [.int k] ∧ SqT K H a (ns.map V.int) ∧ k ∈ ns ∧ Q (.int (ns.idxOf k : Nat)) H
theorem mt_tidx : MtR X "tuple.index" (rTIdx X.K) := by
  intro pins s σ H x xs v us Q I rx rs h
  obtain ⟨a, ns, k, rfl, rfl, hq, hk, q⟩ := h
  cases rx
  obtain ⟨u, rfl, t, rfl⟩ := vals1 rs
  obtain ⟨its, r, pl, hz⟩ := I.tuple hq
  exact SeqAt.tuple_index_ints pl (ints_are r) hk ⟨.int (ns.idxOf k : Nat), H, I.tok _, ⟨_, rfl⟩, q⟩
end
/-! ### tuples whose object is known to bear no dict: their methods -/
def TupD (H : Hp) (a : Addr) (xs : List V) : Prop := ∃ o : Obj, H a = some (.frz o (.tup xs)) ∧ o.dict = none
theorem TupD.sq {K : PySem.W.Frag} {H : Hp} {a : Addr} {xs : List V} (h : TupD H a xs) : SqT K H a xs := by
  obtain ⟨o, h, _⟩ := h
  exact .inl (.inr ⟨o, h⟩)
theorem TupD.ex {H H' : Hp} {a : Addr} {xs : List V} (h : TupD H a xs) (e : Ex H H') : TupD H' a xs := by
  obtain ⟨o, h, hd⟩ := h
  exact ⟨o, e _ _ h, hd⟩
section
variable {X : Cx}
def tBMF (r : V → List V → Hp → VK → Prop) (to : TE) (t : TA) : TE := fun σ H Q => to σ H fun x H1 => (∃ a xs, x = .ref a ∧ TupD H1 a xs) ∧ t σ H1 fun xs H2 => r x xs H2 Q
theorem pe_bmF {o e : Expr} {es : List Expr} {to : TE} {t : TA} {name : Str} {apos cpos : Pos} {id : String} {r : V → List V → Hp → VK → Prop} (slot : Slot "tuple" name id) (hty : typeOf (.builtin id) = pure (.type "method_descriptor")) (hm : MtR X id r) (ho : PE X o to) (ha : PA X (e :: es) t)
    (hbase : attributeBase o name X.env (eval o X.env) = eval o X.env := by rfl)
    (hfew : ((backTo cpos (starEach (e :: es) X.env)).all (fun x => !x.1) && (backToKw cpos (keywordEach [] X.env)).all (fun x => x.1.isSome)
      && decide ((e :: es).length + ([] : List Keyword).length + (if ([] : List Keyword).isEmpty then 0 else 1) < 30)) = true := by rfl)
    (hline : (apos.endLine == cpos.line) = true := by rfl) (hs : starEach (e :: es) X.env = (false, eval e X.env) :: starEach es X.env := by rfl) (hplain : (backTo cpos (starEach es X.env)).any (·.1) = false := by rfl) :
    PE X (.Call (.Attribute o name apos) (e :: es) [] cpos) (tBMF r to t) := by
  refine ⟨fun pins s σ H Q I h => ?_⟩
  refine wpAny_Call_method_late hbase hfew hline rfl (thn (ho.run pins s σ H _ I h) fun v s1 ⟨x, H1, I1, r1, ⟨a, xs, hx, oo, hfr, hdn⟩, q1⟩ => ?_)
  subst hx
  obtain rfl : v = Value.ref a := r1
  obtain ⟨hg, _, its, _, ot, hot, hct, _⟩ := (show ObjOk X.prog X.w H1 s1.heap a (.frz oo (.tup xs)) from I1.hok a _ hfr)
  rw [hg] at hot
  obtain rfl := Option.some.inj hot
  refine ⟨"tuple", id, PySem.F.plainAttrs_tuple, slot, hty, ⟨_, hg, hct⟩, fun b hb => ?_, ?_⟩
  · injection hb with hb
    subst hb
    exact ⟨_, hg, hdn⟩
  have hA := ha.run cpos pins s1 σ H1 _ I1 q1
  rw [hs] at hA ⊢
  refine Calls.callWith_builtin (by show (false || (backTo cpos (starEach es X.env)).any (·.1)) = false; rw [hplain] <;> rfl) (Calls.evalArgs_plain ?_)
  exact thn hA fun us s2 ⟨vs, H2, I2, r2, q2⟩ => hm pins s2 σ H2 (.ref a) vs (.ref a) us Q I2 rfl r2 q2
/-- tuple(list), the new tuple known to bear no dict -/
def rTupF (K : PySem.W.Frag) : List V → Hp → VK → Prop := fun xs H Q => ∃ p ys, xs = [.ref p] ∧ SqL K H p ys ∧ ∀ l o, H l = none → o.dict = none → Q (.ref l) (upd H l (.frz o (.tup ys)))
theorem call_tupleF : CallR X (.type "tuple") (rTupF X.K) := by
  intro pins s σ H xs us Q I r h
  obtain ⟨p, ys, rfl, hq, q⟩ := h
  obtain ⟨u, rfl, rx⟩ := vals1 r
  cases rx
  obtain ⟨its, r', pl, hz⟩ := I.list hq
  have hlen := r'.length
  refine call_tuple_list pl.isList (fun h' kp => ?_) (by simp only [List.size_toArray] <;> omega)
  have I1 : Inv X pins σ H { s with heap := h' } := I.kept (t' := s.toks) kp
  have I2 : Inv X pins σ (upd H h'.objs.size (.frz { cls := .type "tuple", data := .seq its.toArray } (.tup ys))) { s with heap := h'.push { cls := .type "tuple", data := .seq its.toArray } } :=
    I1.laid (t' := s.toks) (fun b o e => Heap.get?_push_of_some _ e) (Nat.le_refl _) (show ObjOk X.prog X.w _ _ _ (.frz _ (.tup ys)) from ⟨Heap.get?_push_size _ rfl, hz, its, r', IsTup.new _ _⟩)
  exact ⟨.ref h'.objs.size, _, I2, rfl, q _ _ (I1.hok.fresh (Nat.le_refl _)) rfl⟩
end
section
variable {K : PySem.W.Frag} {H : Hp}
theorem TyX.ofT {a : Addr} {xs : List V} (h : SqT K H a xs) : TyX K H (.ref a) (.type "tuple") := by
  rcases h with h | ⟨o, its, n, h1, h2, _⟩
  · rcases h with h | ⟨o, h⟩
    · exact .base (.tup h)
    · exact .fTuple h
  · exact .kTuple h1 h2
theorem TyX.ofL {a : Addr} {xs : List V} (h : SqL K H a xs) : TyX K H (.ref a) (.type "list") := by
  rcases h with h | ⟨o, its, n, h1, h2, _⟩
  · rcases h with h | ⟨o, h⟩
    · exact .base (.lst h)
    · exact .base (.frz h)
  · exact .kList h1 h2
theorem isi_ty {x : V} {a b : String} {r : Bool} {Q : VK} (ty : TyX K H x (.type a)) (h : kitB a b = some r) (q : Q (.bl r) H) : rIsi K [x, .ty b] H Q := ⟨x, .ty b, _, _, r, rfl, .ty b, ty, kit_ty h, q⟩
end
end E

set_option maxRecDepth 100000
set_option maxHeartbeats 4000000
namespace E
open PySem PySem.Spec PyProof.Rows L2
def encD (i : Int) : PyData := .int i
theorem okD_ints (ns : List Int) : okD 1 (intsD ns) := okD.list (okD.map fun i _ => okD.int i)
theorem eqvAll_ints : ∀ a b : List Int, PyData.eqvAll (a.map .int) (b.map .int) = decide (a = b)
  | [], [] => by simp [PyData.eqvAll]
  | [], y :: b => by simp [PyData.eqvAll]
  | x :: a, [] => by simp [PyData.eqvAll]
  | x :: a, y :: b => by
    rw [List.map_cons, List.map_cons]
    simp only [PyData.eqvAll, PyData.eqv, eqvAll_ints a b]
    by_cases h1 : x = y
    · by_cases h2 : a = b
      · simp [h1, h2]
      · simp [h1, h2]
    · simp [h1]
theorem eqv_ints (a b : List Int) : PyData.eqv (intsD a) (intsD b) = decide (a = b) := by
  show PyData.eqv (.list _) (.list _) = _
  simp only [PyData.eqv]
  exact eqvAll_ints a b
/-- a row that is right: all the places, by the number of those ahead -/
structure RowOk (ls : List Nat) (L : List Ln) (ps rw : List Int) : Prop where
  perm : rw.Perm ps
  by_ : rw.Pairwise fun a b => EM.cnt (EM.aB ls L) ps a ≤ EM.cnt (EM.aB ls L) ps b
section
variable {P : Program} {w : World} {K : PySem.W.Frag} {mg : Str → Option Value} {base : Heap} {f : Addr} {fd : FuncData}
theorem reach_pl {L : List Ln} {p : Int} (h : EM.Reach L p) : EM.PlL L p := by
  rcases reach_last h with h | ⟨l, hl, h⟩
  · exact .inl h
  · exact .inr ⟨l, hl, .inr h.symm⟩
theorem leads_pl {L : List Ln} : ∀ (u : List Nat) (o : Int) (p : Int), EM.PlL L o → EM.leads L (some o) u = some p → EM.PlL L p
  | [], o, p, h, e => by
    have : o = p := Option.some.inj e
    rw [← this]; exact h
  | c :: u, o, p, h, e => by
    have e2 : EM.leads L (EM.goes L o c) u = some p := e
    cases hg : EM.goes L o c with
    | none => rw [hg, EM.leads_none] at e2; cases e2
    | some q =>
      rw [hg] at e2
      exact leads_pl u q p (.inr ⟨_, EM.goes_mem hg, .inr rfl⟩) e2
def spRowRight (K : PySem.W.Frag) : Sp := fun vs H Q _ => ∃ (v : V) (ls : List Nat) (L : List Ln) (Es ps rw_ : List Int) (ra : Addr), vs = [.str (wS ls), v, .ref ra] ∧ LsOk ls ∧ Dp K H v (partsD L Es) ∧ EM.Raw ls L Es ∧ EM.PlS L ps ∧ ps.length ≤ 121 ∧ EM.NoCross ls L ∧ RowOk ls L ps rw_ ∧ TupD H ra (rw_.map V.int) ∧
  ∀ H', Ex H H' → Q (.bl true) H'
def RrI (H : Hp) (v : V) (ls : List Nat) (L : List Ln) (rw_ : List Int) (ra : Addr) (us : List (List Nat)) (i : Nat) (σ : L2.St) (H' : Hp) : Prop := ∃ (la : Int) (o4 o5 : Option V), σ = [some (.str (wS ls)), some v, some (.ref ra), some (.int la), o4, o5, none] ∧ Ex H H' ∧ ∀ u ∈ us.drop i, ∀ p, EM.leads L (some 0) u = some p → la ≤ (rw_.idxOf p : Nat)
theorem scRowRight : FnScope ["_law_letters_here", "_law_parts", "_law_row", "_law_last", "_law_word", "_law_at", "_law_p"] ["_law_letters_here", "_law_parts", "_law_row"] (defScope (top 66)) := ⟨rfl, rfl, rfl, by decide +kernel, rfl, by decide +kernel, by decide +kernel⟩
theorem ok_row_right (T : Frees mg) (D1 : DfP K mg "_law_key" 51) (D2 : DfP K mg "_law_ordered" 53) (D3 : DfP K mg "_law_goes" 54) (D4 : DfP K mg "_law_leads" 55) (D5 : DfP K mg "_law_levels" 56) (D6 : DfP K mg "_law_places" 62) (F : FnP K "_law_row_right" "_law_row_right" (top 66) f fd) : FnOk P w K mg base CX0 3 f fd ["_law_letters_here", "_law_parts", "_law_row"] (spRowRight K) := by
  refine F.ok scRowRight (fun vs H Q E h => ?_) (fun cdv A outer s H vs Q E hr h => ?_)
  · obtain ⟨v, ls, L, Es, ps, rw_, ra, rfl, _⟩ := h
    rfl
  · obtain ⟨v, ls, L, Es, ps, rw_, ra, rfl, hL, hv, hR, hps, zps, hNC, hRow, hraD, q⟩ := h
    have hra : SqT K H ra (rw_.map V.int) := hraD.sq
    have hu := hr.units
    have Do : Df P w K mg base "_law_ordered" 2 _ _ := d_ordered T D1 D2
    have Dl : Df P w K mg base "_law_leads" 2 _ _ := d_leads D3 D4
    have Dv : Df P w K mg base "_law_levels" 2 _ _ := d_levels T D3 D5
    have Dq : Df P w K mg base "_law_places" 1 _ _ := d_places T D6
    refine ⟨_, PSs.nox (pss_cons (ps_if (PW.pt (pw_or (pt_not (pt_val (pe_callB call_isi (by rfl) T.isinstance boot_isinstance (pa_cons (pv 2) (pa_cons (pe_bltn (v := .ty "tuple") (by rfl) T.tuple boot_tuple rfl) pa_nil))))) (pw_or1 (pt_cmpR (op_neD hu) (pe_callB (cr_sortN hu) (by rfl) T.sorted boot_sorted (pa_cons (pv 2) pa_nil)) (pe_df Dq (hr.mono (by decide)) rfl (pa_cons (pv 1) pa_nil)) (nomark _))))) (pss_one (ps_ret pe_bl)) pss_nil)
      (pss_cons (ps_set (i := 3) scRowRight.nd rfl (Or.inl rfl) (pe_un un_neg pe_int))
      (pss_cons (ps_for PassesOwn.never rfl (pi_list (pe_df Do (hr.mono (by decide)) rfl (pa_cons (pv 0) (pa_cons (pe_lcD (own := [("_law_word", 4), ("_law_p", 6)]) s H rfl scRowRight.nd (pi_list (pe_df Dv (hr.mono (by decide)) rfl (pa_cons (pe_ix ix_tup (pv 1) pe_int (fun _ _ => rfl)) (pa_cons (pv 0) (pa_cons pe_int pa_nil))))) (blkOk_by (own := [("_law_word", 4), ("_law_p", 6)]) (N := ["_law_letters_here", "_law_parts", "_law_row", "_law_last", "_law_word", "_law_at", "_law_p"]) (sc := (defScope (top 66))) (by decide +kernel)) (pg_tup rfl (pgs_cons (pg_name (i := 4) scRowRight.nd rfl (Or.inl rfl)) (pgs_cons (pg_name (i := 6) scRowRight.nd rfl (Or.inl rfl)) pgs_nil))) pts_nil (pv 4) (fun _ _ _ _ _ => (pg_tup rfl (pgs_cons (pg_name (i := 4) scRowRight.nd rfl (Or.inl rfl)) (pgs_cons (pg_name (i := 6) scRowRight.nd rfl (Or.inl rfl)) pgs_nil)))) (fun _ _ _ _ _ => pts_nil) (fun _ _ _ _ _ => (pv 4))) pa_nil)))) (pg_name (i := 4) scRowRight.nd rfl (Or.inl rfl))
        (pss_cons (ps_set (i := 5) scRowRight.nd rfl (Or.inl rfl) (pe_bmF PySem.F.slot_tuple_index PySem.F.type_tuple_index mt_tidx (pv 2) (pa_cons (pe_df Dl (hr.mono (by decide)) rfl (pa_cons (pe_ix ix_tup (pv 1) pe_int (fun _ _ => rfl)) (pa_cons pe_int (pa_cons (pv 4) pa_nil)))) pa_nil)))
      (pss_cons (ps_if (pt_cmpR op_lt (pv 5) (pv 3) (nomark _)) (pss_one (ps_ret pe_bl)) pss_nil)
      (pss_one (ps_set (i := 3) scRowRight.nd rfl (Or.inl rfl) (pv 5))))))
      (pss_one (ps_ret pe_bl))))), ?_⟩
    obtain ⟨pa, b, c, xs, rfl, hS, hb, hA, hc⟩ := dp_parts hv
    have zrw : rw_.length = ps.length := hRow.perm.length_eq
    have hmem : ∀ p, p ∈ rw_ ↔ p ∈ ps := fun p => hRow.perm.mem_iff
    refine ⟨_, rfl, _, _, _, _, true, rfl, .ty "tuple", TyX.ofT hra, kit_ty (by decide +kernel), _, rfl, ?_⟩
    refine iteF ?_
    refine ⟨_, rfl, ra, _, rw_, rfl, .inr hra, dps_of_ints _, fun r1 ys h1 hY => ?_⟩
    have h2 : ys = (rw_.mergeSort (PySem.W.dataLe false encI)).map V.int := dps_ints hY
    subst h2
    have e1 := Evl.Ex.new (o := .lst ((rw_.mergeSort (PySem.W.dataLe false encI)).map V.int)) h1
    refine ⟨_, rfl, .ref pa, L, Es, rfl, dp_mono e1 hv, hR.zL, fun r2 ps2 H2 hr2n e2 hps2 _ hpl2 => ?_⟩
    obtain rfl := hps2.eq hps
    have hsrt : rw_.mergeSort (PySem.W.dataLe false encI) = ps2 := by
      have hpm := List.mergeSort_perm rw_ (PySem.W.dataLe false encI)
      have nd2 : (rw_.mergeSort (PySem.W.dataLe false encI)).Nodup := (hpm.trans hRow.perm).nodup_iff.mpr (hps.lt.imp fun h => by omega)
      exact EM.sorted_ext (((sortI_pw rw_).and nd2).imp fun h => by omega) hps.lt fun x => by rw [(hpm.trans hRow.perm).mem_iff]
    have hr1 := e2 _ _ (upd_same (a := r1) (H := H) (o := .lst ((rw_.mergeSort (PySem.W.dataLe false encI)).map V.int)))
    rw [hsrt] at hr1
    refine ⟨intsD ps2, intsD ps2, .lst (SqL.of hr1) (dps_of_ints _), .lst (SqL.of hpl2) (dps_of_ints _), (okD_ints _).shaped (by decide), (okD_ints _).shaped (by decide), ?_⟩
    rw [eqv_ints, decide_eq_true rfl]
    refine ⟨_, rfl, iteF ?_⟩
    have e12 := e1.trans e2
    refine ⟨_, rfl, ?_⟩
    refine ⟨_, rfl, _, rfl, pa, _, _, _, rfl, rfl, Evl.ex_t e12 hS, rfl, _, rfl, .ref b, L, ls, rfl, hL, dp_mono e12 (.lst hb hA), fun r3 fw H3 e3 hfw zfw hdf => ?_⟩
    obtain ⟨r3', fx, hr3', hfs, hfd⟩ := dp_lst hdf
    obtain rfl := V.ref.inj hr3'
    have e13 := e12.trans e3
    have hfl : fx.length = fw.length := by rw [dps_len hfd, List.length_map]
    refine ⟨r3, rfl, ⟨_, hfs⟩, fun D hD => ?_⟩
    refine lc_data (K := K) (walk_list (xs := fx)) fw (fun x => [encW x.1]) hfl (by omega) hD (fun H4 e => Evl.ex_l e hfs) ?_ ?_
    · rintro i u x H4 H' Nx hi e4 _ ⟨rfl, hx⟩ put skip
      obtain ⟨u', a, hu', rfl, hT⟩ := dps_prW hfd hx
      rw [hi] at hu'
      obtain rfl := Option.some.inj hu'
      exact ⟨a, _, rfl, Evl.ex_t e4 hT, rfl, _, _, rfl, _, _, rfl, rfl, rfl, _, rfl, put _ _ _ (Evl.Ex.refl _) rfl (.str _)⟩
    intro H4 acc e4 hacc hAcc
    rw [flat_one] at hAcc
    have hAcc' := dps_hid hAcc
    have h3 : (fw.map fun x => encW x.1) = (fw.map (·.1)).map encW := by rw [List.map_map] <;> rfl
    rw [h3] at hAcc'
    have e14 := e13.trans e4
    refine ⟨ls, fw.map (·.1), _, rfl, hL, .lst (SqL.of hacc) hAcc', fun u hu1 => ?_, by rw [List.length_map]; omega, fun r5 us H5 e5 hus hpw zus hrs => ?_⟩
    · obtain ⟨x, hx, rfl⟩ := List.mem_map.mp hu1
      exact ⟨(hfw x hx).let_, Nat.le_trans (hfw x hx).len (by decide)⟩
    have e15 := e14.trans e5
    have wok : ∀ u ∈ us, ∃ p, EM.leads L (some 0) u = some p := fun u hu1 => by
      obtain ⟨x, hx, rfl⟩ := List.mem_map.mp (hus u hu1)
      exact ⟨x.2, (hfw x hx).at_⟩
    refine ⟨r5, rfl, ⟨_, hrs⟩, for_list (K := K) (xs := us.map wV) (RrI H5 (.ref pa) ls L rw_ ra us) ⟨-1, _, _, rfl, Evl.Ex.refl _, fun u _ p _ => by omega⟩ (fun i σ H' _ h => ?_) ?_ ?_⟩
    · obtain ⟨_, _, _, _, e, _⟩ := h
      exact Evl.ex_l e hrs
    · rintro i x σ H6 hi ⟨la, o4, o5, rfl, e6, hla⟩
      rw [List.getElem?_map] at hi
      cases hk : us[i]? with
      | none => rw [hk] at hi; cases hi
      | some u =>
        rw [hk] at hi
        obtain rfl := Option.some.inj hi
        obtain ⟨p, hp⟩ := wok u (List.mem_of_getElem? hk)
        have hd := drop_at hk
        have hprw : p ∈ rw_ := (hmem p).mpr ((hps.mem p).mpr (leads_pl u 0 p (.inl rfl) hp))
        refine ⟨_, rfl, ⟨ra, _, rfl, hraD.ex (e15.trans e6)⟩, _, rfl, pa, _, _, _, rfl, rfl, Evl.ex_t (e15.trans e6) hS, rfl, _, rfl, .ref b, L, some 0, u, rfl, dp_mono (e15.trans e6) (.lst hb hA), fun H7 e7 => ?_⟩
        rw [hp]
        refine ⟨ra, rw_, p, rfl, rfl, Evl.ex_t ((e15.trans e6).trans e7) hra, hprw, ?_⟩
        refine ⟨_, rfl, _, rfl, _, _, rfl, rfl, _, rfl, ?_⟩
        have h0 : la ≤ (rw_.idxOf p : Nat) := hla u (by rw [hd]; exact List.mem_cons_self) p hp
        rw [decide_eq_false (show ¬ ((rw_.idxOf p : Nat) : Int) < la by omega)]
        refine iteF ⟨_, rfl, ?_⟩
        refine ⟨_, _, _, rfl, e6.trans e7, fun u' hu' p' hp' => ?_⟩
        have hlt : EM.kc ls u < EM.kc ls u' := by
          have h4 : (u :: us.drop (i + 1)).Pairwise (fun u v => EM.kc ls u < EM.kc ls v) := by rw [← hd]; exact hpw.sublist (List.drop_sublist _ _)
          exact (List.pairwise_cons.mp h4).1 u' hu'
        have h5 := EM.row_right (ah := EM.aB ls L) (fun _ _ => EM.aB_iff) hR.good.det (fun l hl => (hR.good.at_ l hl).1.1) hR.lets hNC hRow.by_ hmem hp hp' hprw ((hmem p').mpr ((hps.mem p').mpr (leads_pl u' 0 p' (.inl rfl) hp'))) hlt
        omega
    · rintro σ H6 ⟨la, o4, o5, rfl, e6, hla⟩
      exact q H6 (e15.trans e6)
theorem d_row_right (T : Frees mg) (D1 : DfP K mg "_law_key" 51) (D2 : DfP K mg "_law_ordered" 53) (D3 : DfP K mg "_law_goes" 54) (D4 : DfP K mg "_law_leads" 55) (D5 : DfP K mg "_law_levels" 56) (D6 : DfP K mg "_law_places" 62) (h : DfP K mg "_law_row_right" 66) :
    Df P w K mg base "_law_row_right" 3 ["_law_letters_here", "_law_parts", "_law_row"] (spRowRight K) :=
  h.df (fun _ _ F => ok_row_right T D1 D2 D3 D4 D5 D6 F) fun _ _ _ _ _ _ us hl => match us, hl with | [_, _, _], _ => rfl
end
end E

set_option maxRecDepth 100000
set_option maxHeartbeats 4000000
namespace E
open PySem PySem.Spec PyProof.Rows L2
section
variable {P : Program} {w : World} {K : PySem.W.Frag} {mg : Str → Option Value} {base : Heap} {f : Addr} {fd : FuncData}
theorem dps_bls {H : Hp} : ∀ {vs : List V} {bs : List Bool}, DpAll K H vs (bs.map PyData.bool) → vs = bs.map V.bl
  | _, [], .nil => rfl
  | _, b :: bs, .cons h t => by
    cases h
    rw [dps_bls t] <;> rfl
/-- four words that show a crossing -/
structure WyOk (ls : List Nat) (L : List Ln) (p q : Int) (u v w x : List Nat) : Prop where
  lets : ∀ y ∈ [u, v, w, x], (∀ c ∈ y, c ∈ ls) ∧ y.length ≤ 100000
  hu : EM.leads L (some 0) u = some p
  hv : EM.leads L (some 0) v = some q
  hw : EM.leads L (some 0) w = some q
  hx : EM.leads L (some 0) x = some p
  uv : EM.kc ls u < EM.kc ls v
  wx : EM.kc ls w < EM.kc ls x
def spCrossRight (K : PySem.W.Frag) : Sp := fun vs H Q _ => ∃ (v : V) (ls : List Nat) (L : List Ln) (Es : List Int) (ta wy fi : Addr) (p q : Int) (a b c d : List Nat), vs = [.str (wS ls), v, .ref ta, .ref fi] ∧ LsOk ls ∧ Dp K H v (partsD L Es) ∧ EM.Raw ls L Es ∧
  SqT K H ta [.str "cross", .int p, .int q, .ref wy] ∧ SqT K H wy ([a, b, c, d].map wV) ∧ SqT K H fi [.int p, .int q] ∧ WyOk ls L p q a b c d ∧ ∀ H', Ex H H' → Q (.bl true) H'
theorem scCrossRight : FnScope ["_law_letters_here", "_law_parts", "_law_told", "_law_first", "_law_places_here", "_law_u", "_law_v", "_law_w", "_law_x", "_law_word", "_law_letter"] ["_law_letters_here", "_law_parts", "_law_told", "_law_first"] (defScope (top 67)) := ⟨rfl, rfl, rfl, by decide +kernel, rfl, by decide +kernel, by decide +kernel⟩
theorem ok_cross_right (T : Frees mg) (D1 : DfP K mg "_law_key" 51) (D2 : DfP K mg "_law_before" 52) (D3 : DfP K mg "_law_goes" 54) (D4 : DfP K mg "_law_leads" 55) (F : FnP K "_law_cross_right" "_law_cross_right" (top 67) f fd) : FnOk P w K mg base CX0 3 f fd ["_law_letters_here", "_law_parts", "_law_told", "_law_first"] (spCrossRight K) := by
  refine F.ok scCrossRight (fun vs H Q E h => ?_) (fun cdv A outer s H vs Q E hr h => ?_)
  · obtain ⟨v, ls, L, Es, ta, wy, fi, p, q, a, b, c, d, rfl, _⟩ := h
    rfl
  · obtain ⟨v, ls, L, Es, ta, wy, fi, p, q, a, b, c, d, rfl, hL, hv, hR, hta, hwy, hfi, hW, qq⟩ := h
    have hu := hr.units
    have Db : Df P w K mg base "_law_before" 2 _ _ := d_before T D1 D2
    have Dl : Df P w K mg base "_law_leads" 2 _ _ := d_leads D3 D4
    refine ⟨_, PSs.nox (pss_cons (ps_if (PW.pt (pw_or (pt_cmpR (op_neD hu) (pe_tup (pa_cons (pe_ix ix_tup (pv 2) pe_int (fun _ _ => rfl)) (pa_cons (pe_ix ix_tup (pv 2) pe_int (fun _ _ => rfl)) pa_nil))) (pv 3) (nomark _)) (pw_or (pt_not (pt_val (pe_callB call_isi (by rfl) T.isinstance boot_isinstance (pa_cons (pe_ix ix_tup (pv 2) pe_int (fun _ _ => rfl)) (pa_cons (pe_bltn (v := .ty "tuple") (by rfl) T.tuple boot_tuple rfl) pa_nil))))) (pw_or1 (pt_cmpR op_ne (pe_callB call_len (by rfl) T.len PySem.boot_len (pa_cons (pe_ix ix_tup (pv 2) pe_int (fun _ _ => rfl)) pa_nil)) pe_int (nomark _)))))) (pss_one (ps_ret pe_bl)) pss_nil)
      (pss_cons (ps_if (pt_not (pt_val (pe_callB (cr_all rfl) (by rfl) T.all (by decide +kernel) (pa_cons (pe_lcD (own := [("_law_word", 9)]) s H rfl scCrossRight.nd (pi_tup (pe_ix ix_tup (pv 2) pe_int (fun _ _ => rfl))) (blkOk_by (own := [("_law_word", 9)]) (N := ["_law_letters_here", "_law_parts", "_law_told", "_law_first", "_law_places_here", "_law_u", "_law_v", "_law_w", "_law_x", "_law_word", "_law_letter"]) (sc := (defScope (top 67))) (by decide +kernel)) (pg_name (i := 9) scCrossRight.nd rfl (Or.inl rfl)) pts_nil (pe_callB call_isi (by rfl) T.isinstance boot_isinstance (pa_cons (pv 9) (pa_cons (pe_bltn (v := .ty "str") (by rfl) T.str boot_str rfl) pa_nil))) (fun _ _ _ _ _ => (pg_name (i := 9) scCrossRight.nd rfl (Or.inl rfl))) (fun _ _ _ _ _ => pts_nil) (fun _ _ _ _ _ => (pe_callB call_isi (by rfl) T.isinstance boot_isinstance (pa_cons (pv 9) (pa_cons (pe_bltn (v := .ty "str") (by rfl) T.str boot_str rfl) pa_nil))))) pa_nil)))) (pss_one (ps_ret pe_bl)) pss_nil)
      (pss_cons (ps_if (pt_val (pe_callB (cr_any rfl) (by rfl) T.any (by decide +kernel) (pa_cons (pe_lcD (own := [("_law_letter", 10)]) s H rfl scCrossRight.nd (pi_str (pe_join pe_str (pe_ix ix_tup (pv 2) pe_int (fun _ _ => rfl)))) (blkOk_by (own := [("_law_letter", 10)]) (N := ["_law_letters_here", "_law_parts", "_law_told", "_law_first", "_law_places_here", "_law_u", "_law_v", "_law_w", "_law_x", "_law_word", "_law_letter"]) (sc := (defScope (top 67))) (by decide +kernel)) (pg_name (i := 10) scCrossRight.nd rfl (Or.inl rfl)) pts_nil (pe_cmpR op_notIn_sign (pv 10) (pv 0) (by rfl)) (fun _ _ _ _ _ => (pg_name (i := 10) scCrossRight.nd rfl (Or.inl rfl))) (fun _ _ _ _ _ => pts_nil) (fun _ _ _ _ _ => (pe_cmpR op_notIn_sign (pv 10) (pv 0) (by rfl)))) pa_nil))) (pss_one (ps_ret pe_bl)) pss_nil)
      (pss_cons (ps_asg (pe_ix ix_tup (pv 2) pe_int (fun _ _ => rfl)) (pg_tup rfl (pgs_cons (pg_name (i := 5) scCrossRight.nd rfl (Or.inl rfl)) (pgs_cons (pg_name (i := 6) scCrossRight.nd rfl (Or.inl rfl)) (pgs_cons (pg_name (i := 7) scCrossRight.nd rfl (Or.inl rfl)) (pgs_cons (pg_name (i := 8) scCrossRight.nd rfl (Or.inl rfl)) pgs_nil))))))
      (pss_cons (ps_setLcD (i := 4) (own := [("_law_word", 9)]) s H rfl scCrossRight.nd rfl rfl (sw_true rfl rfl rfl (by decide +kernel)) (pi_tup (pe_ix ix_tup (pv 2) pe_int (fun _ _ => rfl))) (blkOk_by (own := [("_law_word", 9)]) (N := ["_law_letters_here", "_law_parts", "_law_told", "_law_first", "_law_places_here", "_law_u", "_law_v", "_law_w", "_law_x", "_law_word", "_law_letter"]) (sc := (defScope (top 67))) (by decide +kernel)) (pg_name (i := 9) scCrossRight.nd rfl (Or.inl rfl)) pts_nil (pe_df Dl (hr.mono (by decide)) rfl (pa_cons (pe_ix ix_tup (pv 1) pe_int (fun _ _ => rfl)) (pa_cons pe_int (pa_cons (pv 9) pa_nil)))) (fun _ _ _ _ _ => (pg_name (i := 9) scCrossRight.nd rfl (Or.inl rfl))) (fun _ _ _ _ _ => pts_nil) (fun _ _ _ _ _ => (pe_df Dl (hr.mono (by decide)) rfl (pa_cons (pe_ix ix_tup (pv 1) pe_int (fun _ _ => rfl)) (pa_cons pe_int (pa_cons (pv 9) pa_nil))))))
      (pss_cons (ps_if (pt_cmpR (op_neD hu) (pv 4) (pe_lst (pa_cons (pe_ix ix_tup (pv 2) pe_int (fun _ _ => rfl)) (pa_cons (pe_ix ix_tup (pv 2) pe_int (fun _ _ => rfl)) (pa_cons (pe_ix ix_tup (pv 2) pe_int (fun _ _ => rfl)) (pa_cons (pe_ix ix_tup (pv 2) pe_int (fun _ _ => rfl)) pa_nil))))) (nomark _)) (pss_one (ps_ret pe_bl)) pss_nil)
      (pss_one (ps_ret (pe_and (pe_df Db (hr.mono (by decide)) rfl (pa_cons (pv 0) (pa_cons (pv 5) (pa_cons (pv 6) pa_nil)))) (pe_one (pe_df Db (hr.mono (by decide)) rfl (pa_cons (pv 0) (pa_cons (pv 7) (pa_cons (pv 8) pa_nil)))))))))))))), ?_⟩
    obtain ⟨pa, lb, lc, xs, rfl, hS, hb, hA, hc⟩ := dp_parts hv
    have okp : okD 1 (prP (p, q)) := okD_prP _
    refine ⟨_, rfl, ta, _, _, _, rfl, rfl, hta, rfl, _, rfl, ta, _, _, _, rfl, rfl, hta, rfl, len2 _ _, fun t1 h1 => ⟨_, rfl, prP (p, q), prP (p, q), dp_prP (x := (p, q)) upd_same, .tup (Evl.ex_t (Evl.Ex.new h1) hfi) (.cons (.int _) (.cons (.int _) .nil)), shaped_prP _, shaped_prP _, ?_⟩⟩
    rw [prP_eqv, decide_eq_true rfl]
    have e1 := Evl.Ex.new (o := .tup [.int p, .int q]) h1
    refine ⟨_, rfl, iteF ?_⟩
    have hwy1 := Evl.ex_t e1 hwy
    have hta1 := Evl.ex_t e1 hta
    refine ⟨_, rfl, ta, _, _, _, rfl, rfl, hta1, rfl, _, _, _, _, true, rfl, .ty "tuple", TyX.ofT hwy1, kit_ty (by decide +kernel), _, rfl, iteF ?_⟩
    refine ⟨_, rfl, ta, _, _, _, rfl, rfl, hta1, rfl, _, _, rfl, .inr ⟨_, hwy1, rfl⟩, rfl, _, rfl, ?_⟩
    refine iteF ?_
    -- all are texts
    refine ⟨_, rfl, ta, _, _, _, rfl, rfl, hta1, rfl, wy, rfl, ⟨_, hwy1⟩, fun D hD => ?_⟩
    refine lc_data (K := K) (walk_tup (xs := [a, b, c, d].map wV)) [a, b, c, d] (fun _ => [PyData.bool true]) rfl (by show 4 < 1000000; decide) hD (fun H2 e => Evl.ex_t e hwy1) ?_ ?_
    · rintro i u x H2 H' Nx hi e2 _ ⟨rfl, hx⟩ put skip
      rw [List.getElem?_map, hi] at hx
      obtain rfl := Option.some.inj hx
      exact ⟨rfl, _, rfl, _, _, _, _, true, rfl, .ty "str", .base (.str _), kit_ty (by decide +kernel), put _ _ _ (Evl.Ex.refl _) rfl (.bl true)⟩
    intro H2 acc e2 hacc hAcc
    have ha : acc = [true, true, true, true].map V.bl := dps_bls (bs := [true, true, true, true]) (dps_hid hAcc)
    subst ha
    have e12 := e1.trans e2
    have hta2 := Evl.ex_t e12 hta
    have hwy2 := Evl.ex_t e12 hwy
    refine ⟨D, _, rfl, SqL.of hacc, _, rfl, iteF ?_⟩
    -- any letter of another order
    refine ⟨⟨_, rfl⟩, _, rfl, ta, _, _, _, rfl, rfl, hta2, rfl, _, wy, [a, b, c, d].map wS, rfl, rfl, .inr hwy2, ?_, ?_⟩
    · have la := (hW.lets a (by simp)).2
      have lb := (hW.lets b (by simp)).2
      have lc := (hW.lets c (by simp)).2
      have ld := (hW.lets d (by simp)).2
      show ((wS a).length + ((wS b).length + ((wS c).length + ((wS d).length + 0)))) + 4 * 0 ≤ 16777216
      rw [wS_len, wS_len, wS_len, wS_len]
      omega
    have hj : Txt.join "" ([a, b, c, d].map wS) = wS [a, b, c, d].flatten := by rw [nil_wS, join_ws]
    rw [hj]
    refine ⟨_, rfl, fun D2 hD2 => ?_⟩
    have hfl : ∀ y ∈ [a, b, c, d].flatten, y ∈ ls := fun y hy => by
      obtain ⟨u, hu1, hu2⟩ := List.mem_flatten.mp hy
      exact (hW.lets u hu1).1 y hu2
    have hfz : [a, b, c, d].flatten.length < 1000000 := by
      have la := (hW.lets a (by simp)).2
      have lb := (hW.lets b (by simp)).2
      have lc := (hW.lets c (by simp)).2
      have ld := (hW.lets d (by simp)).2
      simp
      omega
    refine lc_data (K := K) walk_w [a, b, c, d].flatten (fun _ => [PyData.bool false]) rfl hfz hD2 (fun _ _ => trivial) ?_ ?_
    · rintro i y x H3 H' Nx hi e3 _ ⟨rfl, y', hy', rfl⟩ put skip
      rw [hi] at hy'
      obtain rfl := Option.some.inj hy'
      refine ⟨rfl, _, rfl, _, rfl, y, wS ls, rfl, rfl, ?_⟩
      rw [wS_cps, decide_eq_true (hfl y (List.mem_of_getElem? hi))]
      exact put _ _ _ (Evl.Ex.refl _) rfl (.bl false)
    intro H3 acc3 e3 hacc3 hAcc3
    have h3 : ∀ l : List Nat, l.flatMap (fun _ => [PyData.bool false]) = (l.map fun _ => false).map PyData.bool := fun l => by
      rw [flat_one, List.map_map] <;> rfl
    rw [h3] at hAcc3
    obtain rfl := dps_bls (dps_hid hAcc3)
    have hany : (([a, b, c, d].flatten.map fun _ => false).any id) = false := by
      rw [List.any_eq_false]
      rintro x hx
      obtain ⟨_, _, rfl⟩ := List.mem_map.mp hx
      exact Bool.false_ne_true
    have e13 := e12.trans e3
    have hta3 := Evl.ex_t e13 hta
    have hwy3 := Evl.ex_t e13 hwy
    refine ⟨D2, _, rfl, SqL.of hacc3, ?_⟩
    rw [hany]
    refine ⟨_, rfl, iteF ?_⟩
    refine ⟨_, rfl, ta, _, _, _, rfl, rfl, hta3, rfl, wy, _, rfl, hwy3, rfl, _, _, rfl, _, _, rfl, _, _, rfl, _, _, rfl, rfl, ?_⟩
    -- where they lead
    refine ⟨_, rfl, ta, _, _, _, rfl, rfl, hta3, rfl, wy, rfl, ⟨_, hwy3⟩, fun D3 hD3 => ?_⟩
    have hle : ∀ y ∈ [a, b, c, d], ∃ i, EM.leads L (some 0) y = some i := fun y hy => by
      simp only [List.mem_cons, List.not_mem_nil, or_false] at hy
      rcases hy with rfl | rfl | rfl | rfl
      · exact ⟨_, hW.hu⟩
      · exact ⟨_, hW.hv⟩
      · exact ⟨_, hW.hw⟩
      · exact ⟨_, hW.hx⟩
    refine lc_data (K := K) (walk_tup (xs := [a, b, c, d].map wV)) [a, b, c, d] (fun y => [PyData.int ((EM.leads L (some 0) y).getD 0)]) rfl (by show 4 < 1000000; decide) hD3 (fun H4 e => Evl.ex_t e hwy3) ?_ ?_
    · rintro i y x H4 H' Nx hi e4 _ ⟨rfl, hx⟩ put skip
      rw [List.getElem?_map, hi] at hx
      obtain rfl := Option.some.inj hx
      obtain ⟨k, hk⟩ := hle y (List.mem_of_getElem? hi)
      refine ⟨rfl, _, rfl, pa, _, _, _, rfl, rfl, Evl.ex_t (e13.trans e4) hS, rfl, _, rfl, .ref lb, L, some 0, y, rfl, dp_mono (e13.trans e4) (.lst hb hA), fun H5 e5 => ?_⟩
      rw [hk]
      refine put _ _ _ e5 rfl ?_
      rw [hk]
      exact .int k
    intro H4 acc4 e4 hacc4 hAcc4
    have h4 : acc4 = [p, q, q, p].map V.int := by
      have h5 := dps_hid hAcc4
      have h6 : [a, b, c, d].flatMap (fun y => [PyData.int ((EM.leads L (some 0) y).getD 0)]) = [p, q, q, p].map PyData.int := by
        simp [hW.hu, hW.hv, hW.hw, hW.hx]
      rw [h6] at h5
      exact dps_ints h5
    subst h4
    have e14 := e13.trans e4
    have hta4 := Evl.ex_t e14 hta
    refine ⟨_, rfl, _, rfl, ta, _, _, _, rfl, rfl, hta4, rfl, _, rfl, ta, _, _, _, rfl, rfl, hta4, rfl, _, rfl, ta, _, _, _, rfl, rfl, hta4, rfl, _, rfl, ta, _, _, _, rfl, rfl, hta4, rfl, len4 _ _ _ _, fun t5 h5 => ⟨intsD [p, q, q, p], intsD [p, q, q, p], .lst (SqL.of (Evl.Ex.new h5 _ _ hacc4)) (dps_of_ints _), .lst (SqL.of upd_same) (dps_of_ints [p, q, q, p]), (okD_ints _).shaped (by decide), (okD_ints _).shaped (by decide), ?_⟩⟩
    rw [eqv_ints, decide_eq_true rfl]
    refine ⟨_, rfl, iteF ?_⟩
    have lt := hW.lets
    refine ⟨_, rfl, _, rfl, _, rfl, ls, a, b, rfl, hL, (lt a (by simp)).1, (lt b (by simp)).1, (lt a (by simp)).2, (lt b (by simp)).2, fun H6 e6 => ?_⟩
    rw [decide_eq_true hW.uv]
    refine ⟨_, rfl, _, rfl, _, rfl, _, rfl, ls, c, d, rfl, hL, (lt c (by simp)).1, (lt d (by simp)).1, (lt c (by simp)).2, (lt d (by simp)).2, fun H7 e7 => ?_⟩
    rw [decide_eq_true hW.wx]
    exact qq H7 ((e14.trans (Evl.Ex.new h5)).trans (e6.trans e7))
theorem d_cross_right (T : Frees mg) (D1 : DfP K mg "_law_key" 51) (D2 : DfP K mg "_law_before" 52) (D3 : DfP K mg "_law_goes" 54) (D4 : DfP K mg "_law_leads" 55) (h : DfP K mg "_law_cross_right" 67) : Df P w K mg base "_law_cross_right" 3 ["_law_letters_here", "_law_parts", "_law_told", "_law_first"] (spCrossRight K) :=
  h.df (fun _ _ F => ok_cross_right T D1 D2 D3 D4 F) fun _ _ _ _ _ _ us hl => match us, hl with | [_, _, _, _], _ => rfl
end
end E

set_option maxRecDepth 100000
set_option maxHeartbeats 4000000
namespace E
open PySem PySem.Spec PyProof.Rows L2
set_option maxHeartbeats 1000000 in
theorem meets_enum1 {v : Value} {o : Obj} {H : Heap → Prop} (B : Begins v o H) :
    Meets (Builtin.«enumerate.__new__» ⟨[.type "enumerate", v], []⟩) (fun _ R s => H s.heap ∧
      R (.ok (.ret (.ref (s.heap.push o).objs.size))) { s with heap := (s.heap.push o).push { cls := .type "enumerate", data := .fields #[.none, .bool false, .ref s.heap.objs.size, rawInt 0, .none, .none] } }) :=
  .of_wp fun prog w A R s h => by
    obtain ⟨hp, g, d, tk, os⟩ := s; obtain ⟨h1, h⟩ := h
    have hsub := sub_enumerate
    have q1 : ∀ {A' : Around} {E : Value → Shared → Prop} {Q : Value → Shared → Prop}, Q (.ref hp.objs.size) ⟨hp.push o, g, d, tk, os⟩ → wpAny (model prog w) A' (pyIter v) Q E ⟨hp, g, d, tk, os⟩ :=
      fun q => B.iter prog w _ _ ⟨hp, g, d, tk, os⟩ _ h1 q
    wp_walk using q1
    refine wpAny_stack_any fun st => wpAny_pure ?_
    split
    · rename_i c _ _ _ _ _
      cases (c == Value.type "enumerate")
      · wp_walk using q1
        exact ⟨_, rfl, h⟩
      · wp_walk using q1
        exact ⟨_, rfl, h⟩
    · wp_walk using q1
      exact ⟨_, rfl, h⟩
section
variable {prog : Program} {w : World} {A : Around} {E : Value → Shared → Prop} {s : Shared}
theorem call_enum1 {v : Value} {o : Obj} {H : Heap → Prop} {Q : Value → Shared → Prop} (B : Begins v o H) (h1 : H s.heap)
    (h : ∀ h', IsEnum h' (s.heap.objs.size + 1) s.heap.objs.size 0 .none → h'.get? s.heap.objs.size = some o → h'.objs.size = s.heap.objs.size + 2 →
      (∀ b o, s.heap.get? b = some o → h'.get? b = some o) → Q (.ref (s.heap.objs.size + 1)) { s with heap := h' }) :
    wpAny (model prog w) A (call (.type "enumerate") [v]) Q E s := by
  refine callType_new F.called_enumerate (by decide) (F.typeCall_enumerate_1 _) (F.newCall_enumerate_1 _) (fun obj => F.args_object_init_2 obj _) F.entry_enumerate_new
    (meets_enum1 B) ⟨h1, ?_⟩
  have hz : (s.heap.push o).objs.size = s.heap.objs.size + 1 := Heap.size_push ..
  show _ ∧ _
  rw [hz]
  have he : IsEnum ((s.heap.push o).push { cls := .type "enumerate", data := .fields #[.none, .bool false, .ref s.heap.objs.size, rawInt 0, .none, .none] }) (s.heap.objs.size + 1) s.heap.objs.size 0 .none := by
    have := Heap.get?_push_size (s.heap.push o) (o := { cls := .type "enumerate", data := .fields #[.none, .bool false, .ref s.heap.objs.size, rawInt 0, .none, .none] }) rfl
    rw [hz] at this; exact this
  refine ⟨⟨_, he, rfl⟩, h _ he (Heap.get?_push_of_some _ (Heap.get?_push_size _ B.free)) (by rw [Heap.size_push, hz]) fun b o x => Heap.get?_push_of_some _ (Heap.get?_push_of_some _ x)⟩
end
/-! ### enumerate(text) -/
def ItES (z : Str) : It := ⟨fun i _ => i < z.cps.size, fun i H v H' => ∃ T c, v = .ref T ∧ H T = none ∧ H' = upd H T (.tup [.int (i : Nat), .str ⟨#[c]⟩]) ∧ z.cps[i]? = some c, fun i _ => z.cps.size ≤ i⟩
theorem turn_enumS {P : Program} {w : World} {K : PySem.W.Frag} {elts : List Expr} {kk : Nat} {tpos : Pos} (z : Str) (t : Tok) (e it : Addr) :
    Turn P w K (.Tuple elts kk tpos) (ItES z) [e, it] e (fun i h => (∃ old, IsEnum h e it ((i : Nat) : Int) old) ∧ h.IsStrIter it (strIterType z) z t i ∧ e ≠ it ∧ i ≤ z.cps.size) where
  mem := by simp
  obj := fun i h st b hb => by
    obtain ⟨⟨old, he⟩, ⟨o, ho, hc, hd⟩, _⟩ := st
    have e' : b = e ∨ b = it := by simpa using hb
    rcases e' with z | z
    · rw [z]; exact ⟨_, he, fun v q => nomatch q⟩
    · rw [z]; exact ⟨o, ho, fun v q => by rw [hd] at q; cases q⟩
  keep := fun i h h' st k => let ⟨⟨old, he⟩, ⟨o, ho, r⟩, hne, hz⟩ := st; ⟨⟨old, k e (by simp) _ he⟩, ⟨o, k it (by simp) o ho, r⟩, hne, hz⟩
  item := by
    intro X hP hw hK hc i pins s σ H E I hf st hg
    subst hP hw hK
    obtain ⟨⟨old, he⟩, hit, hne, hz⟩ := st
    have hlt : i < z.cps.size := hg
    have hel : e < s.heap.objs.size := Heap.lt_size he
    have hil : it < s.heap.objs.size := by obtain ⟨_, q, _⟩ := hit; exact Heap.lt_size q
    have D : Draws X.prog X.w X.A.in1 it [it] z.cps.size (fun i v => ∃ c u, z.cps[i]? = some c ∧ v = .str ⟨#[c]⟩ u) (fun i h => h.IsStrIter it (strIterType z) z t i) := Draws.text (show X.A.in1.handled = none from I.ok.hd hc) it z t
    refine wpAny_pyNext_enum_itemD D he hit hlt hne (by simpa using hne) fun x h' tk hP ho hit' hT hsz hk => ?_
    obtain ⟨c, u, hcc, rfl⟩ := hP
    refine ⟨_, rfl, wpAny_letOwnedTupleGo_enum (s := { s with heap := h', toks := tk + 1 }) ho fun h'' he' sb => ?_⟩
    have hT2 : h''.get? s.heap.objs.size = some { cls := .type "tuple", data := .seq #[.int i tk, .str ⟨#[c]⟩ u] } := (sb.2 _ (Nat.ne_of_gt hel)).trans hT
    have new : ObjOk X.prog X.w (upd H s.heap.objs.size (.tup [.int (i : Nat), .str ⟨#[c]⟩])) h'' s.heap.objs.size (.tup [.int (i : Nat), .str ⟨#[c]⟩]) :=
      ⟨by show 2 ≤ sizeLine; decide, [.int i tk, .str ⟨#[c]⟩ u], .cons ⟨_, rfl⟩ (.cons ⟨_, rfl⟩ .nil), ⟨_, hT2, rfl, _, rfl⟩⟩
    have I1 : Inv X pins σ (upd H s.heap.objs.size (.tup [.int (i : Nat), .str ⟨#[c]⟩])) { s with heap := h'', toks := tk + 1 } :=
      I.turnedNew (ch := [e, it]) (fun b ob hb q => (sb.2 b (fun z => hb (by simp [z]))).trans (hk b ob (fun z => hb (by simp [z])) (fun z => hb (by simp [z])) q)) hf (Nat.le_refl _) new
    refine ⟨.ref s.heap.objs.size, _, I1, rfl, ⟨_, c, rfl, I.hok.fresh (Nat.le_refl _), rfl, hcc⟩, ⟨⟨.str ⟨#[c]⟩ u, ?_⟩, ?_, hne, hlt⟩, fun b hb => ?_⟩
    · have e1 : ((i + 1 : Nat) : Int) = (i : Int) + 1 := by omega
      rw [e1]; exact he'
    · obtain ⟨o, ho2, r⟩ := hit'
      exact ⟨o, (sb.2 it (Ne.symm hne)).trans ho2, r⟩
    · have hb' : b < s.heap.objs.size := by
        have e' : b = e ∨ b = it := by simpa using hb
        rcases e' with z | z
        · rw [z]; exact hel
        · rw [z]; exact hil
      rw [upd_ne (Nat.ne_of_lt hb')]
      exact (hf b hb).1
  done := by
    intro X hP hw hK hc i pins s σ H E I hf st hg
    subst hP hw hK
    obtain ⟨⟨old, he⟩, hit, hne, hz⟩ := st
    have hi : i = z.cps.size := Nat.le_antisymm hz hg
    subst hi
    obtain ⟨f0, f1, f2, f3, f4, f5⟩ := hf it (by simp)
    have D : Draws X.prog X.w X.A.in1 it [it] z.cps.size (fun i v => ∃ c u, z.cps[i]? = some c ∧ v = .str ⟨#[c]⟩ u) (fun i h => h.IsStrIter it (strIterType z) z t i) := Draws.text (show X.A.in1.handled = none from I.ok.hd hc) it z t
    exact wpAny_pyNext_enum_endD D he hit fun h' eb => ⟨rfl, I.turned (t' := s.toks) (fun b o hb q => eb b o hb q) f0 f1 f3 f4 f5⟩
  self := fun A i s Q E st h => let ⟨⟨_, he⟩, _⟩ := st; wpAny_pyIter_enum he h
def iEnumS (ta : TA) : TI := fun σ H R => ta σ H fun vs H1 => ∃ z, vs = [.str z] ∧ R (ItES z) H1
theorem pi_enumS {X : Cx} {e : Expr} {ta : TA} {p pos tpos : Pos} {elts : List Expr} {kk : Nat} (hg : Gl X "enumerate") (hm : X.mg "enumerate" = none) (ha : PA X [e] ta) (hs : starEach [e] X.env = [(false, eval e X.env)] := by rfl) :
    PI X (.Tuple elts kk tpos) (.Call (.Name "enumerate" p) [e] [] pos) (iEnumS ta) := by
  refine ⟨fun pins s σ H R I h => ?_⟩
  refine Call_ (ld_blt I hg hm boot_enumerate (PyProof.Rows.callWith_type1 (thn (ha.run pos pins s σ H _ I h) fun us s1 ⟨vs, H1, I1, r1, q1⟩ => ?_) hs rfl))
  obtain ⟨z, ex, q⟩ := q1
  subst ex
  obtain ⟨u, rfl, t, rfl⟩ := vals1 r1
  refine call_enumerate_str fun h' he hit hsz hk => wpAny_pyIter_enum he ?_
  have I2 : Inv X pins σ H1 { s1 with heap := h' } := I1.kept (t' := s1.toks) hk
  refine ⟨s1.heap.objs.size + 1, [s1.heap.objs.size + 1, s1.heap.objs.size], _, _, H1, rfl, I2, turn_enumS z t (s1.heap.objs.size + 1) s1.heap.objs.size, ⟨⟨.none, he⟩, hit, Nat.succ_ne_self _, Nat.zero_le _⟩, fun b hb => ?_, q⟩
  have e' : b = s1.heap.objs.size + 1 ∨ b = s1.heap.objs.size := by simpa using hb
  have hle : s1.heap.objs.size ≤ b := by
    rcases e' with z | z
    · rw [z]; exact Nat.le_add_right _ _
    · rw [z]; exact Nat.le_refl _
  exact I1.fpOk hle (I1.hok.fresh hle)
theorem walk_enumW {w : List Nat} : Walk (ItES (wS w)) w.length (fun _ => True) (fun i H v H' => ∃ T c, v = .ref T ∧ H T = none ∧ H' = upd H T (.tup [.int (i : Nat), .str (chS c)]) ∧ w[i]? = some c) := by
  have hz : (wS w).cps.size = w.length := by
    show w.toArray.size = w.length
    simp
  refine ⟨fun i H hi _ => by show i < (wS w).cps.size; rw [hz]; exact hi, fun H _ => by show (wS w).cps.size ≤ w.length; rw [hz]; exact Nat.le_refl _, fun i H x H' _ _ y => ?_⟩
  obtain ⟨T, c, h1, h2, h3, h4⟩ := y
  refine ⟨T, c, h1, h2, h3, ?_⟩
  have h5 : w.toArray[i]? = some c := h4
  simpa using h5
/-! ### enumerate(tuple) -/
def ItET (K : PySem.W.Frag) (a : Addr) (n : Nat) : It :=
  ⟨fun i H => i < n ∧ ∃ xs : List V, SqT K H a xs ∧ xs.length = n, fun i H v H' => ∃ T x, v = .ref T ∧ H T = none ∧ H' = upd H T (.tup [.int (i : Nat), x]) ∧ ∀ xs, SqT K H a xs → xs[i]? = some x, fun i H => n ≤ i ∧ ∃ xs : List V, SqT K H a xs ∧ xs.length = n⟩
theorem turn_enumT {P : Program} {w : World} {K : PySem.W.Frag} {elts : List Expr} {kk : Nat} {tpos : Pos} (a : Addr) (n : Nat) (e it : Addr) :
    Turn P w K (.Tuple elts kk tpos) (ItET K a n) [e, it] e (fun i h => (∃ old, IsEnum h e it ((i : Nat) : Int) old) ∧ h.IsTupleIter it a i ∧ e ≠ it ∧ i ≤ n) where
  mem := by simp
  obj := fun i h st b hb => by
    obtain ⟨⟨old, he⟩, ⟨o, ho, hc, hd⟩, _⟩ := st
    have e' : b = e ∨ b = it := by simpa using hb
    rcases e' with z | z
    · rw [z]; exact ⟨_, he, fun v q => nomatch q⟩
    · rw [z]; exact ⟨o, ho, fun v q => by rw [hd] at q; cases q⟩
  keep := fun i h h' st k => let ⟨⟨old, he⟩, hi, hne, hz⟩ := st; ⟨⟨old, k e (by simp) _ he⟩, hi.at fun o q => k it (by simp) o q, hne, hz⟩
  item := by
    intro X hP hw hK hc i pins s σ H E I hf st hg
    subst hP hw hK
    obtain ⟨⟨old, he⟩, hit, hne, hz⟩ := st
    obtain ⟨hlt, xs, hq, hn⟩ := hg
    obtain ⟨its, rv, p, hzz⟩ := I.tuple hq
    have hel : e < s.heap.objs.size := Heap.lt_size he
    have hil : it < s.heap.objs.size := by obtain ⟨_, q, _⟩ := hit; exact Heap.lt_size q
    have hsz0 : its.toArray.size = n := by rw [List.size_toArray, ← rv.length, hn]
    have hait : a ≠ it := fun z => by
      obtain ⟨o1, h1, c1, _⟩ := p
      obtain ⟨o2, h2, c2, _⟩ := hit
      rw [z, h2] at h1
      rw [Option.some.inj h1] at c2
      rw [c1] at c2
      injection c2 with c2
      revert c2
      decide
    have hae : a ≠ e := fun z => by
      obtain ⟨o1, h1, c1, _⟩ := p
      have h2 : s.heap.get? e = some _ := he
      rw [z, h2] at h1
      rw [← Option.some.inj h1] at c1
      injection c1 with c1
      revert c1
      decide
    have D := Draws.tuple (prog := X.prog) (w := X.w) (A := X.A.in1) (I.ok.hd hc) it a hait its.toArray
    refine wpAny_pyNext_enum_itemD D he ⟨hit, p⟩ (by rw [hsz0]; exact hlt) hne (by simp [hne, hae.symm]) fun u h' tk hP ho hit' hT hsz hk => ?_
    obtain ⟨x, hx⟩ : ∃ x, xs[i]? = some x := ⟨_, List.getElem?_eq_getElem (by omega)⟩
    obtain ⟨u', hu, ru⟩ := rv.get hx
    have hu2 : its[i]? = some u := by simpa using hP
    rw [hu2] at hu
    obtain rfl := Option.some.inj hu
    refine ⟨_, rfl, wpAny_letOwnedTupleGo_enum (s := { s with heap := h', toks := tk + 1 }) ho fun h'' he' sb => ?_⟩
    have hT2 : h''.get? s.heap.objs.size = some { cls := .type "tuple", data := .seq #[.int i tk, u] } := (sb.2 _ (Nat.ne_of_gt hel)).trans hT
    have new : ObjOk X.prog X.w (upd H s.heap.objs.size (.tup [.int (i : Nat), x])) h'' s.heap.objs.size (.tup [.int (i : Nat), x]) :=
      ⟨by show 2 ≤ sizeLine; decide, [.int i tk, u], .cons ⟨_, rfl⟩ (.cons ru .nil), ⟨_, hT2, rfl, _, rfl⟩⟩
    have I1 : Inv X pins σ (upd H s.heap.objs.size (.tup [.int (i : Nat), x])) { s with heap := h'', toks := tk + 1 } :=
      I.turnedNew (ch := [e, it]) (fun b ob hb q => (sb.2 b (fun z => hb (by simp [z]))).trans (hk b ob (fun z => hb (by simp [z])) (fun z => hb (by simp [z])) q)) hf (Nat.le_refl _) new
    refine ⟨.ref s.heap.objs.size, _, I1, rfl, ⟨_, x, rfl, I.hok.fresh (Nat.le_refl _), rfl, fun ys hy => by rw [I.tuple_inj hy hq]; exact hx⟩, ⟨⟨u, ?_⟩, hit'.1.at fun o q => (sb.2 it (Ne.symm hne)).trans q, hne, hlt⟩, fun b hb => ?_⟩
    · have e1 : ((i + 1 : Nat) : Int) = (i : Int) + 1 := by omega
      rw [e1]; exact he'
    · have hb' : b < s.heap.objs.size := by
        have e' : b = e ∨ b = it := by simpa using hb
        rcases e' with z | z
        · rw [z]; exact hel
        · rw [z]; exact hil
      rw [upd_ne (Nat.ne_of_lt hb')]
      exact (hf b hb).1
  done := by
    intro X hP hw hK hc i pins s σ H E I hf st hg
    subst hP hw hK
    obtain ⟨⟨old, he⟩, hit, hne, hz⟩ := st
    obtain ⟨hge, xs, hq, hn⟩ := hg
    obtain ⟨its, rv, p, hzz⟩ := I.tuple hq
    have hsz0 : its.toArray.size = n := by rw [List.size_toArray, ← rv.length, hn]
    have hi : i = its.toArray.size := by omega
    obtain ⟨f0, f1, f2, f3, f4, f5⟩ := hf it (by simp)
    have hait : a ≠ it := fun z => by
      obtain ⟨o1, h1, c1, _⟩ := p
      obtain ⟨o2, h2, c2, _⟩ := hit
      rw [z, h2] at h1
      rw [Option.some.inj h1] at c2
      rw [c1] at c2
      injection c2 with c2
      revert c2
      decide
    have D := Draws.tuple (prog := X.prog) (w := X.w) (A := X.A.in1) (I.ok.hd hc) it a hait its.toArray
    exact wpAny_pyNext_enum_endD D he ⟨by rw [← hi]; exact hit, p⟩ fun h' eb => ⟨rfl, I.turned (t' := s.toks) (fun b o hb q => eb b o hb q) f0 f1 f3 f4 f5⟩
  self := fun A i s Q E st h => let ⟨⟨_, he⟩, _⟩ := st; wpAny_pyIter_enum he h
def iEnumT (K : PySem.W.Frag) (ta : TA) : TI := fun σ H R => ta σ H fun vs H1 => ∃ a xs, vs = [.ref a] ∧ SqT K H1 a xs ∧ R (ItET K a xs.length) H1
theorem pi_enumT {X : Cx} {e : Expr} {ta : TA} {p pos tpos : Pos} {elts : List Expr} {kk : Nat} (hg : Gl X "enumerate") (hm : X.mg "enumerate" = none) (ha : PA X [e] ta) (hs : starEach [e] X.env = [(false, eval e X.env)] := by rfl) :
    PI X (.Tuple elts kk tpos) (.Call (.Name "enumerate" p) [e] [] pos) (iEnumT X.K ta) := by
  refine ⟨fun pins s σ H R I h => ?_⟩
  refine Call_ (ld_blt I hg hm boot_enumerate (PyProof.Rows.callWith_type1 (thn (ha.run pos pins s σ H _ I h) fun us s1 ⟨vs, H1, I1, r1, q1⟩ => ?_) hs rfl))
  obtain ⟨a, xs, ex, hq, q⟩ := q1
  subst ex
  obtain rfl := Vals.ref1 r1
  obtain ⟨its, rv, p', hz⟩ := I1.tuple hq
  refine call_enum1 (begins_tuple a its.toArray) p' fun h' he hit hsz hk => wpAny_pyIter_enum he ?_
  have I2 : Inv X pins σ H1 { s1 with heap := h' } := I1.kept (t' := s1.toks) hk
  refine ⟨s1.heap.objs.size + 1, [s1.heap.objs.size + 1, s1.heap.objs.size], _, _, H1, rfl, I2, turn_enumT a xs.length (s1.heap.objs.size + 1) s1.heap.objs.size, ⟨⟨.none, he⟩, ⟨_, hit, rfl, rfl⟩, Nat.succ_ne_self _, Nat.zero_le _⟩, fun b hb => ?_, q⟩
  have e' : b = s1.heap.objs.size + 1 ∨ b = s1.heap.objs.size := by simpa using hb
  have hle : s1.heap.objs.size ≤ b := by
    rcases e' with z | z
    · rw [z]; exact Nat.le_add_right _ _
    · rw [z]; exact Nat.le_refl _
  exact I1.fpOk hle (I1.hok.fresh hle)
theorem walk_enumT {K : PySem.W.Frag} {a : Addr} {xs : List V} : Walk (ItET K a xs.length) xs.length (fun H => SqT K H a xs) (YPair (fun i => some (.int (i : Nat))) (fun i => xs[i]?)) := by
  refine ⟨fun i _ hi q => ⟨hi, xs, q, rfl⟩, fun _ q => ⟨Nat.le_refl _, xs, q, rfl⟩, fun i H v H' _ q y => ?_⟩
  obtain ⟨T, x, h1, h2, h3, h4⟩ := y
  exact ⟨T, .int (i : Nat), x, h1, h2, h3, rfl, h4 xs q⟩
end E

set_option maxRecDepth 100000
set_option maxHeartbeats 4000000
namespace E
open PySem PySem.Spec PyProof.Rows L2
section
variable {P : Program} {w : World} {A : Around} {E : Value → Shared → Prop} {s : Shared}
set_option maxHeartbeats 3200000 in
/-- set(list of ints) -/
theorem call_setI {l : Addr} {items : Array Value} (ns : List Int) {Q : Value → Shared → Prop} (hh : A.handled = none) (hl : s.heap.IsList l items) (hit : IntsAre items.toList ns) (hb : ns.length + 1 < scanBound)
    (h : ∀ (h' : Heap) (tk c : Nat), SetR w h' s.heap.objs.size (fun j => decide (j ∈ ns)) c → c ≤ ns.length → (∀ b o, s.heap.get? b = some o → h'.get? b = some o) → Q (.ref s.heap.objs.size) { s with heap := h', toks := tk }) :
    wpAny (model P w) A (call (.type "set") [.ref l]) Q E s := by
  have hisz : items.size = ns.length := by
    have q := IntsAre.length hit
    rw [Array.length_toList] at q
    exact q
  obtain ⟨c, tl, hmro⟩ := PySem.F.called_set.mro
  have hmade := PySem.F.called_set.made
  have hsub := PySem.F.called_set.sub
  refine wpAny_call (codeAny_of_tree ?_)
  show wpAny _ _ (callAny (.type "set") _) _ _ _
  refine wpAny_pure ⟨Code.quiet_builtin _ (by decide +kernel), codeAny_builtin PySem.F.entry_type_call ?_⟩
  rw [Around.under_plain (weight_type_call_type "set" [.ref l] []) rfl]
  have h1 := PySem.F.called_set.notType
  have h2 := PySem.F.called_set.canCreate
  have hct := PySem.F.typeCall_set_1 (.ref l)
  repeat (any_goals (first | assumption | wp_step))
  refine codeAny_mono (code_set_led1 (.ref l) (E := E) (Q₁ := fun obj s₁ => obj = .ref s.heap.objs.size ∧ s₁ = { s with heap := s.heap.push { cls := .type "set", dict := none, data := .set #[] 0 (.fresh 0 0 (!w.params.followText "set-order")) } }) ⟨rfl, rfl⟩) fun r s₁ hr => ?_
  cases r with
  | error e => exact hr
  | ok fl =>
    cases fl with
    | ret obj =>
      obtain ⟨rfl, rfl⟩ := hr
      have hS : (s.heap.push { cls := .type "set", dict := none, data := .set #[] 0 (.fresh 0 0 (!w.params.followText "set-order")) }).get? s.heap.objs.size = some { cls := .type "set", dict := none, data := .set #[] 0 (.fresh 0 0 (!w.params.followText "set-order")) } := Heap.get?_push_size _ rfl
      have hT : Shared.TypeIs { s with heap := s.heap.push { cls := .type "set", dict := none, data := .set #[] 0 (.fresh 0 0 (!w.params.followText "set-order")) } } (.ref s.heap.objs.size) "set" := ⟨_, hS, rfl⟩
      have hli := PySem.F.called_set.init.lookup
      have hbi := PySem.F.called_set.init.bind (.ref s.heap.objs.size)
      repeat (any_goals (first | assumption | wp_step))
      refine codeAny_mono (codeAny_call_builtin (R := wants (fun r s₂ => r = .none ∧ ∃ h' tk c, s₂ = { s with heap := h', toks := tk } ∧ SetR w h' s.heap.objs.size (fun j => decide (j ∈ ns)) c ∧ c ≤ ns.length ∧
          (∀ b o, s.heap.get? b = some o → h'.get? b = some o)) E) PySem.F.called_set.init.plain PySem.F.entry_set_init (check_set_init_1 hT ?_)) fun r₂ s₂ hr₂ => ?_
      · obtain ⟨ol, hol, hcl, nl, hdl⟩ := hl
        obtain ⟨ocls, odict, odata, oslots⟩ := ol
        simp only at hcl hdl
        subst hcl; subst hdl
        have hol' : (s.heap.push { cls := .type "set", dict := none, data := .set #[] 0 (.fresh 0 0 (!w.params.followText "set-order")) }).get? l = some { cls := .type "list", dict := odict, data := .seq items nl, slots := oslots } := Heap.get?_push_of_some _ hol
        have hsls := PySem.F.sub_list_set
        have hslf := PySem.F.sub_list_frozenset
        have hne : (Value.type "list" == Value.type "dict") = false := by decide
        have hl1 : (s.heap.push { cls := .type "set", dict := none, data := .set #[] 0 (.fresh 0 0 (!w.params.followText "set-order")) }).IsList l items := ⟨_, hol', rfl, nl, rfl⟩
        unfold Builtin.«set.__init__» noKeywords Builtin.Frozenset.updateFrom
        generalize hPI : pyIter = PI
        wp_walk
        subst hPI
        refine wpAny_pyIter_list hl1 ?_
        refine wpAny_bind (wpAny_runValue ?_)
        have hlS : l < s.heap.objs.size := Heap.lt_size hol
        have hh3 : A.in1.in1.in1.handled = none := by simp [hh]
        have hneI : l ≠ (s.heap.push { cls := .type "set", dict := none, data := .set #[] 0 (.fresh 0 0 (!w.params.followText "set-order")) }).objs.size := by
          rw [Heap.size_push]; exact Nat.ne_of_lt (Nat.lt_succ_of_lt hlS)
        have hSf : s.heap.objs.size ∉ [(s.heap.push { cls := .type "set", dict := none, data := .set #[] 0 (.fresh 0 0 (!w.params.followText "set-order")) }).objs.size, l] := by
          rw [Heap.size_push]; simp only [List.mem_cons, List.mem_singleton, List.not_mem_nil, or_false, not_or]
          exact ⟨Nat.ne_of_lt (Nat.lt_succ_self _), Nat.ne_of_gt hlS⟩
        have hval : ∀ (i : Nat) (v : Value), items[i]? = some v → ∃ k t, ns[i]? = some k ∧ v = .int k t := fun i v hv => by
          have hi : i < ns.length := by rw [← hisz]; exact (Array.getElem?_eq_some_iff.mp hv).1
          obtain ⟨t, e⟩ := PyProof.Rows.IntsAre.int_at hit i v (by rw [Array.getElem?_toList]; exact hv)
          refine ⟨ns[i], t, List.getElem?_eq_getElem hi, ?_⟩
          rw [e, List.getD_eq_getElem?_getD, List.getElem?_eq_getElem hi] <;> rfl
        refine set_update_ints ((Walks.list hh3 _ l hneI items).toS) s.heap.objs.size
          hSf ns hisz hb hval (items.size - 0) 0 _ (by omega) (Nat.zero_le _)
          ⟨⟨_, Heap.get?_push_size _ rfl, rfl, rfl⟩, (hl1.push _)⟩ ?hS0 ?hR
        case hS0 =>
          have hget : ((s.heap.push { cls := .type "set", dict := none, data := .set #[] 0 (.fresh 0 0 (!w.params.followText "set-order")) }).push { cls := .type "list_iterator", data := .fields #[.ref l, .int 0 0] }).get? s.heap.objs.size
              = some { cls := .type "set", dict := none, data := .set #[] 0 (.fresh 0 0 (!w.params.followText "set-order")) } := Heap.get?_push_of_some _ hS
          exact ⟨0, Nat.le_refl 0, setR_new_at hget⟩
        case hR =>
          intro s' c' hm hc' hS'
          obtain ⟨h', g2, d', tk', os'⟩ := s'
          have eg : g2 = s.gens := hm.gens
          have ed : d' = s.drawn := hm.drawn
          have eo : os' = s.os := hm.os
          subst eg; subst ed; subst eo
          show wpAny _ _ _ _ _ _
          refine wpAny_pure ?_
          show wpAny _ _ (ret Value.none) _ _ _
          rw [hisz] at hc'
          refine wpAny_pure ⟨rfl, h', tk', c', rfl, hS', hc', fun b o e => ?_⟩
          have hb0 : b < s.heap.objs.size := Heap.lt_size e
          have hb1 : b ≠ s.heap.objs.size := Nat.ne_of_lt hb0
          have hb2 : b ≠ (s.heap.push { cls := .type "set", dict := none, data := .set #[] 0 (.fresh 0 0 (!w.params.followText "set-order")) }).objs.size := by
            rw [Heap.size_push]; exact Nat.ne_of_lt (Nat.lt_succ_of_lt hb0)
          exact hm.heap b o (by simp only [List.mem_cons, List.mem_singleton, List.not_mem_nil, or_false, not_or]; exact ⟨hb1, hb2⟩) (Heap.get?_push_of_some _ (Heap.get?_push_of_some _ e))
      · cases r₂ with
        | error e => exact hr₂
        | ok fl₂ =>
          cases fl₂ with
          | ret r =>
            obtain ⟨rfl, h', tk, c', rfl, hS', hc', hk'⟩ := hr₂
            repeat (any_goals (first | assumption | wp_step))
            exact h _ _ _ hS' hc' hk'
          | _ => exact hr₂.elim
    | _ => exact hr.elim
/-- a walk whose items are distinct letters, added one by one -/
theorem set_update_text {I : Addr} {fp wr : List Addr} {G : Array GenState → Array GenState → Prop} {n : Nat} {Pv : Nat → Value → Prop} {St : Nat → Shared → Prop} {R : Result → Shared → Prop}
    (W : WalksS P w A.in1 I fp wr G n Pv St) (S : Addr) (hSf : S ∉ fp) (xs : List Str) (hn : n = xs.length) (nd : xs.Nodup) (hb : xs.length + 1 < scanBound) (hval : ∀ i v, Pv i v → ∃ k t, xs[i]? = some k ∧ v = .str k t) :
    ∀ (k i : Nat) (s : Shared), n - i = k → i ≤ n → St i s → s.heap.SetOf (PySem.strKind P w) S (fun j => decide (j ∈ xs.take i)) i →
      (∀ s', Moved (S :: wr) G s s' → s'.heap.SetOf (PySem.strKind P w) S (fun j => decide (j ∈ xs)) n → R (.ok (.ret .none)) s') →
      codeAny (model P w) A (.builtin "set.update.loop" ⟨[.ref S, .ref I], []⟩) R s := by
  have hSw : S ∉ wr := fun h => hSf (W.sub _ h)
  have hsub : ∀ b ∈ wr, b ∈ S :: wr := fun b hb => List.mem_cons_of_mem _ hb
  intro k
  induction k with
  | zero =>
    intro i s hk hi hst hS hR
    have hin : i = n := by omega
    subst hin
    refine codeAny_builtin PyProof.Rows.F.entry_set_update_loop ?_
    rw [Around.under_plainId PyProof.Rows.F.plain_set_update_loop _]
    show wpAny _ A.in1 (pyNext (.ref I) >>= _) _ _ s
    refine wpAny_bind (W.done s _ _ hst fun s' hm => ?_)
    show wpAny _ A.in1 (ret Value.none) _ _ s'
    have e : xs.take i = xs := List.take_of_length_le (by omega)
    rw [e] at hS
    exact wpAny_pure (hR s' (hm.mono hsub) (by
      obtain ⟨o, es, ep, t, ho, rest⟩ := hS
      exact ⟨o, es, ep, t, hm.heap S _ hSw ho, rest⟩))
  | succ k ih =>
    intro i s hk hi hst hS hR
    have hlt : i < n := by omega
    refine codeAny_builtin PyProof.Rows.F.entry_set_update_loop ?_
    rw [Around.under_plainId PyProof.Rows.F.plain_set_update_loop _]
    show wpAny _ A.in1 (pyNext (.ref I) >>= _) _ _ s
    refine wpAny_bind (W.item i s _ _ hlt hst fun v s' hP hst' hm => ?_)
    obtain ⟨z, t, hz, rfl⟩ := hval i v hP
    have hS' : s'.heap.SetOf (PySem.strKind P w) S (fun j => decide (j ∈ xs.take i)) i := by
      obtain ⟨o, es, ep, tb, ho, rest⟩ := hS
      exact ⟨o, es, ep, tb, hm.heap S _ hSw ho, rest⟩
    show wpAny _ A.in1 (holding [Value.str z t] (setAdd S (.str z t)) >>= _) _ _ s'
    refine wpAny_bind (wpAny_holding ?_)
    unfold setAdd
    refine wpAny_holding ?_
    refine wpAny_bind ((PySem.strKind P w).pyHash (k := z) (strKind_is _ _ _ _) ?_)
    refine wpAny_setAddHashed_of (knd := PySem.strKind P w) (s := { s' with toks := s'.toks + 1 }) (strKind_is _ _ _ _) rfl hS' (by omega) fun h' hsb hS2 => ?_
    have hzn : z ∉ xs.take i := fun hm => by
      obtain ⟨j, hj⟩ := List.mem_iff_getElem?.mp hm
      obtain ⟨hj1, _⟩ := List.getElem?_eq_some_iff.mp hj
      rw [List.length_take] at hj1
      rw [List.getElem?_take_of_lt (by omega)] at hj
      obtain ⟨h1, h2⟩ := List.getElem?_eq_some_iff.mp hj
      obtain ⟨h3, h4⟩ := List.getElem?_eq_some_iff.mp hz
      have := List.pairwise_iff_getElem.mp nd j i h1 h3 (by omega)
      rw [h2, h4] at this
      exact this rfl
    have hSi : h'.SetOf (PySem.strKind P w) S (fun j => decide (j ∈ xs.take (i + 1))) (i + 1) := by
      refine PyProof.Rows.SetOf_congr hS2 (fun j => ?_) (by rw [decide_eq_false hzn]; rfl)
      rw [List.take_add_one, hz]
      simp [List.mem_append]
    refine wpAny_pure ⟨plainId_quiet PyProof.Rows.F.plain_set_update_loop _, ih (i + 1) _ (by omega) hlt (W.frame _ s' _ _ hst' (Nat.le_succ _) fun b hb o e => ?_) hSi fun s'' hm'' hS'' => ?_⟩
    · rw [hsb.2 b (fun h : b = S => hSf (by rw [← h]; exact hb))]; exact e
    · refine hR s'' (Moved.trans W.gtrans ((hm.mono hsub).then_heap (Nat.le_succ _) fun b o hb e => ?_) hm'') hS''
      rw [hsb.2 b (fun h : b = S => hb (by rw [h]; exact List.mem_cons_self))]; exact e
set_option maxHeartbeats 3200000 in
/-- set(text), its letters distinct -/
theorem call_setW (u : List Nat) {t : Tok} {Q : Value → Shared → Prop} (hh : A.handled = none) (nd : u.Nodup) (hb : u.length + 1 < scanBound)
    (h : ∀ (h' : Heap) (tk : Nat), h'.SetOf (PySem.strKind P w) s.heap.objs.size (fun j => decide (j ∈ u.map chS)) u.length → (∀ b o, s.heap.get? b = some o → h'.get? b = some o) → Q (.ref s.heap.objs.size) { s with heap := h', toks := tk }) :
    wpAny (model P w) A (call (.type "set") [.str (wS u) t]) Q E s := by
  obtain ⟨c, tl, hmro⟩ := PySem.F.called_set.mro
  have hmade := PySem.F.called_set.made
  have hsub := PySem.F.called_set.sub
  refine wpAny_call (codeAny_of_tree ?_)
  show wpAny _ _ (callAny (.type "set") _) _ _ _
  refine wpAny_pure ⟨Code.quiet_builtin _ (by decide +kernel), codeAny_builtin PySem.F.entry_type_call ?_⟩
  rw [Around.under_plain (weight_type_call_type "set" [.str (wS u) t] []) rfl]
  have h1 := PySem.F.called_set.notType
  have h2 := PySem.F.called_set.canCreate
  have hct := PySem.F.typeCall_set_1 (.str (wS u) t)
  repeat (any_goals (first | assumption | wp_step))
  refine codeAny_mono (code_set_led1 (.str (wS u) t) (E := E) (Q₁ := fun obj s₁ => obj = .ref s.heap.objs.size ∧ s₁ = { s with heap := s.heap.push { cls := .type "set", dict := none, data := .set #[] 0 (.fresh 0 0 (!w.params.followText "set-order")) } }) ⟨rfl, rfl⟩) fun r s₁ hr => ?_
  cases r with
  | error e => exact hr
  | ok fl =>
    cases fl with
    | ret obj =>
      obtain ⟨rfl, rfl⟩ := hr
      have hS : (s.heap.push { cls := .type "set", dict := none, data := .set #[] 0 (.fresh 0 0 (!w.params.followText "set-order")) }).get? s.heap.objs.size = some { cls := .type "set", dict := none, data := .set #[] 0 (.fresh 0 0 (!w.params.followText "set-order")) } := Heap.get?_push_size _ rfl
      have hT : Shared.TypeIs { s with heap := s.heap.push { cls := .type "set", dict := none, data := .set #[] 0 (.fresh 0 0 (!w.params.followText "set-order")) } } (.ref s.heap.objs.size) "set" := ⟨_, hS, rfl⟩
      have hli := PySem.F.called_set.init.lookup
      have hbi := PySem.F.called_set.init.bind (.ref s.heap.objs.size)
      repeat (any_goals (first | assumption | wp_step))
      refine codeAny_mono (codeAny_call_builtin (R := wants (fun r s₂ => r = .none ∧ ∃ h' tk, s₂ = { s with heap := h', toks := tk } ∧ h'.SetOf (PySem.strKind P w) s.heap.objs.size (fun j => decide (j ∈ u.map chS)) u.length ∧
          (∀ b o, s.heap.get? b = some o → h'.get? b = some o)) E) PySem.F.called_set.init.plain PySem.F.entry_set_init (check_set_init_1 hT ?_)) fun r₂ s₂ hr₂ => ?_
      · have hsls := PySem.F.sub_str_set
        have hslf := PySem.F.sub_str_frozenset
        have hne : (Value.type "str" == Value.type "dict") = false := by decide
        unfold Builtin.«set.__init__» noKeywords Builtin.Frozenset.updateFrom
        generalize hPI : pyIter = PI
        wp_walk
        subst hPI
        refine wpAny_pyIter_str fun oi St hW hst => ?_
        refine wpAny_bind (wpAny_runValue ?_)
        have hh3 : A.in1.in1.in1.handled = none := by simp [hh]
        have hz1 : (s.heap.push { cls := .type "set", dict := none, data := .set #[] 0 (.fresh 0 0 (!w.params.followText "set-order")) }).objs.size = s.heap.objs.size + 1 := Heap.size_push ..
        have hSf : s.heap.objs.size ∉ [(s.heap.push { cls := .type "set", dict := none, data := .set #[] 0 (.fresh 0 0 (!w.params.followText "set-order")) }).objs.size] := by
          rw [Heap.size_push]; simp
        have hval : ∀ (i : Nat) (v : Value), SignAt (wS u) i v → ∃ k t, (u.map chS)[i]? = some k ∧ v = .str k t := fun i v ⟨c, t, hc, e⟩ => by
          refine ⟨chS c, t, ?_, e⟩
          have h5 : u.toArray[i]? = some c := hc
          rw [List.getElem?_map, show u[i]? = some c by simpa using h5]
          rfl
        have hsz : (wS u).cps.size = (u.map chS).length := by
          rw [List.length_map]
          show u.toArray.size = u.length
          simp
        have ndm : (u.map chS).Nodup := List.pairwise_map.mpr (nd.imp fun h z => h (chS_inj z))
        refine set_update_text ((hW _ hh3).toS) s.heap.objs.size hSf (u.map chS) hsz ndm (by rw [List.length_map]; exact hb) hval ((wS u).cps.size - 0) 0 _ (by omega) (Nat.zero_le _) hst ?hS0 ?hR
        case hS0 =>
          have hget : ((s.heap.push { cls := .type "set", dict := none, data := .set #[] 0 (.fresh 0 0 (!w.params.followText "set-order")) }).push oi).get? s.heap.objs.size
              = some { cls := .type "set", dict := none, data := .set #[] 0 (.fresh 0 0 (!w.params.followText "set-order")) } := Heap.get?_push_of_some _ hS
          exact PyProof.Rows.SetOf_congr ((PyProof.Rows.setObjOf_fresh (knd := PySem.strKind P w) (!w.params.followText "set-order")).setOf hget (by unfold scanBound; omega)) (fun _ => by simp) rfl
        case hR =>
          intro s' hm hS'
          obtain ⟨h', g2, d', tk', os'⟩ := s'
          have eg : g2 = s.gens := hm.gens
          have ed : d' = s.drawn := hm.drawn
          have eo : os' = s.os := hm.os
          subst eg; subst ed; subst eo
          show wpAny _ _ _ _ _ _
          refine wpAny_pure ?_
          show wpAny _ _ (ret Value.none) _ _ _
          rw [hsz, List.length_map] at hS'
          refine wpAny_pure ⟨rfl, h', tk', rfl, hS', fun b o e => ?_⟩
          have hb0 : b < s.heap.objs.size := Heap.lt_size e
          have hb1 : b ≠ s.heap.objs.size := Nat.ne_of_lt hb0
          have hb2 : b ≠ (s.heap.push { cls := .type "set", dict := none, data := .set #[] 0 (.fresh 0 0 (!w.params.followText "set-order")) }).objs.size := by
            rw [Heap.size_push]; exact Nat.ne_of_lt (Nat.lt_succ_of_lt hb0)
          exact hm.heap b o (by simp only [List.mem_cons, List.mem_singleton, List.not_mem_nil, or_false, not_or]; exact ⟨hb1, hb2⟩) (Heap.get?_push_of_some _ (Heap.get?_push_of_some _ e))
      · cases r₂ with
        | error e => exact hr₂
        | ok fl₂ =>
          cases fl₂ with
          | ret r =>
            obtain ⟨rfl, h', tk, rfl, hS', hk'⟩ := hr₂
            repeat (any_goals (first | assumption | wp_step))
            exact h _ _ hS' hk'
          | _ => exact hr₂.elim
    | _ => exact hr.elim
end
section
variable {X : Cx}
/-- len(set(text)), its letters distinct -/
def tLenSetW (ta : TE) : TE := fun σ H Q => ta σ H fun x H1 => ∃ u : List Nat, x = .str (wS u) ∧ u.Nodup ∧ u.length ≤ 1000 ∧ Q (.int (u.length : Nat)) H1
theorem pe_lenSetW {a : Expr} {ta : TE} {p p2 q pos : Pos} (hc : X.calm = true) (hg : Gl X "len") (hm : X.mg "len" = none) (hg2 : Gl X "set") (hm2 : X.mg "set" = none) (ha : PE X a ta)
    (na : starEach [a] X.env = (false, eval a X.env) :: starEach [] X.env := by rfl) : PE X (.Call (.Name "len" p) [.Call (.Name "set" p2) [a] [] q] [] pos) (tLenSetW ta) := by
  refine ⟨fun pins s σ H Q I h => ?_⟩
  refine Call_ (ld_blt I hg hm PySem.boot_len ?_)
  refine PyProof.Rows.callWith_builtin1 (PyProof.Rows.args_cons ?_ rfl) rfl rfl
  refine Call_ (ld_blt I hg2 hm2 PyProof.Rows.boot_set ?_)
  refine PyProof.Rows.callWith_type1 (PyProof.Rows.args_cons (thn (ha.run pins s σ H _ I h) fun v s1 ⟨x, H1, I1, r1, q1⟩ => PyProof.Rows.args_nil ?_) na) na rfl
  obtain ⟨u, rfl, nd, hz, q1⟩ := q1
  obtain ⟨t, rfl⟩ := r1
  refine call_setW u (I1.ok.hd hc) nd (by unfold scanBound; omega) fun h' tk hS hk => ?_
  refine PyProof.Rows.args_nil ?_
  obtain ⟨o, es, ep, t, ho, hex, hd, _, _, _, hf, hn⟩ := hS
  have I2 : Inv X pins σ H1 { s1 with heap := h', toks := tk } := I1.kept fun b o e => hk b o e
  refine call_len_set ho hex hd hf (by rw [hn] <;> omega) ⟨.int (u.length : Nat), H1, I2.tok _, ⟨_, by rw [hn]⟩, q1⟩
/-- set(list of ints) -/
def rSetI (K : PySem.W.Frag) (w : World) : List V → Hp → VK → Prop := fun xs H Q => ∃ (a : Addr) (ns : List Int), xs = [.ref a] ∧ SqL K H a (ns.map V.int) ∧ ns.length ≤ 2000 ∧ ∀ (p : Addr) (l : List Int), H p = none → l.Nodup → (∀ k, k ∈ l ↔ k ∈ ns) → Q (.ref p) (upd H p (SetO w p (fun j => decide (j ∈ ns)) l.length))
theorem cr_setI (hc : X.calm = true) : CallR X (.type "set") (rSetI X.K X.w) := by
  intro pins s σ H xs us Q I r h
  obtain ⟨a, ns, rfl, hq, hz, q⟩ := h
  obtain rfl := Vals.ref1 r
  obtain ⟨its, rv, pl, _⟩ := I.list hq
  refine call_setI ns (I.ok.hd hc) pl.isList (by simpa using ints_are rv) (by unfold scanBound; omega) fun h' tk c hS hcn hk => ?_
  obtain ⟨o, es, ep, t, ho, hex, hd, hg, hnd, hmem, hb, hf, hn, hri, hl⟩ := id hS
  have I1 : Inv X pins σ (upd H s.heap.objs.size (SetO X.w s.heap.objs.size (fun j => decide (j ∈ ns)) c)) { s with heap := h', toks := tk } :=
    I.laid hk (Nat.le_refl _) (setO_new hS)
  have hlen : (es.toList.map keyOf).length = c := by rw [List.length_map, Array.length_toList]; exact hn
  refine ⟨.ref s.heap.objs.size, _, I1, rfl, ?_⟩
  have := q s.heap.objs.size (es.toList.map keyOf) (I.hok.fresh (Nat.le_refl _)) hnd fun k => by rw [← hmem k]; simp
  rw [hlen] at this
  exact this
end
end E

set_option maxRecDepth 100000
set_option maxHeartbeats 4000000
namespace E
open PySem PySem.Spec PyProof.Rows L2
/-- a method that keeps a promise -/
def DmP (P : Program) (w : World) (K : PySem.W.Frag) (mg : Str → Option Value) (base : Heap) (C : Addr) (m : Str) (k : Nat) (ps : List Str) (sp : Sp) : Prop :=
  ∃ f fd, Cls K C ∧ Meth K C m f ∧ FnOk P w K mg base CX0 k f fd ps sp ∧ Binds K fd ps []
/-- a class whose __init__ keeps a promise -/
def DkP (P : Program) (w : World) (K : PySem.W.Frag) (mg : Str → Option Value) (base : Heap) (C : Addr) (x : Str) (k : Nat) (ps : List Str) (sp : Sp) : Prop :=
  ∃ f fd, mg x = some (.ref C) ∧ Mk K C f ∧ FnOk P w K mg base CX0 k f fd ps sp ∧ Binds K fd ps []
section
variable {X : Cx} {C : Addr} {k : Nat} {ps : List Str} {sp : Sp}
theorem pe_dm {m : Str} {o e : Expr} {es : List Expr} {ta : TE} {t : TA} {apos pos : Pos} {pl : Sem Bool} (D : DmP X.prog X.w X.K X.mg X.base C m k ps sp) (hr : Room k X.A) (he : PE X o ta) (ha : PA X (e :: es) t)
    (hst : starEach (e :: es) X.env = (false, eval e X.env) :: starEach es X.env := by rfl) (hpl : (backTo pos (starEach es X.env)).any (·.1) = false := by rfl)
    (ht : eval (.Call (.Attribute o m apos) (e :: es) [] pos) X.env = (do
      let ov ← eval o X.env
      standAt apos.atName
      let (f, first) ← holding [ov] (getMethod ov m pl)
      callWith pos f first (backTo pos (starEach (e :: es) X.env)) (backToKw pos (keywordEach [] X.env))) := by rfl) :
    PE X (.Call (.Attribute o m apos) (e :: es) [] pos) (tMeth C m sp [] E0 ta t) := by
  obtain ⟨f, fd, c, hm, F, hb⟩ := D
  exact pe_meth he c hm F hr hb .nil pass0 ha hst hpl ht
theorem pe_dm0 {m : Str} {o : Expr} {ta : TE} {apos pos : Pos} {pl : Sem Bool} (D : DmP X.prog X.w X.K X.mg X.base C m k ps sp) (hr : Room k X.A) (he : PE X o ta)
    (ht : eval (.Call (.Attribute o m apos) [] [] pos) X.env = (do
      let ov ← eval o X.env
      standAt apos.atName
      let (f, first) ← holding [ov] (getMethod ov m pl)
      callWith pos f first (backTo pos (starEach [] X.env)) (backToKw pos (keywordEach [] X.env))) := by rfl) :
    PE X (.Call (.Attribute o m apos) [] [] pos) (tMeth C m sp [] E0 ta tNil) := by
  obtain ⟨f, fd, c, hm, F, hb⟩ := D
  exact pe_meth0 he c hm F hr hb .nil pass0 ht
theorem pe_dk {x : Str} {e : Expr} {es : List Expr} {t : TA} {p pos : Pos} (D : DkP X.prog X.w X.K X.mg X.base C x k ps sp) (hr : Room (k + 1) X.A) (hg : Gl X x) (ha : PA X (e :: es) t)
    (hdb : (x == ("__debug__" : Str)) = false := by decide) (he : starEach (e :: es) X.env = (false, eval e X.env) :: starEach es X.env := by rfl) (hpl : (backTo pos (starEach es X.env)).any (·.1) = false := by rfl) :
    PE X (.Call (.Name x p) (e :: es) [] pos) (tMake C sp [] E0 t) := by
  obtain ⟨f, fd, hm, M, F, hb⟩ := D
  exact pe_make M F hr hg hm hb .nil pass0 ha hdb he hpl
end
section
variable {J : It} {n : Nat} {G : Hp → Prop} {Y : Nat → Hp → V → Hp → Prop}
/-- a dict comprehension over any walk -/
theorem dc_it (w : Walk J n G Y) {g : TG} {tt : TT} {tk tv : TE} {vs : List Nat} {σ : L2.St} {H1 : Hp} {D : Addr} {Qd : Hp → Prop} (Pv : Nat → Hp → Prop) (h0 : Pv 0 (upd H1 D (.dK []))) (hG : ∀ i H, i ≤ n → Pv i H → G H)
    (hs : ∀ i x H H', i < n → Pv i H → Y i H x H' → g x (wipe σ vs) H' fun σ2 H2 => wipe σ2 vs = wipe σ vs ∧ tt σ2 H2 fun b H3 =>
      if b = true then tk σ2 H3 fun y H4 => tv σ2 H4 fun z H5 => ∃ kvs k, y = kV k ∧ H5 D = some (.dK kvs) ∧ kvs.length < sizeLine ∧ Pv (i + 1) (upd H5 D (.dK (putK kvs k z))) else Pv (i + 1) H3) (hd : ∀ H, Pv n H → Qd H) :
    ∃ W : Nat → Nat → Hp → Prop, (∃ m, W 0 m (upd H1 D (.dK []))) ∧ ∀ i m H, W i m H →
      (J.stop i H ∧ Qd H) ∨ (J.go i H ∧ ∃ Nx : Hp → Prop, (∀ H', Nx H' → ∃ m', m' < m ∧ W (i + 1) m' H') ∧ ∀ x H', J.yld i H x H' → g x (wipe σ vs) H' fun σ2 H2 => wipe σ2 vs = wipe σ vs ∧ tt σ2 H2 fun b H3 =>
        if b = true then tk σ2 H3 fun y H4 => tv σ2 H4 fun z H5 => ∃ kvs k, y = kV k ∧ H5 D = some (.dK kvs) ∧ kvs.length < sizeLine ∧ Nx (upd H5 D (.dK (putK kvs k z))) else Nx H3) := by
  refine ⟨fun i m H => m = n - i ∧ i ≤ n ∧ Pv i H, ⟨n, by simp, Nat.zero_le _, h0⟩, ?_⟩
  rintro i m H ⟨rfl, hi, p⟩
  have q := hG i H hi p
  by_cases hlt : i < n
  · exact .inr ⟨w.goes i H hlt q, Pv (i + 1), fun H' p' => ⟨n - (i + 1), by omega, rfl, hlt, p'⟩, fun x H' y => hs i x H H' hlt p (w.yields i H x H' hlt q y)⟩
  · have e : i = n := by omega
    subst e
    exact .inl ⟨w.stops H q, hd H p⟩
end
/-- what is known of the class Order -/
structure OrdC (K : PySem.W.Frag) (mg : Str → Option Value) (C : Addr) : Prop where
  g : mg "Order" = some (.ref C)
  cls : Cls K C
  init : ∃ f fd, Mk K C f ∧ FnP K "__init__" "Order.__init__" (inClass (top 44) 0) f fd
  con : ∃ f fd, Meth K C "__contains__" f ∧ FnP K "__contains__" "Order.__contains__" (inClass (top 44) 2) f fd
  nl : NoAttr K C "letters"
  nr : NoAttr K C "ranks"
structure MachC (K : PySem.W.Frag) (mg : Str → Option Value) (C : Addr) : Prop where
  g : mg "Machine" = some (.ref C)
  cls : Cls K C
  init : ∃ f fd, Mk K C f ∧ FnP K "__init__" "Machine.__init__" (inClass (top 41) 0) f fd
  idle : ∃ f fd, Meth K C "check_idle" f ∧ FnP K "check_idle" "Machine.check_idle" (inClass (top 41) 1) f fd
  go : ∃ f fd, Meth K C "go" f ∧ FnP K "go" "Machine.go" (inClass (top 41) 3) f fd
  no : NoAttr K C "order"
  nt : NoAttr K C "targets"
  ne : NoAttr K C "ends"
  nl : NoAttr K C "lanes"
  np : NoAttr K C "places"
section
variable {P : Program} {w : World} {K : PySem.W.Frag} {mg : Str → Option Value} {base : Heap}
theorem dm_of {C f : Addr} {fd : FuncData} {m qual : Str} {st : Stmt} {k : Nat} {ps : List Str} {sp : Sp} (c : Cls K C) (hm : Meth K C m f) (F : FnP K m qual st f fd) (ok : FnOk P w K mg base CX0 k f fd ps sp)
    (hb : ∀ (kV doc pm : Value) (an : Option Addr) (cdv ct : Value) (us : List Value), us.length = ps.length → bindArgs (PySem.W.fnOf m qual (defArgs st) (defBody st) (defScope st) .none kV doc pm an cdv ct) ⟨us, []⟩ = pure (ps.zip us)) : DmP P w K mg base C m k ps sp := ⟨f, fd, c, hm, ok, F.bindsN hb⟩
theorem dk_of {C f : Addr} {fd : FuncData} {x qual : Str} {st : Stmt} {k : Nat} {ps : List Str} {sp : Sp} (g : mg x = some (.ref C)) (M : Mk K C f) (F : FnP K "__init__" qual st f fd) (ok : FnOk P w K mg base CX0 k f fd ps sp)
    (hb : ∀ (kV doc pm : Value) (an : Option Addr) (cdv ct : Value) (us : List Value), us.length = ps.length → bindArgs (PySem.W.fnOf "__init__" qual (defArgs st) (defBody st) (defScope st) .none kV doc pm an cdv ct) ⟨us, []⟩ = pure (ps.zip us)) : DkP P w K mg base C x k ps sp := ⟨f, fd, g, M, ok, F.bindsN hb⟩
end
end E

set_option maxRecDepth 100000
set_option maxHeartbeats 4000000
namespace E
open PySem PySem.Spec PyProof.Rows L2
section
variable {P : Program} {w : World} {K : PySem.W.Frag} {mg : Str → Option Value} {base : Heap} {f : Addr} {fd : FuncData}
def spIsNum : Sp := fun vs H Q _ => ∃ i : Int, vs = [.int i] ∧ 0 ≤ i ∧ Q (.bl true) H
theorem scIsNum : FnScope ["thing"] ["thing"] (defScope (top 3)) := ⟨rfl, rfl, rfl, by decide +kernel, rfl, by decide +kernel, by decide +kernel⟩
theorem ok_is_number (T : Frees mg) (F : FnP K "is_number" "is_number" (top 3) f fd) : FnOk P w K mg base CX0 1 f fd ["thing"] spIsNum := by
  refine F.ok scIsNum (fun vs H Q E h => ?_) (fun cdv A outer s H vs Q E hr h => ?_)
  · obtain ⟨i, rfl, _⟩ := h
    rfl
  · obtain ⟨i, rfl, hi, q⟩ := h
    refine ⟨_, PSs.nox (pss_one (ps_ret (pe_and (pe_callB call_isi (by rfl) T.isinstance boot_isinstance (pa_cons (pv 0) (pa_cons (pe_bltn (v := .ty "int") (by rfl) T.int boot_int rfl) pa_nil))) (pe_and (pe_not (pe_callB call_isi (by rfl) T.isinstance boot_isinstance (pa_cons (pv 0) (pa_cons (pe_bltn (v := .ty "bool") (by rfl) T.bool boot_bool rfl) pa_nil)))) (pe_one (pe_cmpR op_ge (pv 0) pe_int (nomark _))))))), ?_⟩
    refine ⟨_, rfl, _, _, _, _, true, rfl, .ty "int", .base (.int _), kit_ty (by decide +kernel), _, rfl, ?_⟩
    refine ⟨_, rfl, _, _, _, _, false, rfl, .ty "bool", .base (.int _), kit_ty (by decide +kernel), _, rfl, _, rfl, ?_⟩
    refine ⟨_, rfl, _, _, rfl, rfl, ?_⟩
    have e : decide ((0 : Int) ≤ i) = true := decide_eq_true hi
    show Q (V.bl (decide ((0 : Int) ≤ i))) H
    rw [e]
    exact q
theorem d_is_number (T : Frees mg) (h : DfP K mg "is_number" 3) : Df P w K mg base "is_number" 1 ["thing"] spIsNum :=
  h.df (fun _ _ F => ok_is_number T F) fun _ _ _ _ _ _ us hl => match us, hl with | [_], _ => rfl
def spIsList (K : PySem.W.Frag) : Sp := fun vs H Q _ => ∃ (a : Addr) (xs : List V), vs = [.ref a] ∧ (SqL K H a xs ∨ SqT K H a xs) ∧ ∀ H', Ex H H' → Q (.bl true) H'
theorem scIsList : FnScope ["thing"] ["thing"] (defScope (top 4)) := ⟨rfl, rfl, rfl, by decide +kernel, rfl, by decide +kernel, by decide +kernel⟩
theorem ok_is_list (T : Frees mg) (F : FnP K "is_list" "is_list" (top 4) f fd) : FnOk P w K mg base CX0 1 f fd ["thing"] (spIsList K) := by
  refine F.ok scIsList (fun vs H Q E h => ?_) (fun cdv A outer s H vs Q E hr h => ?_)
  · obtain ⟨a, xs, rfl, _⟩ := h
    rfl
  · obtain ⟨a, xs, rfl, hS, q⟩ := h
    refine ⟨_, PSs.nox (pss_one (ps_ret (pe_callB call_isiT (by rfl) T.isinstance boot_isinstance (pa_cons (pv 0) (pa_cons (pe_tup (pa_cons (pe_bltn (v := .ty "list") (by rfl) T.list boot_list rfl) (pa_cons (pe_bltn (v := .ty "tuple") (by rfl) T.tuple boot_tuple rfl) pa_nil))) pa_nil))))), ?_⟩
    refine ⟨_, rfl, len2 _ _, fun t ht => ?_⟩
    have e := Evl.Ex.new (o := .tup [.ty "list", .ty "tuple"]) ht
    rcases hS with hS | hS
    · exact ⟨_, t, _, .type "list", [.type "list", .type "tuple"], true, rfl, upd_same, .cons (.ty _) (.cons (.ty _) .nil), TyX.ofL (Evl.ex_l e hS), kitAny_cons (kit_ty (b := "list") (r := true) (by decide +kernel)) (fun z => nomatch z) (fun _ => rfl), q _ e⟩
    · exact ⟨_, t, _, .type "tuple", [.type "list", .type "tuple"], true, rfl, upd_same, .cons (.ty _) (.cons (.ty _) .nil), TyX.ofT (Evl.ex_t e hS), kitAny_cons (kit_ty (b := "list") (r := false) (by decide +kernel)) (fun _ => kitAny_cons (kit_ty (b := "tuple") (r := true) (by decide +kernel)) (fun z => nomatch z) (fun _ => rfl)) (fun z => nomatch z), q _ e⟩
theorem d_is_list (T : Frees mg) (h : DfP K mg "is_list" 4) : Df P w K mg base "is_list" 1 ["thing"] (spIsList K) :=
  h.df (fun _ _ F => ok_is_list T F) fun _ _ _ _ _ _ us hl => match us, hl with | [_], _ => rfl
/-! ### are_letters -/
def signs : List Nat := (List.range 26).map fun i => 97 + i
theorem signs_eq : ("abcdefghijklmnopqrstuvwxyz" : Str).cps.toList = signs := by decide +kernel
theorem mem_signs {c : Nat} (h1 : 97 ≤ c) (h2 : c ≤ 122) : c ∈ signs := List.mem_map.mpr ⟨c - 97, List.mem_range.mpr (by omega), by omega⟩
def spAreLetters : Sp := fun vs H Q _ => ∃ ls : List Nat, vs = [.str (wS ls)] ∧ LsOk ls ∧ ∀ H', Ex H H' → Q (.bl true) H'
theorem scAreLetters : FnScope ["thing", "sign"] ["thing"] (defScope (top 43)) := ⟨rfl, rfl, rfl, by decide +kernel, rfl, by decide +kernel, by decide +kernel⟩
theorem ok_are_letters (T : Frees mg) (hS : ∃ t, mg "SIGNS" = some (.str "abcdefghijklmnopqrstuvwxyz" t)) (F : FnP K "are_letters" "are_letters" (top 43) f fd) : FnOk P w K mg base CX0 1 f fd ["thing"] spAreLetters := by
  refine F.ok scAreLetters (fun vs H Q E h => ?_) (fun cdv A outer s H vs Q E hr h => ?_)
  · obtain ⟨ls, rfl, _⟩ := h
    rfl
  · obtain ⟨ls, rfl, hL, q⟩ := h
    have hS2 : ∃ u, mg "SIGNS" = some u ∧ RelV (.str "abcdefghijklmnopqrstuvwxyz") u := by
      obtain ⟨t, h⟩ := hS
      exact ⟨_, h, t, rfl⟩
    refine ⟨_, PSs.nox (pss_cons (ps_if (PW.pt (pw_or (pt_not (pt_val (pe_callB call_isi (by rfl) T.isinstance boot_isinstance (pa_cons (pv 0) (pa_cons (pe_bltn (v := .ty "str") (by rfl) T.str boot_str rfl) pa_nil))))) (pw_or (pt_cmpR op_eq (pv 0) pe_str (nomark _)) (pw_or1 (pt_not (pt_val (pe_callB (cr_all rfl) (by rfl) T.all (by decide +kernel) (pa_cons (pe_lcD (own := [("sign", 1)]) s H rfl scAreLetters.nd (pi_str (pv 0)) (blkOk_by (own := [("sign", 1)]) (N := ["thing", "sign"]) (sc := (defScope (top 43))) (by decide +kernel)) (pg_name (i := 1) scAreLetters.nd rfl (Or.inl rfl)) pts_nil (pe_cmpR op_in_sign (pv 1) (C8.pe_gc (v := .str "abcdefghijklmnopqrstuvwxyz") (by rfl) hS2) (by rfl)) (fun _ _ _ _ _ => (pg_name (i := 1) scAreLetters.nd rfl (Or.inl rfl))) (fun _ _ _ _ _ => pts_nil) (fun _ _ _ _ _ => (pe_cmpR op_in_sign (pv 1) (C8.pe_gc (v := .str "abcdefghijklmnopqrstuvwxyz") (by rfl) hS2) (by rfl)))) pa_nil)))))))) (pss_one (ps_ret pe_bl)) pss_nil)
      (pss_one (ps_ret (pe_cmpR op_eq (pe_lenSetW rfl (by rfl) T.len (by rfl) T.set (pv 0)) (pe_callB call_len (by rfl) T.len PySem.boot_len (pa_cons (pv 0) pa_nil)) (nomark _))))), ?_⟩
    refine ⟨_, rfl, _, _, _, _, true, rfl, .ty "str", .base (.str _), kit_ty (by decide +kernel), _, rfl, iteF ?_⟩
    have hne : decide (V.str (wS ls) = V.str "") = false := decide_eq_false fun z => hL.ne (by
      have h1 : wS ls = Str.ofString "" := V.str.inj z
      rw [nil_wS] at h1
      exact wS_inj h1)
    refine ⟨_, rfl, rfl, _, rfl, ?_⟩
    rw [hne]
    refine iteF ?_
    refine ⟨_, rfl, _, rfl, fun D hD => ?_⟩
    refine lc_data (K := K) walk_w ls (fun _ => [PyData.bool true]) rfl (by have := hL.len; omega) hD (fun _ _ => trivial) ?_ ?_
    · rintro i c x H2 H' Nx hi e2 _ ⟨rfl, c', hc', rfl⟩ put skip
      rw [hi] at hc'
      obtain rfl := Option.some.inj hc'
      have hl := hL.low c (List.mem_of_getElem? hi)
      refine ⟨rfl, _, rfl, c, _, rfl, rfl, ?_⟩
      rw [signs_eq, decide_eq_true (mem_signs hl.1 hl.2)]
      exact put _ _ _ (Evl.Ex.refl _) rfl (.bl true)
    intro H2 acc e2 hacc hAcc
    have h3 : ∀ l : List Nat, l.flatMap (fun _ => [PyData.bool true]) = (l.map fun _ => true).map PyData.bool := fun l => by
      rw [flat_one, List.map_map] <;> rfl
    rw [h3] at hAcc
    obtain rfl := dps_bls (dps_hid hAcc)
    have hall : ((ls.map fun _ => true).all id) = true := by
      rw [List.all_eq_true]
      rintro x hx
      obtain ⟨_, _, rfl⟩ := List.mem_map.mp hx
      rfl
    refine ⟨D, _, rfl, SqL.of hacc, ?_⟩
    rw [hall]
    refine ⟨_, rfl, iteF ?_⟩
    refine ⟨_, rfl, ls, rfl, hL.nd, by have := hL.len; omega, _, rfl, _, _, rfl, ⟨by rw [wS_len]; exact sz_of (by have := hL.len; omega), rfl⟩, rfl, ?_⟩
    rw [wS_len]
    have e : decide (V.int (ls.length : Nat) = V.int (ls.length : Nat)) = true := decide_eq_true rfl
    rw [e]
    exact q _ e2
theorem d_are_letters (T : Frees mg) (hS : ∃ t, mg "SIGNS" = some (.str "abcdefghijklmnopqrstuvwxyz" t)) (h : DfP K mg "are_letters" 43) : Df P w K mg base "are_letters" 1 ["thing"] spAreLetters :=
  h.df (fun _ _ F => ok_are_letters T hS F) fun _ _ _ _ _ _ us hl => match us, hl with | [_], _ => rfl
/-! ### Order -/
def OrdAt (C : Addr) (H : Hp) (a : Addr) (ls : List Nat) : Prop := ∃ (dx : Addr) (fs : List (Str × V)) (d : Addr) (kvs : List (Key × V)), H a = some (.ins C dx fs) ∧ fs.lookup ("letters" : Str) = some (.str (wS ls)) ∧ fs.lookup ("ranks" : Str) = some (.ref d) ∧ fs.lookup ("__contains__" : Str) = none ∧ H d = some (.dK kvs) ∧
  ∀ c : Nat, valV kvs (.inr (chS c)) = if c ∈ ls then some (.int (ls.idxOf c : Nat)) else none
def spOrdInit (C : Addr) : Sp := fun vs H Q _ => ∃ (a dx : Addr) (ls : List Nat), vs = [.ref a, .str (wS ls)] ∧ LsOk ls ∧ H a = some (.ins C dx []) ∧ ∀ H', (∀ b o, b ≠ a → H b = some o → H' b = some o) → OrdAt C H' a ls → Q .non H'
theorem scOrdInit : FnScope ["self", "letters", "at", "letter"] ["self", "letters"] (defScope (inClass (top 44) 0)) := ⟨rfl, rfl, rfl, by decide +kernel, rfl, by decide +kernel, by decide +kernel⟩
theorem ok_ord_init {C : Addr} (T : Frees mg) (hS : ∃ t, mg "SIGNS" = some (.str "abcdefghijklmnopqrstuvwxyz" t)) (D1 : DfP K mg "are_letters" 43) (O : OrdC K mg C) (F : FnP K "__init__" "Order.__init__" (inClass (top 44) 0) f fd) : FnOk P w K mg base CX0 2 f fd ["self", "letters"] (spOrdInit C) := by
  refine F.ok scOrdInit (fun vs H Q E h => ?_) (fun cdv A outer s H vs Q E hr h => ?_)
  · obtain ⟨a, dx, ls, rfl, _⟩ := h
    rfl
  · obtain ⟨a, dx, ls, rfl, hL, ha, q⟩ := h
    have Dl : Df P w K mg base "are_letters" 1 _ _ := d_are_letters T hS D1
    refine ⟨_, PSs.nox (pss_cons (ps_if (pt_not (pt_val (pe_df Dl (hr.mono (by decide)) rfl (pa_cons (pv 1) pa_nil)))) (pss_one ps_never) pss_nil)
      (pss_cons (ps_fld (pv 0) (pv 1) rfl)
      (pss_one (ps_fld (pv 0) (pe_dcD (own := [("at", 2), ("letter", 3)]) s H rfl scOrdInit.nd (pi_enumS rfl T.enumerate (pa_cons (pv 1) pa_nil)) (blkOk_by (own := [("at", 2), ("letter", 3)]) (N := ["self", "letters", "at", "letter"]) (sc := (defScope (inClass (top 44) 0))) (by decide +kernel)) (pg_tup rfl (pgs_cons (pg_name (i := 2) scOrdInit.nd rfl (Or.inl rfl)) (pgs_cons (pg_name (i := 3) scOrdInit.nd rfl (Or.inl rfl)) pgs_nil))) pts_nil (pv 3) (pv 2) (fun _ _ _ _ _ => (pg_tup rfl (pgs_cons (pg_name (i := 2) scOrdInit.nd rfl (Or.inl rfl)) (pgs_cons (pg_name (i := 3) scOrdInit.nd rfl (Or.inl rfl)) pgs_nil)))) (fun _ _ _ _ _ => pts_nil) (fun _ _ _ _ _ => (pv 3)) (fun _ _ _ _ _ => (pv 2))) rfl)))), ?_⟩
    refine ⟨_, rfl, ls, rfl, hL, fun H1 e1 => ⟨_, rfl, iteF ?_⟩⟩
    have ha1 := e1 _ _ ha
    refine ⟨_, rfl, _, rfl, a, C, dx, _, rfl, ha1, O.cls, O.nl, by decide, ?_⟩
    refine ⟨_, rfl, _, rfl, fun D hD => ?_⟩
    have hDa : a ≠ D := ne_of_none upd_same hD
    refine dc_it walk_enumW (fun i H' => ∃ kvs, (∀ b o, b ≠ a → H b = some o → H' b = some o) ∧ H' a = some (.ins C dx (putF "letters" (.str (wS ls)) [])) ∧ H' D = some (.dK kvs) ∧ kvs.length ≤ i ∧ ∀ c : Nat, valV kvs (.inr (chS c)) = if c ∈ ls.take i then some (.int (ls.idxOf c : Nat)) else none)
      ⟨[], fun b o nb hb => ?_, by rw [upd_ne hDa, upd_same], upd_same, Nat.le_refl _, fun c => by simp [valV]⟩ (fun _ _ _ _ => trivial) ?_ ?_
    · have h1 := e1 _ _ hb
      rw [upd_ne (ne_of_none (by rw [upd_ne nb]; exact h1) hD), upd_ne nb]
      exact h1
    · rintro i x H2 H' hi ⟨kvs, k2, ha2, hD2, z2, v2⟩ ⟨T1, c, rfl, hT, rfl, hc⟩
      refine ⟨T1, _, rfl, SqT.of upd_same, rfl, _, _, rfl, _, _, rfl, rfl, rfl, _, rfl, _, rfl, kvs, .inr (chS c), rfl, by rw [upd_ne (ne_of_none hD2 hT)]; exact hD2, sz_lt (by have := hL.len; omega), ?_⟩
      refine ⟨_, fun b o nb hb => ?_, ?_, upd_same, ?_, fun d => ?_⟩
      · have h1 := k2 b o nb hb
        have h2 := ne_of_none h1 hT
        have h3 : b ≠ D := ne_of_none (e1 _ _ hb) (upd_nn hD).2
        rw [upd_ne h3, upd_ne h2]
        exact h1
      · rw [upd_ne hDa, upd_ne (ne_of_none ha2 hT)]
        exact ha2
      · have := length_putK kvs (.inr (chS c)) (.int (i : Nat))
        omega
      · rw [valV_put, take_snoc' hc]
        have hci : ls.idxOf c = i := by
          obtain ⟨h1, h2⟩ := List.getElem?_eq_some_iff.mp hc
          rw [← h2]
          exact List.Nodup.idxOf_getElem hL.nd i h1
        by_cases e : d = c
        · subst e
          rw [if_pos rfl, if_pos (by simp), hci]
        · rw [if_neg (fun z => e (chS_inj (Sum.inr.inj z))), v2 d]
          by_cases hm : d ∈ ls.take i
          · rw [if_pos hm, if_pos (by simp [hm])]
          · rw [if_neg hm, if_neg (by simp [hm, e])]
    · rintro H2 ⟨kvs, k2, ha2, hD2, z2, v2⟩
      rw [List.take_length] at v2
      refine ⟨_, rfl, a, C, dx, _, rfl, ha2, O.cls, O.nr, by show (1 : Nat) < 1000; decide, ?_⟩
      refine q _ (fun b o nb hb => by rw [upd_ne nb]; exact k2 b o nb hb) ⟨dx, _, D, kvs, upd_same, ?_, ?_, ?_, by rw [upd_ne hDa.symm]; exact hD2, v2⟩
      · rw [lookup_putF, lookup_putF]; rfl
      · rw [lookup_putF]; rfl
      · rw [lookup_putF, lookup_putF]; rfl
end
end E

set_option maxRecDepth 100000
set_option maxHeartbeats 4000000
namespace E
open PySem PySem.Spec PyProof.Rows L2
open PySem.W in
theorem in_K {prog : Program} {w : World} {A : Around} {E : Value → Shared → Prop} {s : Shared} {K : Frag} {x C f : Addr} {ox : Obj} {od : Option Obj} {v : Value} {Q : Bool → Shared → Prop} (X : K.In s.heap) (I : InstAt s.heap x ox C od)
    (hs : findIn K (.ref C) "__contains__" = some (some (.ref f))) (hf : isFn K (.ref f) = true) (h : wpAny (model prog w) A (call (.ref f) [.ref x, v]) (fun r s' => ∃ b, r = .bool b ∧ Q b s') E s) : wpAny (model prog w) A (contains (.ref x) v) Q E s := by
  unfold contains
  refine wpAny_holding ?_
  show wpAny _ _ (specialOf (.ref x) "__contains__" >>= _) _ _ _
  have sp : ∀ {Q' : Option Value → Shared → Prop}, Q' (some (.ref f)) s → wpAny (model prog w) A (specialOf (.ref x) "__contains__") Q' E s := fun q => by
    unfold specialOf
    refine wpAny_bind (I.type.here ((looks_findIn X hs).here q))
  refine wpAny_bind (sp ?_)
  rw [show ((some (Value.ref f) : Option Value) == some Value.none) = false from rfl]
  rw [if_neg Bool.false_ne_true]
  unfold callSpecialUnlessNone?
  refine wpAny_bind (wpAny_bind (sp ?_))
  refine wpAny_holding (wpAny_bind ((bind_fn X _ (beq_iff_eq.mp hf)).here ?_))
  show wpAny _ _ (if (Value.ref f == Value.none) = true then _ else _) _ _ _
  rw [show (Value.ref f == Value.none) = false from rfl, if_neg Bool.false_ne_true]
  refine wpAny_bind (wpAny_mono h (fun r s' ⟨b, hr, q⟩ => ?_) fun _ _ h' => h')
  subst hr
  exact wpAny_pure (wpAny_truthy_bool q)
section
variable {X : Cx} {C : Addr} {k : Nat} {ps : List Str} {sp : Sp}
/-- x in o, o an instance of a class with its own __contains__ -/
def rInOwn (C : Addr) (sp : Sp) : R2 := fun x y H Q => ∃ a dx fs, y = .ref a ∧ H a = some (.ins C dx fs) ∧ sp [.ref a, x] H (fun z H' => ∃ b, z = .bl b ∧ Q (.bl b) H') E0
theorem op_inOwn (D : DmP X.prog X.w X.K X.mg X.base C "__contains__" k ps sp) (hr : Room k X.A) : OpR X (compareOp .In) (rInOwn C sp) := by
  intro pins s σ H x y v u Q I rx ry h
  obtain ⟨a, dx, fs, rfl, ha, h⟩ := h
  obtain ⟨f, fd, c, hm, F, hb⟩ := D
  obtain rfl : u = Value.ref a := ry
  obtain ⟨mA, J, _⟩ := ins_get I.hok ha
  obtain ⟨od, J, _⟩ := J.look
  show wpAny _ _ (contains (.ref a) v >>= fun b => pure (Value.bool b)) _ _ s
  refine wpAny_bind (in_K I.kIn J hm.at_ hm.fn ?_)
  have hl := F.len _ _ _ _ h
  have r2 : Vals [V.ref a, x] [Value.ref a, v] := .cons rfl (.cons rx .nil)
  refine wpAny_call (codeAny_mono (F.run X.A X.stack s H ⟨[.ref a, v], []⟩ [.ref a, v] [.ref a, x] _ E0 hr I.env0 (by
    have := hb s [.ref a, v] I.kIn (by simpa using hl)
    simpa using this) r2 h) fun r s' hq => ?_)
  cases r with
  | error e => exact pass0 pins σ H s e s' I hq
  | ok fl =>
    cases fl with
    | ret w =>
      obtain ⟨z, H', I', rz, b, ez, q⟩ := I.after hq
      subst ez
      cases rz
      exact ⟨b, rfl, wpAny_pure ⟨.bl b, H', I', rfl, q⟩⟩
    | next => exact False.elim hq
    | brk => exact False.elim hq
    | cont => exact False.elim hq
end
end E

set_option maxRecDepth 100000
set_option maxHeartbeats 4000000
namespace E
open PySem PySem.Spec PyProof.Rows L2
def tgt (l : Ln) : List Key × V := ([.inl l.1, .inr (chS l.2.1)], .int l.2.2)
theorem valV_tgt (L : List Ln) (p : Int) (c : Nat) : valV (L.map tgt) [.inl p, .inr (chS c)] = (EM.goes L p c).map V.int := by
  induction L with
  | nil => rfl
  | cons l L ih =>
    rw [goes_cons, List.map_cons]
    by_cases h : l.1 = p ∧ l.2.1 = c
    · rw [if_pos h]
      exact valV_pos (by show [Sum.inl l.1, Sum.inr (chS l.2.1)] = [Sum.inl p, Sum.inr (chS c)]; rw [h.1, h.2])
    · rw [if_neg h, ← ih]
      refine valV_neg (fun e => h ?_)
      have e2 : ([Sum.inl l.1, Sum.inr (chS l.2.1)] : List Key) = [Sum.inl p, Sum.inr (chS c)] := e
      injection e2 with e3 e4
      injection e4 with e5 _
      exact ⟨Sum.inl.inj e3, chS_inj (Sum.inr.inj e5)⟩
theorem oI_map (o : Option Int) : (o.map V.int).getD .non = oI o := by cases o <;> rfl
section
variable {P : Program} {w : World} {K : PySem.W.Frag} {mg : Str → Option Value} {base : Heap} {f : Addr} {fd : FuncData}
def spOrdIn (C : Addr) : Sp := fun vs H Q _ => ∃ (a : Addr) (ls : List Nat) (c : Nat), vs = [.ref a, .str (chS c)] ∧ OrdAt C H a ls ∧ c ∈ ls ∧ Q (.bl true) H
theorem scOrdIn : FnScope ["self", "thing"] ["self", "thing"] (defScope (inClass (top 44) 2)) := ⟨rfl, rfl, rfl, by decide +kernel, rfl, by decide +kernel, by decide +kernel⟩
theorem ok_ord_in {C : Addr} (T : Frees mg) (O : OrdC K mg C) (F : FnP K "__contains__" "Order.__contains__" (inClass (top 44) 2) f fd) : FnOk P w K mg base CX0 1 f fd ["self", "thing"] (spOrdIn C) := by
  refine F.ok scOrdIn (fun vs H Q E h => ?_) (fun cdv A outer s H vs Q E hr h => ?_)
  · obtain ⟨a, ls, c, rfl, _⟩ := h
    rfl
  · obtain ⟨a, ls, c, rfl, ⟨dx, fs, d, kvs, ha, hl, hrk, hcn, hd, hv⟩, hc, q⟩ := h
    have hu := hr.u1
    refine ⟨_, PSs.nox (pss_one (ps_ret (pe_and (pe_callB call_isi (by rfl) T.isinstance boot_isinstance (pa_cons (pv 1) (pa_cons (pe_bltn (v := .ty "str") (by rfl) T.str boot_str rfl) pa_nil))) (pe_one (pe_cmp (pc_din hu (pv 1) (pe_fld (pv 0) rfl))))))), ?_⟩
    refine ⟨_, rfl, _, _, _, _, true, rfl, .ty "str", .base (.str _), kit_ty (by decide +kernel), _, rfl, ?_⟩
    have hg : DGet H d (.str (chS c)) (some (.int (ls.idxOf c : Nat))) := by
      have h1 := DGet.k (k := .inr (chS c)) hd
      rw [hv c, if_pos hc] at h1
      exact h1
    exact ⟨_, rfl, _, rfl, a, C, dx, fs, .ref d, rfl, ha, O.cls, O.nr, hrk, d, _, rfl, hg, q⟩
theorem d_ord_in {C : Addr} (T : Frees mg) (O : OrdC K mg C) : DmP P w K mg base C "__contains__" 1 ["self", "thing"] (spOrdIn C) := by
  obtain ⟨f, fd, hm, F⟩ := O.con
  exact dm_of O.cls hm F (ok_ord_in T O F) fun _ _ _ _ _ _ us hl => match us, hl with | [_, _], _ => rfl
theorem d_order {C : Addr} (T : Frees mg) (hS : ∃ t, mg "SIGNS" = some (.str "abcdefghijklmnopqrstuvwxyz" t)) (D1 : DfP K mg "are_letters" 43) (O : OrdC K mg C) : DkP P w K mg base C "Order" 2 ["self", "letters"] (spOrdInit C) := by
  obtain ⟨f, fd, hm, F⟩ := O.init
  exact dk_of O.g hm F (ok_ord_init T hS D1 O F) fun _ _ _ _ _ _ us hl => match us, hl with | [_, _], _ => rfl
/-! ### Machine.go -/
def MGo (C : Addr) (H : Hp) (a : Addr) (L : List Ln) : Prop := ∃ (dx : Addr) (fs : List (Str × V)) (td : Addr), H a = some (.ins C dx fs) ∧ fs.lookup ("targets" : Str) = some (.ref td) ∧ fs.lookup ("go" : Str) = none ∧ H td = some (.dT (L.map tgt))
theorem MGo.ex {C : Addr} {H H' : Hp} {a : Addr} {L : List Ln} (h : MGo C H a L) (e : Ex H H') : MGo C H' a L := by
  obtain ⟨dx, fs, td, h1, h2, h3, h4⟩ := h
  exact ⟨dx, fs, td, e _ _ h1, h2, h3, e _ _ h4⟩
def spGo (C : Addr) : Sp := fun vs H Q _ => ∃ (a : Addr) (L : List Ln) (p : Int) (c : Nat), vs = [.ref a, .int p, .str (chS c)] ∧ MGo C H a L ∧ ∀ H', Ex H H' → Q (oI (EM.goes L p c)) H'
theorem scGo : FnScope ["self", "p", "letter"] ["self", "p", "letter"] (defScope (inClass (top 41) 3)) := ⟨rfl, rfl, rfl, by decide +kernel, rfl, by decide +kernel, by decide +kernel⟩
theorem ok_go {C : Addr} (T : Frees mg) (O : MachC K mg C) (F : FnP K "go" "Machine.go" (inClass (top 41) 3) f fd) : FnOk P w K mg base CX0 1 f fd ["self", "p", "letter"] (spGo C) := by
  refine F.ok scGo (fun vs H Q E h => ?_) (fun cdv A outer s H vs Q E hr h => ?_)
  · obtain ⟨a, L, p, c, rfl, _⟩ := h
    rfl
  · obtain ⟨a, L, p, c, rfl, ⟨dx, fs, td, ha, ht, hgo, htd⟩, q⟩ := h
    have hu := hr.u1
    refine ⟨_, PSs.nox (pss_one (ps_ret (pe_dget1 hu (pe_fld (pv 0) rfl) (pe_tup (pa_cons (pv 1) (pa_cons (pv 2) pa_nil))) ⟨rfl, rfl, rfl, rfl⟩))), ?_⟩
    refine ⟨_, rfl, a, C, dx, fs, .ref td, rfl, ha, O.cls, O.nt, ht, td, rfl, .inr ⟨_, .inl htd⟩, _, rfl, _, rfl, len2 _ _, fun t h1 => ?_⟩
    have e := Evl.Ex.new (o := .tup [.int p, .str (chS c)]) h1
    refine ⟨_, DGet.t (k := [.inl p, .inr (chS c)]) (e _ _ htd) upd_same, ?_⟩
    rw [valV_tgt, oI_map]
    exact q _ e
theorem d_go {C : Addr} (T : Frees mg) (O : MachC K mg C) : DmP P w K mg base C "go" 1 ["self", "p", "letter"] (spGo C) := by
  obtain ⟨f, fd, hm, F⟩ := O.go
  exact dm_of O.cls hm F (ok_go T O F) fun _ _ _ _ _ _ us hl => match us, hl with | [_, _, _], _ => rfl
/-! ### is_lane -/
def spIsLane (K : PySem.W.Frag) (C : Addr) : Sp := fun vs H Q _ => ∃ (oa la : Addr) (ls : List Nat) (l : Ln), vs = [.ref oa, .ref la] ∧ OrdAt C H oa ls ∧ SqT K H la [.int l.1, .str (chS l.2.1), .int l.2.2] ∧ l.2.1 ∈ ls ∧ 0 ≤ l.1 ∧ 0 ≤ l.2.2 ∧ ∀ H', Ex H H' → Q (.bl true) H'
theorem OrdAt.ex {C : Addr} {H H' : Hp} {a : Addr} {ls : List Nat} (h : OrdAt C H a ls) (e : Ex H H') : OrdAt C H' a ls := by
  obtain ⟨dx, fs, d, kvs, h1, h2, h3, h4, h5, h6⟩ := h
  exact ⟨dx, fs, d, kvs, e _ _ h1, h2, h3, h4, e _ _ h5, h6⟩
theorem scIsLane : FnScope ["order", "thing"] ["order", "thing"] (defScope (top 36)) := ⟨rfl, rfl, rfl, by decide +kernel, rfl, by decide +kernel, by decide +kernel⟩
theorem ok_is_lane {C : Addr} (T : Frees mg) (D1 : DfP K mg "is_number" 3) (D2 : DfP K mg "is_list" 4) (O : OrdC K mg C) (F : FnP K "is_lane" "is_lane" (top 36) f fd) : FnOk P w K mg base CX0 2 f fd ["order", "thing"] (spIsLane K C) := by
  refine F.ok scIsLane (fun vs H Q E h => ?_) (fun cdv A outer s H vs Q E hr h => ?_)
  · obtain ⟨oa, la, ls, l, rfl, _⟩ := h
    rfl
  · obtain ⟨oa, la, ls, l, rfl, ho, hT, hc, h0, h1, q⟩ := h
    have Dn : Df P w K mg base "is_number" 1 _ _ := d_is_number T D1
    have Dl : Df P w K mg base "is_list" 1 _ _ := d_is_list T D2
    have Dc : DmP P w K mg base C "__contains__" 1 _ _ := d_ord_in T O
    refine ⟨_, PSs.nox (pss_one (ps_ret (pe_and (pe_df Dl (hr.mono (by decide)) rfl (pa_cons (pv 1) pa_nil)) (pe_and (pe_cmpR op_eq (pe_callB call_len (by rfl) T.len PySem.boot_len (pa_cons (pv 1) pa_nil)) pe_int (nomark _)) (pe_and (pe_df Dn (hr.mono (by decide)) rfl (pa_cons (pe_ix ix_tup (pv 1) pe_int (fun _ _ => rfl)) pa_nil)) (pe_and (pe_cmpR (op_inOwn Dc hr) (pe_ix ix_tup (pv 1) pe_int (fun _ _ => rfl)) (pv 0) (by rfl)) (pe_one (pe_df Dn (hr.mono (by decide)) rfl (pa_cons (pe_ix ix_tup (pv 1) pe_int (fun _ _ => rfl)) pa_nil))))))))), ?_⟩
    refine ⟨_, rfl, la, _, rfl, .inr hT, fun H1 e1 => ?_⟩
    have hT1 := Evl.ex_t e1 hT
    refine ⟨_, rfl, _, rfl, _, _, rfl, .inr ⟨_, hT1, rfl⟩, rfl, ?_⟩
    have ho1 := ho.ex e1
    obtain ⟨dx, fs, dd, kvs, ha1, _⟩ := id ho1
    refine ⟨true, rfl, ?_⟩
    refine ⟨_, rfl, la, _, _, _, rfl, rfl, hT1, rfl, l.1, rfl, h0, _, rfl, ?_⟩
    refine ⟨_, rfl, la, _, _, _, rfl, rfl, hT1, rfl, _, rfl, oa, dx, fs, rfl, ha1, oa, ls, l.2.1, rfl, ho1, hc, true, rfl, _, rfl, ?_⟩
    exact ⟨_, rfl, la, _, _, _, rfl, rfl, hT1, rfl, l.2.2, rfl, h1, q _ e1⟩
theorem d_is_lane {C : Addr} (T : Frees mg) (D1 : DfP K mg "is_number" 3) (D2 : DfP K mg "is_list" 4) (O : OrdC K mg C) (h : DfP K mg "is_lane" 36) : Df P w K mg base "is_lane" 2 ["order", "thing"] (spIsLane K C) :=
  h.df (fun _ _ F => ok_is_lane T D1 D2 O F) fun _ _ _ _ _ _ us hl => match us, hl with | [_, _], _ => rfl
/-! ### frozen_lanes -/
def spFroL (K : PySem.W.Frag) (C : Addr) : Sp := fun vs H Q _ => ∃ (oa : Addr) (v : V) (ls : List Nat) (L : List Ln), vs = [.ref oa, v] ∧ OrdAt C H oa ls ∧ Dp K H v (lnsD L) ∧ (∀ l ∈ L, l.2.1 ∈ ls ∧ 0 ≤ l.1 ∧ 0 ≤ l.2.2) ∧ EM.DetP L ∧ L.length ≤ 1000 ∧
  ∀ (d : Addr) (H' : Hp), H d = none → Ex H H' → H' d = some (.dT (L.map tgt)) → Q (.ref d) H'
theorem scFroL : FnScope ["order", "lanes", "found", "index", "lane", "p", "letter", "q"] ["order", "lanes"] (defScope (top 39)) := ⟨rfl, rfl, rfl, by decide +kernel, rfl, by decide +kernel, by decide +kernel⟩
theorem ok_frozen_lanes {C : Addr} (T : Frees mg) (D1 : DfP K mg "is_number" 3) (D2 : DfP K mg "is_list" 4) (D3 : DfP K mg "is_lane" 36) (O : OrdC K mg C) (F : FnP K "frozen_lanes" "frozen_lanes" (top 39) f fd) : FnOk P w K mg base CX0 3 f fd ["order", "lanes"] (spFroL K C) := by
  refine F.ok scFroL (fun vs H Q E h => ?_) (fun cdv A outer s H vs Q E hr h => ?_)
  · obtain ⟨oa, v, ls, L, rfl, _⟩ := h
    rfl
  · obtain ⟨oa, v, ls, L, rfl, ho, hv, hl, hdet, zL, q⟩ := h
    obtain ⟨a, xs, rfl, hS, hA⟩ := dp_lst hv
    have hu := hr.u1
    have hxl : xs.length = L.length := by rw [dps_len hA, List.length_map]
    have Dl : Df P w K mg base "is_lane" 2 _ _ := d_is_lane T D1 D2 O D3
    refine ⟨_, PSs.nox (pss_cons (ps_for PassesOwn.never rfl (pi_enum rfl T.enumerate (pa_cons (pv 1) pa_nil)) (pg_tup rfl (pgs_cons (pg_name (i := 3) scFroL.nd rfl (Or.inl rfl)) (pgs_cons (pg_name (i := 4) scFroL.nd rfl (Or.inl rfl)) pgs_nil)))
        (pss_one (ps_if (pt_not (pt_val (pe_df Dl (hr.mono (by decide)) rfl (pa_cons (pv 0) (pa_cons (pv 4) pa_nil))))) (pss_one ps_never) pss_nil)))
      (pss_cons (ps_set (i := 2) scFroL.nd rfl (Or.inl rfl) pe_dnewT)
      (pss_cons (ps_for PassesOwn.never rfl (pi_list (pv 1)) (pg_tup rfl (pgs_cons (pg_name (i := 5) scFroL.nd rfl (Or.inl rfl)) (pgs_cons (pg_name (i := 6) scFroL.nd rfl (Or.inl rfl)) (pgs_cons (pg_name (i := 7) scFroL.nd rfl (Or.inl rfl)) pgs_nil))))
        (pss_cons (ps_if (pt_cmp (pc_din hu (pe_tup (pa_cons (pv 5) (pa_cons (pv 6) pa_nil))) (pv 2))) (pss_one ps_never) pss_nil)
      (pss_one (ps_dput hu (pv 2) (pe_tup (pa_cons (pv 5) (pa_cons (pv 6) pa_nil))) (pv 7) rfl))))
      (pss_one (ps_ret (pv 2)))))), ?_⟩
    refine ⟨_, rfl, a, _, rfl, hS, for_it (walk_enum (K := K) (a := a) (xs := xs)) (fun i σ H' => ∃ o3 o4, σ = [some (.ref oa), some (.ref a), none, o3, o4, none, none, none] ∧ Ex H H') ⟨_, _, rfl, Evl.Ex.refl _⟩ (fun i σ H' _ ⟨_, _, _, e⟩ => Evl.ex_l e hS) ?_ ?_⟩
    · rintro i x σ H1 H2 hi ⟨o3, o4, rfl, e1⟩ ⟨T1, y, z, rfl, hT1, rfl, hy, hz⟩
      obtain rfl := Option.some.inj hy
      obtain ⟨l, b, hL, rfl, hT⟩ := dps_ln hA hz
      obtain ⟨h1, h2, h3⟩ := hl l (List.mem_of_getElem? hL)
      have e2 := ex_new (o := .tup [.int (i : Nat), .ref b]) e1 hT1
      refine ⟨T1, _, rfl, SqT.of upd_same, rfl, _, _, rfl, _, _, rfl, rfl, ?_⟩
      exact ⟨_, rfl, _, rfl, oa, b, ls, l, rfl, ho.ex e2, Evl.ex_t e2 hT, h1, h2, h3, fun H3 e3 => ⟨_, rfl, iteF ⟨_, _, rfl, e2.trans e3⟩⟩⟩
    · rintro σ H1 ⟨o3, o4, rfl, e1⟩
      refine fun d hd => ?_
      have hd0 := ex_none e1 hd
      have e2 := ex_new (o := .dT []) e1 hd
      refine ⟨_, rfl, a, rfl, ⟨_, Evl.ex_l e2 hS⟩, for_list (K := K) (xs := xs) (fun i σ H' => ∃ o5 o6 o7, σ = [some (.ref oa), some (.ref a), some (.ref d), o3, o4, o5, o6, o7] ∧ Ex H H' ∧ H' d = some (.dT ((L.take i).map tgt))) ⟨_, _, _, rfl, e2, upd_same⟩ (fun i σ H' _ ⟨_, _, _, _, e, _⟩ => Evl.ex_l e hS) ?_ ?_⟩
      · rintro i x σ H3 hi ⟨o5, o6, o7, rfl, e3, hd3⟩
        obtain ⟨l, b, hL, rfl, hT⟩ := dps_ln hA hi
        refine ⟨b, _, rfl, Evl.ex_t e3 hT, rfl, _, _, rfl, _, _, rfl, _, _, rfl, rfl, ?_⟩
        refine ⟨_, rfl, _, rfl, len2 _ _, fun t1 h1 => ?_⟩
        have en1 := Evl.Ex.new (o := .tup [.int l.1, .str (chS l.2.1)]) h1
        have hno : valV ((L.take i).map tgt) [.inl l.1, .inr (chS l.2.1)] = none := by
          rw [valV_tgt]
          rw [EM.goes_none fun q hq => ?_]
          · rfl
          · have hp := List.pairwise_iff_getElem.mp hdet
            obtain ⟨j, hj⟩ := List.mem_iff_getElem?.mp hq
            obtain ⟨hj1, _⟩ := List.getElem?_eq_some_iff.mp hj
            rw [List.length_take] at hj1
            rw [List.getElem?_take_of_lt (by omega)] at hj
            obtain ⟨g1, g2⟩ := List.getElem?_eq_some_iff.mp hj
            obtain ⟨g3, g4⟩ := List.getElem?_eq_some_iff.mp hL
            have := hp j i g1 g3 (by omega)
            rw [g2, g4] at this
            exact this ⟨rfl, rfl⟩
        refine ⟨_, rfl, d, _, rfl, DGet.t (k := [.inl l.1, .inr (chS l.2.1)]) (en1 _ _ hd3) upd_same, ?_⟩
        rw [hno]
        refine ⟨_, rfl, iteF ?_⟩
        refine ⟨_, rfl, _, rfl, _, rfl, _, rfl, len2 _ _, fun t2 h2 => ?_⟩
        have en2 := en1.trans (Evl.Ex.new (o := .tup [.int l.1, .str (chS l.2.1)]) h2)
        refine ⟨d, _, rfl, DPut.t (k := [.inl l.1, .inr (chS l.2.1)]) (en2 _ _ hd3) upd_same (sz_lt (by rw [List.length_map, List.length_take]; omega)), ?_⟩
        refine ⟨_, _, _, rfl, ex_upd (e3.trans en2) hd0, ?_⟩
        rw [upd_same, putK_new _ hno, take_snoc' hL, List.map_append]
        rfl
      · rintro σ H3 ⟨o5, o6, o7, rfl, e3, hd3⟩
        rw [hxl, List.take_length] at hd3
        exact ⟨_, rfl, q d H3 hd0 e3 hd3⟩
theorem d_frozen_lanes {C : Addr} (T : Frees mg) (D1 : DfP K mg "is_number" 3) (D2 : DfP K mg "is_list" 4) (D3 : DfP K mg "is_lane" 36) (O : OrdC K mg C) (h : DfP K mg "frozen_lanes" 39) : Df P w K mg base "frozen_lanes" 3 ["order", "lanes"] (spFroL K C) :=
  h.df (fun _ _ F => ok_frozen_lanes T D1 D2 D3 O F) fun _ _ _ _ _ _ us hl => match us, hl with | [_, _], _ => rfl
/-! ### frozen_ends -/
def spFroE (K : PySem.W.Frag) : Sp := fun vs H Q _ => ∃ (v : V) (Es : List Int) (S : List Int), vs = [v] ∧ Dp K H v (intsD Es) ∧ (∀ e ∈ Es, 0 ≤ e ∧ e ∈ S) ∧ S.length < 64 ∧ Es.length ≤ 1000 ∧
  ∀ (t : Addr) (es : List Int) (H' : Hp), H t = none → Ex H H' → es.Pairwise (· < ·) → (∀ x, x ∈ es ↔ x ∈ Es) → TupD H' t (es.map V.int) → Q (.ref t) H'
theorem scFroE : FnScope ["ends", "index", "end"] ["ends"] (defScope (top 40)) := ⟨rfl, rfl, rfl, by decide +kernel, rfl, by decide +kernel, by decide +kernel⟩
theorem ok_frozen_ends (T : Frees mg) (D1 : DfP K mg "is_number" 3) (F : FnP K "frozen_ends" "frozen_ends" (top 40) f fd) : FnOk P w K mg base CX0 2 f fd ["ends"] (spFroE K) := by
  refine F.ok scFroE (fun vs H Q E h => ?_) (fun cdv A outer s H vs Q E hr h => ?_)
  · obtain ⟨v, Es, S, rfl, _⟩ := h
    rfl
  · obtain ⟨v, Es, S, rfl, hv, hE, zS, zE, q⟩ := h
    obtain ⟨a, xs, rfl, hS, hA⟩ := dp_lst hv
    obtain rfl := dps_ints hA
    have Dn : Df P w K mg base "is_number" 1 _ _ := d_is_number T D1
    refine ⟨_, PSs.nox (pss_cons (ps_for PassesOwn.never rfl (pi_enum rfl T.enumerate (pa_cons (pv 0) pa_nil)) (pg_tup rfl (pgs_cons (pg_name (i := 1) scFroE.nd rfl (Or.inl rfl)) (pgs_cons (pg_name (i := 2) scFroE.nd rfl (Or.inl rfl)) pgs_nil)))
        (pss_one (ps_if (pt_not (pt_val (pe_df Dn (hr.mono (by decide)) rfl (pa_cons (pv 2) pa_nil)))) (pss_one ps_never) pss_nil)))
      (pss_one (ps_ret (pe_callTy call_tupleF (by rfl) T.tuple boot_tuple (pa_cons (pe_callB (cr_sortedSet rfl) (by rfl) T.sorted boot_sorted (pa_cons (pe_callTy (cr_setI rfl) (by rfl) T.set boot_set (pa_cons (pv 0) pa_nil)) pa_nil)) pa_nil))))), ?_⟩
    refine ⟨_, rfl, a, _, rfl, hS, for_it (walk_enum (K := K) (a := a) (xs := Es.map V.int)) (fun i σ H' => ∃ o1 o2, σ = [some (.ref a), o1, o2] ∧ Ex H H') ⟨_, _, rfl, Evl.Ex.refl _⟩ (fun i σ H' _ ⟨_, _, _, e⟩ => Evl.ex_l e hS) ?_ ?_⟩
    · rintro i x σ H1 H2 hi ⟨o1, o2, rfl, e1⟩ ⟨T1, y, z, rfl, hT1, rfl, hy, hz⟩
      obtain rfl := Option.some.inj hy
      have hz : (Es.map V.int)[i]? = some z := hz
      rw [List.getElem?_map] at hz
      cases he : Es[i]? with
      | none => rw [he] at hz; cases hz
      | some e =>
        rw [he] at hz
        obtain rfl := Option.some.inj hz
        have e2 := ex_new (o := .tup [.int (i : Nat), .int e]) e1 hT1
        refine ⟨T1, _, rfl, SqT.of upd_same, rfl, _, _, rfl, _, _, rfl, rfl, ?_⟩
        exact ⟨_, rfl, e, rfl, (hE e (List.mem_of_getElem? he)).1, _, rfl, iteF ⟨_, _, rfl, e2⟩⟩
    · rintro σ H1 ⟨o1, o2, rfl, e1⟩
      refine ⟨_, rfl, a, Es, rfl, Evl.ex_l e1 hS, by omega, fun p l hp hnd hl => ?_⟩
      have hl64 : l.length < 64 := Nat.lt_of_le_of_lt (EM.nodup_le hnd fun x hx => (hE x ((hl x).mp hx)).2) zS
      refine ⟨p, _, _, rfl, upd_same, hl64, fun ns p2 hpw hmem hlen hp2 => ?_⟩
      refine ⟨p2, _, rfl, SqL.of upd_same, fun t o ht ho => ?_⟩
      have e2 := ex_new (o := SetO w p (fun j => decide (j ∈ Es)) l.length) e1 hp
      have e3 := ex_new (o := .lst (ns.map V.int)) e2 hp2
      refine q t ns _ (ex_none e3 ht) (ex_new e3 ht) hpw (fun x => by rw [hmem x]; simp) ⟨o, upd_same, ho⟩
theorem d_frozen_ends (T : Frees mg) (D1 : DfP K mg "is_number" 3) (h : DfP K mg "frozen_ends" 40) : Df P w K mg base "frozen_ends" 2 ["ends"] (spFroE K) :=
  h.df (fun _ _ F => ok_frozen_ends T D1 F) fun _ _ _ _ _ _ us hl => match us, hl with | [_], _ => rfl
end
end E

set_option maxRecDepth 100000
set_option maxHeartbeats 4000000
namespace EM
/-- the last of the first k lanes that lead to q, or -1 -/
def lastI (L : List Ln) : Nat → Int → Int
  | 0, _ => -1
  | k + 1, q => match L[k]? with
    | some l => if l.2.2 = q then (k : Int) else lastI L k q
    | none => lastI L k q
theorem lastI_succ {L : List Ln} {k : Nat} {l : Ln} (h : L[k]? = some l) (q : Int) : lastI L (k + 1) q = if l.2.2 = q then (k : Int) else lastI L k q := by
  conv => lhs; unfold lastI
  rw [h]
theorem lastI_ge (L : List Ln) : ∀ (k : Nat) (q : Int), -1 ≤ lastI L k q ∧ lastI L k q < (k : Int)
  | 0, q => ⟨by show (-1 : Int) ≤ -1; omega, by show (-1 : Int) < 0; omega⟩
  | k + 1, q => by
    have ih := lastI_ge L k q
    unfold lastI
    split
    · split
      · omega
      · omega
    · omega
theorem lastI_at (L : List Ln) : ∀ (k : Nat) (q : Int) (i : Nat), lastI L k q = (i : Int) → ∃ l, L[i]? = some l ∧ l.2.2 = q
  | 0, q, i, h => by
    have h2 : (-1 : Int) = (i : Int) := h
    omega
  | k + 1, q, i, h => by
    unfold lastI at h
    split at h
    · rename_i l hl
      split at h
      · rename_i hq
        have : k = i := by omega
        subst this
        exact ⟨l, hl, hq⟩
      · exact lastI_at L k q i h
    · exact lastI_at L k q i h
theorem lastI_no (L : List Ln) : ∀ (k : Nat) (q : Int) (j : Nat) (l : Ln), lastI L k q < (j : Int) → j < k → L[j]? = some l → l.2.2 ≠ q
  | 0, q, j, l, _, h, _ => by omega
  | k + 1, q, j, l, h, hj, hl => by
    unfold lastI at h
    by_cases e : j = k
    · subst e
      rw [hl] at h
      dsimp only at h
      split at h
      · omega
      · assumption
    · have hj' : j < k := by omega
      split at h
      · split at h
        · omega
        · exact lastI_no L k q j l h hj' hl
      · exact lastI_no L k q j l h hj' hl
/-- places of S not yet in us -/
def rest (S us : List Int) : List Int := S.filter fun p => !decide (p ∈ us)
theorem rest_lt {S us : List Int} {p : Int} (hp : p ∈ S) (hn : p ∉ us) : (rest S (us ++ [p])).length < (rest S us).length :=
  filter_length_lt _ _ S p hp (by simp) (by simp [hn]) fun x _ hx => by
    simp only [Bool.not_eq_true', decide_eq_false_iff_not] at hx ⊢
    exact fun z => hx (by simp [z])
end EM
namespace E
open PySem PySem.Spec PyProof.Rows L2
section
variable {P : Program} {w : World} {K : PySem.W.Frag} {mg : Str → Option Value} {base : Heap} {f : Addr} {fd : FuncData}
def usK (us : List Int) : List (Key × V) := us.map fun p => (.inl p, .bl true)
theorem usK_app (us : List Int) (p : Int) : usK (us ++ [p]) = usK us ++ [(.inl p, .bl true)] := by unfold usK; rw [List.map_append]; rfl
theorem valV_usK (us : List Int) (p : Int) : valV (usK us) (.inl p) = if p ∈ us then some (.bl true) else none := by
  induction us with
  | nil => rfl
  | cons a us ih =>
    show valV ((.inl a, .bl true) :: usK us) (.inl p) = _
    by_cases h : a = p
    · rw [valV_pos (by show (Sum.inl a : Key) = .inl p; rw [h]), if_pos (by simp [h])]
    · rw [valV_neg (fun e => h (Sum.inl.inj e)), ih]
      by_cases h2 : p ∈ us
      · rw [if_pos h2, if_pos (by simp [h2])]
      · rw [if_neg h2, if_neg (by simp [h2]; exact fun z => h z.symm)]
theorem putK_usK {us : List Int} {p : Int} (h : p ∉ us) : putK (usK us) (.inl p) (.bl true) = usK (us ++ [p]) := by
  rw [putK_new _ (by rw [valV_usK, if_neg h]), usK_app]
def elV (L : List Ln) (i : Nat) : List Int := (List.range i).map fun j => EM.lastI L j ((L[j]?.map (·.2.2)).getD 0)
theorem elV_succ (L : List Ln) (i : Nat) : elV L (i + 1) = elV L i ++ [EM.lastI L i ((L[i]?.map (·.2.2)).getD 0)] := by
  unfold elV
  rw [List.range_succ, List.map_append]
  rfl
theorem elV_len (L : List Ln) (i : Nat) : (elV L i).length = i := by simp [elV]
def prB (e : Int) : PyData := .tuple [.int e, .bool true]
theorem pairs_usK {H : Hp} : ∀ {acc : List V} {es : List Int}, DpAll K H acc (es.map prB) → ∃ ps : List Addr, acc = ps.map V.ref ∧ Paired (fun p kv => SqT K H p [kV kv.1, kv.2]) ps (usK es)
  | _, [], .nil => ⟨[], rfl, .nil⟩
  | _, e :: es, .cons h t => by
    obtain ⟨ps, h1, h2⟩ := pairs_usK t
    obtain ⟨a, xs, rfl, h3, h4⟩ := dp_tup h
    cases h4 with
    | cons p t2 =>
      cases t2 with
      | cons p2 t3 =>
        cases t3
        rw [dp_int p] at h3
        cases p2
        exact ⟨a :: ps, by rw [h1]; rfl, .cons h3 h2⟩
theorem merge_usK : ∀ (b a : List Int), (a ++ b).Nodup → mergeK (usK a) (usK b) = usK (a ++ b)
  | [], a, _ => by rw [List.append_nil]; rfl
  | p :: b, a, h => by
    have hp : p ∉ a := fun hm => by
      have := (List.nodup_append.mp h).2.2 p hm p List.mem_cons_self
      exact this rfl
    show mergeK (putK (usK a) (.inl p) (.bl true)) (usK b) = _
    rw [putK_usK hp, merge_usK b (a ++ [p]) (by rw [List.append_assoc]; exact h), List.append_assoc]
    rfl
def Co1 (H : Hp) (ta te d el : Addr) (L : List Ln) (i : Nat) (σ : L2.St) (H' : Hp) : Prop := ∃ (kvs : List (Key × V)) (o6 o7 : Option V), σ = [some (.ref ta), some (.ref te), some (.ref d), some (.ref el), none, none, o6, o7, none, none] ∧ Ex H H' ∧ H' d = some (.dK kvs) ∧ kvs.length ≤ i ∧
  (∀ q : Int, valV kvs (.inl q) = if 0 ≤ EM.lastI L i q then some (.int (EM.lastI L i q)) else none) ∧ H' el = some (.lst ((elV L i).map V.int))
/-- the state of the search: u, w the dict and the list of those to look at -/
def CoW (H : Hp) (ta te d el u w : Addr) (kvs : List (Key × V)) (L : List Ln) (es S : List Int) (a : Option V) (us wt : List Int) (σ : L2.St) (H' : Hp) : Prop := ∃ (o7 o9 : Option V), σ = [some (.ref ta), some (.ref te), some (.ref d), some (.ref el), some (.ref u), some (.ref w), a, o7, none, o9] ∧ Ex H H' ∧ H' d = some (.dK kvs) ∧ H' el = some (.lst ((elV L L.length).map V.int)) ∧ H' u = some (.dK (usK us)) ∧ H' w = some (.lst (wt.map V.int)) ∧
  (∀ e ∈ es, e ∈ us) ∧ us.length + (EM.rest S us).length ≤ S.length + es.length
def spCome (K : PySem.W.Frag) : Sp := fun vs H Q _ => ∃ (ta te : Addr) (tx : List V) (L : List Ln) (es S : List Int), vs = [.ref ta, .ref te] ∧ SqT K H ta tx ∧ DpAll K H tx (L.map lnD) ∧ SqT K H te (es.map V.int) ∧ es.Nodup ∧ (∀ l ∈ L, l.1 ∈ S) ∧ L.length ≤ 1000 ∧ S.length ≤ 2000 ∧ es.length ≤ 1000 ∧
  ∀ (d : Addr) (us : List Int) (H' : Hp), Ex H H' → (∀ e ∈ es, e ∈ us) → (∀ l ∈ L, l.2.2 ∈ us → l.1 ∈ us) → H' d = some (.dK (usK us)) → Q (.ref d) H'
theorem scCome : FnScope ["lanes", "ends", "newest", "elder", "useful", "waiting", "at", "lane", "end", "p"] ["lanes", "ends"] (defScope (top 26)) := ⟨rfl, rfl, rfl, by decide +kernel, rfl, by decide +kernel, by decide +kernel⟩
theorem ok_come_to (T : Frees mg) (F : FnP K "come_to" "come_to" (top 26) f fd) : FnOk P w K mg base CX0 1 f fd ["lanes", "ends"] (spCome K) := by
  refine F.ok scCome (fun vs H Q E h => ?_) (fun cdv A outer s H vs Q E hr h => ?_)
  · obtain ⟨ta, te, tx, L, es, S, rfl, _⟩ := h
    rfl
  · obtain ⟨ta, te, tx, L, es, S, rfl, hta, hA, hte, hnd, hS, zL, zS, zE, q⟩ := h
    have hu := hr.u1
    have hu64 := hr.units
    have hxl : tx.length = L.length := by rw [dps_len hA, List.length_map]
    refine ⟨_, PSs.nox (pss_cons (ps_set (i := 2) scCome.nd rfl (Or.inl rfl) pe_dnewK)
      (pss_cons (ps_set (i := 3) scCome.nd rfl (Or.inl rfl) (pe_lst pa_nil))
      (pss_cons (ps_for PassesOwn.never rfl (pi_enumT rfl T.enumerate (pa_cons (pv 0) pa_nil)) (pg_tup rfl (pgs_cons (pg_name (i := 6) scCome.nd rfl (Or.inl rfl)) (pgs_cons (pg_name (i := 7) scCome.nd rfl (Or.inl rfl)) pgs_nil)))
        (pss_cons (ps_expr (pe_bm PySem.F.plainAttrs_list PySem.F.slot_list_append PySem.F.type_list_append mt_append (pv 3) (pa_cons (pe_dget2 hu (pv 2) (pe_ix ix_tup (pv 7) pe_int (fun _ _ => rfl)) (pe_un un_neg pe_int) ⟨rfl, rfl, rfl, rfl⟩) pa_nil)))
      (pss_one (ps_dput hu (pv 2) (pe_ix ix_tup (pv 7) pe_int (fun _ _ => rfl)) (pv 6) rfl))))
      (pss_cons (ps_set (i := 4) scCome.nd rfl (Or.inl rfl) (pe_callTy (call_dictP rfl) (by rfl) T.dict (by decide +kernel) (pa_cons (pe_lcD (own := [("end", 8)]) s H rfl scCome.nd (pi_tup (pv 1)) (blkOk_by (own := [("end", 8)]) (N := ["lanes", "ends", "newest", "elder", "useful", "waiting", "at", "lane", "end", "p"]) (sc := (defScope (top 26))) (by decide +kernel)) (pg_name (i := 8) scCome.nd rfl (Or.inl rfl)) pts_nil (pe_tup (pa_cons (pv 8) (pa_cons pe_bl pa_nil))) (fun _ _ _ _ _ => (pg_name (i := 8) scCome.nd rfl (Or.inl rfl))) (fun _ _ _ _ _ => pts_nil) (fun _ _ _ _ _ => (pe_tup (pa_cons (pv 8) (pa_cons pe_bl pa_nil))))) pa_nil)))
      (pss_cons (ps_lock (ps_setLcD (i := 5) (own := [("end", 8)]) s H rfl scCome.nd rfl rfl (sw_true rfl rfl rfl (by decide +kernel)) (pi_keys (pv 4)) (blkOk_by (own := [("end", 8)]) (N := ["lanes", "ends", "newest", "elder", "useful", "waiting", "at", "lane", "end", "p"]) (sc := (defScope (top 26))) (by decide +kernel)) (pg_name (i := 8) scCome.nd rfl (Or.inl rfl)) pts_nil (pv 8) (fun _ _ _ _ _ => (pg_name (i := 8) scCome.nd rfl (Or.inl rfl))) (fun _ _ _ _ _ => pts_nil) (fun _ _ _ _ _ => (pv 8))))
      (pss_cons (ps_while PassesOwn.never (pt_cmpR (op_neD hu64) (pv 5) (pe_lst pa_nil) (nomark _))
        (pss_cons (ps_set (i := 6) scCome.nd rfl (Or.inl rfl) (pe_dget2 hu (pv 2) (pe_bm0 PySem.F.plainAttrs_list PySem.F.slot_list_pop PySem.F.type_list_pop mt_pop (pv 5)) (pe_un un_neg pe_int) ⟨rfl, rfl, rfl, rfl⟩))
      (pss_one (ps_while PassesOwn.never (pt_cmpR op_ge (pv 6) pe_int (nomark _))
        (pss_cons (ps_set (i := 9) scCome.nd rfl (Or.inl rfl) (pe_ix ix_tup (pe_ix ix_tup (pv 0) (pv 6) (fun _ _ => rfl)) pe_int (fun _ _ => rfl)))
      (pss_cons (ps_if (pt_cmp (pc_dnotin hu (pv 9) (pv 4))) (pss_cons (ps_dput hu (pv 4) (pv 9) pe_bl rfl)
      (pss_one (ps_expr (pe_bm PySem.F.plainAttrs_list PySem.F.slot_list_append PySem.F.type_list_append mt_append (pv 5) (pa_cons (pv 9) pa_nil))))) pss_nil)
      (pss_one (ps_set (i := 6) scCome.nd rfl (Or.inl rfl) (pe_ix ix_list (pv 3) (pv 6) (fun _ _ => rfl))))))))))
      (pss_one (ps_ret (pv 4))))))))), ?_⟩
    refine fun d hd => ⟨Nat.zero_le _, fun el hel => ?_⟩
    obtain ⟨held, hel0⟩ := upd_nn hel
    have e0 := ex_new (o := .lst []) (Evl.Ex.new (o := .dK []) hd) hel
    have hta0 := Evl.ex_t e0 hta
    refine ⟨_, rfl, ta, tx, rfl, hta0, for_it (walk_enumT (K := K) (a := ta) (xs := tx)) (Co1 H ta te d el L) ⟨[], none, none, rfl, e0, by rw [upd_ne held.symm, upd_same], Nat.le_refl _, (fun q => by rw [if_neg (by show ¬ (0 : Int) ≤ -1; omega)]; rfl), upd_same⟩ (fun i σ H' _ ⟨_, _, _, _, e, _⟩ => Evl.ex_t e hta) ?_ ?_⟩
    · rintro i x σ H1 H2 hi ⟨kvs, o6, o7, rfl, e1, hd1, zk, vk, hel1⟩ ⟨T1, y, z, rfl, hT1, rfl, hy, hz⟩
      obtain rfl := Option.some.inj hy
      have hz : tx[i]? = some z := hz
      obtain ⟨l, b, hL, rfl, hT⟩ := dps_ln hA hz
      have en := Evl.Ex.new (o := .tup [.int (i : Nat), .ref b]) hT1
      have e2 := e1.trans en
      have hd2 := en _ _ hd1
      have hel2 := en _ _ hel1
      have hT2 := Evl.ex_t e2 hT
      have hg : DGet (upd H1 T1 (.tup [.int (i : Nat), .ref b])) d (.int l.2.2) (valV kvs (.inl l.2.2)) := DGet.k (k := .inl l.2.2) hd2
      refine ⟨T1, _, rfl, SqT.of upd_same, rfl, _, _, rfl, _, _, rfl, rfl, ?_⟩
      refine ⟨_, rfl, .inl ⟨rfl, _, SqL.of hel2⟩, _, rfl, d, rfl, .inl ⟨_, .inl hd2⟩, _, rfl, b, _, _, _, rfl, rfl, hT2, rfl, 1, rfl, _, hg, el, _, _, rfl, rfl, hel2, sz_lt (by rw [List.length_map, elV_len]; omega), ?_⟩
      have hlast : (valV kvs (.inl l.2.2)).getD (V.int (-1)) = V.int (EM.lastI L i l.2.2) := by
        rw [vk]
        have := EM.lastI_ge L i l.2.2
        by_cases h : 0 ≤ EM.lastI L i l.2.2
        · rw [if_pos h]; rfl
        · rw [if_neg h]
          show V.int (-1) = _
          rw [show EM.lastI L i l.2.2 = -1 by omega]
      refine ⟨_, rfl, _, rfl, _, rfl, b, _, _, _, rfl, rfl, Evl.ex_t (ex_upd e2 hel0) hT, rfl, d, _, rfl, DPut.k (k := .inl l.2.2) (by rw [upd_ne held.symm]; exact hd2) (sz_lt (by omega)), ?_⟩
      refine ⟨_, _, _, rfl, ex_upd (ex_upd e2 hel0) hd, upd_same, ?_, fun q => ?_, ?_⟩
      · have := length_putK kvs (.inl l.2.2) (.int (i : Nat))
        omega
      · rw [valV_put]
        rw [EM.lastI_succ hL]
        by_cases h : l.2.2 = q
        · rw [if_pos h, if_pos (by rw [h]), if_pos (by omega)]
        · rw [if_neg h, if_neg (fun z => h (Sum.inl.inj z).symm)]
          exact vk q
      · rw [upd_ne held, upd_same, elV_succ, List.map_append, hL, hlast]
        rfl
    · rintro σ H1 ⟨kvs, o6, o7, rfl, e1, hd1, zk, vk, hel1⟩
      rw [hxl] at vk hel1
      refine ⟨_, rfl, te, rfl, ⟨_, Evl.ex_t e1 hte⟩, fun D hD => ?_⟩
      refine lc_data (K := K) (walk_tup (xs := es.map V.int)) es (fun e => [prB e]) (by rw [List.length_map]) (by rw [List.length_map]; omega) hD (fun H2 e => Evl.ex_t (e1.trans e) hte) ?_ ?_
      · rintro i e x H2 H' Nx hi e2 ⟨accv, hacc⟩ ⟨rfl, hx⟩ put skip
        rw [List.getElem?_map, hi] at hx
        obtain rfl := Option.some.inj hx
        refine ⟨rfl, _, rfl, len2 _ _, fun t ht => ?_⟩
        have htD : t ≠ D := (ne_of_none hacc ht).symm
        exact put _ _ _ (Evl.Ex.new ht) rfl (.tup (SqT.of (by rw [hid_at (by simpa using htD), upd_same])) (.cons (.int _) (.cons (.bl _) .nil)))
      intro H2 acc e2 hacc hAcc
      rw [flat_one] at hAcc
      obtain ⟨ps, rfl, hps⟩ := pairs_usK (dps_hid hAcc)
      refine ⟨D, ps, usK es, rfl, SqL.of hacc, hps, fun u hu0 => ?_⟩
      have hm : mergeK [] (usK es) = usK es := by
        have := merge_usK es [] (by simpa using hnd)
        simpa [usK] using this
      rw [hm]
      have e12 := e1.trans e2
      have hun : H u = none := ex_none e12 hu0
      have e3 := ex_new (o := .dK (usK es)) e12 hu0
      refine ⟨u, .dK (usK es), upd_same, trivial, fun od => ?_⟩
      have hlk : (upd (upd H2 u (.dK (usK es))) u (.frz od (.dK (usK es)))) u = some (.frz od (.dK (usK es))) := upd_same
      refine ⟨_, rfl, u, od, rfl, .inl ⟨usK es, hlk, fun W hW => ?_⟩⟩
      refine lc_data (K := K) walk_keys es (fun e => [PyData.int e]) (by unfold usK; rw [List.length_map]) (by unfold usK; rw [List.length_map]; omega) hW (fun H3 e => e _ _ hlk) ?_ ?_
      · rintro i e x H3 H' Nx hi e3 _ ⟨rfl, k, v, hkv, rfl⟩ put skip
        unfold usK at hkv
        rw [List.getElem?_map, hi] at hkv
        injection hkv with hkv
        injection hkv with h1 h2
        subst h1
        exact ⟨rfl, _, rfl, put _ _ _ (Evl.Ex.refl _) rfl (.int e)⟩
      intro H3 accw e3' haccw hAccw
      rw [flat_one] at hAccw
      have hw0 : accw = es.map V.int := dps_ints (dps_hid hAccw)
      subst hw0
      obtain ⟨hWu, hW0⟩ := upd_nn hW
      obtain ⟨_, hW2⟩ := upd_nn hW0
      have hWn : H W = none := ex_none e12 hW2
      have hdu : d ≠ u := ne_of_none (e2 _ _ hd1) hu0
      have helu : el ≠ u := ne_of_none (e2 _ _ hel1) hu0
      have hkeep : ∀ a o, a ≠ u → H2 a = some o → (upd H3 u (.dK (usK es))) a = some o := fun a o na ha => by
        rw [upd_ne na]
        exact e3' a o (by rw [upd_ne na, upd_ne na]; exact ha)
      have rl : (EM.rest S es).length ≤ S.length := List.length_filter_le _ _
      have st0 : CoW H ta te d el u W kvs L es S o6 es es [some (.ref ta), some (.ref te), some (.ref d), some (.ref el), some (.ref u), some (.ref W), o6, o7, none, none] (upd H3 u (.dK (usK es))) :=
        ⟨o7, none, rfl, fun a o ha => hkeep a o (ne_of_none ha hun) (e12 _ _ ha), hkeep _ _ hdu (e2 _ _ hd1), hkeep _ _ helu (e2 _ _ hel1), upd_same, by rw [upd_ne hWu]; exact haccw, fun _ h => h, by omega⟩
      refine ⟨e3' _ _ hlk, ?_⟩
      refine ⟨fun m σ H' => ∃ us wt a, m = 2 * (EM.rest S us).length + wt.length ∧ CoW H ta te d el u W kvs L es S a us wt σ H' ∧ (∀ l ∈ L, l.2.2 ∈ us → l.1 ∈ us ∨ l.2.2 ∈ wt) ∧ 2 * (EM.rest S us).length + wt.length ≤ 2 * S.length + es.length, ⟨_, es, es, o6, rfl, st0, (fun l _ h => .inr h), by omega⟩, ?_⟩
      rintro m σ H4 ⟨us, wt, a, rfl, ⟨o7, o9, rfl, e4, hd4, hel4, hu4, hw4, hes, zz⟩, hcl, hbd⟩
      have rl4 : (EM.rest S us).length ≤ S.length := List.length_filter_le _ _
      refine ⟨_, rfl, Nat.zero_le _, fun g hg => ⟨intsD wt, intsD [], .lst (SqL.of (Evl.Ex.new hg _ _ hw4)) (dps_of_ints _), .lst (SqL.of upd_same) .nil, (okD_ints _).shaped (by decide), (okD_ints _).shaped (by decide), ?_⟩⟩
      have eg := Evl.Ex.new (o := .lst []) hg
      rw [eqv_ints]
      refine ⟨_, rfl, ?_⟩
      rcases List.eq_nil_or_concat wt with rfl | ⟨wt', q0, hwt⟩
      · rw [decide_eq_true rfl]
        refine noT ⟨_, rfl, q u us _ (e4.trans eg) hes (fun l hl h => ?_) (eg _ _ hu4)⟩
        rcases hcl l hl h with h1 | h1
        · exact h1
        · cases h1
      · have hwt : wt = wt' ++ [q0] := by rw [hwt]; simp
        subst hwt
        rw [decide_eq_false (by simp)]
        refine yesT ⟨fun σ' H' => ∃ m', m' < 2 * (EM.rest S us).length + (wt' ++ [q0]).length ∧ ∃ us2 wt2 a2, m' = 2 * (EM.rest S us2).length + wt2.length ∧ CoW H ta te d el u W kvs L es S a2 us2 wt2 σ' H' ∧ (∀ l ∈ L, l.2.2 ∈ us2 → l.1 ∈ us2 ∨ l.2.2 ∈ wt2) ∧ 2 * (EM.rest S us2).length + wt2.length ≤ 2 * S.length + es.length, fun _ _ h => h, ?_⟩
        have hlw0 : (wt' ++ [q0]).length = wt'.length + 1 := by rw [List.length_append, List.length_singleton]
        have hW5 := eg _ _ hw4
        have hWd : W ≠ d := fun z => by rw [z, hd4] at hw4; cases hw4
        have hWu4 : W ≠ u := fun z => by rw [z, hu4] at hw4; cases hw4
        have hWel : W ≠ el := (ne_of_none (e2 _ _ hel1) hW2).symm
        refine ⟨_, rfl, d, rfl, .inl ⟨_, .inl (eg _ _ hd4)⟩, _, rfl, .inl ⟨rfl, _, SqL.of hW5⟩, W, _, .int q0, rfl, rfl, hW5, ?_, ?_⟩
        · simp
        have hd6 : (upd (upd H4 g (.lst [])) W (.lst ((wt' ++ [q0]).map V.int).dropLast)) d = some (.dK kvs) := by rw [upd_ne hWd.symm]; exact eg _ _ hd4
        refine ⟨1, rfl, _, DGet.k (k := .inl q0) hd6, ?_⟩
        have hlast : (valV kvs (.inl q0)).getD (V.int (-1)) = V.int (EM.lastI L L.length q0) := by
          rw [vk]
          have := EM.lastI_ge L L.length q0
          by_cases h : 0 ≤ EM.lastI L L.length q0
          · rw [if_pos h]; rfl
          · rw [if_neg h]
            show V.int (-1) = _
            rw [show EM.lastI L L.length q0 = -1 by omega]
        rw [hlast]
        have hdl : ((wt' ++ [q0]).map V.int).dropLast = wt'.map V.int := by
          rw [List.map_append]
          simp
        rw [hdl] at hd6 ⊢
        have e5 : Ex H (upd (upd H4 g (.lst [])) W (.lst (wt'.map V.int))) := ex_upd (e4.trans eg) hWn
        refine ⟨fun m σ H' => ∃ us2 wt2 at_, m = (at_ + 1).toNat ∧ CoW H ta te d el u W kvs L es S (some (.int at_)) us2 wt2 σ H' ∧ 2 * (EM.rest S us2).length + wt2.length ≤ 2 * (EM.rest S us).length + wt'.length ∧ (∀ l ∈ L, l.2.2 ∈ us2 → l.1 ∈ us2 ∨ l.2.2 ∈ wt2 ∨ l.2.2 = q0) ∧
          (at_ = -1 ∨ ∃ (i : Nat) (l : Ln), at_ = (i : Int) ∧ L[i]? = some l ∧ l.2.2 = q0) ∧ ∀ (j : Nat) (l : Ln), at_ < (j : Int) → L[j]? = some l → l.2.2 = q0 → l.1 ∈ us2, ⟨_, us, wt', EM.lastI L L.length q0, rfl, ⟨o7, o9, rfl, e5, hd6, ?_, ?_, upd_same, hes, zz⟩, Nat.le_refl _, fun l hl h => ?_, ?_, fun j l hj hl h => ?_⟩, ?_⟩
        · rw [upd_ne hWel.symm]; exact eg _ _ hel4
        · rw [upd_ne hWu4.symm]; exact eg _ _ hu4
        · rcases hcl l hl h with h1 | h1
          · exact .inl h1
          · rcases List.mem_append.mp h1 with h2 | h2
            · exact .inr (.inl h2)
            · exact .inr (.inr (List.mem_singleton.mp h2))
        · have := EM.lastI_ge L L.length q0
          rcases Int.lt_or_le (EM.lastI L L.length q0) 0 with h | h
          · exact .inl (by omega)
          · obtain ⟨i, hi⟩ : ∃ i : Nat, EM.lastI L L.length q0 = (i : Int) := ⟨(EM.lastI L L.length q0).toNat, by omega⟩
            obtain ⟨l, h1, h2⟩ := EM.lastI_at L L.length q0 i hi
            exact .inr ⟨i, l, hi, h1, h2⟩
        · exact absurd h (EM.lastI_no L L.length q0 j l hj (lt_of_get hl) hl)
        · rintro m σ H6 ⟨us2, wt2, at_, rfl, ⟨o7, o9, rfl, e6, hd6, hel6, hu6, hw6, hes6, zz6⟩, hms, hcl6, hat, hdone⟩
          refine ⟨_, rfl, _, _, rfl, rfl, _, rfl, ?_⟩
          rcases hat with rfl | ⟨i, l, rfl, hL, hq⟩
          · rw [decide_eq_false (show ¬ (0 : Int) ≤ -1 by omega)]
            refine noT ?_
            have hlw : (wt' ++ [q0]).length = wt'.length + 1 := by rw [List.length_append, List.length_singleton]
            refine ⟨_, ?_, us2, wt2, _, rfl, ⟨o7, o9, rfl, e6, hd6, hel6, hu6, hw6, hes6, zz6⟩, fun l hl h => ?_, by omega⟩
            · omega
            · rcases hcl6 l hl h with h1 | h1 | h1
              · exact .inl h1
              · exact .inr h1
              · obtain ⟨j, hj⟩ := List.mem_iff_getElem?.mp hl
                exact .inl (hdone j l (by omega) hj h1)
          · rw [decide_eq_true (show (0 : Int) ≤ (i : Int) by omega)]
            refine yesT ⟨fun σ' H' => ∃ m', m' < ((i : Int) + 1).toNat ∧ ∃ us2 wt2 at_, m' = (at_ + 1).toNat ∧ CoW H ta te d el u W kvs L es S (some (.int at_)) us2 wt2 σ' H' ∧ 2 * (EM.rest S us2).length + wt2.length ≤ 2 * (EM.rest S us).length + wt'.length ∧ (∀ l ∈ L, l.2.2 ∈ us2 → l.1 ∈ us2 ∨ l.2.2 ∈ wt2 ∨ l.2.2 = q0) ∧
              (at_ = -1 ∨ ∃ (i : Nat) (l : Ln), at_ = (i : Int) ∧ L[i]? = some l ∧ l.2.2 = q0) ∧ ∀ (j : Nat) (l : Ln), at_ < (j : Int) → L[j]? = some l → l.2.2 = q0 → l.1 ∈ us2, fun _ _ h => h, ?_⟩
            have hiL := lt_of_get hL
            obtain ⟨vx, hvx⟩ : ∃ vx, tx[i]? = some vx := ⟨_, List.getElem?_eq_getElem (by rw [hxl]; exact hiL)⟩
            obtain ⟨l', b, hl', rfl, hT⟩ := dps_ln hA hvx
            rw [hL] at hl'
            obtain rfl := Option.some.inj hl'
            refine ⟨_, rfl, _, rfl, ta, tx, _, .ref b, rfl, rfl, Evl.ex_t e6 hta, atI_nat hvx, b, _, _, _, rfl, rfl, Evl.ex_t e6 hT, rfl, ?_⟩
            -- behind the place: the elder lane
            have elder : ∀ (us3 wt3 : List Int) (H7 : Hp) (o9 : Option V), Ex H H7 → H7 d = some (.dK kvs) → H7 el = some (.lst ((elV L L.length).map V.int)) → H7 u = some (.dK (usK us3)) → H7 W = some (.lst (wt3.map V.int)) → (∀ e ∈ es, e ∈ us3) → us3.length + (EM.rest S us3).length ≤ S.length + es.length →
                2 * (EM.rest S us3).length + wt3.length ≤ 2 * (EM.rest S us).length + wt'.length → (∀ l ∈ L, l.2.2 ∈ us3 → l.1 ∈ us3 ∨ l.2.2 ∈ wt3 ∨ l.2.2 = q0) → (∀ x ∈ us2, x ∈ us3) → l.1 ∈ us3 → ∃ m', m' < ((i : Int) + 1).toNat ∧ ∃ us2 wt2 at_, m' = (at_ + 1).toNat ∧ CoW H ta te d el u W kvs L es S (some (.int at_)) us2 wt2 [some (.ref ta), some (.ref te), some (.ref d), some (.ref el), some (.ref u), some (.ref W), some (.int (EM.lastI L i q0)), o7, none, o9] H7 ∧ 2 * (EM.rest S us2).length + wt2.length ≤ 2 * (EM.rest S us).length + wt'.length ∧ (∀ l ∈ L, l.2.2 ∈ us2 → l.1 ∈ us2 ∨ l.2.2 ∈ wt2 ∨ l.2.2 = q0) ∧
              (at_ = -1 ∨ ∃ (i : Nat) (l : Ln), at_ = (i : Int) ∧ L[i]? = some l ∧ l.2.2 = q0) ∧ ∀ (j : Nat) (l : Ln), at_ < (j : Int) → L[j]? = some l → l.2.2 = q0 → l.1 ∈ us2 := fun us3 wt3 H7 o9 h1 h2 h3 h4 h5 h6 h7 h8 h9 h10 h11 => by
              have hge := EM.lastI_ge L i q0
              refine ⟨_, by omega, us3, wt3, EM.lastI L i q0, rfl, ⟨o7, o9, rfl, h1, h2, h3, h4, h5, h6, h7⟩, h8, h9, ?_, fun j k hj hk hkq => ?_⟩
              · rcases Int.lt_or_le (EM.lastI L i q0) 0 with h | h
                · exact .inl (by omega)
                · obtain ⟨z, hz⟩ : ∃ z : Nat, EM.lastI L i q0 = (z : Int) := ⟨(EM.lastI L i q0).toNat, by omega⟩
                  obtain ⟨k, g1, g2⟩ := EM.lastI_at L i q0 z hz
                  exact .inr ⟨z, k, hz, g1, g2⟩
              · rcases Nat.lt_trichotomy j i with h | h | h
                · exact absurd hkq (EM.lastI_no L i q0 j k hj h hk)
                · subst h
                  rw [hL] at hk
                  obtain rfl := Option.some.inj hk
                  exact h11
                · exact h10 _ (hdone j k (by omega) hk hkq)
            have hev : ((elV L L.length).map V.int)[i]? = some (.int (EM.lastI L i q0)) := by
              rw [List.getElem?_map]
              unfold elV
              rw [List.getElem?_map, List.getElem?_range hiL, Option.map_some, Option.map_some, hL]
              show some (V.int (EM.lastI L i l.2.2)) = _
              rw [hq]
            have hdg : DGet H6 u (.int l.1) (valV (usK us2) (.inl l.1)) := DGet.k (k := .inl l.1) hu6
            refine ⟨_, rfl, _, rfl, u, _, rfl, hdg, ?_⟩
            rw [valV_usK]
            by_cases hm : l.1 ∈ us2
            · rw [if_pos hm]
              refine ⟨_, rfl, iteF ?_⟩
              exact ⟨_, rfl, _, rfl, el, _, _, _, rfl, rfl, SqL.of hel6, atI_nat hev, elder us2 wt2 H6 _ e6 hd6 hel6 hu6 hw6 hes6 zz6 hms hcl6 (fun _ h => h) hm⟩
            · rw [if_neg hm]
              refine ⟨_, rfl, iteT ?_⟩
              have hlS := hS l (List.mem_of_getElem? hL)
              have rlt := EM.rest_lt (S := S) (us := us2) hlS hm
              have hun6 : u ≠ d := hdu.symm
              have hWu6 : W ≠ u := fun z => by rw [z, hu6] at hw6; cases hw6
              have hue : u ≠ el := fun z => by rw [z, hel6] at hu6; cases hu6
              refine ⟨_, rfl, _, rfl, u, _, rfl, DPut.k (k := .inl l.1) hu6 (sz_lt (by unfold usK; rw [List.length_map]; omega)), ?_⟩
              rw [putK_usK hm]
              have hw7 : (upd H6 u (.dK (usK (us2 ++ [l.1])))) W = some (.lst (wt2.map V.int)) := by rw [upd_ne hWu6]; exact hw6
              refine ⟨_, rfl, .inl ⟨rfl, _, SqL.of hw7⟩, _, rfl, W, _, _, rfl, rfl, hw7, sz_lt (by rw [List.length_map]; omega), ?_⟩
              have hel8 : (upd (upd H6 u (.dK (usK (us2 ++ [l.1])))) W (.lst (wt2.map V.int ++ [.int l.1]))) el = some (.lst ((elV L L.length).map V.int)) := by
                rw [upd_ne hWel.symm, upd_ne hue.symm]; exact hel6
              refine ⟨_, rfl, _, rfl, el, _, _, _, rfl, rfl, SqL.of hel8, atI_nat hev, elder (us2 ++ [l.1]) (wt2 ++ [l.1]) _ _ (ex_upd (ex_upd e6 hun) hWn) ?_ hel8 ?_ ?_ (fun e he => by simp [hes6 e he]) ?_ ?_ (fun k hk hkq => ?_) (fun x hx => by simp [hx]) (by simp)⟩
              · rw [upd_ne hWd.symm, upd_ne hun6.symm]; exact hd6
              · rw [upd_ne hWu6.symm, upd_same]
              · rw [upd_same, List.map_append]; rfl
              · rw [List.length_append, List.length_singleton]; omega
              · rw [List.length_append, List.length_singleton]; omega
              · rcases List.mem_append.mp hkq with h1 | h1
                · rcases hcl6 k hk h1 with h2 | h2 | h2
                  · exact .inl (by simp [h2])
                  · exact .inr (.inl (by simp [h2]))
                  · exact .inr (.inr h2)
                · exact .inr (.inl (by rw [List.mem_singleton.mp h1]; simp))
theorem d_come_to (T : Frees mg) (h : DfP K mg "come_to" 26) : Df P w K mg base "come_to" 1 ["lanes", "ends"] (spCome K) :=
  h.df (fun _ _ F => ok_come_to T F) fun _ _ _ _ _ _ us hl => match us, hl with | [_, _], _ => rfl
end
end E

set_option maxRecDepth 100000
set_option maxHeartbeats 4000000
namespace E
open PySem PySem.Spec PyProof.Rows L2
/-- a machine that stands: its fields -/
structure MachAt (K : PySem.W.Frag) (C O : Addr) (H : Hp) (a : Addr) (ls : List Nat) (L Ls : List Ln) (es ps : List Int) (dx : Addr) (fs : List (Str × V)) (oa td ea la pa : Addr) (lx : List V) : Prop where
  ha : H a = some (.ins C dx fs)
  fo : fs.lookup ("order" : Str) = some (.ref oa)
  ft : fs.lookup ("targets" : Str) = some (.ref td)
  fe : fs.lookup ("ends" : Str) = some (.ref ea)
  fl : fs.lookup ("lanes" : Str) = some (.ref la)
  fp : fs.lookup ("places" : Str) = some (.ref pa)
  ng : fs.lookup ("go" : Str) = none
  nc : fs.lookup ("check_idle" : Str) = none
  or_ : OrdAt O H oa ls
  tg : H td = some (.dT (L.map tgt))
  en : SqT K H ea (es.map V.int)
  la_ : SqT K H la lx
  ld : DpAll K H lx (Ls.map lnD)
  pm : Ls.Perm L
  pl : SqT K H pa (ps.map V.int)
theorem MachAt.ex {K : PySem.W.Frag} {C O : Addr} {H H' : Hp} {a : Addr} {ls : List Nat} {L Ls : List Ln} {es ps : List Int} {dx : Addr} {fs : List (Str × V)} {oa td ea la pa : Addr} {lx : List V} (h : MachAt K C O H a ls L Ls es ps dx fs oa td ea la pa lx) (e : Ex H H') : MachAt K C O H' a ls L Ls es ps dx fs oa td ea la pa lx :=
  ⟨e _ _ h.ha, h.fo, h.ft, h.fe, h.fl, h.fp, h.ng, h.nc, h.or_.ex e, e _ _ h.tg, Evl.ex_t e h.en, Evl.ex_t e h.la_, dps_mono e h.ld, h.pm, Evl.ex_t e h.pl⟩
theorem MachAt.go {K : PySem.W.Frag} {C O : Addr} {H : Hp} {a : Addr} {ls : List Nat} {L Ls : List Ln} {es ps : List Int} {dx : Addr} {fs : List (Str × V)} {oa td ea la pa : Addr} {lx : List V} (h : MachAt K C O H a ls L Ls es ps dx fs oa td ea la pa lx) : MGo C H a L := ⟨dx, fs, td, h.ha, h.ft, h.ng, h.tg⟩
section
variable {P : Program} {w : World} {K : PySem.W.Frag} {mg : Str → Option Value} {base : Heap} {f : Addr} {fd : FuncData}
def spIdle (K : PySem.W.Frag) (C O : Addr) : Sp := fun vs H Q _ => ∃ (a : Addr) (ls : List Nat) (L Ls : List Ln) (es ps : List Int) (dx : Addr) (fs : List (Str × V)) (oa td ea la pa : Addr) (lx : List V), vs = [.ref a] ∧ MachAt K C O H a ls L Ls es ps dx fs oa td ea la pa lx ∧ LsOk ls ∧ EM.DetP L ∧ (∀ l ∈ L, l.2.1 ∈ ls) ∧ L.length ≤ 60 ∧ es.Nodup ∧ es.length ≤ 1000 ∧ (∀ p ∈ ps, EM.Reach L p ∧ EM.Co L es p) ∧ ∀ H', Ex H H' → Q .non H'
def ChW (H : Hp) (a wt mt : Addr) (S : List Int) (o5 o6 o7 : Option V) (us ws : List Int) (σ : L2.St) (H' : Hp) : Prop := σ = [some (.ref a), some (.ref wt), some (.ref mt), none, none, o5, o6, o7] ∧ Ex H H' ∧ H' mt = some (.dK (usK us)) ∧ H' wt = some (.lst (ws.map V.int)) ∧ (0 : Int) ∈ us ∧ us.length + (EM.rest S us).length ≤ S.length + 1 ∧ 2 * (EM.rest S us).length + ws.length ≤ 2 * S.length + 1
/-- all goes from q are met -/
def ChC (ls : List Nat) (L : List Ln) (us : List Int) (q : Int) : Prop := ∀ c ∈ ls, ∀ r, EM.goes L q c = some r → r ∈ us
theorem scIdle : FnScope ["self", "waiting", "met", "useful", "p", "here", "letter", "then"] ["self"] (defScope (inClass (top 41) 1)) := ⟨rfl, rfl, rfl, by decide +kernel, rfl, by decide +kernel, by decide +kernel⟩
theorem ok_idle {C O : Addr} (T : Frees mg) (D1 : DfP K mg "come_to" 26) (M : MachC K mg C) (OC : OrdC K mg O) (F : FnP K "check_idle" "Machine.check_idle" (inClass (top 41) 1) f fd) : FnOk P w K mg base CX0 2 f fd ["self"] (spIdle K C O) := by
  refine F.ok scIdle (fun vs H Q E h => ?_) (fun cdv A outer s H vs Q E hr h => ?_)
  · obtain ⟨a, _, _, _, _, _, _, _, _, _, _, _, _, _, rfl, _⟩ := h
    rfl
  · obtain ⟨a, ls, L, Ls, es, ps, dx, fs, oa, td, ea, la, pa, lx, rfl, hM, hL, hdet, hlet, zL, hnd, zE, hps, q⟩ := h
    have hu := hr.u1
    have hu64 := hr.units
    have Dg : DmP P w K mg base C "go" 1 _ _ := d_go T M
    have Dc : Df P w K mg base "come_to" 1 _ _ := d_come_to T D1
    refine ⟨_, PSs.nox (pss_cons (ps_set (i := 1) scIdle.nd rfl (Or.inl rfl) (pe_lst (pa_cons pe_int pa_nil)))
      (pss_cons (ps_set (i := 2) scIdle.nd rfl (Or.inl rfl) (pe_disp (pps_cons pe_int pe_bl pps_nil) (by rfl) (by rfl) (fun z => by cases z) (by decide)))
      (pss_cons (ps_while PassesOwn.never (pt_cmpR (op_neD hu64) (pv 1) (pe_lst pa_nil) (nomark _))
        (pss_cons (ps_set (i := 5) scIdle.nd rfl (Or.inl rfl) (pe_bm0 PySem.F.plainAttrs_list PySem.F.slot_list_pop PySem.F.type_list_pop mt_pop (pv 1)))
      (pss_one (ps_for PassesOwn.never rfl (pi_str (pe_fld (pe_fld (pv 0) rfl) rfl)) (pg_name (i := 6) scIdle.nd rfl (Or.inl rfl))
        (pss_cons (ps_set (i := 7) scIdle.nd rfl (Or.inl rfl) (pe_dm Dg (hr.mono (by decide)) (pv 0) (pa_cons (pv 5) (pa_cons (pv 6) pa_nil))))
      (pss_one (ps_if (PW.pt (pw_and (pt_cmpR op_notN (pv 7) pe_non (nomark _)) (pw_and1 (pt_cmp (pc_dnotin hu (pv 7) (pv 2)))))) (pss_cons (ps_dput hu (pv 2) (pv 7) pe_bl rfl)
      (pss_one (ps_expr (pe_bm PySem.F.plainAttrs_list PySem.F.slot_list_append PySem.F.type_list_append mt_append (pv 1) (pa_cons (pv 7) pa_nil))))) pss_nil)))))))
      (pss_cons (ps_set (i := 3) scIdle.nd rfl (Or.inl rfl) (pe_df Dc (hr.mono (by decide)) rfl (pa_cons (pe_fld (pv 0) rfl) (pa_cons (pe_fld (pv 0) rfl) pa_nil))))
      (pss_one (ps_for PassesOwn.never rfl (pi_tup (pe_fld (pv 0) rfl)) (pg_name (i := 4) scIdle.nd rfl (Or.inl rfl))
        (pss_one (ps_if (PW.pt (pw_or (pt_cmp (pc_dnotin hu (pv 4) (pv 2))) (pw_or1 (pt_cmp (pc_dnotin hu (pv 4) (pv 3)))))) (pss_one ps_never) pss_nil)))))))), ?_⟩
    obtain ⟨odx, ofs, odd, okv, hoa, hol, hor, hocn, hod, hov⟩ := id hM.or_
    refine ⟨len1 _, fun wt hwt => fun mt hmt => ⟨upd_same, [(.inl 0, .bl true)], rfl, by decide, ?_⟩⟩
    obtain ⟨hmw, hmt0⟩ := upd_nn hmt
    have hwt0 : H wt = none := hwt
    have e0 : Ex H (upd (upd (upd H wt (.lst [.int 0])) mt (.dK [])) mt (.dK (mergeK [] [(.inl 0, .bl true)]))) := ex_upd (ex_upd (Evl.Ex.new hwt) hmt0) hmt0
    let S : List Int := L.map (·.2.2)
    have hSl : S.length = L.length := List.length_map _
    have rle : ∀ us, (EM.rest S us).length ≤ S.length := fun us => List.length_filter_le _ _
    refine ⟨fun m σ H' => ∃ us ws o5 o6 o7, m = 2 * (EM.rest S us).length + ws.length ∧ ChW H a wt mt S o5 o6 o7 us ws σ H' ∧ ∀ q ∈ us, ChC ls L us q ∨ q ∈ ws, ⟨_, [0], [0], none, none, none, rfl, ⟨rfl, e0, upd_same, by rw [upd_ne hmw.symm, upd_ne hmw.symm, upd_same]; rfl, by simp, ?_, ?_⟩, fun q h => .inr h⟩, ?_⟩
    · have := rle [0]
      show 1 + _ ≤ _
      omega
    · have := rle [0]
      show _ + 1 ≤ _
      omega
    rintro m σ H4 ⟨us, ws, o5, o6, o7, rfl, ⟨rfl, e4, hm4, hw4, h04, z4, b4⟩, hcl⟩
    refine ⟨_, rfl, Nat.zero_le _, fun g hg => ⟨intsD ws, intsD [], .lst (SqL.of (Evl.Ex.new hg _ _ hw4)) (dps_of_ints _), .lst (SqL.of upd_same) .nil, (okD_ints _).shaped (by decide), (okD_ints _).shaped (by decide), ?_⟩⟩
    have eg := Evl.Ex.new (o := .lst []) hg
    rw [eqv_ints]
    refine ⟨_, rfl, ?_⟩
    rcases List.eq_nil_or_concat ws with rfl | ⟨ws', q0, hws⟩
    · rw [decide_eq_true rfl]
      refine noT ?_
      have e5 := e4.trans eg
      have hM5 := hM.ex e5
      have reach : ∀ p, EM.Reach L p → p ∈ us := fun p hp => by
        induction hp with
        | z => exact h04
        | s _ hl ih =>
          rcases hcl _ ih with h | h
          · exact h _ (hlet _ hl) _ (EM.goes_of hdet hl)
          · cases h
      refine ⟨_, rfl, a, C, dx, fs, _, rfl, hM5.ha, M.cls, M.nl, hM5.fl, _, rfl, a, C, dx, fs, _, rfl, hM5.ha, M.cls, M.ne, hM5.fe, la, ea, lx, Ls, es, L.map (·.1), rfl, hM5.la_, hM5.ld, hM5.en, hnd, fun l hl => List.mem_map.mpr ⟨l, hM.pm.mem_iff.mp hl, rfl⟩, by rw [hM.pm.length_eq]; omega, by rw [List.length_map]; omega, zE, fun ud us2 H6 e6 hes hcl2 hud => ?_⟩
      have e56 := e5.trans e6
      have hM6 := hM.ex e56
      have co : ∀ p, EM.Co L es p → p ∈ us2 := fun p hp => by
        induction hp with
        | e he => exact hes _ he
        | s hl _ ih => exact hcl2 _ (hM.pm.mem_iff.mpr hl) ih
      have hmt6 := e6 _ _ (eg _ _ hm4)
      refine ⟨_, rfl, a, C, dx, fs, _, rfl, hM6.ha, M.cls, M.np, hM6.fp, pa, rfl, ⟨_, hM6.pl⟩, for_tup (K := K) (xs := ps.map V.int) (fun i σ H' => ∃ o4, σ = [some (.ref a), some (.ref wt), some (.ref mt), some (.ref ud), o4, o5, o6, o7] ∧ Ex H6 H') ⟨none, rfl, Evl.Ex.refl _⟩ (fun i σ H' _ ⟨_, _, e⟩ => Evl.ex_t e hM6.pl) ?_ ?_⟩
      · rintro i x σ H7 hi ⟨o4, rfl, e7⟩
        rw [List.getElem?_map] at hi
        cases hp : ps[i]? with
        | none => rw [hp] at hi; cases hi
        | some p =>
          rw [hp] at hi
          obtain rfl := Option.some.inj hi
          obtain ⟨hp1, hp2⟩ := hps p (List.mem_of_getElem? hp)
          refine ⟨_, rfl, _, rfl, mt, _, rfl, DGet.k (k := .inl p) (e7 _ _ hmt6), ?_⟩
          rw [valV_usK, if_pos (reach p hp1)]
          refine ⟨_, rfl, iteF ?_⟩
          refine ⟨_, rfl, _, rfl, ud, _, rfl, DGet.k (k := .inl p) (e7 _ _ hud), ?_⟩
          rw [valV_usK, if_pos (co p hp2)]
          exact ⟨_, rfl, iteF ⟨_, rfl, e7⟩⟩
      · rintro σ H7 ⟨o4, rfl, e7⟩
        exact q H7 (e56.trans e7)
    · have hws : ws = ws' ++ [q0] := by rw [hws]; simp
      subst hws
      rw [decide_eq_false (by simp)]
      have hlw0 : (ws' ++ [q0]).length = ws'.length + 1 := by rw [List.length_append, List.length_singleton]
      refine yesT ⟨fun σ' H' => ∃ m', m' < 2 * (EM.rest S us).length + (ws' ++ [q0]).length ∧ ∃ us ws o5 o6 o7, m' = 2 * (EM.rest S us).length + ws.length ∧ ChW H a wt mt S o5 o6 o7 us ws σ' H' ∧ ∀ q ∈ us, ChC ls L us q ∨ q ∈ ws, fun _ _ h => h, ?_⟩
      have hW5 := eg _ _ hw4
      have hmw' : mt ≠ wt := hmw
      have hdl : ((ws' ++ [q0]).map V.int).dropLast = ws'.map V.int := by
        rw [List.map_append]
        simp
      refine ⟨_, rfl, .inl ⟨rfl, _, SqL.of hW5⟩, wt, _, .int q0, rfl, rfl, hW5, by simp, ?_⟩
      rw [hdl]
      have e5 : Ex H (upd (upd H4 g (.lst [])) wt (.lst (ws'.map V.int))) := ex_upd (e4.trans eg) hwt0
      have hM5 := hM.ex e5
      refine ⟨_, rfl, a, C, dx, fs, _, rfl, hM5.ha, M.cls, M.no, hM5.fo, oa, O, odx, ofs, _, rfl, e5 _ _ hoa, OC.cls, OC.nl, hol, _, rfl, for_w (fun k σ H' => ∃ us2 ws2 o6 o7, ChW H a wt mt S (some (.int q0)) o6 o7 us2 ws2 σ H' ∧ (∀ q ∈ us2, ChC ls L us2 q ∨ q ∈ ws2 ∨ q = q0) ∧ (∀ c ∈ ls.take k, ∀ r, EM.goes L q0 c = some r → r ∈ us2) ∧ 2 * (EM.rest S us2).length + ws2.length ≤ 2 * (EM.rest S us).length + ws'.length) ⟨us, ws', _, _, ⟨rfl, e5, by rw [upd_ne hmw']; exact eg _ _ hm4, upd_same, h04, z4, by omega⟩, fun x hx => ?_, (fun _ h => by simp at h), Nat.le_refl _⟩ ?_ ?_⟩
      · rcases hcl x hx with h | h
        · exact .inl h
        · rcases List.mem_append.mp h with h2 | h2
          · exact .inr (.inl h2)
          · exact .inr (.inr (List.mem_singleton.mp h2))
      · rintro k c σ H6 hk ⟨us2, ws2, o6, o7, ⟨rfl, e6, hm6, hw6, h06, z6, b6⟩, hcl6, hk6, hms6⟩
        have hM6 := hM.ex e6
        refine ⟨_, rfl, a, dx, fs, rfl, hM6.ha, hM6.ng, _, rfl, _, rfl, a, L, q0, c, rfl, hM6.go, fun H7 e7 => ?_⟩
        have hm7 := e7 _ _ hm6
        have hw7 := e7 _ _ hw6
        refine ⟨_, rfl, rfl, _, rfl, ?_⟩
        rw [oI_non]
        cases hg : EM.goes L q0 c with
        | none =>
          refine iteF (iteF ⟨us2, ws2, _, _, ⟨rfl, e6.trans e7, hm7, hw7, h06, z6, b6⟩, hcl6, fun d hd r hr => ?_, hms6⟩)
          rw [take_snoc' hk] at hd
          rcases List.mem_append.mp hd with h | h
          · exact hk6 d h r hr
          · rw [List.mem_singleton.mp h, hg] at hr
            cases hr
        | some r =>
          have hrS : r ∈ S := List.mem_map.mpr ⟨_, EM.goes_mem hg, rfl⟩
          have grow : ∀ {us3 : List Int}, (∀ x ∈ us2, x ∈ us3) → r ∈ us3 → ∀ d ∈ ls.take (k + 1), ∀ y, EM.goes L q0 d = some y → y ∈ us3 := fun {us3} h1 h2 d hd y hy => by
            rw [take_snoc' hk] at hd
            rcases List.mem_append.mp hd with h | h
            · exact h1 _ (hk6 d h y hy)
            · rw [List.mem_singleton.mp h, hg] at hy
              rw [← Option.some.inj hy]; exact h2
          refine iteT ⟨_, rfl, _, rfl, mt, _, rfl, DGet.k (k := .inl r) hm7, ?_⟩
          rw [valV_usK]
          by_cases hin : r ∈ us2
          · rw [if_pos hin]
            exact ⟨_, rfl, iteF ⟨us2, ws2, _, _, ⟨rfl, e6.trans e7, hm7, hw7, h06, z6, b6⟩, hcl6, grow (fun _ h => h) hin, hms6⟩⟩
          · rw [if_neg hin]
            have rlt := EM.rest_lt (S := S) (us := us2) hrS hin
            have rl2 := rle us2
            refine ⟨_, rfl, iteT ?_⟩
            refine ⟨_, rfl, _, rfl, mt, _, rfl, DPut.k (k := .inl r) hm7 (sz_lt (by unfold usK; rw [List.length_map]; omega)), ?_⟩
            rw [putK_usK hin]
            have hw8 : (upd H7 mt (.dK (usK (us2 ++ [r])))) wt = some (.lst (ws2.map V.int)) := by rw [upd_ne hmw'.symm]; exact hw7
            refine ⟨_, rfl, .inl ⟨rfl, _, SqL.of hw8⟩, _, rfl, wt, _, _, rfl, rfl, hw8, sz_lt (by rw [List.length_map]; omega), ?_⟩
            refine ⟨us2 ++ [r], ws2 ++ [r], _, _, ⟨rfl, ex_upd (ex_upd (e6.trans e7) hmt0) hwt0, by rw [upd_ne hmw', upd_same], by rw [upd_same, List.map_append]; rfl, by simp [h06], by rw [List.length_append, List.length_singleton]; omega, by rw [List.length_append, List.length_singleton]; omega⟩, fun x hx => ?_, grow (fun x h => by simp [h]) (by simp), by rw [List.length_append, List.length_singleton]; omega⟩
            rcases List.mem_append.mp hx with h1 | h1
            · rcases hcl6 x h1 with h2 | h2 | h2
              · exact .inl fun d hd y hy => by simp [h2 d hd y hy]
              · exact .inr (.inl (by simp [h2]))
              · exact .inr (.inr h2)
            · exact .inr (.inl (by rw [List.mem_singleton.mp h1]; simp))
      · rintro σ H6 ⟨us2, ws2, o6, o7, ⟨rfl, e6, hm6, hw6, h06, z6, b6⟩, hcl6, hk6, hms6⟩
        rw [List.take_length] at hk6
        refine ⟨_, by omega, us2, ws2, _, _, _, rfl, ⟨rfl, e6, hm6, hw6, h06, z6, b6⟩, fun x hx => ?_⟩
        rcases hcl6 x hx with h2 | h2 | h2
        · exact .inl h2
        · exact .inr h2
        · exact .inl (by rw [h2]; exact hk6)
theorem d_idle {C O : Addr} (T : Frees mg) (D1 : DfP K mg "come_to" 26) (M : MachC K mg C) (OC : OrdC K mg O) : DmP P w K mg base C "check_idle" 2 ["self"] (spIdle K C O) := by
  obtain ⟨f, fd, hm, F⟩ := M.idle
  exact dm_of M.cls hm F (ok_idle T D1 M OC F) fun _ _ _ _ _ _ us hl => match us, hl with | [_], _ => rfl
end
end E

set_option maxRecDepth 100000
set_option maxHeartbeats 4000000
namespace E
open PySem PySem.Spec PyProof.Rows L2
section
variable {X : Cx} {pins : List (Addr × Obj)} {σ : L2.St} {H : Hp} {s : Shared} {d : Addr} {o : Obj}
theorem frzT2 {kvs : List (List Key × V)} (I : Inv X pins σ H s) (h : H d = some (.frz o (.dT kvs))) :
    (d == sysModules) = false ∧ s.heap.get? d = some o ∧ o.ExactDict ∧ ∃ (es : Array DictEntry) (ep : Nat), o.data = .dict es ep ∧ es.size = kvs.length ∧
      ∀ (i : Nat) (k : List Key) (v : V), kvs[i]? = some (k, v) → ∃ (en : DictEntry) (q : Addr), es[i]? = some en ∧ en.key = .ref q ∧ H q = some (.tup (k.map kV)) ∧ RelV v en.val := by
  obtain ⟨hd, z, hs, xs, pr, o', es, ep, ho, hx, hdt, he, _⟩ := I.hok d _ h
  rw [hd] at ho
  cases ho
  refine ⟨hs, hd, hx, es, ep, hdt, ?_, fun i k v e => ?_⟩
  · have l1 : es.size = xs.length := size_of_entries he
    have l2 : kvs.length = xs.length := Paired.length pr
    omega
  · obtain ⟨b, hb, e1, e2, e3⟩ := paired_get pr e
    have q := entry_at he i
    rw [hb] at q
    exact ⟨_, b.2.1, q, rfl, e2, e3⟩
end
/-- the pairs of a dict with tuple keys, each a new tuple of the key's own tuple and the value -/
def ItIT (d : Addr) (o : Obj) (kvs : List (List Key × V)) : It :=
  ⟨fun i H => H d = some (.frz o (.dT kvs)) ∧ i < kvs.length, fun i H x H' => ∃ (T q : Addr) (k : List Key) (v : V), kvs[i]? = some (k, v) ∧ x = .ref T ∧ H T = none ∧ H' = upd H T (.tup [.ref q, v]) ∧ H q = some (.tup (k.map kV)), fun i H => H d = some (.frz o (.dT kvs)) ∧ kvs.length ≤ i⟩
theorem turn_itemsT {P : Program} {w : World} {K : PySem.W.Frag} {d : Addr} {o : Obj} {es : Array DictEntry} {ep : Nat} {kvs : List (List Key × V)} {elts : List Expr} {kk : Nat} {tpos : Pos} (it : Addr) (hod : o.data = .dict es ep) :
    Turn P w K (.Tuple elts kk tpos) (ItIT d o kvs) [it] it (fun i h => ∃ ok ov, IsItemIter h it d i kvs.length ep ok ov) where
  mem := by simp
  obj := fun i h st b hb => by
    have e : b = it := by simpa using hb
    subst e
    obtain ⟨ok, ov, e⟩ := st
    exact ⟨_, e, fun v z => nomatch z⟩
  keep := fun i h h' st k => let ⟨ok, ov, e⟩ := st; ⟨ok, ov, k it (by simp) _ e⟩
  item := by
    intro X hP hw hK hc i pins s σ H E I hf st hg
    subst hP hw hK
    obtain ⟨hd, hi⟩ := hg
    obtain ⟨hs, hgd, hx, es', ep', hdt, hsz, ent⟩ := frzT2 I hd
    obtain ⟨rfl, rfl⟩ := dict_ep hod hdt
    obtain ⟨⟨k, v⟩, hkv⟩ : ∃ p, kvs[i]? = some p := ⟨kvs[i], List.getElem?_eq_getElem hi⟩
    obtain ⟨en, q, hen, hkey, hq, rv⟩ := ent i k v hkv
    obtain ⟨hlt', hen2⟩ := Array.getElem?_eq_some_iff.mp hen
    obtain ⟨ok, ov, he⟩ := st
    rw [← hsz] at he
    have hlt : it < s.heap.objs.size := Heap.lt_size he
    have hraw : s.heap.DictRaw d es' ep' := ⟨o, hgd, hx, hdt⟩
    refine PySem.wpAny_pyNext_items_item_raw he hraw hlt' fun h' ho hT hz hk => ?_
    rw [hen2] at ho hT
    refine ⟨_, rfl, wpAny_letOwnedTupleGo_items (s := { s with heap := h' }) ho fun h'' he' sb => ?_⟩
    have hT2 : h''.get? s.heap.objs.size = some { cls := .type "tuple", data := .seq #[en.key, en.val] } := (sb.2 _ (Nat.ne_of_gt hlt)).trans hT
    have new : ObjOk X.prog X.w (upd H s.heap.objs.size (.tup [.ref q, v])) h'' s.heap.objs.size (.tup [.ref q, v]) :=
      ⟨by show 2 ≤ sizeLine; decide, [en.key, en.val], .cons hkey (.cons rv .nil), ⟨_, hT2, rfl, _, rfl⟩⟩
    have I1 : Inv X pins σ (upd H s.heap.objs.size (.tup [.ref q, v])) { s with heap := h'' } :=
      I.turnedNew (t' := s.toks) (ch := [it]) (fun b ob hb e => (sb.2 b (by simpa using hb)).trans (hk b ob (by simpa using hb) e)) hf (Nat.le_refl _) new
    refine ⟨.ref s.heap.objs.size, _, I1, rfl, ⟨_, q, k, v, hkv, rfl, I.hok.fresh (Nat.le_refl _), rfl, hq⟩, ⟨en.key, en.val, ?_⟩, fun b hb => ?_⟩
    · rw [← hsz]; exact he'
    · have e : b = it := by simpa using hb
      rw [e, upd_ne (Nat.ne_of_lt hlt)]
      exact (hf it (by simp)).1
  done := by
    intro X hP hw hK hc i pins s σ H E I hf st hg
    subst hP hw hK
    obtain ⟨hd, hi⟩ := hg
    obtain ⟨f0, f1, f2, f3, f4, f5⟩ := hf it (by simp)
    obtain ⟨hs, hgd, hx, es', ep', hdt, hsz, ent⟩ := frzT2 I hd
    obtain ⟨rfl, rfl⟩ := dict_ep hod hdt
    obtain ⟨ok, ov, he⟩ := st
    rw [← hsz] at he
    have hraw : s.heap.DictRaw d es' ep' := ⟨o, hgd, hx, hdt⟩
    exact PySem.wpAny_pyNext_items_end_raw (I.ok.hd hc) he hraw (by omega) fun h' eb => ⟨rfl, I.turned (t' := s.toks) (fun b ob hb e => eb b ob hb e) f0 f1 f3 f4 f5⟩
  self := fun A i s Q E st h => let ⟨_, _, e⟩ := st; PySem.W.kcp_self e h
def iItemsT (td : TE) : TI := fun σ H R => td σ H fun x H1 => ∃ d o kvs, x = .ref d ∧ H1 d = some (.frz o (.dT kvs)) ∧ R (ItIT d o kvs) H1
theorem pi_itemsT {X : Cx} {e : Expr} {td : TE} {apos cpos : Pos} {elts : List Expr} {kk : Nat} {tpos : Pos} (he : PE X e td) (hbase : attributeBase e "items" X.env (eval e X.env) = eval e X.env := by rfl) (hline : (apos.endLine == cpos.line) = true := by rfl) :
    PI X (.Tuple elts kk tpos) (.Call (.Attribute e "items" apos) [] [] cpos) (iItemsT td) := by
  refine ⟨fun pins s σ H R I h => ?_⟩
  refine wpAny_Call_method (T := "dict") (id := "dict.items") hbase rfl hline PySem.F.plainAttrs_dict PySem.F.slot_dict_items PySem.F.type_dict_items (thn (he.run pins s σ H _ I h) fun u s1 ⟨x, H1, I1, rx, d, o, kvs, ex, hd, q⟩ => ?_)
  subst ex
  obtain rfl : u = Value.ref d := rx
  obtain ⟨hs, hgd, hx, es, ep, hdt, hsz, ent⟩ := frzT2 I1 hd
  have hraw : s1.heap.DictRaw d es ep := ⟨o, hgd, hx, hdt⟩
  refine ⟨hraw.typeIs, ?_, ?_⟩
  · intro b hb
    injection hb with hb
    subst hb
    exact ⟨o, hgd, hx.2.1⟩
  have I2 : Inv X pins σ H1 { s1 with heap := s1.heap.push { cls := .type "dict_items", data := .fields #[.ref d] } } := I1.kept (t' := s1.toks) fun b ob q => Heap.get?_push_of_some _ q
  have fin : wpAny (model X.prog X.w) X.A (pyIter (.ref s1.heap.objs.size)) (PIE X pins σ (.Tuple elts kk tpos) R) X.xe { s1 with heap := s1.heap.push { cls := .type "dict_items", data := .fields #[.ref d] } } := by
    refine PySem.wpAny_pyIter_items_raw (d := d) ⟨_, Heap.get?_push_size _ rfl, rfl, rfl⟩ (es := es) (ep := ep) ⟨o, Heap.get?_push_of_some _ hgd, hx, hdt⟩ (pi_one (tk := s1.toks) I2 _ (turn_itemsT _ hdt) ⟨.none, .none, ?_⟩ q)
    rw [← hsz]
    exact Heap.get?_push_size _ rfl
  show wpAny _ _ (callWith cpos (.builtin "dict.items") [.ref d] [] []) _ X.xe s1
  exact method_meetsIn PySem.F.slot_dict_items PySem.F.entry_dict_items rfl (PySem.evalArgs_none ⟨rfl, hraw.typeIs, PySem.F.args_dict_items_1 _, _, PySem.meets_dict_items_raw d hs, ⟨es, ep, hraw⟩, fin⟩)
theorem walk_itemsT {d : Addr} {o : Obj} {kvs : List (List Key × V)} : Walk (ItIT d o kvs) kvs.length (fun H => H d = some (.frz o (.dT kvs))) (fun i H x H' => ∃ (T q : Addr) (k : List Key) (v : V), kvs[i]? = some (k, v) ∧ x = .ref T ∧ H T = none ∧ H' = upd H T (.tup [.ref q, v]) ∧ H q = some (.tup (k.map kV))) :=
  ⟨fun _ _ hi q => ⟨q, hi⟩, fun _ q => ⟨q, Nat.le_refl _⟩, fun _ _ _ _ _ _ y => y⟩
end E

set_option maxRecDepth 100000
set_option maxHeartbeats 4000000
namespace EM
theorem Co.mem {L : List Ln} {E E' : List Int} (h : ∀ x ∈ E, x ∈ E') {p : Int} (c : Co L E p) : Co L E' p := by
  induction c with
  | e he => exact .e (h _ he)
  | s hl _ ih => exact .s hl ih
theorem Good.places {L : List Ln} {E : List Int} (g : Good L E) (hz : ¬ (L = [] ∧ E = [])) {p : Int} (h : PlL L p ∨ p ∈ E) : Reach L p ∧ Co L E p := by
  rcases h with (rfl | ⟨l, hl, rfl | rfl⟩) | h
  · refine ⟨.z, ?_⟩
    rcases g.zero with h | h
    · exact absurd h hz
    · exact h
  · exact (g.at_ l hl).1
  · exact (g.at_ l hl).2
  · exact ⟨g.ends p h, .e h⟩
end EM
namespace E
open PySem PySem.Spec PyProof.Rows L2
abbrev T3 := Int × Nat × Int
def enc3 (x : T3) : PyData := .tuple [.int x.1, .int (x.2.1 : Nat), .int x.2.2]
theorem cr_sort3 {X : Cx} (hu : X.A.units + 64 < cLine) : CallR X (.builtin "sorted") (rSortD X.K enc3) :=
  cr_sortD (fun bs => PySem.W.AllAlike.of fun _ _ => rfl) (fun bs => .inl fun d hd => by
    obtain ⟨b, _, rfl⟩ := List.mem_map.mp hd
    exact ⟨_, _, rfl⟩) (fun b => by show (PyData.tuple _).depth ≤ 2; simp [PyData.depth, PyData.depthAll]) hu
section
variable {P : Program} {w : World} {K : PySem.W.Frag} {mg : Str → Option Value} {base : Heap} {f : Addr} {fd : FuncData}
theorem dps_enc3 {H : Hp} {xs : List V} {fs : List T3} {i : Nat} {v : V} (h : DpAll K H xs (fs.map enc3)) (e : xs[i]? = some v) : ∃ x a, fs[i]? = some x ∧ v = .ref a ∧ SqT K H a [.int x.1, .int (x.2.1 : Nat), .int x.2.2] := by
  obtain ⟨d, h1, h2⟩ := dps_at h e
  rw [List.getElem?_map] at h1
  cases q : fs[i]? with
  | none => rw [q] at h1; cases h1
  | some x =>
    rw [q] at h1
    have h3 : enc3 x = d := Option.some.inj h1
    rw [← h3] at h2
    obtain ⟨a, xs, rfl, h4, h5⟩ := dp_tup h2
    cases h5 with
    | cons p t =>
      cases t with
      | cons p2 t =>
        cases t with
        | cons p3 t =>
          cases t
          rw [dp_int p, dp_int p2, dp_int p3] at h4
          exact ⟨x, a, rfl, rfl, h4⟩
theorem hid_ins {H : Hp} {a b C dx : Addr} {fs : List (Str × V)} {o : HO} (h : H a = some (.ins C dx fs)) (hb : H b = some o) (n : o ≠ .ins C dx fs) : hid [a] H b = some o := by
  have nb : b ≠ a := fun z => by
    rw [z, h] at hb
    exact n (Option.some.inj hb).symm
  rw [hid_at (by simpa using nb)]
  exact hb
theorem sqT_ins {H : Hp} {a b C dx : Addr} {fs : List (Str × V)} {xs : List V} (h : H a = some (.ins C dx fs)) (q : SqT K H b xs) : SqT K (hid [a] H) b xs := by
  rcases q with q | q
  · rcases q with q | ⟨o, q⟩
    · exact .inl (.inl (hid_ins h q (fun z => by cases z)))
    · exact .inl (.inr ⟨o, hid_ins h q (fun z => by cases z)⟩)
  · exact .inr q
theorem sqL_ins {H : Hp} {a b C dx : Addr} {fs : List (Str × V)} {xs : List V} (h : H a = some (.ins C dx fs)) (q : SqL K H b xs) : SqL K (hid [a] H) b xs := by
  rcases q with q | q
  · rcases q with q | ⟨o, q⟩
    · exact .inl (.inl (hid_ins h q (fun z => by cases z)))
    · exact .inl (.inr ⟨o, hid_ins h q (fun z => by cases z)⟩)
  · exact .inr q
mutual
theorem dp_ins {H : Hp} {a C dx : Addr} {fs : List (Str × V)} (h : H a = some (.ins C dx fs)) : ∀ {v : V} {d : PyData}, Dp K H v d → Dp K (hid [a] H) v d
  | _, _, .non => .non
  | _, _, .bl b => .bl b
  | _, _, .int i => .int i
  | _, _, .str x => .str x
  | _, _, .lst q t => .lst (sqL_ins h q) (dps_ins h t)
  | _, _, .tup q t => .tup (sqT_ins h q) (dps_ins h t)
theorem dps_ins {H : Hp} {a C dx : Addr} {fs : List (Str × V)} (h : H a = some (.ins C dx fs)) : ∀ {vs : List V} {ds : List PyData}, DpAll K H vs ds → DpAll K (hid [a] H) vs ds
  | _, _, .nil => .nil
  | _, _, .cons p t => .cons (dp_ins h p) (dps_ins h t)
end
def spMachInit (K : PySem.W.Frag) (C O : Addr) : Sp := fun vs H Q _ => ∃ (a dx oa : Addr) (v ve : V) (ls : List Nat) (L : List Ln) (Es : List Int) (H0 : Hp), vs = [.ref a, .ref oa, v, ve] ∧ H0 a = none ∧ Ex H0 H ∧ H a = some (.ins C dx []) ∧ LsOk ls ∧ OrdAt O H0 oa ls ∧ Dp K H0 v (lnsD L) ∧ Dp K H0 ve (intsD Es) ∧ EM.Raw ls L Es ∧
  ∀ H', Ex H0 H' → (∃ Ls es ps fs td ea la pa lx, MachAt K C O H' a ls L Ls es ps dx fs oa td ea la pa lx ∧ EM.PlS L ps ∧ ps.length ≤ 121) → Q .non H'
def told (ls : List Nat) (l : Ln) : T3 := (l.1, ls.idxOf l.2.1, l.2.2)
theorem scMInit : FnScope ["self", "order", "lanes", "ends", "told", "numbers", "q", "p", "letter", "at"] ["self", "order", "lanes", "ends"] (defScope (inClass (top 41) 0)) := ⟨rfl, rfl, rfl, by decide +kernel, rfl, by decide +kernel, by decide +kernel⟩
theorem ok_mach_init {C O : Addr} (T : Frees mg) (D1 : DfP K mg "is_number" 3) (D2 : DfP K mg "is_list" 4) (D3 : DfP K mg "is_lane" 36) (D4 : DfP K mg "frozen_lanes" 39) (D5 : DfP K mg "frozen_ends" 40) (D6 : DfP K mg "come_to" 26) (M : MachC K mg C) (OC : OrdC K mg O) (F : FnP K "__init__" "Machine.__init__" (inClass (top 41) 0) f fd) : FnOk P w K mg base CX0 4 f fd ["self", "order", "lanes", "ends"] (spMachInit K C O) := by
  refine F.ok scMInit (fun vs H Q E h => ?_) (fun cdv A outer s H vs Q E hr h => ?_)
  · obtain ⟨_, _, _, _, _, _, _, _, _, rfl, _⟩ := h
    rfl
  · obtain ⟨a, dx, oa, v, ve, ls, L, Es, H0, rfl, h0a, e0, ha, hL, ho, hv, hve, hR, q⟩ := h
    have hu := hr.u1
    have hu64 := hr.units
    have Dl : Df P w K mg base "frozen_lanes" 3 _ _ := d_frozen_lanes T D1 D2 D3 OC D4
    have De : Df P w K mg base "frozen_ends" 2 _ _ := d_frozen_ends T D1 D5
    have Di : DmP P w K mg base C "check_idle" 2 _ _ := d_idle T D6 M OC
    refine ⟨_, PSs.nox (pss_cons (ps_fld (pv 0) (pv 1) rfl)
      (pss_cons (ps_fld (pv 0) (pe_df Dl (hr.mono (by decide)) rfl (pa_cons (pv 1) (pa_cons (pv 2) pa_nil))) rfl)
      (pss_cons (ps_fld (pv 0) (pe_df De (hr.mono (by decide)) rfl (pa_cons (pv 3) pa_nil)) rfl)
      (pss_cons (ps_lock (ps_setLcD (i := 4) (own := [("q", 6), ("p", 7), ("letter", 8)]) s H rfl scMInit.nd rfl rfl (sw_true rfl rfl rfl (by decide +kernel)) (pi_itemsT (pe_fld (pv 0) rfl)) (blkOk_by (own := [("q", 6), ("p", 7), ("letter", 8)]) (N := ["self", "order", "lanes", "ends", "told", "numbers", "q", "p", "letter", "at"]) (sc := (defScope (inClass (top 41) 0))) (by decide +kernel)) (pg_tup rfl (pgs_cons (pg_tup rfl (pgs_cons (pg_name (i := 7) scMInit.nd rfl (Or.inl rfl)) (pgs_cons (pg_name (i := 8) scMInit.nd rfl (Or.inl rfl)) pgs_nil))) (pgs_cons (pg_name (i := 6) scMInit.nd rfl (Or.inl rfl)) pgs_nil))) pts_nil (pe_tup (pa_cons (pv 7) (pa_cons (pe_dget hu (pe_fld (pv 1) rfl) (pv 8) (fun _ _ => rfl)) (pa_cons (pv 6) pa_nil)))) (fun _ _ _ _ _ => (pg_tup rfl (pgs_cons (pg_tup rfl (pgs_cons (pg_name (i := 7) scMInit.nd rfl (Or.inl rfl)) (pgs_cons (pg_name (i := 8) scMInit.nd rfl (Or.inl rfl)) pgs_nil))) (pgs_cons (pg_name (i := 6) scMInit.nd rfl (Or.inl rfl)) pgs_nil)))) (fun _ _ _ _ _ => pts_nil) (fun _ _ _ _ _ => (pe_tup (pa_cons (pv 7) (pa_cons (pe_dget hu (pe_fld (pv 1) rfl) (pv 8) (fun _ _ => rfl)) (pa_cons (pv 6) pa_nil)))))))
      (pss_cons (ps_fld (pv 0) (pe_callTy call_tuple_of (by rfl) T.tuple boot_tuple (pa_cons (pe_lcD (own := [("p", 7), ("at", 9), ("q", 6)]) s H rfl scMInit.nd (pi_list (pe_callB (cr_sort3 hu64) (by rfl) T.sorted boot_sorted (pa_cons (pv 4) pa_nil))) (blkOk_by (own := [("p", 7), ("at", 9), ("q", 6)]) (N := ["self", "order", "lanes", "ends", "told", "numbers", "q", "p", "letter", "at"]) (sc := (defScope (inClass (top 41) 0))) (by decide +kernel)) (pg_tup rfl (pgs_cons (pg_name (i := 7) scMInit.nd rfl (Or.inl rfl)) (pgs_cons (pg_name (i := 9) scMInit.nd rfl (Or.inl rfl)) (pgs_cons (pg_name (i := 6) scMInit.nd rfl (Or.inl rfl)) pgs_nil)))) pts_nil (pe_tup (pa_cons (pv 7) (pa_cons (pe_ix ix_str (pe_fld (pv 1) rfl) (pv 9) (fun _ _ => rfl)) (pa_cons (pv 6) pa_nil)))) (fun _ _ _ _ _ => (pg_tup rfl (pgs_cons (pg_name (i := 7) scMInit.nd rfl (Or.inl rfl)) (pgs_cons (pg_name (i := 9) scMInit.nd rfl (Or.inl rfl)) (pgs_cons (pg_name (i := 6) scMInit.nd rfl (Or.inl rfl)) pgs_nil))))) (fun _ _ _ _ _ => pts_nil) (fun _ _ _ _ _ => (pe_tup (pa_cons (pv 7) (pa_cons (pe_ix ix_str (pe_fld (pv 1) rfl) (pv 9) (fun _ _ => rfl)) (pa_cons (pv 6) pa_nil)))))) pa_nil)) rfl)
      (pss_cons (ps_set (i := 5) scMInit.nd rfl (Or.inl rfl) (pe_op op_cat (pe_op op_cat (pe_op op_cat (pe_lst (pa_cons pe_int pa_nil)) (pe_lcD (own := [("p", 7), ("at", 9), ("q", 6)]) s H rfl scMInit.nd (pi_list (pv 4)) (blkOk_by (own := [("p", 7), ("at", 9), ("q", 6)]) (N := ["self", "order", "lanes", "ends", "told", "numbers", "q", "p", "letter", "at"]) (sc := (defScope (inClass (top 41) 0))) (by decide +kernel)) (pg_tup rfl (pgs_cons (pg_name (i := 7) scMInit.nd rfl (Or.inl rfl)) (pgs_cons (pg_name (i := 9) scMInit.nd rfl (Or.inl rfl)) (pgs_cons (pg_name (i := 6) scMInit.nd rfl (Or.inl rfl)) pgs_nil)))) pts_nil (pv 7) (fun _ _ _ _ _ => (pg_tup rfl (pgs_cons (pg_name (i := 7) scMInit.nd rfl (Or.inl rfl)) (pgs_cons (pg_name (i := 9) scMInit.nd rfl (Or.inl rfl)) (pgs_cons (pg_name (i := 6) scMInit.nd rfl (Or.inl rfl)) pgs_nil))))) (fun _ _ _ _ _ => pts_nil) (fun _ _ _ _ _ => (pv 7)))) (pe_lcD (own := [("p", 7), ("at", 9), ("q", 6)]) s H rfl scMInit.nd (pi_list (pv 4)) (blkOk_by (own := [("p", 7), ("at", 9), ("q", 6)]) (N := ["self", "order", "lanes", "ends", "told", "numbers", "q", "p", "letter", "at"]) (sc := (defScope (inClass (top 41) 0))) (by decide +kernel)) (pg_tup rfl (pgs_cons (pg_name (i := 7) scMInit.nd rfl (Or.inl rfl)) (pgs_cons (pg_name (i := 9) scMInit.nd rfl (Or.inl rfl)) (pgs_cons (pg_name (i := 6) scMInit.nd rfl (Or.inl rfl)) pgs_nil)))) pts_nil (pv 6) (fun _ _ _ _ _ => (pg_tup rfl (pgs_cons (pg_name (i := 7) scMInit.nd rfl (Or.inl rfl)) (pgs_cons (pg_name (i := 9) scMInit.nd rfl (Or.inl rfl)) (pgs_cons (pg_name (i := 6) scMInit.nd rfl (Or.inl rfl)) pgs_nil))))) (fun _ _ _ _ _ => pts_nil) (fun _ _ _ _ _ => (pv 6)))) (pe_callTy call_list_of (by rfl) T.list boot_list (pa_cons (pe_fld (pv 0) rfl) pa_nil))))
      (pss_cons (ps_fld (pv 0) (pe_callTy call_tuple_of (by rfl) T.tuple boot_tuple (pa_cons (pe_callB (cr_sortedSet rfl) (by rfl) T.sorted boot_sorted (pa_cons (pe_callTy (cr_setI rfl) (by rfl) T.set boot_set (pa_cons (pv 5) pa_nil)) pa_nil)) pa_nil)) rfl)
      (pss_one (ps_if (PW.pt (pw_or (pt_cmpR (op_neD hu64) (pe_fld (pv 0) rfl) (pe_tup pa_nil) (nomark _)) (pw_or1 (pt_cmpR (op_neD hu64) (pe_fld (pv 0) rfl) (pe_tup pa_nil) (nomark _))))) (pss_one (ps_expr (pe_dm0 Di (hr.mono (by decide)) (pv 0)))) pss_nil))))))))), ?_⟩
    have zL := hR.zL
    have hdet := hR.good.det
    let S : List Int := 0 :: L.map (·.2.2)
    have hS61 : S.length ≤ 61 := by
      show (0 :: L.map (·.2.2)).length ≤ 61
      rw [List.length_cons, List.length_map]
      omega
    have reS : ∀ p, EM.Reach L p → p ∈ S := fun p hp => by
      rcases reach_last hp with h | ⟨l, hl, h⟩
      · rw [h]; exact List.mem_cons_self
      · exact List.mem_cons_of_mem _ (List.mem_map.mpr ⟨l, hl, h⟩)
    have plS : ∀ p, EM.PlL L p → p ∈ S := fun p hp => by
      rcases hp with rfl | ⟨l, hl, rfl | rfl⟩
      · exact List.mem_cons_self
      · exact reS _ (hR.good.at_ l hl).1.1
      · exact reS _ (hR.good.at_ l hl).2.1
    -- order
    refine ⟨_, rfl, _, rfl, a, C, dx, _, rfl, ha, M.cls, M.no, (by show (0 : Nat) < 1000; decide), ?_⟩
    have e1 := ex_upd (o := .ins C dx (putF "order" (.ref oa) [])) e0 h0a
    -- targets
    refine ⟨_, rfl, _, rfl, oa, v, ls, L, rfl, ho.ex e1, dp_mono e1 hv, fun l hl => ⟨hR.lets l hl, hR.pos l hl⟩, hdet, by omega, fun td H2 htd e2 htd2 => ?_⟩
    have ha2 := e2 _ _ (upd_same (H := H) (a := a) (o := .ins C dx (putF "order" (.ref oa) [])))
    have h0td : H0 td = none := ex_none e1 htd
    have hatd : a ≠ td := (upd_nn htd).1.symm
    refine ⟨_, rfl, a, C, dx, _, rfl, ha2, M.cls, M.nt, (by show (1 : Nat) < 1000; decide), ?_⟩
    have e3 := ex_upd (o := .ins C dx (putF "targets" (.ref td) (putF "order" (.ref oa) []))) (e1.trans e2) h0a
    have htd3 : (upd H2 a (.ins C dx (putF "targets" (.ref td) (putF "order" (.ref oa) [])))) td = some (.dT (L.map tgt)) := by rw [upd_ne hatd.symm]; exact htd2
    -- ends
    refine ⟨_, rfl, ve, Es, S, rfl, dp_mono e3 hve, fun e he => ⟨hR.epos e he, reS _ (hR.good.ends e he)⟩, by omega, by have := hR.zE; omega, fun ea es H4 hea e4 hespw hesm hesT => ?_⟩
    have ha4 := e4 _ _ (upd_same (H := H2) (a := a) (o := .ins C dx (putF "targets" (.ref td) (putF "order" (.ref oa) []))))
    have haea : a ≠ ea := (upd_nn hea).1.symm
    refine ⟨_, rfl, a, C, dx, _, rfl, ha4, M.cls, M.ne, (by show (2 : Nat) < 1000; decide), ?_⟩
    have e5 := ex_upd (o := .ins C dx (putF "ends" (.ref ea) (putF "targets" (.ref td) (putF "order" (.ref oa) [])))) (e3.trans e4) h0a
    have htd5 : (upd H4 a (.ins C dx (putF "ends" (.ref ea) (putF "targets" (.ref td) (putF "order" (.ref oa) []))))) td = some (.dT (L.map tgt)) := by rw [upd_ne hatd.symm]; exact e4 _ _ htd3
    have hesT5 : TupD (upd H4 a (.ins C dx (putF "ends" (.ref ea) (putF "targets" (.ref td) (putF "order" (.ref oa) []))))) ea (es.map V.int) := by
      obtain ⟨o, h1, h2⟩ := hesT
      exact ⟨o, by rw [upd_ne haea.symm]; exact h1, h2⟩
    have ha5 : (upd H4 a (.ins C dx (putF "ends" (.ref ea) (putF "targets" (.ref td) (putF "order" (.ref oa) []))))) a = some (.ins C dx (putF "ends" (.ref ea) (putF "targets" (.ref td) (putF "order" (.ref oa) [])))) := upd_same
    generalize upd H4 a (.ins C dx (putF "ends" (.ref ea) (putF "targets" (.ref td) (putF "order" (.ref oa) [])))) = H5 at e5 htd5 hesT5 ha5 ⊢
    -- told
    obtain ⟨odx, ofs, odd, okv, hoa, hol, hor, hocn, hod, hov⟩ := id ho
    refine ⟨td, .dT (L.map tgt), htd5, trivial, fun od => ?_⟩
    have hlk : (upd H5 td (.frz od (.dT (L.map tgt)))) td = some (.frz od (.dT (L.map tgt))) := upd_same
    have halk : (upd H5 td (.frz od (.dT (L.map tgt)))) a = some (.ins C dx (putF "ends" (.ref ea) (putF "targets" (.ref td) (putF "order" (.ref oa) [])))) := by rw [upd_ne hatd]; exact ha5
    have elk := ex_upd (o := .frz od (.dT (L.map tgt))) e5 h0td
    refine ⟨_, rfl, a, C, dx, _, _, rfl, halk, M.cls, M.nt, rfl, td, od, _, rfl, hlk, fun D hD => ?_⟩
    refine lc_dataS (K := K) [td] walk_itemsT L (fun l => [enc3 (told ls l)]) (by rw [List.length_map]) (by rw [List.length_map]; omega) hD (fun H6 e => e _ _ hlk) ?_ ?_
    · rintro i l x H6 H' Nx hi e6 ⟨accv, hacc⟩ ⟨T1, kq, k, v', hkv, rfl, hT1, rfl, hkq⟩ put skip
      have hlk6 := e6 _ _ hlk
      rw [List.getElem?_map, hi] at hkv
      injection hkv with hkv
      injection hkv with hk1 hk2
      subst hk1
      subst hk2
      have en := Evl.Ex.new (o := .tup [.ref kq, .int l.2.2]) hT1
      have e06 := (elk.trans e6).trans en
      have hc := hR.lets l (List.mem_of_getElem? hi)
      have hdg : DGet (upd H6 T1 (.tup [.ref kq, .int l.2.2])) odd (.str (chS l.2.1)) (some (.int (ls.idxOf l.2.1 : Nat))) := by
        have h1 := DGet.k (k := .inr (chS l.2.1)) (e06 _ _ hod)
        rw [hov, if_pos hc] at h1
        exact h1
      refine ⟨T1, _, rfl, SqT.of upd_same, rfl, _, _, rfl, ⟨kq, _, rfl, SqT.of (en _ _ hkq), rfl, _, _, rfl, _, _, rfl, rfl, ?_⟩⟩
      refine ⟨_, _, rfl, rfl, rfl, _, rfl, _, rfl, oa, O, odx, ofs, _, rfl, e06 _ _ hoa, OC.cls, OC.nr, hor, _, rfl, odd, _, rfl, hdg, _, rfl, len3 _ _ _, fun t ht => ?_⟩
      have htD : t ≠ D := (ne_of_none (en _ _ hacc) ht).symm
      refine put _ _ _ (en.trans (Evl.Ex.new ht)) rfl (.tup (SqT.of (by rw [hid_at (by simp [htD, (ne_of_none (en _ _ hlk6) ht).symm]), upd_same] <;> rfl)) (.cons (.int _) (.cons (.int _) (.cons (.int _) .nil))))
    intro H6 acc e6 hacc hAcc
    rw [flat_one] at hAcc
    have hAcc' := dps_hid hAcc
    have htl : (L.map fun l => enc3 (told ls l)) = (L.map (told ls)).map enc3 := by rw [List.map_map] <;> rfl
    rw [htl] at hAcc hAcc'
    refine ⟨e6 _ _ hlk, ?_⟩
    obtain ⟨hDtd, hD5⟩ := upd_nn hD
    have e7 := ex_upd (o := .dT (L.map tgt)) (elk.trans e6) h0td
    have hk7 : ∀ b o, b ≠ td → H5 b = some o → (upd H6 td (.dT (L.map tgt))) b = some o := fun b o nb hb => by
      rw [upd_ne nb]
      exact e6 _ _ (by rw [upd_ne nb]; exact hb)
    have ha7 := hk7 _ _ hatd ha5
    have htd7 : (upd H6 td (.dT (L.map tgt))) td = some (.dT (L.map tgt)) := upd_same
    have heatd : ea ≠ td := fun z => by
      obtain ⟨o, h1, _⟩ := hesT5
      rw [z, htd5] at h1
      cases h1
    have hes7 : TupD (upd H6 td (.dT (L.map tgt))) ea (es.map V.int) := by
      obtain ⟨o, h1, h2⟩ := hesT5
      exact ⟨o, hk7 _ _ heatd h1, h2⟩
    have hD7 : (upd H6 td (.dT (L.map tgt))) D = some (.lst acc) := by rw [upd_ne hDtd]; exact hacc
    have hA7 : DpAll K (upd H6 td (.dT (L.map tgt))) acc ((L.map (told ls)).map enc3) := by
      refine dps_mono (fun b o hb => ?_) hAcc
      unfold hid at hb
      split at hb
      · cases hb
      · rename_i hn
        rw [upd_ne (fun z => hn (by simp [z]))]
        exact hb
    generalize upd H6 td (.dT (L.map tgt)) = H7 at e7 ha7 htd7 hes7 hD7 hA7 ⊢
    have hhid : True := trivial
    -- the lanes sorted
    refine ⟨_, rfl, D, acc, L.map (told ls), rfl, .inl (SqL.of hD7), hA7, fun p2 ys hp2 hY => ?_⟩
    have hpm : ((L.map (told ls)).mergeSort (PySem.W.dataLe false enc3)).Perm (L.map (told ls)) := List.mergeSort_perm _ _
    generalize (L.map (told ls)).mergeSort (PySem.W.dataLe false enc3) = sr at hY hpm
    have hyl : ys.length = sr.length := by rw [dps_len hY, List.length_map]
    have hsl : sr.length = L.length := by rw [hpm.length_eq, List.length_map]
    have eP := Evl.Ex.new (o := .lst ys) hp2
    have hS2 : SqL K (upd H7 p2 (.lst ys)) p2 ys := SqL.of upd_same
    refine ⟨p2, rfl, ⟨_, hS2⟩, fun D2 hD2 => ?_⟩
    let back : T3 → Ln := fun x => (x.1, ls.getD x.2.1 0, x.2.2)
    have hback : (L.map (told ls)).map back = L := by
      rw [List.map_map]
      conv => rhs; rw [← List.map_id L]
      refine List.map_congr_left fun l hl => ?_
      have hlt : ls.idxOf l.2.1 < ls.length := List.idxOf_lt_length_iff.mpr (hR.lets l hl)
      show (l.1, ls.getD (ls.idxOf l.2.1) 0, l.2.2) = l
      rw [List.getD_eq_getElem?_getD, List.getElem?_eq_getElem hlt]
      show (l.1, ls[ls.idxOf l.2.1], l.2.2) = l
      rw [List.getElem_idxOf hlt]
    have hLs : (sr.map back).Perm L := by
      have := hpm.map back
      rw [hback] at this
      exact this
    have hdat := dps_mono eP hY
    refine lc_data (K := K) (walk_list (xs := ys)) sr (fun x => [lnD (back x)]) hyl (by omega) hD2 (fun H8 e => Evl.ex_l e hS2) ?_ ?_
    · rintro i x y H8 H' Nx hi e8 ⟨accv, hacc⟩ ⟨rfl, hx⟩ put skip
      obtain ⟨x', b, hx', rfl, hT⟩ := dps_enc3 hdat hx
      rw [hi] at hx'
      obtain rfl := Option.some.inj hx'
      obtain ⟨l, hl, rfl⟩ := List.mem_map.mp (hpm.mem_iff.mp (List.mem_of_getElem? hi))
      have hlt : ls.idxOf l.2.1 < ls.length := List.idxOf_lt_length_iff.mpr (hR.lets l hl)
      have hge : ls[ls.idxOf l.2.1]? = some l.2.1 := by rw [List.getElem?_eq_getElem hlt, List.getElem_idxOf hlt]
      have e08 := (e7.trans eP).trans e8
      refine ⟨b, _, rfl, Evl.ex_t e8 hT, rfl, _, _, rfl, _, _, rfl, _, _, rfl, rfl, rfl, ?_⟩
      refine ⟨_, rfl, _, rfl, oa, O, odx, ofs, _, rfl, e08 _ _ hoa, OC.cls, OC.nl, hol, _, rfl, wS ls, _, l.2.1, rfl, rfl, by rw [wS_len]; exact sz_of (by have := hL.len; omega), by rw [wS_cps]; exact atI_nat hge, _, rfl, len3 _ _ _, fun t ht => ?_⟩
      have htD : t ≠ D2 := (ne_of_none hacc ht).symm
      refine put _ _ _ (Evl.Ex.new ht) rfl (dp_ln_mk (SqT.of ?_))
      rw [hid_at (by simpa using htD), upd_same]
      show some (HO.tup [V.int l.1, V.str (chS l.2.1), V.int l.2.2]) = some (HO.tup [V.int l.1, V.str (chS (ls.getD (ls.idxOf l.2.1) 0)), V.int l.2.2])
      rw [List.getD_eq_getElem?_getD, hge]
      rfl
    intro H8 acc8 e8 hacc8 hAcc8
    rw [flat_one] at hAcc8
    have hAcc8' := dps_hid hAcc8
    have hbl : (sr.map fun x => lnD (back x)) = (sr.map back).map lnD := by rw [List.map_map] <;> rfl
    rw [hbl] at hAcc8'
    have e08 := (e7.trans eP).trans e8
    have ha8 := (eP.trans e8) _ _ ha7
    refine ⟨D2, acc8, rfl, .inl ⟨SqL.of hacc8, fun la hla => ?_⟩⟩
    have enl := Evl.Ex.new (o := .tup acc8) hla
    refine ⟨_, rfl, a, C, dx, _, rfl, enl _ _ ha8, M.cls, M.nl, (by show (3 : Nat) < 1000; decide), ?_⟩
    have hala : a ≠ la := ne_of_none ha8 hla
    have e9 := ex_upd (o := .ins C dx (putF "lanes" (.ref la) (putF "ends" (.ref ea) (putF "targets" (.ref td) (putF "order" (.ref oa) []))))) (e08.trans enl) h0a
    have ha9 : (upd (upd H8 la (.tup acc8)) a (.ins C dx (putF "lanes" (.ref la) (putF "ends" (.ref ea) (putF "targets" (.ref td) (putF "order" (.ref oa) [])))))) a = some (.ins C dx (putF "lanes" (.ref la) (putF "ends" (.ref ea) (putF "targets" (.ref td) (putF "order" (.ref oa) []))))) := upd_same
    have hk9 : ∀ b o, b ≠ a → H7 b = some o → (upd (upd H8 la (.tup acc8)) a (.ins C dx (putF "lanes" (.ref la) (putF "ends" (.ref ea) (putF "targets" (.ref td) (putF "order" (.ref oa) [])))))) b = some o := fun b o nb hb => by
      rw [upd_ne nb]
      exact enl _ _ ((eP.trans e8) _ _ hb)
    have hla9 : (upd (upd H8 la (.tup acc8)) a (.ins C dx (putF "lanes" (.ref la) (putF "ends" (.ref ea) (putF "targets" (.ref td) (putF "order" (.ref oa) [])))))) la = some (.tup acc8) := by rw [upd_ne hala.symm, upd_same]
    have htd9 := hk9 _ _ hatd.symm htd7
    have hes9 : TupD (upd (upd H8 la (.tup acc8)) a (.ins C dx (putF "lanes" (.ref la) (putF "ends" (.ref ea) (putF "targets" (.ref td) (putF "order" (.ref oa) [])))))) ea (es.map V.int) := by
      obtain ⟨o, h1, h2⟩ := hes7
      exact ⟨o, hk9 _ _ haea.symm h1, h2⟩
    have hDa : D ≠ a := fun z => by rw [z, ha7] at hD7; cases hD7
    have hD9 := hk9 _ _ hDa hD7
    have hex9 : Ex (hid [a] H7) (upd (upd H8 la (.tup acc8)) a (.ins C dx (putF "lanes" (.ref la) (putF "ends" (.ref ea) (putF "targets" (.ref td) (putF "order" (.ref oa) [])))))) := fun b o hb => by
      unfold hid at hb
      split at hb
      · cases hb
      · rename_i hn
        exact hk9 b o (by simpa using hn) hb
    have hex98 : Ex (hid [a] H8) (upd (upd H8 la (.tup acc8)) a (.ins C dx (putF "lanes" (.ref la) (putF "ends" (.ref ea) (putF "targets" (.ref td) (putF "order" (.ref oa) [])))))) := fun b o hb => by
      unfold hid at hb
      split at hb
      · cases hb
      · rename_i hn
        rw [upd_ne (by simpa using hn)]
        exact enl _ _ hb
    have hA9 := dps_mono hex9 (dps_ins ha7 hA7)
    have hL9 := dps_mono hex98 (dps_ins ha8 hAcc8')
    generalize upd (upd H8 la (.tup acc8)) a (.ins C dx (putF "lanes" (.ref la) (putF "ends" (.ref ea) (putF "targets" (.ref td) (putF "order" (.ref oa) []))))) = H9 at e9 ha9 hla9 htd9 hes9 hD9 hA9 hL9 ⊢
    have hxl : acc.length = L.length := by rw [dps_len hA9, List.length_map, List.length_map]
    -- the numbers
    refine ⟨len1 _, fun n0 hn0 => ?_⟩
    have en0 := Evl.Ex.new (o := .lst [.int 0]) hn0
    refine ⟨_, rfl, D, rfl, ⟨_, SqL.of (en0 _ _ hD9)⟩, fun N1 hN1 => ?_⟩
    refine lc_data (K := K) (walk_list (xs := acc)) L (fun l => [PyData.int l.1]) hxl (by omega) hN1 (fun H10 e => SqL.of (e _ _ (en0 _ _ hD9))) ?_ ?_
    · rintro i l x H10 H' Nx hi e10 _ ⟨rfl, hx⟩ put skip
      obtain ⟨x', b, hx', rfl, hT⟩ := dps_enc3 (dps_mono (en0.trans e10) hA9) hx
      rw [List.getElem?_map, hi] at hx'
      obtain rfl := Option.some.inj hx'
      exact ⟨b, _, rfl, hT, rfl, _, _, rfl, _, _, rfl, _, _, rfl, rfl, rfl, _, rfl, put _ _ _ (Evl.Ex.refl _) rfl (.int _)⟩
    intro H10 acc10 e10 hacc10 hAcc10
    rw [flat_one] at hAcc10
    have hi10 : acc10 = (L.map (·.1)).map V.int := by
      have h2 : (L.map fun l => PyData.int l.1) = (L.map (·.1)).map PyData.int := by rw [List.map_map] <;> rfl
      have h1 := dps_hid hAcc10
      rw [h2] at h1
      exact dps_ints h1
    subst hi10
    have e010 := en0.trans e10
    refine ⟨n0, N1, _, _, rfl, rfl, e10 _ _ upd_same, hacc10, sz_of (by simp; omega), fun N2 hN2 => ?_⟩
    have e011 := e010.trans (Evl.Ex.new (o := .lst ([V.int 0] ++ (L.map (·.1)).map V.int)) hN2)
    refine ⟨_, rfl, D, rfl, ⟨_, SqL.of (e011 _ _ hD9)⟩, fun N3 hN3 => ?_⟩
    refine lc_data (K := K) (walk_list (xs := acc)) L (fun l => [PyData.int l.2.2]) hxl (by omega) hN3 (fun H11 e => SqL.of (e _ _ (e011 _ _ hD9))) ?_ ?_
    · rintro i l x H11 H' Nx hi e11 _ ⟨rfl, hx⟩ put skip
      obtain ⟨x', b, hx', rfl, hT⟩ := dps_enc3 (dps_mono (e011.trans e11) hA9) hx
      rw [List.getElem?_map, hi] at hx'
      obtain rfl := Option.some.inj hx'
      exact ⟨b, _, rfl, hT, rfl, _, _, rfl, _, _, rfl, _, _, rfl, rfl, rfl, _, rfl, put _ _ _ (Evl.Ex.refl _) rfl (.int _)⟩
    intro H11 acc11 e11 hacc11 hAcc11
    rw [flat_one] at hAcc11
    have hi11 : acc11 = (L.map (·.2.2)).map V.int := by
      have h2 : (L.map fun l => PyData.int l.2.2) = (L.map (·.2.2)).map PyData.int := by rw [List.map_map] <;> rfl
      have h1 := dps_hid hAcc11
      rw [h2] at h1
      exact dps_ints h1
    subst hi11
    refine ⟨N2, N3, _, _, rfl, rfl, e11 _ _ upd_same, hacc11, sz_of (by simp; omega), fun N4 hN4 => ?_⟩
    have e012 := (e011.trans e11).trans (Evl.Ex.new (o := .lst ([V.int 0] ++ (L.map (·.1)).map V.int ++ (L.map (·.2.2)).map V.int)) hN4)
    have hesz : es.length ≤ 61 := by
      refine Nat.le_trans (EM.nodup_le (l2 := S) (hespw.imp fun h => by omega) fun x hx => ?_) hS61
      exact reS _ (hR.good.ends x ((hesm x).mp hx))
    refine ⟨_, rfl, a, C, dx, _, _, rfl, e012 _ _ ha9, M.cls, M.ne, rfl, ea, es.map V.int, rfl, .inr (Evl.ex_t e012 hes9.sq), fun N5 hN5 => ?_⟩
    have e013 := e012.trans (Evl.Ex.new (o := .lst (es.map V.int)) hN5)
    refine ⟨N4, N5, _, _, rfl, rfl, Evl.Ex.new hN5 _ _ upd_same, upd_same, sz_of (by simp; omega), fun N6 hN6 => ?_⟩
    have e014 := e013.trans (Evl.Ex.new (o := .lst ([V.int 0] ++ (L.map (·.1)).map V.int ++ (L.map (·.2.2)).map V.int ++ es.map V.int)) hN6)
    let NS : List Int := 0 :: (L.map (·.1) ++ L.map (·.2.2) ++ es)
    have hNS : ([V.int 0] ++ (L.map (·.1)).map V.int ++ (L.map (·.2.2)).map V.int ++ es.map V.int) = NS.map V.int := by simp [NS]
    have hNSm : ∀ x, x ∈ NS ↔ EM.PlL L x := fun x => by
      show x ∈ 0 :: (L.map (·.1) ++ L.map (·.2.2) ++ es) ↔ _
      simp only [List.mem_cons, List.mem_append, List.mem_map]
      constructor
      · rintro (h | (⟨l, hl, h⟩ | ⟨l, hl, h⟩) | h)
        · exact .inl h
        · exact .inr ⟨l, hl, .inl h.symm⟩
        · exact .inr ⟨l, hl, .inr h.symm⟩
        · exact reach_pl (hR.good.ends x ((hesm x).mp h))
      · rintro (h | ⟨l, hl, h | h⟩)
        · exact .inl h
        · exact .inr (.inl (.inl ⟨l, hl, h.symm⟩))
        · exact .inr (.inl (.inr ⟨l, hl, h.symm⟩))
    -- the places
    refine ⟨_, rfl, N6, NS, rfl, SqL.of (by rw [upd_same, hNS]), by simp [NS]; omega, fun sp_ l hsp hnd hl => ?_⟩
    have hl64 : l.length < 64 := Nat.lt_of_le_of_lt (EM.nodup_le (l2 := S) hnd fun x hx => plS x ((hNSm x).mp ((hl x).mp hx))) (by omega)
    refine ⟨sp_, _, _, rfl, upd_same, hl64, fun ps p3 hpw hmem hlen hp3 => ?_⟩
    refine ⟨p3, _, rfl, .inl ⟨SqL.of upd_same, fun pa hpa => ?_⟩⟩
    have e15 := (((e014.trans (Evl.Ex.new hsp)).trans (Evl.Ex.new (o := .lst (ps.map V.int)) hp3)).trans (Evl.Ex.new (o := .tup (ps.map V.int)) hpa))
    have ha15 := e15 _ _ ha9
    refine ⟨_, rfl, a, C, dx, _, rfl, ha15, M.cls, M.np, (by show (4 : Nat) < 1000; decide), ?_⟩
    have hapa : a ≠ pa := ne_of_none (((e014.trans (Evl.Ex.new hsp)).trans (Evl.Ex.new (o := .lst (ps.map V.int)) hp3)) _ _ ha9) hpa
    have e16 := ex_upd (o := .ins C dx (putF "places" (.ref pa) (putF "lanes" (.ref la) (putF "ends" (.ref ea) (putF "targets" (.ref td) (putF "order" (.ref oa) [])))))) (e9.trans e15) h0a
    have hpl : EM.PlS L ps := ⟨hpw, fun x => by rw [hmem x]; simp [hNSm x]⟩
    have hpsz : ps.length ≤ 121 := by rw [hlen]; omega
    have hala9 : la ≠ a := fun z => by rw [z, ha9] at hla9; cases hla9
    let fs5 : List (Str × V) := putF "places" (.ref pa) (putF "lanes" (.ref la) (putF "ends" (.ref ea) (putF "targets" (.ref td) (putF "order" (.ref oa) []))))
    have hk16 := fun (b : Addr) (o : HO) (nb : b ≠ a) (hb : H9 b = some o) => (upd_ne (o := HO.ins C dx (putF "places" (.ref pa) (putF "lanes" (.ref la) (putF "ends" (.ref ea) (putF "targets" (.ref td) (putF "order" (.ref oa) [])))))) nb).trans (e15 b o hb)
    generalize hG : upd (upd _ pa (HO.tup (ps.map V.int))) a (HO.ins C dx (putF "places" (.ref pa) (putF "lanes" (.ref la) (putF "ends" (.ref ea) (putF "targets" (.ref td) (putF "order" (.ref oa) [])))))) = H16 at e16 hk16 ⊢
    have ha16 : H16 a = some (.ins C dx (putF "places" (.ref pa) (putF "lanes" (.ref la) (putF "ends" (.ref ea) (putF "targets" (.ref td) (putF "order" (.ref oa) [])))))) := by rw [← hG, upd_same]
    have hpa16 : H16 pa = some (.tup (ps.map V.int)) := by rw [← hG, upd_ne hapa.symm, upd_same]
    have hex16 : Ex (hid [a] H9) H16 := fun b o hb => by
      unfold hid at hb
      split at hb
      · cases hb
      · rename_i hn
        exact hk16 b o (by simpa using hn) hb
    have hL16 := dps_mono hex16 (dps_ins ha9 hL9)
    have hes16 : SqT K H16 ea (es.map V.int) := Evl.ex_t hex16 (sqT_ins ha9 hes9.sq)
    have hla16 := hk16 _ _ hala9 hla9
    have htd16 := hk16 _ _ hatd.symm htd9
    have hM : MachAt K C O H16 a ls L (sr.map back) es ps dx (putF "places" (.ref pa) (putF "lanes" (.ref la) (putF "ends" (.ref ea) (putF "targets" (.ref td) (putF "order" (.ref oa) []))))) oa td ea la pa acc8 :=
      ⟨ha16, rfl, rfl, rfl, rfl, rfl, rfl, rfl, ho.ex e16, htd16, hes16, SqT.of hla16, hL16, hLs, SqT.of hpa16⟩
    have fin : ∀ H', Ex H16 H' → Q .non H' := fun H' e => q H' (e16.trans e) ⟨_, _, _, _, _, _, _, _, _, hM.ex e, hpl, hpsz⟩
    have idl : ¬ (L = [] ∧ Es = []) → ∀ H', Ex H16 H' → spIdle K C O [V.ref a] H' (fun _ H2 => Q .non H2) E0 := fun hz H' e =>
      ⟨a, ls, L, sr.map back, es, ps, dx, _, oa, td, ea, la, pa, acc8, rfl, hM.ex e, hL, hdet, hR.lets, zL, hespw.imp (fun h => by omega), by omega, fun p hp => by
        obtain ⟨h1, h2⟩ := hR.good.places hz (.inl ((hpl.mem p).mp hp))
        exact ⟨h1, h2.mem fun x hx => (hesm x).mpr hx⟩, fun H2 e2 => fin H2 (e.trans e2)⟩
    have okl : okD 1 (.tuple []) := okD.tup (n := 0) fun d h => by cases h
    have shl : SeqAt.shaped (.tuple ((sr.map back).map lnD)) = true := by
      refine (okD.tup (n := 1) (okD.map fun l hl => okD.tup (n := 0) fun d hd => ?_)).shaped (by decide)
      simp only [List.mem_cons, List.not_mem_nil, or_false] at hd
      rcases hd with rfl | rfl | rfl
      · exact okD.int _
      · refine okD.str (w := [l.2.1]) fun c hc => ?_
        rw [List.mem_singleton.mp hc]
        have := (hL.low _ (hR.lets l (hLs.mem_iff.mp hl))).2
        omega
      · exact okD.int _
    have she : SeqAt.shaped (.tuple (es.map .int)) = true := (okD.tup (n := 0) (okD.map fun i _ => okD.int i)).shaped (by decide)
    have eqn : ∀ ds : List PyData, PyData.eqv (.tuple ds) (.tuple []) = ds.isEmpty := fun ds => by cases ds <;> rfl
    refine ⟨_, rfl, a, C, dx, _, _, rfl, ha16, M.cls, M.nl, rfl, Nat.zero_le _, fun g1 hg1 => ⟨.tuple ((sr.map back).map lnD), .tuple [], .tup (Evl.ex_t (Evl.Ex.new hg1) (SqT.of hla16)) (dps_mono (Evl.Ex.new hg1) hL16), .tup (SqT.of upd_same) .nil, shl, okl.shaped (by decide), ?_⟩⟩
    rw [eqn]
    have eg1 := Evl.Ex.new (o := .tup []) hg1
    refine ⟨_, rfl, ite2 (fun hb => ?_) (fun hb => ?_)⟩
    · have hz : ¬ (L = [] ∧ Es = []) := fun z => by
        have h1 : sr.map back = [] := by
          have := hLs.length_eq
          rw [z.1] at this
          exact List.eq_nil_of_length_eq_zero this
        rw [h1] at hb
        simp at hb
      have hM1 := hM.ex eg1
      exact ⟨_, rfl, a, dx, _, rfl, hM1.ha, hM1.nc, idl hz _ eg1⟩
    · refine ⟨_, rfl, a, C, dx, _, _, rfl, eg1 _ _ ha16, M.cls, M.ne, rfl, Nat.zero_le _, fun g2 hg2 => ⟨.tuple (es.map .int), .tuple [], .tup (Evl.ex_t (eg1.trans (Evl.Ex.new hg2)) hes16) (dps_of_ints _), .tup (SqT.of upd_same) .nil, she, okl.shaped (by decide), ?_⟩⟩
      rw [eqn]
      have eg2 := eg1.trans (Evl.Ex.new (o := .tup []) hg2)
      refine ⟨_, rfl, ite2 (fun hb2 => ?_) (fun hb2 => ?_)⟩
      · have hz : ¬ (L = [] ∧ Es = []) := fun z => by
          have h1 : es = [] := by
            cases hes0 : es with
            | nil => rfl
            | cons x r =>
              have := (hesm x).mp (by rw [hes0]; exact List.mem_cons_self)
              rw [z.2] at this
              cases this
          rw [h1] at hb2
          simp at hb2
        have hM1 := hM.ex eg2
        exact ⟨_, rfl, a, dx, _, rfl, hM1.ha, hM1.nc, idl hz _ eg2⟩
      · exact fin _ eg2
theorem d_mach {C O : Addr} (T : Frees mg) (D1 : DfP K mg "is_number" 3) (D2 : DfP K mg "is_list" 4) (D3 : DfP K mg "is_lane" 36) (D4 : DfP K mg "frozen_lanes" 39) (D5 : DfP K mg "frozen_ends" 40) (D6 : DfP K mg "come_to" 26) (M : MachC K mg C) (OC : OrdC K mg O) : DkP P w K mg base C "Machine" 4 ["self", "order", "lanes", "ends"] (spMachInit K C O) := by
  obtain ⟨f, fd, hm, F⟩ := M.init
  exact dk_of M.g hm F (ok_mach_init T D1 D2 D3 D4 D5 D6 M OC F) fun _ _ _ _ _ _ us hl => match us, hl with | [_, _, _, _], _ => rfl
end
end E

set_option maxRecDepth 100000
set_option maxHeartbeats 4000000
namespace E
open PySem PySem.Spec PyProof.Rows L2
section
variable {P : Program} {w : World} {K : PySem.W.Frag} {mg : Str → Option Value} {base : Heap} {f : Addr} {fd : FuncData}
/-- a machine at m, of these lanes -/
def MAt (K : PySem.W.Frag) (C O : Addr) (H : Hp) (m : Addr) (ls : List Nat) (L : List Ln) (ps : List Int) : Prop := ∃ Ls es dx fs oa td ea la pa lx, MachAt K C O H m ls L Ls es ps dx fs oa td ea la pa lx
theorem MAt.ex {C O : Addr} {H H' : Hp} {m : Addr} {ls : List Nat} {L : List Ln} {ps : List Int} (h : MAt K C O H m ls L ps) (e : Ex H H') : MAt K C O H' m ls L ps := by
  obtain ⟨Ls, es, dx, fs, oa, td, ea, la, pa, lx, h⟩ := h
  exact ⟨Ls, es, dx, fs, oa, td, ea, la, pa, lx, h.ex e⟩
def spBuilt (K : PySem.W.Frag) (C O : Addr) : Sp := fun vs H Q _ => ∃ (v : V) (ls : List Nat) (L : List Ln) (Es : List Int), vs = [.str (wS ls), v] ∧ LsOk ls ∧ Dp K H v (partsD L Es) ∧ EM.Raw ls L Es ∧
  ∀ (m : Addr) (ps : List Int) (H' : Hp), Ex H H' → MAt K C O H' m ls L ps → EM.PlS L ps → ps.length ≤ 121 → Q (.ref m) H'
theorem scBuilt : FnScope ["_law_letters_here", "_law_parts"] ["_law_letters_here", "_law_parts"] (defScope (top 61)) := ⟨rfl, rfl, rfl, by decide +kernel, rfl, by decide +kernel, by decide +kernel⟩
theorem ok_built {C O : Addr} (T : Frees mg) (hS : ∃ t, mg "SIGNS" = some (.str "abcdefghijklmnopqrstuvwxyz" t)) (D0 : DfP K mg "are_letters" 43) (D1 : DfP K mg "is_number" 3) (D2 : DfP K mg "is_list" 4) (D3 : DfP K mg "is_lane" 36) (D4 : DfP K mg "frozen_lanes" 39) (D5 : DfP K mg "frozen_ends" 40) (D6 : DfP K mg "come_to" 26) (M : MachC K mg C) (OC : OrdC K mg O) (F : FnP K "_law_built" "_law_built" (top 61) f fd) : FnOk P w K mg base CX0 6 f fd ["_law_letters_here", "_law_parts"] (spBuilt K C O) := by
  refine F.ok scBuilt (fun vs H Q E h => ?_) (fun cdv A outer s H vs Q E hr h => ?_)
  · obtain ⟨v, ls, L, Es, rfl, _⟩ := h
    rfl
  · obtain ⟨v, ls, L, Es, rfl, hL, hv, hR, q⟩ := h
    obtain ⟨pa, b, c, xs, rfl, hSp, hb, hA, hc⟩ := dp_parts hv
    have Dm : DkP P w K mg base C "Machine" 4 _ _ := d_mach T D1 D2 D3 D4 D5 D6 M OC
    have Do : DkP P w K mg base O "Order" 2 _ _ := d_order T hS D0 OC
    refine ⟨_, PSs.nox (pss_one (ps_ret (pe_dk Dm (hr.mono (by decide)) rfl (pa_cons (pe_dk Do (hr.mono (by decide)) rfl (pa_cons (pv 0) pa_nil)) (pa_cons (pe_ix ix_tup (pv 1) pe_int (fun _ _ => rfl)) (pa_cons (pe_ix ix_tup (pv 1) pe_int (fun _ _ => rfl)) pa_nil)))))), ?_⟩
    refine ⟨_, rfl, fun x dx hx hdx hne => ⟨x, dx, ls, rfl, hL, upd_same, fun H1 k1 ho1 => ⟨rfl, ?_⟩⟩⟩
    have e1 : Ex H H1 := fun a o ha => k1 a o (ne_of_none ha hx) (by rw [upd_ne (ne_of_none ha hx), upd_ne (ne_of_none ha hdx)]; exact ha)
    refine ⟨_, rfl, pa, _, _, _, rfl, rfl, Evl.ex_t e1 hSp, rfl, _, rfl, pa, _, _, _, rfl, rfl, Evl.ex_t e1 hSp, rfl, fun m dm hm hdm hnm => ?_⟩
    have e2 : Ex H1 (upd (upd H1 dm (.own m)) m (.ins C dm [])) := ex_upd (Evl.Ex.new hdm) hm
    exact ⟨m, dm, x, .ref b, .ref c, ls, L, Es, H1, rfl, hm, e2, upd_same, hL, ho1, dp_mono e1 (.lst hb hA), dp_mono e1 (.lst hc (dps_of_ints _)), hR, fun H2 e3 ⟨Ls, es, ps, fs, td, ea, la, pl, lx, hM, hpl, hz⟩ => ⟨rfl, q m ps H2 (e1.trans e3) ⟨Ls, es, dm, fs, x, td, ea, la, pl, lx, hM⟩ hpl hz⟩⟩
theorem d_built {C O : Addr} (T : Frees mg) (hS : ∃ t, mg "SIGNS" = some (.str "abcdefghijklmnopqrstuvwxyz" t)) (D0 : DfP K mg "are_letters" 43) (D1 : DfP K mg "is_number" 3) (D2 : DfP K mg "is_list" 4) (D3 : DfP K mg "is_lane" 36) (D4 : DfP K mg "frozen_lanes" 39) (D5 : DfP K mg "frozen_ends" 40) (D6 : DfP K mg "come_to" 26) (M : MachC K mg C) (OC : OrdC K mg O) (h : DfP K mg "_law_built" 61) : Df P w K mg base "_law_built" 6 ["_law_letters_here", "_law_parts"] (spBuilt K C O) :=
  h.df (fun _ _ F => ok_built T hS D0 D1 D2 D3 D4 D5 D6 M OC F) fun _ _ _ _ _ _ us hl => match us, hl with | [_, _], _ => rfl
end
end E

set_option maxRecDepth 100000
set_option maxHeartbeats 4000000
namespace E
open PySem PySem.Spec PyProof.Rows L2
/-- a word that leads to p -/
structure Fw (ls : List Nat) (L : List Ln) (n : Nat) (p : Int) (u : List Nat) : Prop where
  at_ : EM.leads L (some 0) u = some p
  let_ : ∀ c ∈ u, c ∈ ls
  len : u.length ≤ n
theorem Fw.mono {ls : List Nat} {L : List Ln} {n m : Nat} {p : Int} {u : List Nat} (h : Fw ls L n p u) (l : n ≤ m) : Fw ls L m p u := ⟨h.at_, h.let_, Nat.le_trans h.len l⟩
theorem Fw.snoc {ls : List Nat} {L : List Ln} {n : Nat} {p : Int} {u : List Nat} (h : Fw ls L n p u) {c : Nat} (hc : c ∈ ls) {q : Int} (hg : EM.goes L p c = some q) : Fw ls L (n + 1) q (u ++ [c]) :=
  ⟨by rw [EM.leads_snoc, h.at_]; exact hg, fun d hd => by
    rcases List.mem_append.mp hd with h1 | h1
    · exact h.let_ d h1
    · rw [List.mem_singleton.mp h1]; exact hc, by rw [List.length_append, List.length_singleton]; exact Nat.succ_le_succ h.len⟩
section
variable {P : Program} {w : World} {K : PySem.W.Frag} {mg : Str → Option Value} {base : Heap} {f : Addr} {fd : FuncData}
def FwK (ls : List Nat) (L : List Ln) (ks : List Int) (kvs : List (Key × V)) : Prop := kvs.length ≤ ks.length ∧ ∀ p, (p ∈ ks → ∃ u, valV kvs (.inl p) = some (.str (wS u)) ∧ Fw ls L ks.length p u) ∧ (p ∉ ks → valV kvs (.inl p) = none)
def spFirstW (K : PySem.W.Frag) (C O : Addr) : Sp := fun vs H Q _ => ∃ (m : Addr) (ls : List Nat) (L : List Ln) (ps : List Int), vs = [.ref m] ∧ MAt K C O H m ls L ps ∧ LsOk ls ∧ EM.DetP L ∧ (∀ l ∈ L, l.2.1 ∈ ls) ∧ L.length ≤ 60 ∧
  ∀ (d : Addr) (kvs : List (Key × V)) (H' : Hp), Ex H H' → H' d = some (.dK kvs) → (∀ p, EM.Reach L p → ∃ u, valV kvs (.inl p) = some (.str (wS u)) ∧ Fw ls L 61 p u) → Q (.ref d) H'
def FwI (H : Hp) (ls : List Nat) (L : List Ln) (m d wt : Addr) (S : List Int) (at_ : Int) (o4 o5 o6 : Option V) (ks : List Int) (σ : L2.St) (H' : Hp) : Prop := ∃ kvs, σ = [some (.ref m), some (.ref d), some (.ref wt), some (.int at_), o4, o5, o6] ∧ Ex H H' ∧ H' d = some (.dK kvs) ∧ H' wt = some (.lst (ks.map V.int)) ∧ FwK ls L ks kvs ∧ ks.Nodup ∧ (∀ x ∈ ks, x ∈ S) ∧ (0 : Int) ∈ ks
theorem scFirstW : FnScope ["machine", "found", "waiting", "at", "here", "letter", "then"] ["machine"] (defScope (top 19)) := ⟨rfl, rfl, rfl, by decide +kernel, rfl, by decide +kernel, by decide +kernel⟩
theorem ok_first_words {C O : Addr} (T : Frees mg) (M : MachC K mg C) (OC : OrdC K mg O) (F : FnP K "first_words" "first_words" (top 19) f fd) : FnOk P w K mg base CX0 2 f fd ["machine"] (spFirstW K C O) := by
  refine F.ok scFirstW (fun vs H Q E h => ?_) (fun cdv A outer s H vs Q E hr h => ?_)
  · obtain ⟨_, _, _, _, rfl, _⟩ := h
    rfl
  · obtain ⟨m, ls, L, ps, rfl, hMA, hL, hdet, hlet, zL, q⟩ := h
    obtain ⟨Ls, es, dx, fs, oa, td, ea, la, pa, lx, hM⟩ := id hMA
    obtain ⟨odx, ofs, odd, okv, hoa, hol, hor, hocn, hod, hov⟩ := id hM.or_
    have hu := hr.u1
    have Dg : DmP P w K mg base C "go" 1 _ _ := d_go T M
    refine ⟨_, PSs.nox (pss_cons (ps_set (i := 1) scFirstW.nd rfl (Or.inl rfl) (pe_disp (pps_cons pe_int pe_str pps_nil) (by rfl) (by rfl) (fun z => by cases z) (by decide)))
      (pss_cons (ps_set (i := 2) scFirstW.nd rfl (Or.inl rfl) (pe_lst (pa_cons pe_int pa_nil)))
      (pss_cons (ps_set (i := 3) scFirstW.nd rfl (Or.inl rfl) pe_int)
      (pss_cons (ps_while PassesOwn.never (pt_cmpR op_lt (pv 3) (pe_callB call_len (by rfl) T.len PySem.boot_len (pa_cons (pv 2) pa_nil)) (nomark _))
        (pss_cons (ps_set (i := 4) scFirstW.nd rfl (Or.inl rfl) (pe_ix ix_list (pv 2) (pv 3) (fun _ _ => rfl)))
      (pss_cons (ps_aug (i := 3) scFirstW.nd rfl (Or.inl rfl) pe_int ip_add)
      (pss_one (ps_for PassesOwn.never rfl (pi_str (pe_fld (pe_fld (pv 0) rfl) rfl)) (pg_name (i := 5) scFirstW.nd rfl (Or.inl rfl))
        (pss_cons (ps_set (i := 6) scFirstW.nd rfl (Or.inl rfl) (pe_dm Dg (hr.mono (by decide)) (pv 0) (pa_cons (pv 4) (pa_cons (pv 5) pa_nil))))
      (pss_one (ps_if (PW.pt (pw_and (pt_cmpR op_notN (pv 6) pe_non (nomark _)) (pw_and1 (pt_cmp (pc_dnotin hu (pv 6) (pv 1)))))) (pss_cons (ps_dput hu (pv 1) (pv 6) (pe_op op_add_str (pe_dget hu (pv 1) (pv 4) (fun _ _ => rfl)) (pv 5)) rfl)
      (pss_one (ps_expr (pe_bm PySem.F.plainAttrs_list PySem.F.slot_list_append PySem.F.type_list_append mt_append (pv 2) (pa_cons (pv 6) pa_nil))))) pss_nil))))))))
      (pss_one (ps_ret (pv 1))))))), ?_⟩
    refine fun d hd => ⟨upd_same, [(.inl 0, .str "")], rfl, by decide, ?_⟩
    refine ⟨len1 _, fun wt hwt => ?_⟩
    obtain ⟨hwd, hwt1⟩ := upd_nn hwt
    obtain ⟨_, hwt0⟩ := upd_nn hwt1
    let S : List Int := 0 :: L.map (·.2.2)
    have hS61 : S.length ≤ 61 := by
      show (0 :: L.map (·.2.2)).length ≤ 61
      rw [List.length_cons, List.length_map]
      omega
    have e0 := ex_new (o := .lst [.int 0]) (ex_upd (o := .dK (mergeK [] [(.inl 0, .str "")])) (Evl.Ex.new (o := .dK []) hd) hd) hwt
    have fw0 : FwK ls L [0] (mergeK [] [(.inl 0, .str "")]) := ⟨Nat.le_refl _, fun p => ⟨fun hp => ?_, fun hp => ?_⟩⟩
    · refine ⟨fun mm σ H' => ∃ (ks : List Int) (at_ : Nat) (o4 o5 o6 : Option V), mm = 62 - at_ ∧ FwI H ls L m d wt S at_ o4 o5 o6 ks σ H' ∧ at_ ≤ ks.length ∧ ∀ (i : Nat) (p : Int), i < at_ → ks[i]? = some p → ChC ls L ks p, ⟨_, [0], 0, none, none, none, rfl, ⟨_, rfl, e0, by rw [upd_ne hwd.symm, upd_same], upd_same, fw0, by simp, by simp [S], by simp⟩, by simp, fun i p hi => by omega⟩, ?_⟩
      rintro mm σ H4 ⟨ks, at_, o4, o5, o6, rfl, ⟨kvs, rfl, e4, hd4, hw4, hfw, hnd, hsub, h04⟩, hat, hcl⟩
      have few : ks.length ≤ 61 := Nat.le_trans (EM.nodup_le hnd hsub) hS61
      refine ⟨_, rfl, _, rfl, _, _, rfl, .inl ⟨_, SqL.of hw4, rfl⟩, _, _, rfl, rfl, _, rfl, ?_⟩
      refine ite2 (fun hb => ⟨fun σ' H' => ∃ m', m' < 62 - at_ ∧ ∃ (ks : List Int) (at_ : Nat) (o4 o5 o6 : Option V), m' = 62 - at_ ∧ FwI H ls L m d wt S at_ o4 o5 o6 ks σ' H' ∧ at_ ≤ ks.length ∧ ∀ (i : Nat) (p : Int), i < at_ → ks[i]? = some p → ChC ls L ks p, fun _ _ h => h, ?_⟩) (fun hb => ?_)
      · have hlt : at_ < ks.length := by
          have := of_decide_eq_true hb
          rw [List.length_map] at this
          omega
        obtain ⟨p0, hp0⟩ : ∃ p0, ks[at_]? = some p0 := ⟨_, List.getElem?_eq_getElem hlt⟩
        have hM4 := hM.ex e4
        refine ⟨_, rfl, _, rfl, wt, _, _, .int p0, rfl, rfl, SqL.of hw4, atI_nat (by rw [List.getElem?_map, hp0]; rfl), ?_⟩
        have ei : (at_ : Int) + 1 = ((at_ + 1 : Nat) : Int) := by omega
        refine ⟨_, rfl, _, _, rfl, rfl, ?_⟩
        refine ⟨_, rfl, m, C, dx, fs, _, rfl, hM4.ha, M.cls, M.no, hM4.fo, oa, O, odx, ofs, _, rfl, e4 _ _ hoa, OC.cls, OC.nl, hol, _, rfl, for_w (fun k σ H' => ∃ ks2 o5 o6, FwI H ls L m d wt S (at_ + 1 : Nat) (some (.int p0)) o5 o6 ks2 σ H' ∧ (∃ r, ks2 = ks ++ r) ∧ ∀ c ∈ ls.take k, ∀ y, EM.goes L p0 c = some y → y ∈ ks2) ⟨ks, _, _, ⟨kvs, rfl, e4, hd4, hw4, hfw, hnd, hsub, h04⟩, ⟨[], by simp⟩, (fun _ h => by simp at h)⟩ ?_ ?_⟩
        · rintro k c σ H6 hk ⟨ks2, o5, o6, ⟨kvs2, rfl, e6, hd6, hw6, hfw6, hnd6, hsub6, h06⟩, ⟨r, rfl⟩, hk6⟩
          have hc : c ∈ ls := List.mem_of_getElem? hk
          have few6 : (ks ++ r).length ≤ 61 := Nat.le_trans (EM.nodup_le hnd6 hsub6) hS61
          have hM6 := hM.ex e6
          have hp06 : p0 ∈ ks ++ r := List.mem_append_left _ (List.mem_of_getElem? hp0)
          refine ⟨_, rfl, m, dx, fs, rfl, hM6.ha, hM6.ng, _, rfl, _, rfl, m, L, p0, c, rfl, hM6.go, fun H7 e7 => ?_⟩
          have hd7 := e7 _ _ hd6
          have hw7 := e7 _ _ hw6
          refine ⟨_, rfl, rfl, _, rfl, ?_⟩
          rw [oI_non]
          cases hg : EM.goes L p0 c with
          | none =>
            refine iteF (iteF ⟨_, _, _, ⟨kvs2, rfl, e6.trans e7, hd7, hw7, hfw6, hnd6, hsub6, h06⟩, ⟨r, rfl⟩, fun x hx y hy => ?_⟩)
            rw [take_snoc' hk] at hx
            rcases List.mem_append.mp hx with h | h
            · exact hk6 x h y hy
            · rw [List.mem_singleton.mp h, hg] at hy
              cases hy
          | some y0 =>
            have hyS : y0 ∈ S := List.mem_cons_of_mem _ (List.mem_map.mpr ⟨_, EM.goes_mem hg, rfl⟩)
            have grow : ∀ {us3 : List Int}, (∀ x ∈ ks ++ r, x ∈ us3) → y0 ∈ us3 → ∀ x ∈ ls.take (k + 1), ∀ y, EM.goes L p0 x = some y → y ∈ us3 := fun {us3} h1 h2 x hx y hy => by
              rw [take_snoc' hk] at hx
              rcases List.mem_append.mp hx with h | h
              · exact h1 _ (hk6 x h y hy)
              · rw [List.mem_singleton.mp h, hg] at hy
                rw [← Option.some.inj hy]; exact h2
            have hdg : DGet H7 d (.int y0) (valV kvs2 (.inl y0)) := DGet.k (k := .inl y0) hd7
            refine iteT ⟨_, rfl, _, rfl, d, _, rfl, hdg, ?_⟩
            by_cases hin : y0 ∈ ks ++ r
            · obtain ⟨u, hu1, _⟩ := (hfw6.2 y0).1 hin
              rw [hu1]
              exact ⟨_, rfl, iteF ⟨_, _, _, ⟨kvs2, rfl, e6.trans e7, hd7, hw7, hfw6, hnd6, hsub6, h06⟩, ⟨r, rfl⟩, grow (fun _ h => h) hin⟩⟩
            · have hno := (hfw6.2 y0).2 hin
              rw [hno]
              obtain ⟨u, hu1, hu2⟩ := (hfw6.2 p0).1 hp06
              have hdp : DGet H7 d (.int p0) (some (.str (wS u))) := by
                have h1 := DGet.k (k := .inl p0) hd7
                rw [hu1] at h1
                exact h1
              refine ⟨_, rfl, iteT ?_⟩
              refine ⟨_, rfl, _, rfl, d, _, rfl, hdp, _, rfl, wS u, chS c, rfl, rfl, ?_, ?_⟩
              · rw [wS_len]
                show u.length + 1 ≤ sizeLine
                have := hu2.len
                exact sz_of (by omega)
              rw [wS_snoc]
              refine ⟨_, rfl, _, rfl, d, _, rfl, DPut.k (k := .inl y0) hd7 (sz_lt (by have := hfw6.1; omega)), ?_⟩
              have hw8 : (upd H7 d (.dK (putK kvs2 (.inl y0) (.str (wS (u ++ [c])))))) wt = some (.lst ((ks ++ r).map V.int)) := by rw [upd_ne hwd]; exact hw7
              refine ⟨_, rfl, .inl ⟨rfl, _, SqL.of hw8⟩, _, rfl, wt, _, _, rfl, rfl, hw8, sz_lt (by rw [List.length_map]; omega), ?_⟩
              refine ⟨ks ++ r ++ [y0], _, _, ⟨_, rfl, ex_upd (ex_upd (e6.trans e7) hd) hwt0, by rw [upd_ne hwd.symm, upd_same], by rw [upd_same, List.map_append (l₂ := [y0])]; rfl, ⟨?_, fun p => ⟨fun hp => ?_, fun hp => ?_⟩⟩, ?_, fun x hx => ?_, List.mem_append_left _ h06⟩, ⟨r ++ [y0], by rw [List.append_assoc]⟩, grow (fun x h => List.mem_append_left _ h) (by simp)⟩
              · have := length_putK kvs2 (.inl y0) (.str (wS (u ++ [c])))
                rw [List.length_append, List.length_singleton]
                have := hfw6.1
                omega
              · rw [valV_put]
                by_cases e : p = y0
                · subst e
                  rw [if_pos rfl, List.length_append, List.length_singleton]
                  exact ⟨_, rfl, hu2.snoc hc hg⟩
                · rw [if_neg (fun z => e (Sum.inl.inj z))]
                  rcases List.mem_append.mp hp with h | h
                  · obtain ⟨u', h1, h2⟩ := (hfw6.2 p).1 h
                    exact ⟨u', h1, h2.mono (by rw [List.length_append (bs := [y0])]; omega)⟩
                  · exact absurd (List.mem_singleton.mp h) e
              · rw [valV_put, if_neg (fun z => hp (by rw [Sum.inl.inj z]; simp))]
                exact (hfw6.2 p).2 fun h => hp (List.mem_append_left _ h)
              · rw [List.nodup_append]
                exact ⟨hnd6, by simp, fun a ha b hb => by
                  rw [List.mem_singleton.mp hb]
                  exact fun z => hin (by rw [← z]; exact ha)⟩
              · rcases List.mem_append.mp hx with h | h
                · exact hsub6 x h
                · rw [List.mem_singleton.mp h]; exact hyS
        · rintro σ H6 ⟨ks2, o5, o6, ⟨kvs2, rfl, e6, hd6, hw6, hfw6, hnd6, hsub6, h06⟩, ⟨r, rfl⟩, hk6⟩
          rw [List.take_length] at hk6
          refine ⟨62 - (at_ + 1), by omega, ks ++ r, at_ + 1, _, _, _, rfl, ⟨kvs2, rfl, e6, hd6, hw6, hfw6, hnd6, hsub6, h06⟩, by rw [List.length_append]; omega, fun i p hi hp => ?_⟩
          rcases Nat.lt_or_ge i at_ with h | h
          · rw [List.getElem?_append_left (by omega)] at hp
            exact fun x hx y hy => List.mem_append_left _ (hcl i p h hp x hx y hy)
          · have : i = at_ := by omega
            subst this
            rw [EM.get_app hp0 r] at hp
            obtain rfl := Option.some.inj hp
            exact hk6
      · have hat2 : at_ = ks.length := by
          have h1 : ¬ ((at_ : Int) < ((ks.map V.int).length : Nat)) := fun z => hb (decide_eq_true z)
          rw [List.length_map] at h1
          omega
        have reach : ∀ p, EM.Reach L p → p ∈ ks := fun p hp => by
          induction hp with
          | z => exact h04
          | s _ hl ih =>
            obtain ⟨i, hi⟩ := List.mem_iff_getElem?.mp ih
            exact hcl i _ (by rw [hat2]; exact lt_of_get hi) hi _ (hlet _ hl) _ (EM.goes_of hdet hl)
        refine ⟨_, rfl, q d kvs H4 e4 hd4 fun p hp => ?_⟩
        obtain ⟨u, h1, h2⟩ := (hfw.2 p).1 (reach p hp)
        exact ⟨u, h1, h2.mono few⟩
    · rw [List.mem_singleton.mp hp]
      exact ⟨[], by show some (V.str (Str.ofString "")) = _; rw [nil_wS], ⟨rfl, (fun _ h => by cases h), Nat.zero_le _⟩⟩
    · show valV [(Sum.inl 0, V.str "")] (.inl p) = none
      rw [valV_neg (fun z => hp (by rw [← Sum.inl.inj z]; simp))]
      rfl
theorem d_first_words {C O : Addr} (T : Frees mg) (M : MachC K mg C) (OC : OrdC K mg O) (h : DfP K mg "first_words" 19) : Df P w K mg base "first_words" 2 ["machine"] (spFirstW K C O) :=
  h.df (fun _ _ F => ok_first_words T M OC F) fun _ _ _ _ _ _ us hl => match us, hl with | [_], _ => rfl
end
end E

set_option maxRecDepth 100000
set_option maxHeartbeats 4000000
namespace E
open PySem PySem.Spec PyProof.Rows L2
abbrev FPr := Pr × (List Nat × List Nat)
/-- two words that show that one place is ahead of the other -/
structure FpOk (ls : List Nat) (L : List Ln) (n : Nat) (p q : Int) (u v : List Nat) : Prop where
  fu : Fw ls L n p u
  fv : Fw ls L n q v
  lt : EM.kc ls u < EM.kc ls v
theorem FpOk.ah {ls : List Nat} {L : List Ln} (hl : ∀ l ∈ L, l.2.1 ∈ ls) {n : Nat} {p q : Int} {u v : List Nat} (h : FpOk ls L n p q u v) : EM.Ah ls L p q := EM.Ah.of_words hl _ u v p q (Nat.le_refl _) h.fu.at_ h.fv.at_ h.lt
/-- the tuples of one pair with its words -/
def FpAt (H : Hp) (v : V) (x : FPr) : Prop := ∃ t t1 t2, v = .ref t ∧ H t = some (.tup [.ref t1, .ref t2]) ∧ H t1 = some (.tup [.int x.1.1, .int x.1.2]) ∧ H t2 = some (.tup [.str (wS x.2.1), .str (wS x.2.2)])
def FpsAt (H : Hp) (fx : List V) (fs : List FPr) : Prop := ∀ (i : Nat) (v : V), fx[i]? = some v → ∃ x, fs[i]? = some x ∧ FpAt H v x
theorem FpAt.ex {H H' : Hp} {v : V} {x : FPr} (h : FpAt H v x) (e : Ex H H') : FpAt H' v x := by
  obtain ⟨t, t1, t2, rfl, h1, h2, h3⟩ := h
  exact ⟨t, t1, t2, rfl, e _ _ h1, e _ _ h2, e _ _ h3⟩
theorem FpAt.upd {H : Hp} {v : V} {x : FPr} {o : Addr} {ob : HO} (h : FpAt H v x) (n : ∀ xs, H o ≠ some (.tup xs)) : FpAt (upd H o ob) v x := by
  obtain ⟨t, t1, t2, rfl, h1, h2, h3⟩ := h
  have ne : ∀ {a : Addr} {xs : List V}, H a = some (.tup xs) → a ≠ o := fun h z => n _ (z ▸ h)
  exact ⟨t, t1, t2, rfl, by rw [upd_ne (ne h1)]; exact h1, by rw [upd_ne (ne h2)]; exact h2, by rw [upd_ne (ne h3)]; exact h3⟩
theorem FpsAt.ex {H H' : Hp} {fx : List V} {fs : List FPr} (h : FpsAt H fx fs) (e : Ex H H') : FpsAt H' fx fs := fun i v hi => by
  obtain ⟨x, h1, h2⟩ := h i v hi
  exact ⟨x, h1, h2.ex e⟩
theorem FpsAt.upd {H : Hp} {fx : List V} {fs : List FPr} {o : Addr} {ob : HO} (h : FpsAt H fx fs) (n : ∀ xs, H o ≠ some (.tup xs)) : FpsAt (upd H o ob) fx fs := fun i v hi => by
  obtain ⟨x, h1, h2⟩ := h i v hi
  exact ⟨x, h1, h2.upd n⟩
theorem FpsAt.app {H : Hp} {fx : List V} {fs : List FPr} (l : fx.length = fs.length) (h : FpsAt H fx fs) {v : V} {x : FPr} (hv : FpAt H v x) : FpsAt H (fx ++ [v]) (fs ++ [x]) := fun i w hi => by
  rcases Nat.lt_or_ge i fx.length with g | g
  · rw [List.getElem?_append_left g] at hi
    obtain ⟨y, h1, h2⟩ := h i w hi
    exact ⟨y, by rw [List.getElem?_append_left (by omega)]; exact h1, h2⟩
  · rw [List.getElem?_append_right g] at hi
    have z := lt_of_get hi
    rw [List.length_singleton] at z
    have e : i = fx.length := by omega
    subst e
    rw [Nat.sub_self] at hi
    rw [← Option.some.inj hi]
    exact ⟨x, by rw [List.getElem?_append_right (by omega), l, Nat.sub_self]; rfl, hv⟩
section
variable {P : Program} {w : World} {K : PySem.W.Frag} {mg : Str → Option Value} {base : Heap} {f : Addr} {fd : FuncData}
def spFirstP (K : PySem.W.Frag) (C O : Addr) : Sp := fun vs H Q _ => ∃ (m : Addr) (ls : List Nat) (L : List Ln) (Es ps : List Int), vs = [.ref m] ∧ MAt K C O H m ls L ps ∧ LsOk ls ∧ EM.Raw ls L Es ∧
  ∀ (o : Addr) (fs : List FPr) (fx : List V) (H' : Hp), H o = none → Ex H H' → H' o = some (.lst fx) → fx.length = fs.length → FpsAt H' fx fs → (∀ x ∈ fs, FpOk ls L 62 x.1.1 x.1.2 x.2.1 x.2.2) → (∀ l ∈ L, EM.AhC ls L l (fs.map (·.1))) → fs.length ≤ 4000 → Q (.ref o) H'
def FpI (K : PySem.W.Frag) (H : Hp) (ls : List Nat) (L Ls : List Ln) (m d o : Addr) (n i : Nat) (fs : List FPr) (H' : Hp) : Prop := Ex H H' ∧ (∃ fx, H' o = some (.lst fx) ∧ fx.length = fs.length ∧ FpsAt H' fx fs) ∧ (∀ x ∈ fs, FpOk ls L 62 x.1.1 x.1.2 x.2.1 x.2.2) ∧ fs.length ≤ n ∧ ∀ l ∈ Ls.take i, EM.AhC ls L l (fs.map (·.1))
theorem fp_app {G : Hp} {o t t1 t2 : Addr} {fx : List V} {fs : List FPr} {x : FPr} (l : fx.length = fs.length) (h : FpsAt G fx fs) (ho : G o = some (.lst fx)) (ht : G t = some (.tup [.ref t1, .ref t2])) (h1 : G t1 = some (.tup [.int x.1.1, .int x.1.2])) (h2 : G t2 = some (.tup [.str (wS x.2.1), .str (wS x.2.2)])) :
    FpsAt (upd G o (.lst (fx ++ [.ref t]))) (fx ++ [.ref t]) (fs ++ [x]) :=
  (h.app l ⟨t, t1, t2, rfl, ht, h1, h2⟩).upd fun _ z => by rw [ho] at z; cases z
theorem scFirstP : FnScope ["machine", "firsts", "found", "p", "letter", "q", "one", "earlier", "other"] ["machine"] (defScope (top 20)) := ⟨rfl, rfl, rfl, by decide +kernel, rfl, by decide +kernel, by decide +kernel⟩
theorem ok_first_pairs {C O : Addr} (T : Frees mg) (D1 : DfP K mg "first_words" 19) (M : MachC K mg C) (OC : OrdC K mg O) (F : FnP K "first_pairs" "first_pairs" (top 20) f fd) : FnOk P w K mg base CX0 3 f fd ["machine"] (spFirstP K C O) := by
  refine F.ok scFirstP (fun vs H Q E h => ?_) (fun cdv A outer s H vs Q E hr h => ?_)
  · obtain ⟨_, _, _, _, _, rfl, _⟩ := h
    rfl
  · obtain ⟨m, ls, L, Es, ps, rfl, hMA, hL, hR, q⟩ := h
    obtain ⟨Ls, es, dx, fs0, oa, td, ea, la, pa, lx, hM⟩ := id hMA
    obtain ⟨odx, ofs, odd, okv, hoa, hol, hor, hocn, hod, hov⟩ := id hM.or_
    have hu := hr.u1
    have zL := hR.zL
    have Dw : Df P w K mg base "first_words" 2 _ _ := d_first_words T M OC D1
    refine ⟨_, PSs.nox (pss_cons (ps_set (i := 1) scFirstP.nd rfl (Or.inl rfl) (pe_df Dw (hr.mono (by decide)) rfl (pa_cons (pv 0) pa_nil)))
      (pss_cons (ps_set (i := 2) scFirstP.nd rfl (Or.inl rfl) (pe_lst pa_nil))
      (pss_cons (ps_for PassesOwn.never rfl (pi_tup (pe_fld (pv 0) rfl)) (pg_tup rfl (pgs_cons (pg_name (i := 3) scFirstP.nd rfl (Or.inl rfl)) (pgs_cons (pg_name (i := 4) scFirstP.nd rfl (Or.inl rfl)) (pgs_cons (pg_name (i := 5) scFirstP.nd rfl (Or.inl rfl)) pgs_nil))))
        (pss_cons (ps_expr (pe_bm PySem.F.plainAttrs_list PySem.F.slot_list_append PySem.F.type_list_append mt_append (pv 2) (pa_cons (pe_tup (pa_cons (pe_tup (pa_cons pe_int (pa_cons (pv 5) pa_nil))) (pa_cons (pe_tup (pa_cons pe_str (pa_cons (pe_op op_add_str (pe_dget hu (pv 1) (pv 3) (fun _ _ => rfl)) (pv 4)) pa_nil))) pa_nil))) pa_nil)))
      (pss_one (ps_for PassesOwn.never rfl (pi_tup (pe_fld (pv 0) rfl)) (pg_tup rfl (pgs_cons (pg_name (i := 6) scFirstP.nd rfl (Or.inl rfl)) (pgs_cons (pg_name (i := 7) scFirstP.nd rfl (Or.inl rfl)) (pgs_cons (pg_name (i := 8) scFirstP.nd rfl (Or.inl rfl)) pgs_nil))))
        (pss_one (ps_if (pt_cmpR op_lt (pe_dget hu (pe_fld (pe_fld (pv 0) rfl) rfl) (pv 7) (fun _ _ => rfl)) (pe_dget hu (pe_fld (pe_fld (pv 0) rfl) rfl) (pv 4) (fun _ _ => rfl)) (nomark _)) (pss_one (ps_expr (pe_bm PySem.F.plainAttrs_list PySem.F.slot_list_append PySem.F.type_list_append mt_append (pv 2) (pa_cons (pe_tup (pa_cons (pe_tup (pa_cons (pv 8) (pa_cons (pv 5) pa_nil))) (pa_cons (pe_tup (pa_cons (pe_op op_add_str (pe_dget hu (pv 1) (pv 6) (fun _ _ => rfl)) (pv 7)) (pa_cons (pe_op op_add_str (pe_dget hu (pv 1) (pv 3) (fun _ _ => rfl)) (pv 4)) pa_nil))) pa_nil))) pa_nil)))) pss_nil))))))
      (pss_one (ps_ret (pv 2)))))), ?_⟩
    refine ⟨_, rfl, m, ls, L, ps, rfl, hMA, hL, hR.good.det, hR.lets, zL, fun d kvs H1 e1 hd1 hkv => ?_⟩
    refine ⟨Nat.zero_le _, fun o ho => ?_⟩
    have ho0 : H o = none := ex_none e1 ho
    have e2 := ex_new (o := .lst []) e1 ho
    have eo := Evl.Ex.new (o := .lst []) ho
    have hM2 := hM.ex e2
    have hmm : ∀ l, l ∈ Ls ↔ l ∈ L := fun l => hM.pm.mem_iff
    have hlx : lx.length = Ls.length := by rw [dps_len hM.ld, List.length_map]
    have hLz : Ls.length ≤ 60 := by rw [hM.pm.length_eq]; exact zL
    refine ⟨_, rfl, m, C, dx, fs0, _, rfl, hM2.ha, M.cls, M.nl, hM2.fl, la, rfl, ⟨_, hM2.la_⟩, for_tup (K := K) (xs := lx) (fun i σ H' => ∃ fs o3 o4 o5 o6 o7 o8, σ = [some (.ref m), some (.ref d), some (.ref o), o3, o4, o5, o6, o7, o8] ∧ FpI K H1 ls L Ls m d o (61 * i) i fs H') ⟨[], _, _, _, _, _, _, rfl, eo, ⟨[], upd_same, rfl, fun _ _ h => by simp at h⟩, (fun _ h => by cases h), Nat.le_refl _, (fun _ h => by simp at h)⟩ (fun i σ H' _ ⟨_, _, _, _, _, _, _, _, h⟩ => Evl.ex_t (e1.trans h.1) hM.la_) ?_ ?_⟩
    · rintro i x σ H3 hi ⟨fs, o3, o4, o5, o6, o7, o8, rfl, e3, ⟨fx, hfx, lfx, dfx⟩, hok, zf, cf⟩
      obtain ⟨l, b, hl, rfl, hT⟩ := dps_ln hM.ld hi
      have hlL := (hmm l).mp (List.mem_of_getElem? hl)
      have hil := lt_of_get hi
      rw [hlx] at hil
      have hlm := hR.lets l hlL
      obtain ⟨u, hu1, hu2⟩ := hkv l.1 (hR.good.at_ l hlL).1.1
      have hgo := EM.goes_of hR.good.det (show (l.1, l.2.1, l.2.2) ∈ L from hlL)
      have hFv := hu2.snoc hlm hgo
      have dget : ∀ {H' : Hp} (p : Int) (u : List Nat), Ex H1 H' → valV kvs (.inl p) = some (.str (wS u)) → DGet H' d (.int p) (some (.str (wS u))) := fun {H'} p u e h => by
        have h1 := DGet.k (k := .inl p) (e _ _ hd1)
        rw [h] at h1
        exact h1
      have szu : ∀ u : List Nat, u.length ≤ 61 → (wS u).length + (chS l.2.1).length ≤ sizeLine := fun u h => by
        rw [wS_len]
        show u.length + 1 ≤ sizeLine
        exact sz_of (by omega)
      have hT3 := Evl.ex_t (e1.trans e3) hT
      refine ⟨b, _, rfl, hT3, rfl, _, _, rfl, _, _, rfl, _, _, rfl, rfl, ?_⟩
      refine ⟨_, rfl, .inl ⟨rfl, _, SqL.of hfx⟩, _, rfl, len2 _ _, fun t1 h1 => ⟨_, rfl, _, rfl, d, _, rfl, dget _ _ (e3.trans (Evl.Ex.new h1)) hu1, _, rfl, wS u, chS l.2.1, rfl, rfl, szu u hu2.len, len2 _ _, fun t2 h2 => ⟨len2 _ _, fun t3 h3 => ?_⟩⟩⟩
      have et1 := Evl.Ex.new (o := .tup [.int 0, .int l.2.2]) h1
      have et2 := Evl.Ex.new (o := .tup [.str "", .str (wS u ++ chS l.2.1)]) h2
      have et3 := Evl.Ex.new (o := .tup [.ref t1, .ref t2]) h3
      have et := (et1.trans et2).trans et3
      have hfx3 := et _ _ hfx
      refine ⟨o, fx, _, rfl, rfl, hfx3, sz_lt (by omega), ?_⟩
      have n1 : t1 ≠ o := (ne_of_none hfx h1).symm
      have n2 : t2 ≠ o := (ne_of_none (et1 _ _ hfx) h2).symm
      have n3 : t3 ≠ o := (ne_of_none ((et1.trans et2) _ _ hfx) h3).symm
      have hw2 : (upd (upd H3 t1 (.tup [.int 0, .int l.2.2])) t2 (.tup [.str "", .str (wS u ++ chS l.2.1)])) t2 = some (.tup [.str (wS []), .str (wS (u ++ [l.2.1]))]) := by rw [upd_same, wS_snoc, ← nil_wS]
      have hd4 := fp_app (x := ((0, l.2.2), ([], u ++ [l.2.1]))) lfx (dfx.ex et) hfx3 upd_same (et3 _ _ (et2 _ _ upd_same)) (et3 _ _ hw2)
      have e4 : Ex H1 (upd (upd (upd (upd H3 t1 (.tup [.int 0, .int l.2.2])) t2 (.tup [.str "", .str (wS u ++ chS l.2.1)])) t3 (.tup [.ref t1, .ref t2])) o (.lst (fx ++ [.ref t3]))) := ex_upd (e3.trans et) ho
      have hfx4 : (upd (upd (upd (upd H3 t1 (.tup [.int 0, .int l.2.2])) t2 (.tup [.str "", .str (wS u ++ chS l.2.1)])) t3 (.tup [.ref t1, .ref t2])) o (.lst (fx ++ [.ref t3]))) o = some (.lst (fx ++ [.ref t3])) := upd_same
      have ok1 : ∀ x ∈ fs ++ [(((0, l.2.2), ([], u ++ [l.2.1])) : FPr)], FpOk ls L 62 x.1.1 x.1.2 x.2.1 x.2.2 := fun x hx => by
        rcases List.mem_append.mp hx with h | h
        · exact hok x h
        · rw [List.mem_singleton.mp h]
          exact ⟨⟨rfl, (fun _ h => by cases h), Nat.zero_le _⟩, hFv, by show EM.kc ls [] < EM.kc ls (u ++ [l.2.1]); rw [EM.kc_snoc]; exact List.nil_lt_cons _ _⟩
      have hlen1 : (fx ++ [V.ref t3]).length = (fs ++ [(((0, l.2.2), ([], u ++ [l.2.1])) : FPr)]).length := by rw [List.length_append, List.length_append, lfx]; rfl
      have z1 : (fs ++ [(((0, l.2.2), ([], u ++ [l.2.1])) : FPr)]).length ≤ 61 * i + 1 := by rw [List.length_append, List.length_singleton]; omega
      have sub1 : ∀ y ∈ fs.map (·.1), y ∈ (fs ++ [(((0, l.2.2), ([], u ++ [l.2.1])) : FPr)]).map (·.1) := fun y hy => by rw [List.map_append]; exact List.mem_append_left _ hy
      have new1 : ((0, l.2.2) : Pr) ∈ (fs ++ [(((0, l.2.2), ([], u ++ [l.2.1])) : FPr)]).map (·.1) := by rw [List.map_append]; exact List.mem_append_right _ (by simp)
      generalize fs ++ [(((0, l.2.2), ([], u ++ [l.2.1])) : FPr)] = fs1 at hd4 ok1 hlen1 z1 sub1 new1
      generalize fx ++ [V.ref t3] = fx1 at hd4 hfx4 e4 hlen1 ⊢
      generalize upd (upd (upd (upd H3 t1 (.tup [.int 0, .int l.2.2])) t2 (.tup [.str "", .str (wS u ++ chS l.2.1)])) t3 (.tup [.ref t1, .ref t2])) o (.lst fx1) = H4 at hd4 hfx4 e4 ⊢
      have hM4 := hM.ex (e1.trans e4)
      refine ⟨_, rfl, m, C, dx, fs0, _, rfl, hM4.ha, M.cls, M.nl, hM4.fl, la, rfl, ⟨_, hM4.la_⟩, for_tup (K := K) (xs := lx) (fun j σ H' => ∃ fs2 o6 o7 o8, σ = [some (.ref m), some (.ref d), some (.ref o), some (.int l.1), some (.str (chS l.2.1)), some (.int l.2.2), o6, o7, o8] ∧ Ex H1 H' ∧ (∃ fx, H' o = some (.lst fx) ∧ fx.length = fs2.length ∧ FpsAt H' fx fs2) ∧ (∀ x ∈ fs2, FpOk ls L 62 x.1.1 x.1.2 x.2.1 x.2.2) ∧ fs2.length ≤ 61 * i + 1 + j ∧
        (∀ y ∈ fs1.map (·.1), y ∈ fs2.map (·.1)) ∧ ∀ l' ∈ Ls.take j, ls.idxOf l'.2.1 < ls.idxOf l.2.1 → (l'.2.2, l.2.2) ∈ fs2.map (·.1)) ⟨fs1, _, _, _, rfl, e4, ⟨fx1, hfx4, hlen1, hd4⟩, ok1, z1, fun _ h => h, (fun _ h => by simp at h)⟩ (fun i σ H' _ ⟨_, _, _, _, _, h, _⟩ => Evl.ex_t (e1.trans h) hM.la_) ?_ ?_⟩
      · rintro j y σ H5 hj ⟨fs2, o6, o7, o8, rfl, e5, ⟨fx2, hfx2, lfx2, dfx2⟩, hok2, z2, sub2, c2⟩
        obtain ⟨l', b', hl', rfl, hT'⟩ := dps_ln hM.ld hj
        have hlL' := (hmm l').mp (List.mem_of_getElem? hl')
        have hlm' := hR.lets l' hlL'
        have hjl := lt_of_get hj
        rw [hlx] at hjl
        obtain ⟨u', hu1', hu2'⟩ := hkv l'.1 (hR.good.at_ l' hlL').1.1
        have hgo' := EM.goes_of hR.good.det (show (l'.1, l'.2.1, l'.2.2) ∈ L from hlL')
        have hFv' := hu2'.snoc hlm' hgo'
        have hM5 := hM.ex (e1.trans e5)
        have hrk : ∀ {H' : Hp} (k : Ln), k.2.1 ∈ ls → Ex H H' → DGet H' odd (.str (chS k.2.1)) (some (.int (ls.idxOf k.2.1 : Nat))) := fun {H'} k hk e => by
          have h1 := DGet.k (k := .inr (chS k.2.1)) (e _ _ hod)
          rw [hov, if_pos hk] at h1
          exact h1
        have e05 := e1.trans e5
        refine ⟨b', _, rfl, Evl.ex_t e05 hT', rfl, _, _, rfl, _, _, rfl, _, _, rfl, rfl, ?_⟩
        refine ⟨_, rfl, m, C, dx, fs0, _, rfl, hM5.ha, M.cls, M.no, hM5.fo, oa, O, odx, ofs, _, rfl, e05 _ _ hoa, OC.cls, OC.nr, hor, _, rfl, odd, _, rfl, hrk l' hlm' e05, _, rfl, m, C, dx, fs0, _, rfl, hM5.ha, M.cls, M.no, hM5.fo, oa, O, odx, ofs, _, rfl, e05 _ _ hoa, OC.cls, OC.nr, hor, _, rfl, odd, _, rfl, hrk l hlm e05, _, _, rfl, rfl, _, rfl, ?_⟩
        have grow : ∀ {gs : List Pr}, (∀ z ∈ fs2.map (·.1), z ∈ gs) → (ls.idxOf l'.2.1 < ls.idxOf l.2.1 → (l'.2.2, l.2.2) ∈ gs) → ∀ l'' ∈ Ls.take (j + 1), ls.idxOf l''.2.1 < ls.idxOf l.2.1 → (l''.2.2, l.2.2) ∈ gs := fun {gs} h1 h2 l'' hl'' h3 => by
          rw [take_snoc' hl'] at hl''
          rcases List.mem_append.mp hl'' with h4 | h4
          · exact h1 _ (c2 l'' h4 h3)
          · rw [List.mem_singleton.mp h4] at h3 ⊢
            exact h2 h3
        by_cases hlt : ls.idxOf l'.2.1 < ls.idxOf l.2.1
        · rw [decide_eq_true (show ((ls.idxOf l'.2.1 : Nat) : Int) < ((ls.idxOf l.2.1 : Nat) : Int) by omega)]
          have szu' : (wS u').length + (chS l'.2.1).length ≤ sizeLine := by
            rw [wS_len]
            show u'.length + 1 ≤ sizeLine
            have := hu2'.len
            exact sz_of (by omega)
          refine iteT ⟨_, rfl, .inl ⟨rfl, _, SqL.of hfx2⟩, _, rfl, _, rfl, len2 _ _, fun s1 g1 => ⟨_, rfl, _, rfl, d, _, rfl, dget _ _ (e5.trans (Evl.Ex.new g1)) hu1', _, rfl, wS u', chS l'.2.1, rfl, rfl, szu', _, rfl, _, rfl, d, _, rfl, dget _ _ (e5.trans (Evl.Ex.new g1)) hu1, _, rfl, wS u, chS l.2.1, rfl, rfl, szu u hu2.len, len2 _ _, fun s2 g2 => ⟨len2 _ _, fun s3 g3 => ?_⟩⟩⟩
          have es1 := Evl.Ex.new (o := .tup [.int l'.2.2, .int l.2.2]) g1
          have es2 := Evl.Ex.new (o := .tup [.str (wS u' ++ chS l'.2.1), .str (wS u ++ chS l.2.1)]) g2
          have es3 := Evl.Ex.new (o := .tup [.ref s1, .ref s2]) g3
          have est := (es1.trans es2).trans es3
          refine ⟨o, fx2, _, rfl, rfl, est _ _ hfx2, sz_lt (by omega), ?_⟩
          have m1 : s1 ≠ o := (ne_of_none hfx2 g1).symm
          have m2 : s2 ≠ o := (ne_of_none (es1 _ _ hfx2) g2).symm
          have m3 : s3 ≠ o := (ne_of_none ((es1.trans es2) _ _ hfx2) g3).symm
          have hw3 : (upd (upd H5 s1 (.tup [.int l'.2.2, .int l.2.2])) s2 (.tup [.str (wS u' ++ chS l'.2.1), .str (wS u ++ chS l.2.1)])) s2 = some (.tup [.str (wS (u' ++ [l'.2.1])), .str (wS (u ++ [l.2.1]))]) := by rw [upd_same, wS_snoc, wS_snoc]
          have hd6 := fp_app (x := ((l'.2.2, l.2.2), (u' ++ [l'.2.1], u ++ [l.2.1]))) lfx2 (dfx2.ex est) (est _ _ hfx2) upd_same (es3 _ _ (es2 _ _ upd_same)) (es3 _ _ hw3)
          refine ⟨fs2 ++ [((l'.2.2, l.2.2), (u' ++ [l'.2.1], u ++ [l.2.1]))], _, _, _, rfl, ex_upd (e5.trans est) ho, ⟨_, upd_same, by rw [List.length_append, List.length_append, lfx2]; rfl, hd6⟩, fun x hx => ?_, by rw [List.length_append, List.length_singleton]; omega, fun y hy => by rw [List.map_append]; exact List.mem_append_left _ (sub2 y hy), grow (fun z h => by rw [List.map_append]; exact List.mem_append_left _ h) fun _ => by rw [List.map_append]; exact List.mem_append_right _ (by simp)⟩
          rcases List.mem_append.mp hx with h | h
          · exact hok2 x h
          · rw [List.mem_singleton.mp h]
            refine ⟨hFv', hFv, ?_⟩
            show EM.kc ls (u' ++ [l'.2.1]) < EM.kc ls (u ++ [l.2.1])
            rw [EM.kc_snoc, EM.kc_snoc, List.cons_lt_cons_iff]
            exact .inl (by omega)
        · rw [decide_eq_false (show ¬ ((ls.idxOf l'.2.1 : Nat) : Int) < ((ls.idxOf l.2.1 : Nat) : Int) by omega)]
          exact iteF ⟨fs2, _, _, _, rfl, e5, ⟨fx2, hfx2, lfx2, dfx2⟩, hok2, by omega, sub2, grow (fun _ h => h) fun h => absurd h hlt⟩
      · rintro σ H5 ⟨fs2, o6, o7, o8, rfl, e5, ⟨fx2, hfx2, lfx2, dfx2⟩, hok2, z2, sub2, c2⟩
        rw [hlx, List.take_length] at c2
        refine ⟨fs2, _, _, _, _, _, _, rfl, e5, ⟨fx2, hfx2, lfx2, dfx2⟩, hok2, by rw [hlx] at z2; omega, fun k hk => ?_⟩
        rw [take_snoc' hl] at hk
        rcases List.mem_append.mp hk with h | h
        · exact (cf k h).mono fun z hz => sub2 z (sub1 z hz)
        · rw [List.mem_singleton.mp h]
          exact ⟨sub2 _ new1, fun l' hl' hlt => c2 l' ((hmm l').mpr hl') hlt⟩
    · rintro σ H3 ⟨fs, o3, o4, o5, o6, o7, o8, rfl, e3, ⟨fx, hfx, lfx, dfx⟩, hok, zf, cf⟩
      rw [hlx, List.take_length] at cf
      exact ⟨_, rfl, q o fs fx H3 (ex_none e1 ho) (e1.trans e3) hfx lfx dfx hok (fun l hl => cf l ((hmm l).mpr hl)) (by omega)⟩
theorem d_first_pairs {C O : Addr} (T : Frees mg) (D1 : DfP K mg "first_words" 19) (M : MachC K mg C) (OC : OrdC K mg O) (h : DfP K mg "first_pairs" 20) : Df P w K mg base "first_pairs" 3 ["machine"] (spFirstP K C O) :=
  h.df (fun _ _ F => ok_first_pairs T D1 M OC F) fun _ _ _ _ _ _ us hl => match us, hl with | [_], _ => rfl
end
end E

set_option maxRecDepth 100000
set_option maxHeartbeats 4000000
namespace E
open PySem PySem.Spec PyProof.Rows L2
section
variable {P : Program} {w : World} {K : PySem.W.Frag} {mg : Str → Option Value} {base : Heap} {f : Addr} {fd : FuncData}
def prK (x : Pr) : List L2.Key := [.inl x.1, .inl x.2]
theorem prK_inj {x y : Pr} (h : prK x = prK y) : x = y := by
  obtain ⟨a, b⟩ := x
  obtain ⟨c, d⟩ := y
  simp [prK] at h
  rw [h.1, h.2]
/-- the dict of pairs with words -/
def ApK (H : Hp) (ls : List Nat) (L : List Ln) (n : Nat) (fs : List Pr) (kvs : List (List L2.Key × V)) : Prop := kvs.length ≤ fs.length ∧
  ∀ x : Pr, (x ∈ fs → ∃ a u v, valV kvs (prK x) = some (.ref a) ∧ H a = some (.tup [.str (wS u), .str (wS v)]) ∧ FpOk ls L n x.1 x.2 u v) ∧ (x ∉ fs → valV kvs (prK x) = none)
def spAheadP (K : PySem.W.Frag) (C O : Addr) : Sp := fun vs H Q _ => ∃ (m : Addr) (ls : List Nat) (L : List Ln) (Es ps : List Int), vs = [.ref m] ∧ MAt K C O H m ls L ps ∧ LsOk ls ∧ EM.Raw ls L Es ∧
  ∀ (d : Addr) (fs : List Pr) (kvs : List (List L2.Key × V)) (H' : Hp), Ex H H' → H' d = some (.dT kvs) → (∀ x : Pr, x ∈ fs ↔ EM.Ah ls L x.1 x.2) → fs.length ≤ 3721 → ApK H' ls L 3800 fs kvs → Q (.ref d) H'
theorem ApK.ex {H H' : Hp} {ls : List Nat} {L : List Ln} {n : Nat} {fs : List Pr} {kvs : List (List L2.Key × V)} (h : ApK H ls L n fs kvs) (e : Ex H H') : ApK H' ls L n fs kvs := ⟨h.1, fun x => ⟨fun hx => by
  obtain ⟨a, u, v, h1, h2, h3⟩ := (h.2 x).1 hx
  exact ⟨a, u, v, h1, e _ _ h2, h3⟩, (h.2 x).2⟩⟩
def PrsAt (H : Hp) (fx : List V) (fs : List Pr) : Prop := fx.length = fs.length ∧ ∀ (i : Nat) (v : V), fx[i]? = some v → ∃ x a, fs[i]? = some x ∧ v = .ref a ∧ H a = some (.tup [.int x.1, .int x.2])
/-- dict and list of the pairs found -/
def ApO (H : Hp) (ls : List Nat) (L : List Ln) (d wt : Addr) (fs : List Pr) (kvs : List (List L2.Key × V)) (fx : List V) (H' : Hp) : Prop :=
  Ex H H' ∧ EM.AhS ls L fs ∧ H' d = some (.dT kvs) ∧ H' wt = some (.lst fx) ∧ ApK H' ls L (62 + fs.length) fs kvs ∧ PrsAt H' fx fs
theorem ApO.ex {H : Hp} {ls : List Nat} {L : List Ln} {d wt : Addr} {fs : List Pr} {kvs : List (List L2.Key × V)} {fx : List V} {H' H2 : Hp} (h : ApO H ls L d wt fs kvs fx H') (e : Ex H' H2) : ApO H ls L d wt fs kvs fx H2 := by
  obtain ⟨h1, h2, h3, h4, h5, h6, h7⟩ := h
  refine ⟨h1.trans e, h2, e _ _ h3, e _ _ h4, h5.ex e, h6, fun i v hi => ?_⟩
  obtain ⟨x, a, g1, g2, g3⟩ := h7 i v hi
  exact ⟨x, a, g1, g2, e _ _ g3⟩
theorem ApO.add {H : Hp} {ls : List Nat} {L : List Ln} {d wt : Addr} {fs : List Pr} {kvs : List (List L2.Key × V)} {fx : List V} {H' : Hp} (hd : H d = none) (hw : H wt = none) (h : ApO H ls L d wt fs kvs fx H') {x : Pr} {t a : Addr} {u v : List Nat} (hn : x ∉ fs) (ht : H' t = some (.tup [.int x.1, .int x.2])) (ha : H' a = some (.tup [.str (wS u), .str (wS v)])) (hk : FpOk ls L (62 + fs.length + 1) x.1 x.2 u v) (hah : EM.Ah ls L x.1 x.2) :
    ApO H ls L d wt (fs ++ [x]) (putK kvs (prK x) (.ref a)) (fx ++ [.ref t]) (upd (upd H' d (.dT (putK kvs (prK x) (.ref a)))) wt (.lst (fx ++ [.ref t]))) := by
  obtain ⟨h1, h2, h3, h4, h5, h6, h7⟩ := h
  have hdw : d ≠ wt := fun z => by rw [z, h4] at h3; cases h3
  have ne : ∀ {b : Addr} {xs : List V}, H' b = some (.tup xs) → (upd (upd H' d (.dT (putK kvs (prK x) (.ref a)))) wt (.lst (fx ++ [.ref t]))) b = some (.tup xs) := fun {b xs} hb => by
    rw [upd_ne (fun z => by rw [z, h4] at hb; cases hb), upd_ne (fun z => by rw [z, h3] at hb; cases hb)]
    exact hb
  have le : (fs ++ [x]).length = fs.length + 1 := by rw [List.length_append, List.length_singleton]
  refine ⟨ex_upd (ex_upd h1 hd) hw, h2.add hah hn, by rw [upd_ne hdw, upd_same], upd_same, ⟨?_, fun y => ⟨fun hy => ?_, fun hy => ?_⟩⟩, ?_, fun i v hi => ?_⟩
  · have := length_putK kvs (prK x) (.ref a)
    have := h5.1
    omega
  · rw [valV_put]
    by_cases e : y = x
    · subst e
      rw [if_pos rfl]
      exact ⟨a, u, v, rfl, ne ha, by rw [le]; exact hk⟩
    · rw [if_neg (fun z => e (prK_inj z))]
      rcases List.mem_append.mp hy with g | g
      · obtain ⟨a', u', v', g1, g2, g3⟩ := (h5.2 y).1 g
        exact ⟨a', u', v', g1, ne g2, g3.fu.mono (by omega), g3.fv.mono (by omega), g3.lt⟩
      · exact absurd (List.mem_singleton.mp g) e
  · rw [valV_put, if_neg (fun z => hy (by rw [prK_inj z]; simp))]
    exact (h5.2 y).2 fun g => hy (List.mem_append_left _ g)
  · rw [List.length_append, List.length_append, h6]; rfl
  · rcases Nat.lt_or_ge i fx.length with g | g
    · rw [List.getElem?_append_left g] at hi
      obtain ⟨y, b, g1, g2, g3⟩ := h7 i v hi
      exact ⟨y, b, by rw [List.getElem?_append_left (by omega)]; exact g1, g2, ne g3⟩
    · rw [List.getElem?_append_right g] at hi
      have z := lt_of_get hi
      rw [List.length_singleton] at z
      have e : i = fx.length := by omega
      subst e
      rw [Nat.sub_self] at hi
      exact ⟨x, t, by rw [List.getElem?_append_right (by omega), h6, Nat.sub_self]; rfl, (Option.some.inj hi).symm, ne ht⟩
theorem scAheadP : FnScope ["machine", "found", "waiting", "at", "pair", "words", "letter", "p", "q"] ["machine"] (defScope (top 21)) := ⟨rfl, rfl, rfl, by decide +kernel, rfl, by decide +kernel, by decide +kernel⟩
theorem ok_ahead_pairs {C O : Addr} (T : Frees mg) (D1 : DfP K mg "first_words" 19) (D2 : DfP K mg "first_pairs" 20) (M : MachC K mg C) (OC : OrdC K mg O) (F : FnP K "ahead_pairs" "ahead_pairs" (top 21) f fd) : FnOk P w K mg base CX0 4 f fd ["machine"] (spAheadP K C O) := by
  refine F.ok scAheadP (fun vs H Q E h => ?_) (fun cdv A outer s H vs Q E hr h => ?_)
  · obtain ⟨_, _, _, _, _, rfl, _⟩ := h
    rfl
  · obtain ⟨m, ls, L, Es, ps, rfl, hMA, hL, hR, q⟩ := h
    obtain ⟨Ls, es, dx, mfs, oa, td, ea, la, pa, lx, hM⟩ := id hMA
    obtain ⟨odx, ofs, odd, okv, hoa, hol, hor, hocn, hod, hov⟩ := id hM.or_
    have hu := hr.u1
    have zL := hR.zL
    have hdet := hR.good.det
    have hlet := hR.lets
    have Dp1 : Df P w K mg base "first_pairs" 3 _ _ := d_first_pairs T D1 M OC D2
    have Dg : DmP P w K mg base C "go" 1 _ _ := d_go T M
    refine ⟨_, PSs.nox (pss_cons (ps_set (i := 1) scAheadP.nd rfl (Or.inl rfl) pe_dnewT)
      (pss_cons (ps_set (i := 2) scAheadP.nd rfl (Or.inl rfl) (pe_lst pa_nil))
      (pss_cons (ps_for PassesOwn.never rfl (pi_list (pe_df Dp1 (hr.mono (by decide)) rfl (pa_cons (pv 0) pa_nil))) (pg_tup rfl (pgs_cons (pg_name (i := 4) scAheadP.nd rfl (Or.inl rfl)) (pgs_cons (pg_name (i := 5) scAheadP.nd rfl (Or.inl rfl)) pgs_nil)))
        (pss_one (ps_if (pt_cmp (pc_dnotin hu (pv 4) (pv 1))) (pss_cons (ps_dput hu (pv 1) (pv 4) (pv 5) rfl)
      (pss_one (ps_expr (pe_bm PySem.F.plainAttrs_list PySem.F.slot_list_append PySem.F.type_list_append mt_append (pv 2) (pa_cons (pv 4) pa_nil))))) pss_nil)))
      (pss_cons (ps_set (i := 3) scAheadP.nd rfl (Or.inl rfl) pe_int)
      (pss_cons (ps_while PassesOwn.never (pt_cmpR op_lt (pv 3) (pe_callB call_len (by rfl) T.len PySem.boot_len (pa_cons (pv 2) pa_nil)) (nomark _))
        (pss_cons (ps_asg (pe_ix ix_list (pv 2) (pv 3) (fun _ _ => rfl)) (pg_tup rfl (pgs_cons (pg_name (i := 7) scAheadP.nd rfl (Or.inl rfl)) (pgs_cons (pg_name (i := 8) scAheadP.nd rfl (Or.inl rfl)) pgs_nil))))
      (pss_cons (ps_aug (i := 3) scAheadP.nd rfl (Or.inl rfl) pe_int ip_add)
      (pss_one (ps_for PassesOwn.never rfl (pi_str (pe_fld (pe_fld (pv 0) rfl) rfl)) (pg_name (i := 6) scAheadP.nd rfl (Or.inl rfl))
        (pss_cons (ps_set (i := 4) scAheadP.nd rfl (Or.inl rfl) (pe_tup (pa_cons (pe_dm Dg (hr.mono (by decide)) (pv 0) (pa_cons (pv 7) (pa_cons (pv 6) pa_nil))) (pa_cons (pe_dm Dg (hr.mono (by decide)) (pv 0) (pa_cons (pv 8) (pa_cons (pv 6) pa_nil))) pa_nil))))
      (pss_one (ps_if (PW.pt (pw_and (pt_cmpR op_notIn_seq pe_non (pv 4) (by rfl)) (pw_and1 (pt_cmp (pc_dnotin hu (pv 4) (pv 1)))))) (pss_cons (ps_dput hu (pv 1) (pv 4) (pe_tup (pa_cons (pe_op op_add_str (pe_ix ix_tup (pe_dget hu (pv 1) (pe_tup (pa_cons (pv 7) (pa_cons (pv 8) pa_nil))) (fun _ _ => rfl)) pe_int (fun _ _ => rfl)) (pv 6)) (pa_cons (pe_op op_add_str (pe_ix ix_tup (pe_dget hu (pv 1) (pe_tup (pa_cons (pv 7) (pa_cons (pv 8) pa_nil))) (fun _ _ => rfl)) pe_int (fun _ _ => rfl)) (pv 6)) pa_nil))) rfl)
      (pss_one (ps_expr (pe_bm PySem.F.plainAttrs_list PySem.F.slot_list_append PySem.F.type_list_append mt_append (pv 2) (pa_cons (pv 4) pa_nil))))) pss_nil))))))))
      (pss_one (ps_ret (pv 1)))))))), ?_⟩
    refine fun d hd => ⟨Nat.zero_le _, fun wt hwt => ?_⟩
    obtain ⟨hwd, hwt0⟩ := upd_nn hwt
    have e0 := ex_new (o := .lst []) (Evl.Ex.new (o := .dT []) hd) hwt
    refine ⟨_, rfl, m, ls, L, Es, ps, rfl, hMA.ex e0, hL, hR, fun o fs0 fx0 H1 ho e1 hfx0 lfx0 dfx0 hok0 hc0 z0 => ?_⟩
    have hA0 : ApO H ls L d wt [] [] [] H1 := ⟨e0.trans e1, ⟨(fun _ h => by cases h), .nil⟩, e1 _ _ (by rw [upd_ne hwd.symm, upd_same]), e1 _ _ upd_same, ⟨Nat.zero_le _, fun x => ⟨(fun h => by cases h), fun _ => rfl⟩⟩, rfl, fun i v h => by simp at h⟩
    have hod1 : o ≠ d := fun z => by rw [z, upd_ne hwd.symm, upd_same] at ho; cases ho
    have how1 : o ≠ wt := fun z => by rw [z, upd_same] at ho; cases ho
    refine ⟨o, rfl, ⟨_, SqL.of hfx0⟩, for_list (K := K) (xs := fx0) (fun i σ H' => ∃ fs kvs fx o4 o5, σ = [some (.ref m), some (.ref d), some (.ref wt), none, o4, o5, none, none, none] ∧ ApO H ls L d wt fs kvs fx H' ∧ H' o = some (.lst fx0) ∧ FpsAt H' fx0 fs0 ∧ ∀ x ∈ fs0.take i, x.1 ∈ fs) ⟨[], _, _, _, _, rfl, hA0, hfx0, dfx0, (fun _ h => by simp at h)⟩ (fun i σ H' _ ⟨_, _, _, _, _, _, _, h, _⟩ => SqL.of h) ?_ ?_⟩
    · rintro i y σ H2 hi ⟨fs, kvs, fx, o4, o5, rfl, hA2, hfx2, df2, c2⟩
      obtain ⟨x, hx, t, t1, t2, rfl, ht, ht1, ht2⟩ := df2 i _ hi
      have hxm := List.mem_of_getElem? hx
      have hok := hok0 x hxm
      have hah := hok.ah hlet
      obtain ⟨e2, s2, hd2, hw2, hk2, hp2⟩ := id hA2
      have few := s2.few zL
      have grow : ∀ {gs : List Pr}, (∀ z ∈ fs, z ∈ gs) → x.1 ∈ gs → ∀ z ∈ fs0.take (i + 1), z.1 ∈ gs := fun {gs} h1 h2 z hz => by
        rw [take_snoc' hx] at hz
        rcases List.mem_append.mp hz with h | h
        · exact h1 _ (c2 z h)
        · rw [List.mem_singleton.mp h]; exact h2
      refine ⟨t, _, rfl, SqT.of ht, rfl, _, _, rfl, _, _, rfl, rfl, ?_⟩
      refine ⟨_, rfl, _, rfl, d, _, rfl, DGet.t (k := prK x.1) hd2 ht1, ?_⟩
      by_cases hin : x.1 ∈ fs
      · obtain ⟨a, u, v, h1, _⟩ := (hk2.2 x.1).1 hin
        rw [h1]
        exact ⟨_, rfl, iteF ⟨fs, kvs, fx, _, _, rfl, hA2, hfx2, df2, grow (fun _ h => h) hin⟩⟩
      · rw [(hk2.2 x.1).2 hin]
        have hw8 : (upd H2 d (.dT (putK kvs (prK x.1) (.ref t2)))) wt = some (.lst fx) := by rw [upd_ne hwd]; exact hw2
        refine ⟨_, rfl, iteT ⟨_, rfl, _, rfl, _, rfl, d, _, rfl, DPut.t (k := prK x.1) hd2 ht1 (sz_lt (by have := hk2.1; omega)), ?_⟩⟩
        refine ⟨_, rfl, .inl ⟨rfl, _, SqL.of hw8⟩, _, rfl, wt, _, _, rfl, rfl, hw8, sz_lt (by have := hp2.1; omega), ?_⟩
        refine ⟨fs ++ [x.1], _, _, _, _, rfl, hA2.add hd hwt0 hin ht1 ht2 ⟨hok.fu.mono (by omega), hok.fv.mono (by omega), hok.lt⟩ hah, ?_, (df2.upd fun xs z => by rw [hd2] at z; cases z).upd (fun xs z => by rw [hw8] at z; cases z), grow (fun z h => List.mem_append_left _ h) (by simp)⟩
        rw [upd_ne how1, upd_ne hod1]
        exact hfx2
    · rintro σ H2 ⟨fs, kvs, fx, o4, o5, rfl, hA2, hfx2, df2, c2⟩
      rw [lfx0, List.take_length] at c2
      have c2' : ∀ l ∈ L, EM.AhC ls L l fs := fun l hl => (hc0 l hl).mono fun z hz => by
        obtain ⟨y, hy, rfl⟩ := List.mem_map.mp hz
        exact c2 y hy
      refine ⟨fun mm σ H' => ∃ fs kvs fx at_ o4 o5 o6 o7 o8, mm = 3722 - at_ ∧ σ = [some (.ref m), some (.ref d), some (.ref wt), some (.int (at_ : Nat)), o4, o5, o6, o7, o8] ∧ ApO H ls L d wt fs kvs fx H' ∧ (∀ l ∈ L, EM.AhC ls L l fs) ∧ at_ ≤ fs.length ∧ ∀ (i : Nat) (x : Pr), i < at_ → fs[i]? = some x → ∀ c ∈ ls, EM.AhN ls L x fs c, ⟨3722, fs, kvs, fx, 0, _, _, _, _, _, rfl, rfl, hA2, c2', Nat.zero_le _, fun i x h => by omega⟩, ?_⟩
      rintro mm σ H3 ⟨fs, kvs, fx, at_, o4, o5, o6, o7, o8, rfl, rfl, hA3, c3, z3, n3⟩
      obtain ⟨e3, s3, hd3, hw3, hk3, hp3⟩ := id hA3
      have few := s3.few zL
      refine ⟨_, rfl, _, rfl, _, _, rfl, .inl ⟨_, SqL.of hw3, rfl⟩, _, _, rfl, rfl, _, rfl, ?_⟩
      refine ite2 (fun hb => ⟨fun σ' H' => ∃ m', m' < 3722 - at_ ∧ ∃ fs kvs fx at_ o4 o5 o6 o7 o8, m' = 3722 - at_ ∧ σ' = [some (.ref m), some (.ref d), some (.ref wt), some (.int (at_ : Nat)), o4, o5, o6, o7, o8] ∧ ApO H ls L d wt fs kvs fx H' ∧ (∀ l ∈ L, EM.AhC ls L l fs) ∧ at_ ≤ fs.length ∧ ∀ (i : Nat) (x : Pr), i < at_ → fs[i]? = some x → ∀ c ∈ ls, EM.AhN ls L x fs c, fun _ _ h => h, ?_⟩) (fun hb => ?_)
      · have hat : at_ < fs.length := by
          have := of_decide_eq_true hb
          have := hp3.1
          omega
        obtain ⟨vx, hvx⟩ : ∃ vx, fx[at_]? = some vx := ⟨_, List.getElem?_eq_getElem (by rw [hp3.1]; exact hat)⟩
        obtain ⟨x, a, hx, rfl, hT⟩ := hp3.2 _ _ hvx
        refine ⟨_, rfl, _, rfl, wt, _, _, .ref a, rfl, rfl, SqL.of hw3, atI_nat hvx, ?_⟩
        refine ⟨a, _, rfl, SqT.of hT, rfl, _, _, rfl, _, _, rfl, rfl, ?_⟩
        refine ⟨_, rfl, _, _, rfl, rfl, ?_⟩
        have hM3 := hM.ex e3
        refine ⟨_, rfl, m, C, dx, mfs, _, rfl, hM3.ha, M.cls, M.no, hM3.fo, oa, O, odx, ofs, _, rfl, e3 _ _ hoa, OC.cls, OC.nl, hol, _, rfl, for_w (fun k σ H' => ∃ fs2 kvs2 fx2 o4 o6, σ = [some (.ref m), some (.ref d), some (.ref wt), some (.int (at_ + 1 : Nat)), o4, o5, o6, some (.int x.1), some (.int x.2)] ∧ ApO H ls L d wt fs2 kvs2 fx2 H' ∧ (∃ r, fs2 = fs ++ r) ∧ ∀ c ∈ ls.take k, EM.AhN ls L x fs2 c) ⟨fs, kvs, fx, _, _, rfl, hA3, ⟨[], by simp⟩, (fun _ h => by simp at h)⟩ ?_ ?_⟩
        · rintro k c σ H4 hk ⟨fs2, kvs4, fx4, o4, o6, rfl, hA4, ⟨r, rfl⟩, n4⟩
          have hc : c ∈ ls := List.mem_of_getElem? hk
          have hx4 : (fs ++ r)[at_]? = some x := EM.get_app hx r
          have hxm : x ∈ fs ++ r := List.mem_of_getElem? hx4
          have e4 := hA4.1
          have s4 := hA4.2.1
          have few4 := s4.few zL
          have hM4 := hM.ex e4
          refine ⟨_, rfl, m, dx, mfs, rfl, hM4.ha, hM4.ng, _, rfl, _, rfl, m, L, x.1, c, rfl, hM4.go, fun H5 e5 => ?_⟩
          have hM5 := hM.ex (e4.trans e5)
          refine ⟨_, rfl, m, dx, mfs, rfl, hM5.ha, hM5.ng, _, rfl, _, rfl, m, L, x.2, c, rfl, hM5.go, fun H6 e6 => ⟨len2 _ _, fun t ht => ?_⟩⟩
          have hA7 := hA4.ex (ex_new (o := .tup [oI (EM.goes L x.1 c), oI (EM.goes L x.2 c)]) (e5.trans e6) ht)
          have fl : ∀ u v : Option Int, [oI u, oI v].all flatV = true := fun u v => by cases u <;> cases v <;> rfl
          refine ⟨_, rfl, t, _, rfl, .inr (SqT.of upd_same), rfl, fl _ _, _, rfl, ?_⟩
          have grow : ∀ {gs : List Pr}, (∀ z ∈ fs ++ r, z ∈ gs) → EM.AhN ls L x gs c → ∀ d ∈ ls.take (k + 1), EM.AhN ls L x gs d := fun {gs} h1 h2 d hd => by
            rw [take_snoc' hk] at hd
            rcases List.mem_append.mp hd with h4 | h4
            · exact (n4 d h4).mono h1
            · rw [List.mem_singleton.mp h4]; exact h2
          have hts : (upd H6 t (.tup [oI (EM.goes L x.1 c), oI (EM.goes L x.2 c)])) t = some (.tup [oI (EM.goes L x.1 c), oI (EM.goes L x.2 c)]) := upd_same
          generalize hH7 : upd H6 t (.tup [oI (EM.goes L x.1 c), oI (EM.goes L x.2 c)]) = H7 at hA7 hts ⊢
          cases hg1 : EM.goes L x.1 c with
          | none =>
            have hin : inV V.non [oI none, oI (EM.goes L x.2 c)] = true := rfl
            rw [hin]
            exact iteF (iteF ⟨fs ++ r, _, _, _, _, rfl, hA7, ⟨r, rfl⟩, grow (fun _ h => h) fun p' q' h _ => by rw [hg1] at h; cases h⟩)
          | some p' =>
            cases hg2 : EM.goes L x.2 c with
            | none =>
              have hin : inV V.non [oI (some p'), oI none] = true := rfl
              rw [hin]
              exact iteF (iteF ⟨fs ++ r, _, _, _, _, rfl, hA7, ⟨r, rfl⟩, grow (fun _ h => h) fun _ _ _ h => by rw [hg2] at h; cases h⟩)
            | some q' =>
              have hin : inV V.non [oI (some p'), oI (some q')] = false := rfl
              rw [hg1, hg2] at hts
              rw [hin]
              obtain ⟨e7, s7, hd7, hw7, hk7, hp7⟩ := id hA7
              have ht7 : H7 t = some (.tup [.int (p', q').1, .int (p', q').2]) := hts
              refine iteT ⟨_, rfl, _, rfl, d, _, rfl, DGet.t (k := prK (p', q')) hd7 ht7, ?_⟩
              have nx : ∀ {gs : List Pr}, (p', q') ∈ gs → EM.AhN ls L x gs c := fun h p2 q2 h1 h2 => by
                rw [hg1] at h1
                rw [hg2] at h2
                rw [← Option.some.inj h1, ← Option.some.inj h2]
                exact h
              by_cases hin2 : ((p', q') : Pr) ∈ fs ++ r
              · obtain ⟨a', u, v, h1, _⟩ := (hk7.2 (p', q')).1 hin2
                rw [h1]
                exact ⟨_, rfl, iteF ⟨fs ++ r, _, _, _, _, rfl, hA7, ⟨r, rfl⟩, grow (fun _ h => h) (nx hin2)⟩⟩
              · rw [(hk7.2 (p', q')).2 hin2]
                obtain ⟨a', u, v, h1, h2, h3⟩ := (hk7.2 x).1 hxm
                refine ⟨_, rfl, iteT ?_⟩
                have dget : ∀ {H' : Hp} {s : Addr}, Ex H7 H' → H' s = some (.tup [.int x.1, .int x.2]) → DGet H' d (.ref s) (some (.ref a')) := fun {H'} {s} e es => by
                  have g := DGet.t (k := prK x) (e _ _ hd7) es
                  rw [h1] at g
                  exact g
                have szw : ∀ {y : Int} {z : List Nat}, Fw ls L (62 + (fs ++ r).length) y z → (wS z).length + (chS c).length ≤ sizeLine := fun {y z} h => by
                  rw [wS_len]
                  show z.length + 1 ≤ sizeLine
                  have := h.len
                  exact sz_of (by omega)
                refine ⟨_, rfl, _, rfl, _, rfl, len2 _ _, fun s1 g1 => ⟨d, _, rfl, dget (Evl.Ex.new g1) upd_same, a', _, _, _, rfl, rfl, SqT.of (Evl.Ex.new g1 _ _ h2), rfl, _, rfl, wS u, chS c, rfl, rfl, szw h3.fu, _, rfl, _, rfl, _, rfl, len2 _ _, fun s2 g2 => ?_⟩⟩
                have es1 := Evl.Ex.new (o := .tup [.int x.1, .int x.2]) g1
                have es2 := es1.trans (Evl.Ex.new (o := .tup [.int x.1, .int x.2]) g2)
                refine ⟨d, _, rfl, dget es2 upd_same, a', _, _, _, rfl, rfl, SqT.of (es2 _ _ h2), rfl, _, rfl, wS v, chS c, rfl, rfl, szw h3.fv, len2 _ _, fun s3 g3 => ?_⟩
                rw [wS_snoc, wS_snoc]
                have es3 := ex_new (o := .tup [.str (wS (u ++ [c])), .str (wS (v ++ [c]))]) es2 g3
                have hA8 := hA7.ex es3
                have ht8 := es3 _ _ ht7
                have hs8 : (upd (upd (upd H7 s1 (.tup [.int x.1, .int x.2])) s2 (.tup [.int x.1, .int x.2])) s3 (.tup [.str (wS (u ++ [c])), .str (wS (v ++ [c]))])) s3 = some (.tup [.str (wS (u ++ [c])), .str (wS (v ++ [c]))]) := upd_same
                generalize upd (upd (upd H7 s1 (.tup [.int x.1, .int x.2])) s2 (.tup [.int x.1, .int x.2])) s3 (.tup [.str (wS (u ++ [c])), .str (wS (v ++ [c]))]) = H8 at hA8 ht8 hs8 ⊢
                obtain ⟨e8, s8, hd8, hw8, hk8, hp8⟩ := id hA8
                have hok : FpOk ls L (62 + (fs ++ r).length + 1) p' q' (u ++ [c]) (v ++ [c]) := ⟨h3.fu.snoc hc hg1, h3.fv.snoc hc hg2, by
                  rw [EM.kc_snoc, EM.kc_snoc]
                  exact List.cons_lt_cons_iff.mpr (.inr ⟨rfl, h3.lt⟩)⟩
                have hw9 : (upd H8 d (.dT (putK kvs4 (prK (p', q')) (.ref s3)))) wt = some (.lst fx4) := by rw [upd_ne hwd]; exact hw8
                refine ⟨_, rfl, _, rfl, d, _, rfl, DPut.t (k := prK (p', q')) hd8 ht8 (sz_lt (by have := hk8.1; omega)), ?_⟩
                refine ⟨_, rfl, .inl ⟨rfl, _, SqL.of hw9⟩, _, rfl, wt, _, _, rfl, rfl, hw9, sz_lt (by have := hp8.1; omega), ?_⟩
                exact ⟨fs ++ r ++ [(p', q')], _, _, _, _, rfl, hA8.add hd hwt0 hin2 ht8 hs8 hok (.step (s4.snd x hxm) (EM.goes_mem hg1) (EM.goes_mem hg2)), ⟨r ++ [(p', q')], by rw [List.append_assoc]⟩, grow (fun z h => List.mem_append_left _ h) (nx (by simp))⟩
        · rintro σ H4 ⟨fs2, kvs4, fx4, o4, o6, rfl, hA4, ⟨r, rfl⟩, n4⟩
          rw [List.take_length] at n4
          refine ⟨3722 - (at_ + 1), by omega, fs ++ r, _, _, at_ + 1, _, _, _, _, _, rfl, rfl, hA4, fun l hl => (c3 l hl).mono fun z h => by simp [h], by rw [List.length_append]; omega, fun i y hi hy c hc => ?_⟩
          rcases Nat.lt_or_ge i at_ with h | h
          · rw [List.getElem?_append_left (by omega)] at hy
            exact (n3 i y h hy c hc).mono fun z h => by simp [h]
          · have : i = at_ := by omega
            subst this
            rw [EM.get_app hx r] at hy
            obtain rfl := Option.some.inj hy
            exact n4 c hc
      · have hat : at_ = fs.length := by
          have h1 : ¬ ((at_ : Int) < (fx.length : Nat)) := fun z => hb (decide_eq_true z)
          have := hp3.1
          omega
        have hfull : ∀ x : Pr, x ∈ fs ↔ EM.Ah ls L x.1 x.2 := fun x => ⟨fun h => s3.snd _ h, fun h => h.all hdet hlet c3 (fun x hx c hc => ?_)⟩
        · refine ⟨_, rfl, q d fs kvs H3 e3 hd3 hfull few ⟨hk3.1, fun x => ⟨fun hx => ?_, (hk3.2 x).2⟩⟩⟩
          obtain ⟨a, u, v, h1, h2, h3⟩ := (hk3.2 x).1 hx
          exact ⟨a, u, v, h1, h2, h3.fu.mono (by omega), h3.fv.mono (by omega), h3.lt⟩
        · obtain ⟨i, hi⟩ := List.mem_iff_getElem?.mp hx
          exact n3 i x (by rw [hat]; exact lt_of_get hi) hi c hc
theorem d_ahead_pairs {C O : Addr} (T : Frees mg) (D1 : DfP K mg "first_words" 19) (D2 : DfP K mg "first_pairs" 20) (M : MachC K mg C) (OC : OrdC K mg O) (h : DfP K mg "ahead_pairs" 21) : Df P w K mg base "ahead_pairs" 4 ["machine"] (spAheadP K C O) :=
  h.df (fun _ _ F => ok_ahead_pairs T D1 D2 M OC F) fun _ _ _ _ _ _ us hl => match us, hl with | [_], _ => rfl
end
end E

set_option maxRecDepth 100000
set_option maxHeartbeats 4000000
namespace E
open PySem PySem.Spec PyProof.Rows L2
section
variable {P : Program} {w : World} {K : PySem.W.Frag} {mg : Str → Option Value} {base : Heap} {f : Addr} {fd : FuncData}
def spCrossedP (K : PySem.W.Frag) : Sp := fun vs H Q _ => ∃ (pa d : Addr) (ls : List Nat) (L : List Ln) (ps : List Int) (fs : List Pr) (kvs : List (List L2.Key × V)), vs = [.ref pa, .ref d] ∧ SqT K H pa (ps.map V.int) ∧ ps.length ≤ 121 ∧ H d = some (.dT kvs) ∧ (∀ x : Pr, x ∈ fs ↔ EM.Ah ls L x.1 x.2) ∧ ApK H ls L 3800 fs kvs ∧
  ∀ (r : Addr) (fx : List V) (H' : Hp), H r = none → Ex H H' → H' r = some (.lst fx) → DpAll K H' fx ((EM.crL ls L ps).map prP) → Q (.ref r) H'
theorem scCrossedP : FnScope ["places", "pairs", "p", "q"] ["places", "pairs"] (defScope (top 22)) := ⟨rfl, rfl, rfl, by decide +kernel, rfl, by decide +kernel, by decide +kernel⟩
theorem ok_crossed_pairs (F : FnP K "crossed_pairs" "crossed_pairs" (top 22) f fd) : FnOk P w K mg base CX0 1 f fd ["places", "pairs"] (spCrossedP K) := by
  refine F.ok scCrossedP (fun vs H Q E h => ?_) (fun cdv A outer s H vs Q E hr h => ?_)
  · obtain ⟨_, _, _, _, _, _, _, rfl, _⟩ := h
    rfl
  · obtain ⟨pa, d, ls, L, ps, fs, kvs, rfl, hpa, zps, hd, hfs, hK, q⟩ := h
    have hu := hr.u1
    refine ⟨_, PSs.nox (pss_one (ps_ret (pe_lc2D (own := [("p", 2), ("q", 3)]) (vs1 := [3]) s H rfl scCrossedP.nd (pi_tup (pv 0)) (blkOk_by (own := [("p", 2), ("q", 3)]) (N := ["places", "pairs", "p", "q"]) (sc := (defScope (top 22))) (by decide +kernel)) (by decide) (pg_name (i := 2) scCrossedP.nd rfl (Or.inl rfl)) pts_nil (pi_tup (pv 0)) (pg_name (i := 3) scCrossedP.nd rfl (Or.inl rfl)) (pts_one (PW.pt (pw_and (pt_cmpR op_lt (pv 2) (pv 3) (nomark _)) (pw_and (pt_cmp (pc_din hu (pe_tup (pa_cons (pv 2) (pa_cons (pv 3) pa_nil))) (pv 1))) (pw_and1 (pt_cmp (pc_din hu (pe_tup (pa_cons (pv 3) (pa_cons (pv 2) pa_nil))) (pv 1)))))))) (pe_tup (pa_cons (pv 2) (pa_cons (pv 3) pa_nil))) (fun _ _ _ _ _ => (pg_name (i := 2) scCrossedP.nd rfl (Or.inl rfl))) (fun _ _ _ _ _ => pts_nil) (fun _ _ _ _ _ => (pi_tup (pv 0))) (fun _ _ _ _ _ => (pg_name (i := 3) scCrossedP.nd rfl (Or.inl rfl))) (fun _ _ _ _ _ => (pts_one (PW.pt (pw_and (pt_cmpR op_lt (pv 2) (pv 3) (nomark _)) (pw_and (pt_cmp (pc_din hu (pe_tup (pa_cons (pv 2) (pa_cons (pv 3) pa_nil))) (pv 1))) (pw_and1 (pt_cmp (pc_din hu (pe_tup (pa_cons (pv 3) (pa_cons (pv 2) pa_nil))) (pv 1))))))))) (fun _ _ _ _ _ => (pe_tup (pa_cons (pv 2) (pa_cons (pv 3) pa_nil))))))), ?_⟩
    have hget : ∀ {H' : Hp} {s : Addr} (x : Pr), Ex H H' → H' s = some (.tup [.int x.1, .int x.2]) → DGet H' d (.ref s) (valV kvs (prK x)) := fun {H'} {s} x e es => DGet.t (k := prK x) (e _ _ hd) es
    have hval : ∀ x : Pr, (valV kvs (prK x)).isSome = EM.aB ls L x.1 x.2 := fun x => by
      by_cases hin : x ∈ fs
      · obtain ⟨a', u, v, h1, _⟩ := (hK.2 x).1 hin
        rw [h1, EM.aB_iff.mpr ((hfs x).mp hin)]
        rfl
      · rw [(hK.2 x).2 hin]
        cases e : EM.aB ls L x.1 x.2 with
        | false => rfl
        | true => exact absurd ((hfs x).mpr (EM.aB_iff.mp e)) hin
    have zf : ∀ k : List Int, k.length ≤ 121 → (k.flatMap (EM.crR ls L ps)).length ≤ 121 * 121 := fun k hk => Nat.le_trans (EM.flat_le (n := 121) (fun a => Nat.le_trans (EM.crR_len _ _ _ _) zps) _) (Nat.mul_le_mul_right _ hk)
    have lm : (ps.map V.int).length = ps.length := by rw [List.length_map]
    have hw := walk_tup (K := K) (a := pa) (xs := ps.map V.int)
    refine ⟨_, rfl, pa, rfl, ⟨_, hpa⟩, fun D hD => ⟨fun i m H' => m = ps.length + 1 - i ∧ i ≤ ps.length ∧ Ex H H' ∧ ∃ acc, H' D = some (.lst acc) ∧ DpAll K (hid [D] H') acc (((ps.take i).flatMap (EM.crR ls L ps)).map prP), ⟨_, rfl, Nat.zero_le _, Evl.Ex.new hD, [], upd_same, .nil⟩, ?_⟩⟩
    rintro i m H1 ⟨rfl, hi, e1, acc, hacc, hA⟩
    rcases Nat.lt_or_ge i ps.length with h | h
    · obtain ⟨p, hp⟩ : ∃ p, ps[i]? = some p := ⟨_, List.getElem?_eq_getElem h⟩
      refine .inr ⟨hw.goes i H1 (by omega) (Evl.ex_t e1 hpa), fun H' => ∃ m', m' < ps.length + 1 - i ∧ m' = ps.length + 1 - (i + 1) ∧ i + 1 ≤ ps.length ∧ Ex H H' ∧ ∃ acc, H' D = some (.lst acc) ∧ DpAll K (hid [D] H') acc (((ps.take (i + 1)).flatMap (EM.crR ls L ps)).map prP), fun _ h => h, fun x H' hy => ?_⟩
      obtain ⟨rfl, hx⟩ := hw.yields i H1 x H' (by omega) (Evl.ex_t e1 hpa) hy
      rw [List.getElem?_map, hp] at hx
      obtain rfl := Option.some.inj hx
      refine ⟨rfl, _, rfl, pa, rfl, ⟨_, Evl.ex_t e1 hpa⟩, fun j k H2 => k = ps.length + 1 - j ∧ j ≤ ps.length ∧ Ex H H2 ∧ ∃ acc, H2 D = some (.lst acc) ∧ DpAll K (hid [D] H2) acc (((ps.take i).flatMap (EM.crR ls L ps) ++ EM.crR ls L (ps.take j) p).map prP), ⟨_, rfl, Nat.zero_le _, e1, acc, hacc, ?_⟩, ?_⟩
      · rw [show EM.crR ls L (ps.take 0) p = [] from rfl, List.append_nil]
        exact hA
      rintro j k H2 ⟨rfl, hj, e2, acc2, hacc2, hA2⟩
      rcases Nat.lt_or_ge j ps.length with g | g
      · obtain ⟨y, hy1⟩ : ∃ y, ps[j]? = some y := ⟨_, List.getElem?_eq_getElem g⟩
        refine .inr ⟨hw.goes j H2 (by omega) (Evl.ex_t e2 hpa), fun H' => ∃ k', k' < ps.length + 1 - j ∧ k' = ps.length + 1 - (j + 1) ∧ j + 1 ≤ ps.length ∧ Ex H H' ∧ ∃ acc, H' D = some (.lst acc) ∧ DpAll K (hid [D] H') acc (((ps.take i).flatMap (EM.crR ls L ps) ++ EM.crR ls L (ps.take (j + 1)) p).map prP), fun _ h => h, fun x H3 hy => ?_⟩
        obtain ⟨rfl, hx⟩ := hw.yields j H2 x H3 (by omega) (Evl.ex_t e2 hpa) hy
        rw [List.getElem?_map, hy1] at hx
        obtain rfl := Option.some.inj hx
        have hstep : EM.crR ls L (ps.take (j + 1)) p = EM.crR ls L (ps.take j) p ++ (if (decide (p < y) && (EM.aB ls L p y && EM.aB ls L y p)) = true then [(p, y)] else []) := by
          unfold EM.crR
          rw [take_snoc' hy1, List.filter_append, List.map_append]
          by_cases c : (decide (p < y) && (EM.aB ls L p y && EM.aB ls L y p)) = true
          · simp only [List.filter_cons, List.filter_nil]; rw [if_pos c, if_pos c]; rfl
          · simp only [List.filter_cons, List.filter_nil]; rw [if_neg c, if_neg c]; rfl
        have skip : ∀ {H4 : Hp}, Ex H3 H4 → (decide (p < y) && (EM.aB ls L p y && EM.aB ls L y p)) = false → ∃ k', k' < ps.length + 1 - j ∧ k' = ps.length + 1 - (j + 1) ∧ j + 1 ≤ ps.length ∧ Ex H H4 ∧ ∃ acc, H4 D = some (.lst acc) ∧ DpAll K (hid [D] H4) acc (((ps.take i).flatMap (EM.crR ls L ps) ++ EM.crR ls L (ps.take (j + 1)) p).map prP) := fun {H4} e c => by
          refine ⟨_, by omega, rfl, g, e2.trans e, acc2, e _ _ hacc2, ?_⟩
          rw [hstep, if_neg (by rw [c]; exact Bool.false_ne_true), List.append_nil]
          exact dps_mono (hid_mono e) hA2
        refine ⟨rfl, _, rfl, _, rfl, _, _, rfl, rfl, _, rfl, ?_⟩
        by_cases h1 : p < y
        · rw [decide_eq_true h1] at skip hstep ⊢
          refine iteT ⟨_, rfl, _, rfl, len2 _ _, fun t1 ht1 => ⟨_, rfl, d, _, rfl, hget (p, y) (e2.trans (Evl.Ex.new ht1)) upd_same, ?_⟩⟩
          have en1 := Evl.Ex.new (o := .tup [.int p, .int y]) ht1
          rw [hval]
          refine ⟨_, rfl, ?_⟩
          cases h2 : EM.aB ls L p y with
          | false =>
            rw [h2] at skip
            exact iteF (iteF (skip en1 rfl))
          | true =>
            rw [h2] at skip hstep
            refine iteT ⟨_, rfl, _, rfl, len2 _ _, fun t2 ht2 => ⟨_, rfl, d, _, rfl, hget (y, p) ((e2.trans en1).trans (Evl.Ex.new ht2)) upd_same, ?_⟩⟩
            have en2 := en1.trans (Evl.Ex.new (o := .tup [.int y, .int p]) ht2)
            rw [hval]
            refine ⟨_, rfl, ?_⟩
            cases h3 : EM.aB ls L y p with
            | false =>
              rw [h3] at skip
              exact iteF (skip en2 rfl)
            | true =>
              rw [h3] at hstep
              refine iteT ⟨_, rfl, _, rfl, len2 _ _, fun t ht => ?_⟩
              have en3 := en2.trans (Evl.Ex.new (o := .tup [.int p, .int y]) ht)
              have htD : t ≠ D := (ne_of_none (en2 _ _ hacc2) ht).symm
              have l2 : acc2.length ≤ 121 * 121 + 121 := by
                rw [dps_len hA2, List.length_map, List.length_append]
                have := zf (ps.take i) (Nat.le_trans (by rw [List.length_take]; exact Nat.min_le_right _ _) zps)
                have := EM.crR_len ls L (ps.take j) p
                have : (ps.take j).length ≤ ps.length := by rw [List.length_take]; exact Nat.min_le_right _ _
                omega
              refine ⟨acc2, en3 _ _ hacc2, sz_lt (by omega), _, by omega, rfl, g, ex_upd (e2.trans en3) hD, _, upd_same, ?_⟩
              rw [hid_upd (by simp), hstep, if_pos (by rfl), ← List.append_assoc, List.map_append]
              exact dps_app (dps_mono (hid_mono en3) hA2) (dps_one (dp_prP (x := (p, y)) (by rw [hid_at (by simpa using htD), upd_same])))
        · rw [decide_eq_false h1] at skip ⊢
          exact iteF (iteF (skip (Evl.Ex.refl _) rfl))
      · have : j = ps.length := by omega
        subst this
        refine .inl ⟨by have := hw.stops H2 (Evl.ex_t e2 hpa); rw [lm] at this; exact this, _, by omega, rfl, h, e2, acc2, hacc2, ?_⟩
        rw [take_snoc' hp, List.flatMap_append, List.flatMap_cons, List.flatMap_nil, List.append_nil]
        rw [List.take_length] at hA2
        exact hA2
    · have : i = ps.length := by omega
      subst this
      rw [List.take_length] at hA
      exact .inl ⟨by have := hw.stops H1 (Evl.ex_t e1 hpa); rw [lm] at this; exact this, q D acc H1 hD e1 hacc (dps_hid hA)⟩
theorem d_crossed_pairs (h : DfP K mg "crossed_pairs" 22) : Df P w K mg base "crossed_pairs" 1 ["places", "pairs"] (spCrossedP K) :=
  h.df (fun _ _ F => ok_crossed_pairs F) fun _ _ _ _ _ _ us hl => match us, hl with | [_, _], _ => rfl
end
end E

set_option maxRecDepth 100000
set_option maxHeartbeats 4000000
namespace E
open PySem PySem.Spec PyProof.Rows L2 NdefX
section
variable {CX : CXT} {P : Program} {w : World} {K : PySem.W.Frag} {mg : Str → Option Value} {base : Heap} {N ps : List Str} {F : NF} {f cc D : Addr} {k : Nat} {sp : Sp}
/-- a method that captures __class__: its body, looked at with its own code point -/
theorem fnS_of {doc pm ctv oc cl : Value} {od cld : Option Addr} {osl csl : Array (Option Value)} (lk : K.lookup f = some ⟨oc, od, .func (F.fd doc pm ctv), osl⟩) (hcd : PySem.W.codeIn K (.ref F.c) F.qual = true) (hcl : F.cl = [(("__class__" : Str), cc)]) (hcc : K.lookup cc = some ⟨cl, cld, .cell (some (.ref D)), csl⟩)
    (S : NScope N ps [("__class__" : Str)] F.scope) (len : ∀ vs H Q E, sp vs H Q E → vs.length = ps.length)
    (hbody : ∀ (A : Around) (outer : List Env) (s : Shared) (H : Hp) (vs : List V) (Q : VK) (E : XK) (s1 : Shared), Room k (A.deeper (envF F f s.heap.objs.size)) → sp vs H Q E → Inv (ncx CX P w K mg base N F f A outer s H E) [] (startF N vs [some (.ref D)]) H s1 →
      _root_.PySem.wpAt (model P w) (A.deeper (envF F f s.heap.objs.size)) (.func F.body (envF F f s.heap.objs.size)) (execs F.body (envF F f s.heap.objs.size)) (SP (ncx CX P w K mg base N F f A outer s H E) [] { nx := fun _ H' => Q .non H', rt := Q }) (ncx CX P w K mg base N F f A outer s H E).xe s1) :
    FnOk P w K mg base CX (k + 1) f (F.fd doc pm ctv) ps sp := by
  refine ⟨len, fun A outer s H args us vs Q E hr e0 hb r hsp => ?_⟩
  have KX : K.In s.heap := e0.mod.kin.keeps fun b o e => (e0.bs b o e).1
  have hl := len _ _ _ _ hsp
  have lim : s.heap.NoLimit := e0.mod.nolimit.keeps fun b o e => (e0.bs b o e).1
  have C : CellsAt F.cl [("__class__" : Str)] [some (.ref D)] s.heap H := by
    have hc0 := e0.mod.kin _ _ hcc
    have hc1 : s.heap.IsCell cc (some (.ref D)) := ⟨_, (e0.bs _ _ hc0).1, rfl⟩
    have one : ∀ {y : Str} {c : Addr}, F.cl.lookup y = some c → y = "__class__" ∧ c = cc := fun {y c} h => by
      rw [hcl] at h
      have h1 := PySem.mem_of_lookup h
      rw [List.mem_singleton] at h1
      injection h1 with h2 h3
      exact ⟨h2, h3⟩
    refine ⟨rfl, fun y c h => ?_, fun x y c h1 h2 => (one h1).1.trans (one h2).1.symm, fun i y hi => ?_⟩
    · rw [(one h).2]
      exact ⟨(e0.bs _ _ hc0).2, _, hc1⟩
    · cases i with
      | succ i => simp at hi
      | zero =>
        obtain rfl := Option.some.inj hi
        refine ⟨cc, by rw [hcl]; rfl, fun v hv => ?_⟩
        have hv' : some (V.ref D) = some v := Option.some.inj hv
        rw [← Option.some.inj hv']
        exact ⟨.ref D, rfl, hc1⟩
  refine codeAny_call_function hr.depth (KX _ _ lk) rfl S.co S.gen rfl (PySem.W.codeRec_of KX hcd) (hb _ _ _ _ ?_)
  refine wpAny_newFunctionEnv S.nocell (fun ⟨n, _⟩ hy => S.par n (List.of_mem_zip hy).1) (fun h₁ hns hsb => ⟨lim.fresh _ hsb, ?_⟩) S.kind
  show codeAny _ _ (.func F.body (envF F f s.heap.objs.size)) _ _
  have kp : ∀ b o, s.heap.get? b = some o → h₁.get? b = some o := fun b o e => hsb.extBut b o (Nat.ne_of_lt (Heap.lt_size e)) (Heap.get?_push_of_some _ e)
  have I : Inv (ncx CX P w K mg base N F f A outer s H E) [] (startF N vs [some (.ref D)]) H { s with heap := h₁, toks := s.toks + (ps.zip us).length } := inv_startN S hr.hd e0 hl r C hns kp
  refine PySem.ks_codeAny_funcAt (PySem.ks_wpAt_mono (hbody A outer s H vs Q E _ (hr.deeper _) hsp I) (fun fl s' hs => ?_) fun e s' hs => hs)
  have fin : ∀ {σ' : L2.St} {H' : Hp} {v : V} {u : Value}, Inv (ncx CX P w K mg base N F f A outer s H E) [] σ' H' s' → L2.RelV v u → Q v H' → CE outer P w H s Q u s' :=
    fun {σ' H' v u} J rv q => ⟨v, H', J.os, J.bare, J.base, J.hok, rv, q⟩
  cases fl with
  | ret u =>
    obtain ⟨v, σ', H', J, rv, q⟩ := hs
    exact fin J rv q
  | next =>
    obtain ⟨σ', H', J, q⟩ := hs
    exact fin (v := V.non) (u := Value.none) J rfl q
  | brk =>
    obtain ⟨_, _, _, q⟩ := hs
    exact False.elim q
  | cont =>
    obtain ⟨_, _, _, q⟩ := hs
    exact False.elim q
end
end E

set_option maxRecDepth 100000
set_option maxHeartbeats 4000000
namespace E
open PySem PySem.Spec PyProof.Rows L2 NdefX
section
variable {X : Cx} {pins : List (Addr × Obj)} {σ : L2.St} {H : Hp} {s : Shared} {Q : Value → Shared → Prop} {Er : Value → Shared → Prop}
/-- a name's value, without the walk of an expression -/
theorem ldn_ok {i : Nat} {x : Str} {v : V} (I : Inv X pins σ H s) (hN : X.N[i]? = some x) (hv : Vis X.env.scope x) (e : σ[i]? = some (some v)) (h : ∀ u, RelV v u → Q u s) (hcd : (x == ("__classdict__" : Str)) = false := by decide) : wpAny (model X.prog X.w) X.A (loadName X.env x) Q Er s := by
  obtain ⟨m, hn, hl⟩ := I.loc
  obtain ⟨u, r, l⟩ := hl i x v hN e hv
  rcases l with ⟨hk, hm⟩ | ⟨hk, c, hc, hcell⟩
  · exact wpAny_loadName_local I.ok.kind hk hn hm (h u r)
  · rcases hk with hk | hk
    · exact wpAny_loadName_cell I.ok.kind hk hc hcell (h u r)
    · exact wpAny_loadName_free I.ok.kind hk hc hcell (h u r) hcd
theorem ldn_super (I : Inv X pins σ H s) (hg : X.env.kindOf "super" = some .globalImplicit) (hm : X.mg "super" = none) (h : Q (.type "super") s) : wpAny (model X.prog X.w) X.A (loadName X.env "super") Q Er s := by
  obtain ⟨mb, h1, h2⟩ := I.mod.blt
  refine PySem.W.ks_loadName_global I.ok.kind hg (PySem.Calls.loadGlobal_builtin (by rw [I.ok.glob]; exact I.mod.glob.keeps I.bk) hm (by rw [I.ok.blt]; exact h1.keeps I.bk) ((h2 _ (by decide)).trans ?_) h)
  show bootBuiltins "super" = some (.type "super")
  decide +kernel
theorem sup_base {body : List Stmt} {p0 p1 : Pos} {whole : Sem Value} {f cda D x C : Addr} {oc ccl : Value} {od cdd : Option Addr} {osl ccs : Array (Option Value)} {fd : FuncData} {ar : Arg} {vs : Array Value} {file : Str} {tf : Tok} {cdD : ClassData} {j : Nat} {dd : Option Addr}
    (I : Inv X pins σ H s) (hg : X.env.kindOf "super" = some .globalImplicit) (hm : X.mg "super" = none) (hkc : X.env.kindOf "__class__" = some .free) (hfu : X.env.func = some f) (hf : X.K.lookup f = some ⟨oc, od, .func fd, osl⟩)
    (hp : (fd.params.posonlyargs ++ fd.params.args).head? = some ar) (hco : X.env.code = .ref cda) (hcode : X.K.lookup cda = some ⟨ccl, cdd, .fields vs, ccs⟩) (hvs : vs[2]? = some (.str file tf)) (hfile : ((X.prog.main.file : Str) == file) = true)
    (htop : (X.prog.main.scope.names.lookup ("super" : Str)).isSome = false) (hj : X.N[j]? = some "__class__") (hjv : Vis X.env.scope "__class__") (hjs : σ[j]? = some (some (.ref D))) (h0 : X.N[0]? = some ar.arg) (h0v : Vis X.env.scope ar.arg) (h0s : σ[0]? = some (some (.ref x))) (h0c : (ar.arg == ("__classdict__" : Str)) = false)
    (hx : H x = some (exo x C dd)) (hD : PySem.W.clsIn X.K D = some cdD) (hsub : PySem.W.mroIn X.K C (.ref D) = some true)
    (h : ∀ so s', Inv X pins σ H s' → s'.heap.get? so = some (PySem.W.ks_superObj D x C) → Q (.ref so) s') :
    _root_.PySem.wpAt (model X.prog X.w) X.A (.func body X.env) (attributeBase (.Call (.Name "super" p0) [] [] p1) "__init__" X.env whole) Q Er s := by
  have KX : X.K.In s.heap := I.kIn
  obtain ⟨oD, hD1, hD2⟩ : ∃ oD, s.heap.get? D = some oD ∧ oD.data = .cls cdD := by
    unfold PySem.W.clsIn at hD
    split at hD
    · rename_i c d cd' sl ho
      cases hD
      exact ⟨_, KX _ _ ho, rfl⟩
    · cases hD
  obtain ⟨t1, ho⟩ := exo_at I.hok hx
  refine PySem.ks_wpAt_super_base hg hkc rfl hfu (KX _ _ hf) rfl hp hco (KX _ _ hcode) rfl hvs hfile htop ?_
  refine ldn_super I hg hm ⟨rfl, ?_⟩
  refine ldn_ok I hj hjv hjs (fun u r => ?_) (by decide)
  cases (show u = Value.ref D from r)
  refine ldn_ok I h0 h0v h0s (fun u r => ?_) h0c
  cases (show u = Value.ref x from r)
  obtain ⟨hh, g, d, t, os⟩ := s
  refine PySem.ks_wpAny_isType_cls hD1 hD2 ⟨rfl, ?_⟩
  refine PySem.ks_wpAny_call_super hD1 hD2 ho rfl (fun c e => by cases e) (PySem.W.looks_mroIn KX hsub) (fun h' e k => ?_)
  exact h _ _ (I.kept k) e
end
end E

set_option maxRecDepth 100000
set_option maxHeartbeats 4000000
namespace E
open PySem PySem.Spec PyProof.Rows L2 NdefX
section
variable {X : Cx} {pins : List (Addr × Obj)} {σ : L2.St} {H : Hp} {s : Shared} {A : Around} {Q : Value → Shared → Prop} {Er : Value → Shared → Prop} {a u C : Addr}
/-- ValueError.__init__, bound to a -/
def mwO (u a : Addr) : HO := .ext fun h => h.get? u = some (PySem.W.kxs_mw "ValueError.__init__" a)
theorem mwO_ok {P : Program} {w : World} {H : Hp} {h : Heap} {u a : Addr} (hu : h.get? u = some (PySem.W.kxs_mw "ValueError.__init__" a)) : ObjOk P w H h u (mwO u a) := ⟨hu, ⟨_, hu⟩, fun h1 h2 z k => k _ z⟩
theorem mwO_at {P : Program} {w : World} {H : Hp} {h : Heap} {u a : Addr} (hok : HOk P w H h) (he : H u = some (mwO u a)) : h.get? u = some (PySem.W.kxs_mw "ValueError.__init__" a) := by
  have x : ObjOk P w H h u (.ext fun h => h.get? u = some (PySem.W.kxs_mw "ValueError.__init__" a)) := hok u _ he
  exact x.1
theorem call_mw {us : List Value} (T : OexC X.K C) (I : Inv X pins σ H s) (e : H a = some (exo a C none)) (hu : s.heap.get? u = some (PySem.W.kxs_mw "ValueError.__init__" a)) (hl : us.length ≤ sizeLine) (h : ∀ s', Inv X pins σ H s' → Q .none s') :
    wpAny (model X.prog X.w) A (call (.ref u) us) Q Er s := by
  obtain ⟨nm, q, N, bs, bm, sn, sub, ab, col, dd, k0, k1, k2, k3, k5, hC, hbm⟩ := T.cls
  obtain ⟨t1, ho⟩ := exo_at I.hok e
  obtain ⟨hp, g, d, t, os⟩ := s
  have fin : ∀ (h' : Heap) (t2 : Addr), (∀ b o, b ≠ a → hp.get? b = some o → h'.get? b = some o) → h'.get? a = some (PySem.HandSPX.excO C t2) → Q .none ⟨h', g, d, t, os⟩ := fun h' t2 k hx => by
    have J := I.write (t' := t) (x := a) (e := a) (o := exo a C none) (by rw [e]; exact True.intro) (.inl rfl) k ⟨_, hx⟩ (exo_ok hx)
    have eu : upd H a (exo a C none) = H := by
      funext b
      by_cases hb : b = a
      · rw [hb, upd_same, e]
      · rw [upd_ne hb]
    rw [eu] at J
    exact h _ J
  refine wpAny_call (codeAny_of_tree ?_)
  show wpAny _ A.in1 (callAny (.ref u) ⟨us, []⟩) _ _ _
  simp only [callAny]
  refine wpAny_bind (wpAny_load hu ?_)
  simp only [PySem.W.kxs_mw, show (Value.type "method-wrapper" == Value.type "method" || Value.type "method-wrapper" == Value.type "builtin_function_or_method" || Value.type "method-wrapper" == Value.type "method-wrapper") = true by decide, if_true]
  refine PySem.W.KFB.if_so (by decide) ?_
  refine wpAny_bind (PySem.W.check_bound_init F.excBase_ValueError.toExcCallFacts (I.kIn _ _ hC) ho rfl ?_)
  refine wpAny_bind (wpAny_pure (wpAny_pure ?_))
  refine ⟨Code.quiet_builtin _ (by decide +kernel), codeAny_builtin F.excBase_ValueError.initEntry ?_⟩
  rw [Around.under_plainId F.excBase_ValueError.init.plain _]
  wp_walk
  refine fin _ hp.objs.size (fun b o hb ho => ?_) ?_
  · rw [Heap.get?_update_other _ _ (Ne.symm hb)]
    exact Heap.get?_push_of_some _ ho
  · rw [Heap.get?_update_self _ (Heap.get?_push_of_some _ ho) rfl]
    rfl
end
end E

set_option maxRecDepth 100000
set_option maxHeartbeats 4000000
namespace E
open PySem PySem.Spec PyProof.Rows L2 NdefX
section
variable {X : Cx} {pins : List (Addr × Obj)} {σ : L2.St} {H : Hp} {s : Shared} {A : Around} {Q : Value → Shared → Prop} {Er : Value → Shared → Prop} {a u C : Addr}
open PySem.W in
theorem sup_method {so D : Addr} {pl : Sem Bool} {R : Value × List Value → Shared → Prop} (I : Inv X pins σ H s) (e : H a = some (exo a C none)) (hso : s.heap.get? so = some (ks_superObj D a C)) (ho : nsIn X.K cStatics "thirdparty.any" = some none) (hm : ks_superIn X.K C D "__init__" = some (some (.builtin "ValueError.__init__")))
    (hB : subIn X.K (.ref C) (.type "ValueError") = some true) (h : ∀ u s', H u = none → Inv X pins σ (upd H u (mwO u a)) s' → R (.ref u, []) s') : wpAny (model X.prog X.w) A (getMethod (.ref so) "__init__" pl) R Er s := by
  have KX : X.K.In s.heap := I.kIn
  obtain ⟨t1, hx⟩ := exo_at I.hok e
  have IA : InstAt s.heap a _ C none := ⟨hx, rfl, rfl, trivial⟩
  have hI : Looks (model X.prog X.w) s.heap (isInstance (.ref a) (.type "ValueError")) true := IA.type.andThen (looks_subIn KX hB)
  obtain ⟨hh, g, d, t, os⟩ := s
  cases hc : clsIn X.K C with
  | none => unfold ks_superIn at hm; rw [hc] at hm; cases hm
  | some cd =>
    unfold ks_superIn at hm
    rw [hc] at hm
    refine kxs_getMethod kxs_ValueError hso (looks_opaque KX ho) (l₀ := cd.mro) ?_ rfl KX hm hI (ks_ne KX IA hc) (by decide) ?_
    · exact fun A Q E s k q => wpAny_bind ((looks_clsIn KX hc) A _ E s k (wpAny_pure q))
    · refine h _ _ (I.hok.fresh (Nat.le_refl _)) (I.laid (t' := t + 1) (a := hh.objs.size) (o := mwO hh.objs.size a) (fun b o e => Heap.get?_push_of_some _ e) (Nat.le_refl _) (mwO_ok (Heap.get?_push_at rfl rfl)))
theorem sup_call {pos : Pos} {e1 : Expr} {es : List Expr} {ta : TA} {QA : List V → Hp → Prop} (T : OexC X.K C) (I : Inv X pins σ H s) (hu : H u = some (mwO u a)) (ha : PA X (e1 :: es) ta)
    (h : ta σ H fun vs H1 => vs.length ≤ 1000 ∧ H1 a = some (exo a C none) ∧ H1 u = some (mwO u a) ∧ QA vs H1) (hk : ∀ vs H1 s', Inv X pins σ H1 s' → QA vs H1 → Q .none s')
    (he : starEach (e1 :: es) X.env = (false, eval e1 X.env) :: starEach es X.env := by rfl) (hpl : (backTo pos (starEach es X.env)).any (·.1) = false := by rfl) :
    wpAny (model X.prog X.w) X.A (callWith pos (.ref u) [] (backTo pos (starEach (e1 :: es) X.env)) []) Q X.xe s := by
  have h1 := ha.run pos pins s σ H _ I h
  rw [he] at h1 ⊢
  refine PySem.W.kxs_callWith (i := "ValueError.__init__") (x := a) (by show (false || (backTo pos (starEach es X.env)).any (·.1)) = false; rw [hpl]; rfl) ?_
  refine PySem.Calls.evalArgs_plain (thn h1 fun us s1 ⟨vs, H1, I1, r1, hz, ea, eu, q⟩ => ⟨mwO_at I1.hok eu, ?_⟩)
  exact call_mw T I1 ea (mwO_at I1.hok eu) (by show us.length ≤ sizeLine; rw [← Paired.length r1, sizeLine_eq]; omega) fun s' J => hk vs H1 s' J q
end
end E

set_option maxRecDepth 100000
set_option maxHeartbeats 4000000
namespace E
open PySem PySem.Spec PyProof.Rows L2 NdefX
/-- what the written part says of Crossing's __init__ -/
structure CrC (K : PySem.W.Frag) (f C cc : Addr) (F : NF) : Prop where
  lk : ∃ doc pm ctv oc od osl, K.lookup f = some ⟨oc, od, .func (F.fd doc pm ctv), osl⟩
  hcd : PySem.W.codeIn K (.ref F.c) F.qual = true
  hcl : F.cl = [(("__class__" : Str), cc)]
  hcc : ∃ cl cld csl, K.lookup cc = some ⟨cl, cld, .cell (some (.ref C)), csl⟩
  code : ∃ ccl cdd vs ccs file tf, K.lookup F.c = some ⟨ccl, cdd, .fields vs, ccs⟩ ∧ vs[2]? = some (.str file tf)
  oex : OexC K C
  hD : ∃ cd, PySem.W.clsIn K C = some cd
  hsub : PySem.W.mroIn K C (.ref C) = some true
  third : PySem.W.nsIn K cStatics "thirdparty.any" = some none
  sup : PySem.W.ks_superIn K C C "__init__" = some (some (.builtin "ValueError.__init__"))
  subV : PySem.W.subIn K (.ref C) (.type "ValueError") = some true
  n1 : PySem.W.findIn K (.ref C) "first" = some none
  n2 : PySem.W.findIn K (.ref C) "second" = some none
  n3 : PySem.W.findIn K (.ref C) "why" = some none
def spCrInit (C : Addr) : Sp := fun vs H Q _ => ∃ (x : Addr) (a b y : V), vs = [.ref x, a, b, y] ∧ H x = some (exo x C none) ∧
  ∀ (u d : Addr) (H' : Hp), H u = none → H d = none → H' x = some (exo x C (some d)) → H' d = some (exd d [(("why" : Str), y), (("second" : Str), b), (("first" : Str), a)]) → (∀ c o, c ≠ x → H c = some o → H' c = some o) → Q .non H'
theorem scCr : NScope ["self", "first", "second", "why", "__class__"] ["self", "first", "second", "why"] ["__class__"] (defScope (inClass (top 17) 0)) := nscope_by (by decide +kernel)
end E

set_option maxRecDepth 100000
set_option maxHeartbeats 4000000
namespace E
open PySem PySem.Spec PyProof.Rows L2 NdefX
section
variable {P : Program} {w : World} {K : PySem.W.Frag} {mg : Str → Option Value} {base : Heap} {f C cc c : Addr}
abbrev crF (cc c : Addr) : NF := ⟨"__init__", "Crossing.__init__", defArgs (inClass (top 17) 0), defBody (inClass (top 17) 0), defScope (inClass (top 17) 0), [(("__class__" : Str), cc)], c⟩
theorem ok_crInit (Y : CrC K f C cc (crF cc c)) (hm : mg "super" = none) (hfile : ∀ file, (∃ ccl cdd vs ccs tf, K.lookup c = some ⟨ccl, cdd, .fields vs, ccs⟩ ∧ vs[2]? = some (.str file tf)) → ((P.main.file : Str) == file) = true)
    (htop : (P.main.scope.names.lookup ("super" : Str)).isSome = false) : ∃ doc pm ctv, FnOk P w K mg base CX0 1 f ((crF cc c).fd doc pm ctv) ["self", "first", "second", "why"] (spCrInit C) := by
  obtain ⟨doc, pm, ctv, oc, od, osl, lk⟩ := Y.lk
  obtain ⟨cl, cld, csl, hcc⟩ := Y.hcc
  obtain ⟨ccl, cdd, vs0, ccs, file, tf, hcode, hvs⟩ := Y.code
  obtain ⟨cd, hD⟩ := Y.hD
  refine ⟨doc, pm, ctv, fnS_of lk Y.hcd Y.hcl hcc scCr (fun vs H Q E h => ?_) (fun A outer s H vs Q E s1 hr h I => ?_)⟩
  · obtain ⟨_, _, _, _, rfl, _⟩ := h
    rfl
  · obtain ⟨x, a, b, y, rfl, hx, q⟩ := h
    refine PySem.ks_wpAt_execs_cons (PySem.ks_wpAt_Expr_any (PySem.ks_wpAt_MethodCall (sup_base I rfl hm rfl rfl lk rfl rfl hcode hvs (hfile file ⟨_, _, _, _, _, hcode, hvs⟩) htop (j := 4) rfl (Or.inr (Or.inr rfl)) rfl rfl (Or.inl rfl) rfl (by decide) hx hD Y.hsub fun so s2 I2 hso => ?_)))
    refine sup_method I2 hx hso Y.third Y.sup Y.subV fun u s3 hu I3 => ?_
    have hux : u ≠ x := fun z => by rw [z, hx] at hu; cases hu
    have PV : ∀ (i : Nat) (z : Str) (pos : Pos), ([("self" : Str), "first", "second", "why", "__class__"] : List Str)[i]? = some z → Vis (defScope (inClass (top 17) 0)) z → (z == ("__debug__" : Str)) = false → (z == ("__classdict__" : Str)) = false → PE (ncx CX0 P w K mg base ["self", "first", "second", "why", "__class__"] (crF cc c) f A outer s H E) (.Name z pos) (tVar i) := fun i z pos h1 h2 h3 h4 => pe_var h1 h2 h3 h4
    refine sup_call (QA := fun vs H1 => H1 = upd H u (mwO u x)) Y.oex I3 upd_same (pa_cons (PV 1 "first" _ rfl (Or.inl rfl) rfl (by decide)) (pa_cons (PV 2 "second" _ rfl (Or.inl rfl) rfl (by decide)) (pa_cons (PV 3 "why" _ rfl (Or.inl rfl) rfl (by decide)) pa_nil))) ?_ (fun vs H1 s4 I4 hq => ?_)
    · exact ⟨_, rfl, _, rfl, _, rfl, by show 3 ≤ 1000; decide, by rw [upd_ne hux.symm]; exact hx, upd_same, rfl⟩
    · subst hq
      refine wpAt_of_wpAny (PSs.run (X := ncx CX0 P w K mg base ["self", "first", "second", "why", "__class__"] (crF cc c) f A outer s H E) (pss_cons (ps_ost (PV 0 "self" _ rfl (Or.inl rfl) rfl (by decide)) (PV 1 "first" _ rfl (Or.inl rfl) rfl (by decide))) (pss_cons (ps_ost (PV 0 "self" _ rfl (Or.inl rfl) rfl (by decide)) (PV 2 "second" _ rfl (Or.inl rfl) rfl (by decide))) (pss_cons (ps_ost (PV 0 "self" _ rfl (Or.inl rfl) rfl (by decide)) (PV 3 "why" _ rfl (Or.inl rfl) rfl (by decide))) pss_nil))) [] s4 _ _ _ I4 ?_)
      refine ⟨_, rfl, _, rfl, x, C, rfl, Y.oex, Y.n1, .inl ⟨by rw [upd_ne hux.symm]; exact hx, fun d hd hdx => ?_⟩⟩
      obtain ⟨hdu, hd0⟩ := upd_nn hd
      refine ⟨_, rfl, _, rfl, x, C, rfl, Y.oex, Y.n2, .inr ⟨d, _, upd_same, by rw [upd_ne hdx, upd_same], by show 1 ≤ 900; decide, ?_⟩⟩
      refine ⟨_, rfl, _, rfl, x, C, rfl, Y.oex, Y.n3, .inr ⟨d, _, by rw [upd_ne hdx.symm, upd_same], upd_same, by show 2 ≤ 900; decide, ?_⟩⟩
      refine q u d _ hu hd0 (by rw [upd_ne hdx.symm, upd_ne hdx.symm, upd_same]) upd_same fun c o hcx hc => ?_
      have hcd : c ≠ d := fun z => by rw [z, hd0] at hc; cases hc
      have hcu : c ≠ u := fun z => by rw [z, hu] at hc; cases hc
      rw [upd_ne hcd, upd_ne hcd, upd_ne hcx, upd_ne hcd, upd_ne hcu]
      exact hc
end
end E

set_option maxRecDepth 100000
set_option maxHeartbeats 4000000
namespace E
open PySem PySem.Spec PyProof.Rows L2 LamX
/-! ### the table of code objects beside the data -/
/-- the heap without the tables -/
def hidT (H : Hp) : Hp := fun a => match H a with
  | some (.tbl _) => none
  | o => o
theorem hidT_of {H : Hp} {a : Addr} {o : HO} (h : H a = some o) (n : ∀ ps, o ≠ .tbl ps) : E.hidT H a = some o := by
  unfold E.hidT
  rw [h]
  cases o with
  | tbl ps => exact absurd rfl (n ps)
  | _ => rfl
theorem hidT_at {H : Hp} {a : Addr} {o : HO} (h : E.hidT H a = some o) : H a = some o ∧ ∀ ps, o ≠ .tbl ps := by
  unfold E.hidT at h
  cases e : H a with
  | none => rw [e] at h; cases h
  | some u =>
    rw [e] at h
    cases u with
    | tbl ps => cases h
    | _ => exact ⟨h, fun ps z => by rw [z] at h; cases h⟩
theorem hidT_ex (H : Hp) : Ex (E.hidT H) H := fun a o h => (hidT_at h).1
theorem hidT_ext {H H' : Hp} (e : ExtN H H') : Ex (E.hidT H) (E.hidT H') := fun a o h => hidT_of (e a o (hidT_at h).1 (hidT_at h).2) (hidT_at h).2
theorem hidT_ex' {H H' : Hp} (e : ExtN H H') : Ex (E.hidT H) H' := fun a o h => e a o (hidT_at h).1 (hidT_at h).2
theorem extN_of {H H' : Hp} (e : Ex H H') : ExtN H H' := fun a o h _ => e a o h
section
variable {K : PySem.W.Frag} {H H' : Hp}
theorem sqL_hidT {a : Addr} {xs : List V} (h : SqL K H a xs) : SqL K (E.hidT H) a xs := by
  rcases h with (h | ⟨o, h⟩) | h
  · exact .inl (.inl (hidT_of h (fun ps z => by cases z)))
  · exact .inl (.inr ⟨o, hidT_of h (fun ps z => by cases z)⟩)
  · exact .inr h
theorem sqT_hidT {a : Addr} {xs : List V} (h : SqT K H a xs) : SqT K (E.hidT H) a xs := by
  rcases h with (h | ⟨o, h⟩) | h
  · exact .inl (.inl (hidT_of h (fun ps z => by cases z)))
  · exact .inl (.inr ⟨o, hidT_of h (fun ps z => by cases z)⟩)
  · exact .inr h
mutual
theorem dp_hidT : ∀ {v : V} {d : PyData}, Dp K H v d → Dp K (E.hidT H) v d
  | _, _, .non => .non
  | _, _, .bl b => .bl b
  | _, _, .int i => .int i
  | _, _, .str x => .str x
  | _, _, .lst h a => .lst (sqL_hidT h) (dps_hidT a)
  | _, _, .tup h a => .tup (sqT_hidT h) (dps_hidT a)
theorem dps_hidT : ∀ {vs : List V} {ds : List PyData}, DpAll K H vs ds → DpAll K (E.hidT H) vs ds
  | _, _, .nil => .nil
  | _, _, .cons h t => .cons (dp_hidT h) (dps_hidT t)
end
theorem dp_extN (e : ExtN H H') {v : V} {d : PyData} (h : Dp K H v d) : Dp K H' v d := dp_mono (hidT_ex' e) (dp_hidT h)
theorem sqT_extN (e : ExtN H H') {a : Addr} {xs : List V} (h : SqT K H a xs) : SqT K H' a xs := Evl.ex_t (hidT_ex' e) (sqT_hidT h)
theorem sqL_extN (e : ExtN H H') {a : Addr} {xs : List V} (h : SqL K H a xs) : SqL K H' a xs := Evl.ex_l (hidT_ex' e) (sqL_hidT h)
end
/-! ### lambda p: ahead[p] -/
abbrev lamP (ap : Pos) : Arguments := { posonlyargs := [], args := [{ arg := "p", annotation := none, pos := ap }], vararg := none, kwonlyargs := [], kw_defaults := [], kwarg := none, defaults := [] }
abbrev lamB (p1 p2 p3 : Pos) : Expr := .Subscript (.Name "ahead" p1) (.Name "p" p2) p3
abbrev lamSc : Scope := { kind := .function, names := [("p", .local), ("ahead", .free)], isGenerator := false, isCoroutine := false, more := [] }
theorem lam_turn {prog : Program} {w : World} {A : Around} {s : Shared} {H : Hp} {f c' d cc : Addr} {kvs : List (Key × V)} {qual : Str} {pm ctv : Value} {ap p1 p2 p3 : Pos} {n k : Int} {t : Tok}
    (hok : HOk prog w H s.heap) (hroom : A.depth < recursionLimit) (nol : s.heap.NoLimit)
    (hf : s.heap.get? f = some (PySem.W.kla_obj "<lambda>" qual (lamP ap) (lamB p1 p2 p3) lamSc [(("ahead" : Str), cc)] pm c' ctv))
    (hco : H c' = some (CodeO c' qual)) (hcell : s.heap.IsCell cc (some (.ref d))) (hd : H d = some (.dK kvs)) (hv : valV kvs (.inl n) = some (.int k)) :
    wpAny (model prog w) A (call (.ref f) [.int n t]) (PySem.W.KeyPure (.int k) s) (fun _ _ => False) s := by
  obtain ⟨⟨oc, vs, tq, hoc, hdc, hvc⟩, _, _⟩ := (show ObjOk prog w H s.heap c' (.ext fun h => ∃ (oc : Obj) (vs : Array Value) (t : Tok), h.get? c' = some oc ∧ oc.data = .fields vs ∧ vs[1]? = some (.str qual t)) from hok c' _ hco)
  refine wpAny_call (PySem.W.kla_callFunE hroom hf rfl rfl rfl rfl ⟨c', oc, vs, tq, rfl, hoc, hdc, hvc⟩ ?_)
  have hb : bindArgs (PySem.W.kla_fn "<lambda>" qual (lamP ap) (lamB p1 p2 p3) lamSc [(("ahead" : Str), cc)] pm (.ref c') ctv) ⟨[.int n t], []⟩ = pure [(("p" : Str), .int n t)] := rfl
  rw [hb]
  refine wpAny_pure (wpAny_newFunctionEnv (by simp) (fun x hx => ?_) (fun h₁ hns hsb => ⟨nol.fresh _ hsb, ?_⟩) rfl)
  · rw [List.mem_singleton.mp hx]
    rfl
  have kp : ∀ b o, s.heap.get? b = some o → h₁.get? b = some o := fun b o e => hsb.extBut b o (Nat.ne_of_lt (Heap.lt_size e)) (Heap.get?_push_of_some _ e)
  refine PySem.W.kla_codeExpr ?_
  refine subD_of PySem.F.slot_dict_getitem.lookup (fun _ _ => rfl) ?_
  refine wpAny_Name (wpAny_loadName_free rfl rfl rfl (hcell.keeps kp) ?_)
  refine wpAny_Name (wpAny_loadName_local rfl rfl hns rfl ?_)
  obtain ⟨z, hsys, vs2, rel, dd⟩ := L2.dk_of (hok.kept kp) hd
  obtain ⟨w', hw, rw'⟩ := RelO.some_of (v := V.int k) (o := valueAt vs2 (.inl n)) (by rw [← hv]; exact rel.val _)
  refine ⟨dd.typeIs, wpAny_getItem_of (kV_is (k := .inl n) ⟨t, rfl⟩) dd.mapOf hw ?_⟩
  obtain ⟨t', rfl⟩ := rw'
  exact ⟨h₁, _, rfl, kp, .int _ _⟩
/-- sorted(e, key=lambda p: ahead[p]), ahead in slot i, its cell holds a dict of ints -/
def bSortL (K : PySem.W.Frag) (q : Str) (PT : Addr) (i : Nat) (σ : L2.St) (Q : VK) (x : V) (H1 : Hp) : Prop := ∃ (a : Addr) (ns : List Int) (kf : Int → Int) (d : Addr) (kvs : List (Key × V)), x = .ref a ∧ (SqL K H1 a (ns.map V.int) ∨ SqT K H1 a (ns.map V.int)) ∧ TabS H1 PT q ∧
  σ[i]? = some (some (.ref d)) ∧ H1 d = some (.dK kvs) ∧ (∀ n ∈ ns, valV kvs (.inl n) = some (.int (kf n))) ∧
  ∀ (H2 : Hp) (p : Addr), ExtN H1 H2 → TabS H2 PT q → H2 p = some (.lst ((ns.mergeSort (PySem.W.dataLe false fun n => PyData.int (kf n))).map V.int)) → Q (.ref p) H2
def tSortL (K : PySem.W.Frag) (q : Str) (PT : Addr) (i : Nat) (te : TE) : TE := fun σ H Q => tCons te tNil σ H fun vs H1 => ∃ x, vs = [x] ∧ bSortL K q PT i σ Q x H1
section
variable {X : Cx}
abbrev RI (v : Value) (n : Int) : Prop := ∃ t, v = .int n t
theorem each_ints : ∀ {us : List Value} {ns : List Int}, Vals (ns.map V.int) us → PySem.W.EachIs RI us ns
  | _, [], .nil => .nil
  | _, n :: ns, .cons r t => .cons r (each_ints t)
theorem ints_each : ∀ {us : List Value} {ns : List Int}, PySem.W.EachIs RI us ns → Vals (ns.map V.int) us
  | _, _, .nil => .nil
  | _, _, .cons r t => .cons r (ints_each t)
theorem pe_sortL {i : Nat} {e : Expr} {te : TE} {c PT : Addr} {ap p p1 p2 p3 lpos kpos pos : Pos} (hg : Gl X "sorted") (hm : X.mg "sorted" = none) (TB : TabB X.base X.mg c PT) (hcode : X.env.code = .ref c) (hr : Room 1 X.A)
    (he : PE X e te) (hN : X.N[i]? = some ("ahead" : Str)) (hcl : X.env.scope.names.lookup ("ahead" : Str) = some .cell)
    (h1 : starEach (e :: []) X.env = (false, eval e X.env) :: starEach [] X.env := by rfl) (h2 : (backTo pos (starEach (e :: []) X.env)).any (·.1) = false := by rfl) :
    PE X (.Call (.Name "sorted" p) [e] [⟨some "key", .Lambda (lamP ap) (lamB p1 p2 p3) lamSc lpos, kpos⟩] pos) (tSortL X.K (X.env.qual ++ "<lambda>") PT i te) := by
  refine ⟨fun pins s σ H Q I h => ?_⟩
  have pa : PA X [e] (tCons te tNil) := pa_cons he pa_nil h1
  refine wpAny_Call_Name_kw (ld_blt I hg hm boot_sorted ?_ (by decide) (by decide))
  refine PyProof.Rows.callWith_kw (thn (pa.run pos pins s σ H _ I h) fun us s1 ⟨vs, H1, I1, r1, q1⟩ => ?_) (by rw [h1]; rfl) h2 rfl rfl
  obtain ⟨x, rfl, a, ns, kf, d, kvs, ea, hS, hT, hs, hd, hv, q⟩ := q1
  cases r1 with
  | @cons _ u0 _ ur ru rn =>
    cases rn
    subst ea
    obtain rfl : u0 = Value.ref a := ru
    show wpAny _ _ (evalAll [(do let v ← eval (.Lambda (lamP ap) (lamB p1 p2 p3) lamSc lpos) X.env; standAt pos; pure v)]) _ _ s1
    have hfree : ∀ y ∈ lamSc.names, y.2 = .free → ∃ c, X.env.cells.lookup y.1 = some c := fun y hy e => by
      rcases List.mem_cons.mp hy with e1 | hy
      · rw [e1] at e; cases e
      · rw [List.mem_singleton.mp hy]
        exact I1.ok.has _ (.inl hcl)
    refine wpAny_evalAll_cons (wpAny_bind (lam_make2 (T := [(PT, X.env.qual ++ "<lambda>")]) I1 TB hcode (by simp) (fun p hp _ => by rw [List.mem_singleton.mp hp]) (fun p hp => by rw [List.mem_singleton.mp hp]; exact hT) rfl hfree fun f c' pm ctv H2 s2 I2 eN T2 hf hfn hfr hco => wpAny_bind (wpAny_standAt (wpAny_pure ?_))))
    refine wpAny_evalAll_nil ?_
    show wpAny _ _ (call (.builtin "sorted") [.ref a] [(Str.ofString "key", .ref f)]) _ _ s2
    have hS2 : SqL X.K H2 a (ns.map V.int) ∨ SqT X.K H2 a (ns.map V.int) := hS.imp (sqL_extN eN) (sqT_extN eN)
    obtain ⟨ws, rv, hz, hcol⟩ := coll_seq I2 hS2
    have hd2 : H2 d = some (.dK kvs) := eN d _ hd (fun ps z => by cases z)
    -- the captured cell
    obtain ⟨cc, hcc, hcell⟩ : ∃ cc, X.env.cells.lookup ("ahead" : Str) = some cc ∧ s2.heap.IsCell cc (some (.ref d)) := by
      obtain ⟨m, _, hl⟩ := I2.loc
      obtain ⟨u, ru, lk⟩ := hl i "ahead" (.ref d) hN hs (.inr (.inl hcl))
      obtain rfl : u = Value.ref d := ru
      rcases lk with ⟨k, _⟩ | ⟨_, c, h1, h2⟩
      · have k' : X.env.scope.names.lookup ("ahead" : Str) = some .local := k
        rw [hcl] at k'
        cases k'
      · exact ⟨c, h1, h2⟩
    have hclo : cloFrom X.env.cells lamSc.names [] = [(("ahead" : Str), cc)] := by
      simp [cloFrom, hcc]
    rw [hclo] at hf
    have eI : PySem.W.EachIs RI ws ns := each_ints rv
    refine sorted_gen (vs := ws) hz (PyProof.Rows.ksk_s1 _ _) (fun _ => PyProof.Rows.ksk_l1 _ _) (fun Q' E' q' => hcol _ Q' E' q') fun h' tk E' keep => ?_
    rw [PyProof.Rows.ksk_t1]
    have len : ns.length = ws.length := by rw [eI.length]
    have alk : PySem.W.AllAlike (ns.map fun n => PyData.int (kf n)) := PySem.W.AllAlike.of fun _ _ => by simp [PySem.W.alike]
    have srt : PySem.W.Sortable (ns.map fun n => PyData.int (kf n)) := PySem.W.Sortable.others fun _ => ⟨by simp, by simp⟩
    refine PySem.W.keyH_tree (kz := ns.map fun n => PyData.int (kf n)) (s := { s2 with heap := h'.push (seqObj "list" ws.toArray 0), toks := tk }) (n := 0) (Heap.get?_push_size _ rfl) (by rw [List.length_map]; exact len) hz alk srt (fun dd hdd => ?_) ?_ (fun h3 tk3 out c3 kp hD ko => ⟨rfl, ?_⟩)
    · obtain ⟨n, _, rfl⟩ := List.mem_map.mp hdd
      have := hr.un
      show X.A.units + 2 + (PyData.int (kf n)).depth < cLine
      simp only [PyData.depth]
      omega
    · refine PySem.W.keyH_turns (k := fun n => PyData.int (kf n)) (s := { s2 with heap := h'.push (seqObj "list" ws.toArray 0), toks := tk }) eI (fun v n hR hn h3 tk3 kp => ?_)
      obtain ⟨t, rfl⟩ := hR
      have up : ∀ b o, s2.heap.get? b = some o → h3.get? b = some o := fun b o e => kp b o (Nat.ne_of_lt (Heap.lt_size (keep b o e))) (Heap.get?_push_of_some _ (keep b o e))
      exact lam_turn (s := { s2 with heap := h3, toks := tk3 }) (I2.hok.kept up) hr.depth (I2.nolimit.keeps up) (up _ _ hf) hco (hcell.keeps up) hd2 (hv n hn)
    · have up : ∀ b o, s2.heap.get? b = some o → h3.get? b = some o := fun b o e => kp b o (Nat.ne_of_lt (Heap.lt_size (keep b o e))) (Heap.get?_push_of_some _ (keep b o e))
      have eo := PySem.W.keyedOut_each (fun n => PyData.int (kf n)) ko eI
      have I3 : Inv X pins σ H2 { s2 with heap := h', toks := tk } := I2.kept (t' := tk) keep
      have hn : H2 h'.objs.size = none := I3.hok.fresh (Nat.le_refl _)
      have ol : out.length = ws.length := ko.length (by rw [List.length_map]; exact len)
      refine ⟨.ref h'.objs.size, upd H2 h'.objs.size (.lst ((ns.mergeSort (PySem.W.dataLe false fun n => PyData.int (kf n))).map V.int)), I3.laid (t' := tk3) (fun b o ho => kp b o (Nat.ne_of_lt (Heap.lt_size ho)) (Heap.get?_push_of_some _ ho)) (Nat.le_refl _) ⟨by rw [List.length_map, List.length_mergeSort, len]; exact hz, out, c3, ints_each eo, hD⟩, rfl, q _ _ ?_ ?_ upd_same⟩
      · exact fun b o e n => by
          have e2 := eN b o e n
          rw [upd_ne (ne_of_none e2 hn)]
          exact e2
      · obtain ⟨ps, g1, g2, g3⟩ := T2 (PT, X.env.qual ++ "<lambda>") (by simp)
        exact ⟨ps, by rw [upd_ne (ne_of_none g1 hn)]; exact g1, g2, fun pos cv hcv => by
          obtain ⟨c, e1, e2⟩ := g3 pos cv hcv
          exact ⟨c, e1, by rw [upd_ne (ne_of_none e2 hn)]; exact e2⟩⟩
end
end E

set_option maxRecDepth 100000
set_option maxHeartbeats 4000000
namespace E
open PySem PySem.Spec PyProof.Rows L2 LamX
section
variable {P : Program} {w : World} {K : PySem.W.Frag} {mg : Str → Option Value} {base : Heap} {f : Addr} {fd : FuncData}
/-- what is known of the class Crossing -/
structure CrM (P : Program) (K : PySem.W.Frag) (mg : Str → Option Value) (C : Addr) : Prop where
  g : mg "Crossing" = some (.ref C)
  init : ∃ f cc c, CrC K f C cc (crF cc c) ∧ PySem.W.findIn K (.ref C) "__init__" = some (some (.ref f)) ∧ PySem.W.typeIn K (.ref f) = some (.type "function") ∧
    ∀ file, (∃ ccl cdd vs ccs tf, K.lookup c = some ⟨ccl, cdd, .fields vs, ccs⟩ ∧ vs[2]? = some (.str file tf)) → ((P.main.file : Str) == file) = true
  xf : XfC K C
  exm : PySem.W.exmOne K (.ref C) (.ref C) = some true
theorem dec_int' {i j : Int} : decide (V.int i = V.int j) = decide (i = j) := by
  rw [Bool.eq_iff_iff]
  simp
abbrev rowQ : Str := "row_of.<locals>.<lambda>"
/-- row_of with its code object and its table -/
def RowF (K : PySem.W.Frag) (mg : Str → Option Value) (c : Addr) : Prop := ∃ f fd, mg "row_of" = some (.ref f) ∧ FnP K "row_of" "row_of" (top 23) f fd ∧ fd.code = .ref c
def spRowOf (K : PySem.W.Frag) (C O CR PT : Addr) : Sp := fun vs H Q E => ∃ (m : Addr) (ls : List Nat) (L : List Ln) (Es ps : List Int), vs = [.ref m] ∧ MAt K C O H m ls L ps ∧ LsOk ls ∧ EM.Raw ls L Es ∧ EM.PlS L ps ∧ ps.length ≤ 121 ∧ TabS H PT rowQ ∧
  (EM.crL ls L ps = [] → ∀ (ra : Addr) (rw_ : List Int) (H' : Hp), ExtN H H' → TabS H' PT rowQ → RowOk ls L ps rw_ → TupD H' ra (rw_.map V.int) → Q (.ref ra) H') ∧
  (∀ p q rest, EM.crL ls L ps = (p, q) :: rest → ∀ (d wy : Addr) (a b c e : List Nat) (H' : Hp), Ex H H' → WyOk ls L p q a b c e → H' wy = some (.tup ([a, b, c, e].map wV)) → H' d = some (.xd [(("why" : Str), .ref wy), (("second" : Str), .int q), (("first" : Str), .int p)]) → E (.ref CR) (some d) H')
theorem scRowOf : FnScope ["machine", "pairs", "found", "first", "second", "ahead", "q", "p"] ["machine"] (defScope (top 23)) := ⟨rfl, rfl, rfl, by decide +kernel, rfl, by decide +kernel, by decide +kernel⟩
theorem ok_row_of {CC O CR c PT : Addr} (hP : (P.main.scope.names.lookup ("super" : Str)).isSome = false) (T : Frees mg) (TB : TabB base mg c PT) (D1 : DfP K mg "first_words" 19) (D2 : DfP K mg "first_pairs" 20) (D3 : DfP K mg "ahead_pairs" 21) (D4 : DfP K mg "crossed_pairs" 22) (M : MachC K mg CC) (OC : OrdC K mg O) (R : CrM P K mg CR)
    (F : FnP K "row_of" "row_of" (top 23) f fd) (hcd : fd.code = .ref c) : FnOk P w K mg base (L2.CX P w) 5 f fd ["machine"] (spRowOf K CC O CR PT) := by
  obtain ⟨oc, od, dV, kV, doc, pm, an, cdv, ct, osl, rfl, lk, hcd2, _, _⟩ := F.ex
  obtain rfl : cdv = .ref c := hcd
  refine fn_of lk hcd2 scRowOf (fun vs H Q E h => ?_) (fun A outer s H vs Q E hr h => ?_)
  · obtain ⟨_, _, _, _, _, rfl, _⟩ := h
    rfl
  · obtain ⟨m, ls, L, Es, ps, rfl, hMA, hL, hR, hps, zps, hT, q1, q2⟩ := h
    obtain ⟨fI, cc, cI, hC, hfI, htI, hfile⟩ := R.init
    obtain ⟨doc', pm', ctv', GI⟩ := ok_crInit (P := P) (w := w) (mg := mg) (base := base) hC T.super_ hfile hP
    have hu := hr.u1
    have hu64 := hr.units
    have Da : Df P w K mg base "ahead_pairs" 4 _ _ := d_ahead_pairs T D1 D2 M OC D3
    have Dc : Df P w K mg base "crossed_pairs" 1 _ _ := d_crossed_pairs D4
    have bI : Binds K ((crF cc cI).fd doc' pm' ctv') ["self", "first", "second", "why"] [] := fun s us hK hl => match us, hl with | [_, _, _, _], _ => .of_eq rfl
    refine ⟨_, (pss_cons (ps_set (i := 1) scRowOf.nd rfl (Or.inr rfl) (pe_df Da (hr.mono (by decide)) rfl (pa_cons (pv 0) pa_nil)))
      (pss_cons (ps_set (i := 2) scRowOf.nd rfl (Or.inl rfl) (pe_df Dc (hr.mono (by decide)) rfl (pa_cons (pe_fld (pv 0) rfl) (pa_cons (pv 1) pa_nil))))
      (pss_cons (ps_if (pt_cmpR (op_neD hu64) (pv 2) (pe_lst pa_nil) (nomark _)) (pss_cons (ps_asg (pe_ix ix_list (pv 2) pe_int (fun _ _ => rfl)) (pg_tup rfl (pgs_cons (pg_name (i := 3) scRowOf.nd rfl (Or.inl rfl)) (pgs_cons (pg_name (i := 4) scRowOf.nd rfl (Or.inl rfl)) pgs_nil))))
      (pss_one (ps_raise rfl (takes_of rfl rfl rfl rfl) (pmk_oex hC.oex hfI htI GI (hr.mono (by decide)) bI .nil pass0 (by rfl) R.g (pa_cons (pv 3) (pa_cons (pv 4) (pa_cons (pe_op op_catT (pe_dget hu (pv 1) (pe_tup (pa_cons (pv 3) (pa_cons (pv 4) pa_nil))) (fun _ _ => rfl)) (pe_dget hu (pv 1) (pe_tup (pa_cons (pv 4) (pa_cons (pv 3) pa_nil))) (fun _ _ => rfl))) pa_nil))))))) pss_nil)
      (pss_cons (ps_set (i := 5) scRowOf.nd rfl (Or.inr rfl) (pe_dcD (own := [("q", 6)]) s H rfl scRowOf.nd (pi_tup (pe_fld (pv 0) rfl)) (blkOk_by (own := [("q", 6)]) (N := ["machine", "pairs", "found", "first", "second", "ahead", "q", "p"]) (sc := (defScope (top 23))) (by decide +kernel)) (pg_name (i := 6) scRowOf.nd rfl (Or.inr rfl)) pts_nil (pv 6) (pe_callB call_len (by rfl) T.len PySem.boot_len (pa_cons (pe_lcD (own := [("p", 7)]) s H rfl scRowOf.nd (pi_tup (pe_fld (pv 0) rfl)) (blkOk_by (own := [("p", 7)]) (N := ["machine", "pairs", "found", "first", "second", "ahead", "q", "p"]) (sc := { kind := .function, names := [(".0", .local), ("q", .cell), ("len", .globalImplicit), ("machine", .cell), ("pairs", .cell)], isGenerator := false, isCoroutine := false }) (by decide +kernel)) (pg_name (i := 7) scRowOf.nd rfl (Or.inl rfl)) (pts_one (PW.pt (pw_and (pt_cmpR op_ne (pv 7) (pv 6) (nomark _)) (pw_and1 (pt_cmp (pc_din hu (pe_tup (pa_cons (pv 7) (pa_cons (pv 6) pa_nil))) (pv 1))))))) (pv 7) (fun _ _ _ _ _ => (pg_name (i := 7) scRowOf.nd rfl (Or.inl rfl))) (fun _ _ _ _ _ => (pts_one (PW.pt (pw_and (pt_cmpR op_ne (pv 7) (pv 6) (nomark _)) (pw_and1 (pt_cmp (pc_din hu (pe_tup (pa_cons (pv 7) (pa_cons (pv 6) pa_nil))) (pv 1)))))))) (fun _ _ _ _ _ => (pv 7))) pa_nil)) (fun _ _ _ _ _ => (pg_name (i := 6) scRowOf.nd rfl (Or.inr rfl))) (fun _ _ _ _ _ => pts_nil) (fun _ _ _ _ _ => (pv 6)) (fun _ _ _ _ _ => (pe_callB call_len (by rfl) T.len PySem.boot_len (pa_cons (pe_lcD (own := [("p", 7)]) s H rfl scRowOf.nd (pi_tup (pe_fld (pv 0) rfl)) (blkOk_by (own := [("p", 7)]) (N := ["machine", "pairs", "found", "first", "second", "ahead", "q", "p"]) (sc := { kind := .function, names := [(".0", .local), ("q", .cell), ("len", .globalImplicit), ("machine", .cell), ("pairs", .cell)], isGenerator := false, isCoroutine := false }) (by decide +kernel)) (pg_name (i := 7) scRowOf.nd rfl (Or.inl rfl)) (pts_one (PW.pt (pw_and (pt_cmpR op_ne (pv 7) (pv 6) (nomark _)) (pw_and1 (pt_cmp (pc_din hu (pe_tup (pa_cons (pv 7) (pa_cons (pv 6) pa_nil))) (pv 1))))))) (pv 7) (fun _ _ _ _ _ => (pg_name (i := 7) scRowOf.nd rfl (Or.inl rfl))) (fun _ _ _ _ _ => (pts_one (PW.pt (pw_and (pt_cmpR op_ne (pv 7) (pv 6) (nomark _)) (pw_and1 (pt_cmp (pc_din hu (pe_tup (pa_cons (pv 7) (pa_cons (pv 6) pa_nil))) (pv 1)))))))) (fun _ _ _ _ _ => (pv 7))) pa_nil)))))
      (pss_one (ps_ret (pe_callTy call_tupleF (by rfl) T.tuple boot_tuple (pa_cons (pe_sortL (i := 5) (by rfl) T.sorted TB rfl (hr.mono (by decide)) (pe_fld (pv 0) rfl) rfl rfl) pa_nil)))))))), ?_⟩
    obtain ⟨Ls, es, dx, mfs, oa, td, ea, la, pa, lx, hM⟩ := id hMA
    refine ⟨_, rfl, m, ls, L, Es, ps, rfl, hMA, hL, hR, fun d fs kvs H1 e1 hd hfs zfs hK => ?_⟩
    have hM1 := hM.ex e1
    refine ⟨_, rfl, m, CC, dx, mfs, _, rfl, hM1.ha, M.cls, M.np, hM1.fp, ?_⟩
    refine ⟨_, rfl, pa, d, ls, L, ps, fs, kvs, rfl, hM1.pl, zps, hd, hfs, hK, fun r fx H2 hrn e2 hr2 hA => ?_⟩
    have hval : ∀ x : Pr, (valV kvs (prK x)).isSome = EM.aB ls L x.1 x.2 := fun x => by
      by_cases hin : x ∈ fs
      · obtain ⟨a', u, v, h1, _⟩ := (hK.2 x).1 hin
        rw [h1, EM.aB_iff.mpr ((hfs x).mp hin)]
        rfl
      · rw [(hK.2 x).2 hin]
        cases e : EM.aB ls L x.1 x.2 with
        | false => rfl
        | true => exact absurd ((hfs x).mpr (EM.aB_iff.mp e)) hin
    refine ⟨_, rfl, Nat.zero_le _, fun g hg => ⟨.list ((EM.crL ls L ps).map prP), .list [], .lst (SqL.of (by rw [upd_ne (ne_of_none hr2 hg)]; exact hr2)) (dps_mono (Evl.Ex.new hg) hA), .lst (SqL.of upd_same) .nil, shaped_prPs _, (okD.list (n := 0) (fun _ h => by cases h)).shaped (by decide), ?_⟩⟩
    have e3 : Ex H1 (upd H2 g (.lst [])) := ex_new e2 hg
    have hr3 : (upd H2 g (.lst [])) r = some (.lst fx) := by rw [upd_ne (ne_of_none hr2 hg)]; exact hr2
    have hA3 : DpAll K (upd H2 g (.lst [])) fx ((EM.crL ls L ps).map prP) := dps_mono (Evl.Ex.new hg) hA
    generalize upd H2 g (.lst []) = H3 at e3 hr3 hA3 ⊢
    have hM3 := hM1.ex e3
    have hget : ∀ {H' : Hp} {s : Addr} (x : Pr), Ex H1 H' → H' s = some (.tup [.int x.1, .int x.2]) → DGet H' d (.ref s) (valV kvs (prK x)) := fun {H'} {s} x e es => DGet.t (k := prK x) (e _ _ hd) es
    rw [eqv_nil]
    cases hc : EM.crL ls L ps with
    | nil =>
      have hw := walk_tup (K := K) (a := pa) (xs := ps.map V.int)
      refine ⟨_, rfl, iteF ?_⟩
      refine ⟨_, rfl, m, CC, dx, mfs, _, rfl, hM3.ha, M.cls, M.np, hM3.fp, pa, rfl, ⟨_, hM3.pl⟩, fun D hD => ?_⟩
      refine dc_it hw (fun i H' => Ex H3 H' ∧ ∃ kv2, H' D = some (.dK kv2) ∧ kv2.length ≤ i ∧ ∀ n ∈ ps.take i, valV kv2 (.inl n) = some (.int (EM.cnt (EM.aB ls L) ps n : Nat))) ⟨Evl.Ex.new hD, [], upd_same, Nat.le_refl _, fun n hn => by simp at hn⟩ (fun _ _ _ h => Evl.ex_t h.1 hM3.pl) ?_ ?_
      · rintro i x H4 H' hi ⟨e4, kv2, hD4, z2, v2⟩ ⟨rfl, hx⟩
        rw [List.length_map] at hi
        obtain ⟨n, hn⟩ : ∃ n, ps[i]? = some n := ⟨_, List.getElem?_eq_getElem hi⟩
        rw [List.getElem?_map, hn] at hx
        obtain rfl := Option.some.inj hx
        have hM4 := hM3.ex e4
        refine ⟨rfl, _, rfl, _, rfl, m, CC, dx, mfs, _, rfl, hM4.ha, M.cls, M.np, hM4.fp, pa, rfl, ⟨_, hM4.pl⟩, fun D2 hD2 => ?_⟩
        have hD2D : D2 ≠ D := (ne_of_none hD4 hD2).symm
        refine lc_data (K := K) hw ps (fun p => if (!decide (p = n) && EM.aB ls L p n) = true then [PyData.int p] else []) (by rw [List.length_map]) (by rw [List.length_map]; omega) hD2 (fun H5 e => Evl.ex_t e hM4.pl) ?_ ?_
        · rintro j y x H5 H' Nx hj e5 hacc ⟨rfl, hx⟩ put skip
          rw [List.getElem?_map, hj] at hx
          obtain rfl := Option.some.inj hx
          refine ⟨rfl, _, rfl, _, rfl, rfl, _, rfl, ?_⟩
          rw [dec_int']
          by_cases h1 : y = n
          · rw [decide_eq_true h1] at skip ⊢
            exact iteF (iteF (skip _ (Evl.Ex.refl _) rfl))
          · rw [decide_eq_false h1] at put skip ⊢
            refine iteT ⟨_, rfl, _, rfl, len2 _ _, fun t1 ht1 => ⟨_, rfl, d, _, rfl, hget (y, n) (((e3.trans e4).trans e5).trans (Evl.Ex.new ht1)) upd_same, ?_⟩⟩
            have en1 := Evl.Ex.new (o := .tup [.int y, .int n]) ht1
            rw [hval]
            cases h2 : EM.aB ls L y n with
            | false =>
              rw [h2] at skip
              exact ⟨_, rfl, iteF (skip _ en1 rfl)⟩
            | true =>
              rw [h2] at put
              exact ⟨_, rfl, iteT ⟨_, rfl, put _ _ _ en1 rfl (.int _)⟩⟩
        · intro H5 acc e5 hacc hAcc
          rw [flat_if] at hAcc
          have hl : acc.length = EM.cnt (EM.aB ls L) ps n := by
            rw [dps_len hAcc, List.length_map]
            rfl
          have hD5 : H5 D = some (.dK kv2) := e5 _ _ hD4
          have hin : i < 16000000 := by omega
          refine ⟨_, _, rfl, .inl ⟨_, SqL.of hacc, rfl⟩, kv2, .inl n, rfl, hD5, sz_lt (by omega), ex_upd (e4.trans e5) hD, _, upd_same, ?_, fun k hk => ?_⟩
          · have := length_putK kv2 (.inl n) (.int (acc.length : Nat))
            omega
          · rw [valV_put, hl]
            by_cases e : k = n
            · subst e
              rw [if_pos rfl]
            · rw [if_neg (fun z => e (Sum.inl.inj z))]
              rw [take_snoc' hn] at hk
              rcases List.mem_append.mp hk with g | g
              · exact v2 k g
              · exact absurd (List.mem_singleton.mp g) e
      · rintro H4 ⟨e4, kv2, hD4, z2, v2⟩
        rw [List.length_map, List.take_length] at v2
        have hM4 := hM3.ex e4
        refine ⟨_, rfl, m, CC, dx, mfs, _, rfl, hM4.ha, M.cls, M.np, hM4.fp, _, rfl, pa, ps, fun n => (EM.cnt (EM.aB ls L) ps n : Nat), D, kv2, rfl, .inr hM4.pl, hT.ext fun b o e => ((e1.trans e3).trans e4) b o e, rfl, hD4, v2, fun H5 p e5 hT5 hp5 => ?_⟩
        refine ⟨p, _, rfl, SqL.of hp5, fun l o hl ho => ?_⟩
        have ex5 : ExtN H H5 := (extN_of ((e1.trans e3).trans e4)).trans e5
        have hpm := List.mergeSort_perm ps (PySem.W.dataLe false fun n => PyData.int ((EM.cnt (EM.aB ls L) ps n : Nat) : Int))
        refine q1 hc l _ _ (fun b o' hb nb => ?_) ?_ ⟨hpm, ?_⟩ ⟨o, upd_same, ho⟩
        · have h9 := ex5 b o' hb nb
          rw [upd_ne (ne_of_none h9 hl)]
          exact h9
        · obtain ⟨pz, g1, g2, g3⟩ := hT5
          exact ⟨pz, by rw [upd_ne (ne_of_none g1 hl)]; exact g1, g2, fun pos cv hcv => by
            obtain ⟨c, e1, e2⟩ := g3 pos cv hcv
            exact ⟨c, e1, by rw [upd_ne (ne_of_none e2 hl)]; exact e2⟩⟩
        · have hle : PySem.W.dataLe false (fun n => PyData.int ((EM.cnt (EM.aB ls L) ps n : Nat) : Int)) = fun a b => decide (((EM.cnt (EM.aB ls L) ps a : Nat) : Int) ≤ ((EM.cnt (EM.aB ls L) ps b : Nat) : Int)) := PySem.W.dataLe_int (β := Int) (fun n => ((EM.cnt (EM.aB ls L) ps n : Nat) : Int))
          rw [hle]
          have h := List.pairwise_mergeSort (le := fun a b => decide (((EM.cnt (EM.aB ls L) ps a : Nat) : Int) ≤ ((EM.cnt (EM.aB ls L) ps b : Nat) : Int))) (fun a b c h1 h2 => by
            rw [decide_eq_true_eq] at h1 h2 ⊢
            omega) (fun a b => by
            rw [Bool.or_eq_true, decide_eq_true_eq, decide_eq_true_eq]
            omega) ps
          exact h.imp fun {a b} h => by
            rw [decide_eq_true_eq] at h
            omega
    | cons x rest =>
      have hA4 := hA3
      rw [hc] at hA4
      obtain ⟨vx, hvx⟩ : ∃ vx, fx[0]? = some vx := by
        cases fx with
        | nil => cases hA4
        | cons a t => exact ⟨a, rfl⟩
      obtain ⟨y, a, hy, rfl, hTa⟩ := dps_prP hA4 hvx
      obtain rfl : x = y := Option.some.inj hy
      have hmx : x ∈ EM.crL ls L ps := by rw [hc]; exact List.mem_cons_self
      obtain ⟨p, q⟩ := x
      obtain ⟨hp1, hq1, hlt, ah1, ah2⟩ := EM.mem_crL.mp hmx
      obtain ⟨a1, u1, v1, g1, g2, g3⟩ := (hK.2 (p, q)).1 ((hfs (p, q)).mpr ah1)
      obtain ⟨a2, u2, v2, k1, k2, k3⟩ := (hK.2 (q, p)).1 ((hfs (q, p)).mpr ah2)
      refine ⟨_, rfl, iteT ?_⟩
      refine ⟨_, rfl, r, fx, _, .ref a, rfl, rfl, SqL.of hr3, (show atI fx ((0 : Nat) : Int) = some (.ref a) from atI_nat hvx), ?_⟩
      refine ⟨a, _, rfl, hTa, rfl, _, _, rfl, _, _, rfl, rfl, ?_⟩
      refine ⟨_, rfl, _, rfl, ?_⟩
      have dget : ∀ {H' : Hp} {s b : Addr} {y : Pr} {u v : List Nat}, valV kvs (prK y) = some (.ref b) → Ex H1 H' → H' s = some (.tup [.int y.1, .int y.2]) → DGet H' d (.ref s) (some (.ref b)) := fun {H'} {s b} {y} {u v} h e es => by
        have g := hget y e es
        rw [h] at g
        exact g
      refine ⟨_, rfl, _, rfl, _, rfl, len2 _ _, fun s1 n1 => ⟨d, _, rfl, dget (u := u1) (v := v1) g1 (ex_new e3 n1) upd_same, ?_⟩⟩
      refine ⟨_, rfl, _, rfl, _, rfl, len2 _ _, fun s2 n2 => ⟨d, _, rfl, dget (u := u2) (v := v2) k1 (ex_new (ex_new e3 n1) n2) upd_same, ?_⟩⟩
      have e4 : Ex H1 (upd (upd H3 s1 (.tup [.int p, .int q])) s2 (.tup [.int q, .int p])) := ex_new (ex_new e3 n1) n2
      generalize upd (upd H3 s1 (.tup [.int (p, q).1, .int (p, q).2])) s2 (.tup [.int (p, q).2, .int (p, q).1]) = H4 at e4 ⊢
      refine ⟨a1, a2, _, _, rfl, rfl, SqT.of (e4 _ _ g2), SqT.of (e4 _ _ k2), (fun z => by cases z), (by show 4 ≤ sizeLine; decide), ⟨(fun z => by cases z), fun _ wy hwy => ?_⟩⟩
      refine ⟨by show 3 ≤ 1000; decide, fun x0 hx0 => ?_⟩
      refine ⟨x0, _, _, _, rfl, upd_same, fun uu dd H5 huu hdd hx5 hd5 kp5 => ⟨rfl, dd, _, hx5, hd5, (upd_nn hdd).2, ?_⟩⟩
      have hdx : dd ≠ x0 := (upd_nn hdd).1
      refine q2 p q rest hc dd wy u1 v1 u2 v2 _ (fun b o hb => ?_) ⟨?_, g3.fu.at_, g3.fv.at_, k3.fu.at_, k3.fv.at_, g3.lt, k3.lt⟩ ?_ upd_same
      · have hb4 := e4 _ _ (e1 _ _ hb)
        have hbw := (Evl.Ex.new (o := .tup ([.str (wS u1), .str (wS v1)] ++ [.str (wS u2), .str (wS v2)])) hwy) _ _ hb4
        have hbx : b ≠ x0 := ne_of_none hbw hx0
        have hbd : b ≠ dd := ne_of_none hbw (upd_nn hdd).2
        rw [upd_ne hbd, del_ne hbx]
        exact kp5 b o hbx (by rw [upd_ne hbx]; exact hbw)
      · intro y hy
        simp only [List.mem_cons, List.not_mem_nil, or_false] at hy
        rcases hy with rfl | rfl | rfl | rfl
        · exact ⟨g3.fu.let_, Nat.le_trans g3.fu.len (by decide)⟩
        · exact ⟨g3.fv.let_, Nat.le_trans g3.fv.len (by decide)⟩
        · exact ⟨k3.fu.let_, Nat.le_trans k3.fu.len (by decide)⟩
        · exact ⟨k3.fv.let_, Nat.le_trans k3.fv.len (by decide)⟩
      · have hwx : wy ≠ x0 := ne_of_none upd_same hx0
        have hwd : wy ≠ dd := ne_of_none upd_same (upd_nn hdd).2
        rw [upd_ne hwd, del_ne hwx]
        exact kp5 wy _ hwx (by rw [upd_ne hwx, upd_same]; rfl)
end
end E

set_option maxRecDepth 100000
set_option maxHeartbeats 4000000
namespace E
open PySem PySem.Spec PyProof.Rows L2 LamX
section
variable {P : Program} {w : World} {K : PySem.W.Frag} {mg : Str → Option Value} {base : Heap} {f : Addr} {fd : FuncData}
def spRowMet (K : PySem.W.Frag) (C O PT : Addr) : Sp := fun vs H Q _ => ∃ (m : Addr) (ls : List Nat) (L : List Ln) (Es ps : List Int), vs = [.ref m] ∧ MAt K C O H m ls L ps ∧ LsOk ls ∧ EM.Raw ls L Es ∧ EM.PlS L ps ∧ ps.length ≤ 121 ∧ TabS H PT rowQ ∧
  (EM.crL ls L ps = [] → ∀ (t ra : Addr) (rw_ : List Int) (H' : Hp), ExtN H H' → TabS H' PT rowQ → RowOk ls L ps rw_ → TupD H' ra (rw_.map V.int) → H' t = some (.tup [.str "row", .ref ra]) → Q (.ref t) H') ∧
  (∀ p q rest, EM.crL ls L ps = (p, q) :: rest → ∀ (t wy : Addr) (a b c e : List Nat) (H' : Hp), Ex H H' → WyOk ls L p q a b c e → H' wy = some (.tup ([a, b, c, e].map wV)) → H' t = some (.tup [.str "cross", .int p, .int q, .ref wy]) → Q (.ref t) H')
theorem scRowMet : FnScope ["_law_machine", "e"] ["_law_machine"] (defScope (top 65)) := ⟨rfl, rfl, rfl, by decide +kernel, rfl, by decide +kernel, by decide +kernel⟩
theorem ok_row_met {CC O CR c PT : Addr} (hP : (P.main.scope.names.lookup ("super" : Str)).isSome = false) (T : Frees mg) (TB : TabB base mg c PT) (D1 : DfP K mg "first_words" 19) (D2 : DfP K mg "first_pairs" 20) (D3 : DfP K mg "ahead_pairs" 21) (D4 : DfP K mg "crossed_pairs" 22) (M : MachC K mg CC) (OC : OrdC K mg O) (R : CrM P K mg CR)
    (RF : RowF K mg c) (F : FnP K "_law_row_met" "_law_row_met" (top 65) f fd) : FnOk P w K mg base CX0 6 f fd ["_law_machine"] (spRowMet K CC O PT) := by
  obtain ⟨fr, fdr, hmr, Fr, hcd⟩ := RF
  have GT : FnOk P w K mg base (L2.CX P w) 5 fr fdr ["machine"] (spRowOf K CC O CR PT) := ok_row_of hP T TB D1 D2 D3 D4 M OC R Fr hcd
  obtain ⟨_, _, _, hC, _⟩ := id R.init
  have bT : Binds K fdr ["machine"] [] := Fr.bindsN fun _ _ _ _ _ _ us hl => match us, hl with | [_], _ => rfl
  refine F.ok scRowMet (fun vs H Q E h => ?_) (fun cdv A outer s H vs Q E hr h => ?_)
  · obtain ⟨_, _, _, _, _, rfl, _⟩ := h
    rfl
  · obtain ⟨m, ls, L, Es, ps, rfl, hMA, hL, hR, hps, zps, hT, q1, q2⟩ := h
    refine ⟨_, pss_one (ps_try_as (i := 1) (tb := fun W => tRet (tTup (tCons (tC (.str "row")) (tCons (tCallS (spRowOf K CC O CR PT) (WE W) (tCons (tVar 0) tNil)) tNil)))) (ts := fun a cls d => tRet (tTup (tCons (tC (.str "cross")) (tCons (tXf a cls d CR "first" (tVar 1)) (tCons (tXf a cls d CR "second" (tVar 1)) (tCons (tXf a cls d CR "why" (tVar 1)) tNil)))))) (Wout := fun _ _ _ _ => False) rfl rfl scRowMet.nd rfl rfl ⟨rfl, by decide, Or.inl R.g⟩ L2.takes0
      (fun W pn xe tk _ => pss_one (ps_ret (pe_tup (pa_cons pe_str (pa_cons (pe_callS GT hr rfl hmr Fr.kp bT (fun σ => passAt tk σ) (pa_cons (pv 0) pa_nil)) pa_nil)))))
      (fun a oe cls d pn hz hf => pss_one (ps_ret (pe_tup (pa_cons pe_str (pa_cons (pe_xf R.xf hC.n1 hz hf (pv 1)) (pa_cons (pe_xf R.xf hC.n2 hz hf (pv 1)) (pa_cons (pe_xf R.xf hC.n3 hz hf (pv 1)) pa_nil)))))))), ?_⟩
    refine ⟨_, rfl, m, ls, L, Es, ps, rfl, hMA, hL, hR, hps, zps, hT, fun hc ra rw_ H1 e1 hT1 hrow hra => ⟨len2 _ _, fun t ht => ?_⟩, fun p q rest hc d wy a b c e H1 e1 hw hwy hd => ⟨true, R.exm, fun _ a0 _ => ?_, fun z => by cases z⟩⟩
    · refine q1 hc t ra rw_ _ (fun b o hb nb => ?_) ?_ hrow ?_ upd_same
      · have h9 := e1 b o hb nb
        rw [upd_ne (ne_of_none h9 ht)]
        exact h9
      · exact hT1.ext (Evl.Ex.new ht)
      · exact hra.ex (Evl.Ex.new ht)
    · refine ⟨_, rfl, rfl, rfl, d, _, _, rfl, hd, rfl, _, rfl, rfl, rfl, d, _, _, rfl, hd, rfl, _, rfl, rfl, rfl, d, _, _, rfl, hd, rfl, len4 _ _ _ _, fun t ht => ?_⟩
      exact q2 p q rest hc t wy a b c e _ (ex_new e1 ht) hw (Evl.Ex.new ht _ _ hwy) upd_same
theorem d_row_met {CC O CR c PT : Addr} (hP : (P.main.scope.names.lookup ("super" : Str)).isSome = false) (T : Frees mg) (TB : TabB base mg c PT) (D1 : DfP K mg "first_words" 19) (D2 : DfP K mg "first_pairs" 20) (D3 : DfP K mg "ahead_pairs" 21) (D4 : DfP K mg "crossed_pairs" 22) (M : MachC K mg CC) (OC : OrdC K mg O) (R : CrM P K mg CR)
    (RF : RowF K mg c) (h : DfP K mg "_law_row_met" 65) : Df P w K mg base "_law_row_met" 6 ["_law_machine"] (spRowMet K CC O PT) :=
  h.df (fun _ _ F => ok_row_met hP T TB D1 D2 D3 D4 M OC R RF F) fun _ _ _ _ _ _ us hl => match us, hl with | [_], _ => rfl
end
end E

set_option maxRecDepth 100000
set_option maxHeartbeats 4000000
namespace E
open PySem PySem.Spec PyProof.Rows L2 LamX
/-- all defs at the top, but row_of -/
structure AllD (K : PySem.W.Frag) (mg : Str → Option Value) : Prop where
  d3 : DfP K mg "is_number" 3
  d4 : DfP K mg "is_list" 4
  d19 : DfP K mg "first_words" 19
  d20 : DfP K mg "first_pairs" 20
  d21 : DfP K mg "ahead_pairs" 21
  d22 : DfP K mg "crossed_pairs" 22
  d26 : DfP K mg "come_to" 26
  d36 : DfP K mg "is_lane" 36
  d39 : DfP K mg "frozen_lanes" 39
  d40 : DfP K mg "frozen_ends" 40
  d43 : DfP K mg "are_letters" 43
  d46 : DfP K mg "_law_cell" 46
  d47 : DfP K mg "_law_pool" 47
  d48 : DfP K mg "_law_take" 48
  d49 : DfP K mg "_law_mixed" 49
  d50 : DfP K mg "_law_letters" 50
  d51 : DfP K mg "_law_key" 51
  d52 : DfP K mg "_law_before" 52
  d53 : DfP K mg "_law_ordered" 53
  d54 : DfP K mg "_law_goes" 54
  d55 : DfP K mg "_law_leads" 55
  d56 : DfP K mg "_law_levels" 56
  d57 : DfP K mg "_law_useful" 57
  d58 : DfP K mg "_law_drawn" 58
  d59 : DfP K mg "_law_tailed" 59
  d60 : DfP K mg "_law_renamed" 60
  d61 : DfP K mg "_law_built" 61
  d62 : DfP K mg "_law_places" 62
  d63 : DfP K mg "_law_ahead" 63
  d64 : DfP K mg "_law_crossed" 64
  d65 : DfP K mg "_law_row_met" 65
  d66 : DfP K mg "_law_row_right" 66
  d67 : DfP K mg "_law_cross_right" 67
theorem sh0 : SeqAt.shaped (.list []) = true := (okD.list (n := 0) (fun _ h => by cases h)).shaped (by decide)
theorem and_two {b : Bool} {H : Hp} {U : (Bool → Hp → Prop) → Prop} {k : Bool → Hp → Prop} (h : ∀ G, Ex H G → k false G) (hu : b = true → (∀ G, Ex H G → k false G) → U k) : if b = true then U k else k false H := by
  cases b with
  | true => exact hu rfl h
  | false => exact h H (Evl.Ex.refl _)
theorem nrc : ¬ V.str "row" = V.str "cross" := fun h => by
  have h2 : ("row" : Str) = "cross" := V.str.inj h
  exact absurd h2 (by decide)
theorem ncr : ¬ V.str "cross" = V.str "row" := fun h => nrc h.symm
theorem exb_tab {p PT : Addr} {q : Str} {H H' : Hp} (t : TabS (hid [p] H) PT q) (e : ExB [p] H H') : TabS (hid [p] H') PT q := t.ext e.hid
section
variable {P : Program} {w : World} {K : PySem.W.Frag} {mg : Str → Option Value} {base : Heap} {f : Addr} {fd : FuncData}
def spLaw (K : PySem.W.Frag) (PT : Addr) : Sp := fun vs H Q _ => ∃ (a : Addr) (ns : List Int), vs = [.ref a] ∧ SqL K H a (ns.map V.int) ∧ TabS H PT rowQ ∧ ∀ H', Q (.bl true) H'
theorem scLaw : FnScope ["_law_script", "_law_k", "_law_pool_here", "_law_letters_here", "_law_is_standing", "_law_parts", "_law_told", "_law_crossed_here"] ["_law_script"] (defScope (top 68)) := ⟨rfl, rfl, rfl, by decide +kernel, rfl, by decide +kernel, by decide +kernel⟩
theorem ok_law {CC O CR c PT : Addr} (hP : (P.main.scope.names.lookup ("super" : Str)).isSome = false) (T : Frees mg) (TB : TabB base mg c PT) (hS : ∃ t, mg "SIGNS" = some (.str "abcdefghijklmnopqrstuvwxyz" t)) (M : MachC K mg CC) (OC : OrdC K mg O) (R : CrM P K mg CR) (RF : RowF K mg c)
    (D : AllD K mg) (F : FnP K "law" "law" (top 68) f fd) : FnOk P w K mg base CX0 7 f fd ["_law_script"] (spLaw K PT) := by
  obtain ⟨D3, D4, D19, D20, D21, D22, D26, D36, D39, D40, D43, D46, D47, D48, D49, D50, D51, D52, D53, D54, D55, D56, D57, D58, D59, D60, D61, D62, D63, D64, D65, D66, D67⟩ := D
  refine F.ok scLaw (fun vs H Q E h => ?_) (fun cdv A outer s H vs Q E hr h => ?_)
  · obtain ⟨_, _, rfl, _⟩ := h
    rfl
  · obtain ⟨a, ns, rfl, hA, hT, q⟩ := h
    have hu := hr.units
    have Dcell : Df P w K mg base "_law_cell" 1 _ _ := d_cell T D46
    have Dpool : Df P w K mg base "_law_pool" 1 _ _ := d_pool T D47
    have Dtake : Df P w K mg base "_law_take" 1 _ _ := d_take T D48
    have Dlet : Df P w K mg base "_law_letters" 3 _ _ := d_letters T D48 D49 D50
    have Ddrawn : Df P w K mg base "_law_drawn" 2 _ _ := d_drawn T D48 D57 D58
    have Dtailed : Df P w K mg base "_law_tailed" 2 _ _ := d_tailed T D48 D57 D59
    have Dren : Df P w K mg base "_law_renamed" 3 _ _ := d_renamed T D48 D49 D60
    have Dbuilt : Df P w K mg base "_law_built" 6 _ _ := d_built T hS D43 D3 D4 D36 D39 D40 D26 M OC D61
    have Dmet : Df P w K mg base "_law_row_met" 6 _ _ := d_row_met hP T TB D19 D20 D21 D22 M OC R RF D65
    have Dcross : Df P w K mg base "_law_crossed" 3 _ _ := d_crossed T D54 D62 D63 D64
    have Drr : Df P w K mg base "_law_row_right" 3 _ _ := d_row_right T D51 D53 D54 D55 D56 D62 D66
    have Dcr : Df P w K mg base "_law_cross_right" 3 _ _ := d_cross_right T D51 D52 D54 D55 D67
    refine ⟨_, PSs.nox (pss_cons (ps_for PassesOwn.never rfl (pi_range1 rfl T.range (pa_cons pe_int pa_nil)) (pg_name (i := 1) scLaw.nd rfl (Or.inl rfl))
        (pss_cons (ps_set (i := 2) scLaw.nd rfl (Or.inl rfl) (pe_df Dpool (hr.mono (by decide)) rfl (pa_cons (pe_op op_add (pe_df Dcell (hr.mono (by decide)) rfl (pa_cons (pv 0) (pa_cons (pv 1) pa_nil))) (pv 1)) pa_nil)))
      (pss_cons (ps_set (i := 3) scLaw.nd rfl (Or.inl rfl) (pe_df Dlet (hr.mono (by decide)) rfl (pa_cons (pv 2) (pa_cons pe_int pa_nil))))
      (pss_cons (ps_set (i := 4) scLaw.nd rfl (Or.inl rfl) (pe_cmpR op_eq (pe_df Dtake (hr.mono (by decide)) rfl (pa_cons (pv 2) (pa_cons pe_int pa_nil))) pe_int (nomark _)))
      (pss_cons (ps_set (i := 5) scLaw.nd rfl (Or.inl rfl) (pe_df Ddrawn (hr.mono (by decide)) rfl (pa_cons (pv 2) (pa_cons (pv 3) (pa_cons pe_int pa_nil)))))
      (pss_cons (ps_if (pt_val (pv 4)) (pss_one (ps_set (i := 5) scLaw.nd rfl (Or.inl rfl) (pe_df Dtailed (hr.mono (by decide)) rfl (pa_cons (pv 2) (pa_cons (pv 3) (pa_cons (pe_op op_add pe_int (pe_callTy call_int1 (by rfl) T.int boot_int (pa_cons (pe_cmpR op_lt (pe_callB call_len (by rfl) T.len PySem.boot_len (pa_cons (pv 3) pa_nil)) pe_int (nomark _)) pa_nil))) pa_nil)))))) pss_nil)
      (pss_cons (ps_set (i := 5) scLaw.nd rfl (Or.inl rfl) (pe_df Dren (hr.mono (by decide)) rfl (pa_cons (pv 2) (pa_cons (pv 5) pa_nil))))
      (pss_cons (ps_set (i := 6) scLaw.nd rfl (Or.inl rfl) (pe_df Dmet (hr.mono (by decide)) rfl (pa_cons (pe_df Dbuilt (hr.mono (by decide)) rfl (pa_cons (pv 3) (pa_cons (pv 5) pa_nil))) pa_nil)))
      (pss_cons (ps_set (i := 7) scLaw.nd rfl (Or.inl rfl) (pe_df Dcross (hr.mono (by decide)) rfl (pa_cons (pv 5) (pa_cons (pv 3) pa_nil))))
      (pss_cons (ps_if (PW.pt (pw_or (pt_cmpR op_ne (pe_cmpR op_eq (pe_ix ix_tup (pv 6) pe_int (fun _ _ => rfl)) pe_str (nomark _)) (pe_cmpR (op_eqD hu) (pv 7) (pe_lst pa_nil) (nomark _)) (nomark _)) (pw_or1 (PW.pt (pw_and (pt_val (pv 4)) (pw_and1 (pt_cmpR (op_neD hu) (pv 7) (pe_lst pa_nil) (nomark _)))))))) (pss_one (ps_ret pe_bl)) pss_nil)
      (pss_cons (ps_if (PW.pt (pw_and (pt_cmpR op_eq (pe_ix ix_tup (pv 6) pe_int (fun _ _ => rfl)) pe_str (nomark _)) (pw_and1 (pt_not (pt_val (pe_df Drr (hr.mono (by decide)) rfl (pa_cons (pv 3) (pa_cons (pv 5) (pa_cons (pe_ix ix_tup (pv 6) pe_int (fun _ _ => rfl)) pa_nil))))))))) (pss_one (ps_ret pe_bl)) pss_nil)
      (pss_one (ps_if (PW.pt (pw_and (pt_cmpR op_eq (pe_ix ix_tup (pv 6) pe_int (fun _ _ => rfl)) pe_str (nomark _)) (pw_and1 (pt_not (pt_val (pe_df Dcr (hr.mono (by decide)) rfl (pa_cons (pv 3) (pa_cons (pv 5) (pa_cons (pv 6) (pa_cons (pe_ix ix_list (pv 7) pe_int (fun _ _ => rfl)) pa_nil)))))))))) (pss_one (ps_ret pe_bl)) pss_nil)))))))))))))
      (pss_one (ps_ret pe_bl))), ?_⟩
    refine ⟨_, rfl, by decide, by decide, for_range (lo := 0) (n := 4) (fun i σ H' => ∃ o1 o2 o3 o4 o5 o6 o7, σ = [some (.ref a), o1, o2, o3, o4, o5, o6, o7] ∧ SqL K H' a (ns.map V.int) ∧ TabS H' PT rowQ) ⟨_, _, _, _, _, _, _, rfl, hA, hT⟩ ?_ ?_⟩
    · rintro i σ H1 hi ⟨o1, o2, o3, o4, o5, o6, o7, rfl, hA1, hT1⟩
      refine ⟨_, rfl, _, rfl, a, ns, i, by rw [Int.zero_add]; rfl, hA1, fun z => ⟨_, rfl, _, _, rfl, rfl, ?_⟩⟩
      refine ⟨_, rfl, fun p H2 hpn e2 hp => ?_⟩
      have hA2 : SqL K (hid [p] H2) a (ns.map V.int) := Evl.ex_l (ex_hid e2 hpn) hA1
      have hT2 : TabS (hid [p] H2) PT rowQ := hT1.ext (ex_hid e2 hpn)
      refine ⟨_, rfl, p, 3, 0, rfl, by decide, by decide, hp, by decide, fun ls H3 hL e3 hp3 => ?_⟩
      refine ⟨_, rfl, p, 2, _, rfl, by decide, by decide, hp3, by decide, fun d H4 d0 d1 hp4 e4 => ?_⟩
      refine ⟨rfl, ?_⟩
      refine ⟨_, rfl, _, rfl, p, ls, _, rfl, hL, hp4, by decide, fun r L Es H5 e5 hp5 hR hD => ?_⟩
      have x5 : Ex (hid [p] H2) (hid [p] H5) := ((e3.trans e4).trans e5).hid
      rw [dec_int']
      by_cases hd0 : d = 0
      · rw [decide_eq_true hd0]
        refine ⟨_, rfl, _, rfl, iteT ?_⟩
        refine ⟨_, rfl, _, rfl, _, rfl, _, _, rfl, ⟨by rw [wS_len]; exact sz_of (by have := hL.len; omega), rfl⟩, _, _, rfl, rfl, .inr ⟨_, rfl, _, _, rfl, rfl, ?_⟩⟩
        refine ⟨p, ls, _, _, rfl, hL, hp5, by decide, ?_, ?_, ?_, fun r L Es H6 e6 hp6 hR hSt0 hD => ?_⟩
        · split <;> decide
        · split <;> decide
        · split
          · exact .inr rfl
          · exact .inl rfl
        have x6 : Ex (hid [p] H2) (hid [p] H6) := x5.trans e6.hid
        have hSt : true = true → EM.Stands ls L := fun _ => hSt0
        have hA6 : SqL K (hid [p] H6) a (ns.map V.int) := Evl.ex_l x6 hA2
        have hT6 : TabS (hid [p] H6) PT rowQ := hT2.ext x6
        refine ⟨_, rfl, _, rfl, p, .ref r, ls, L, Es, _, rfl, hD, hp6, by decide, hR, fun r2 L2 E2 H7 e7 hp7 hR2 hst2 hD2 => ?_⟩
        have hA7 : SqL K H7 a (ns.map V.int) := Evl.ex_l (hid_ex _ _) (Evl.ex_l e7.hid hA6)
        have hT7 : TabS H7 PT rowQ := (hT6.ext e7.hid).ext (hid_ex _ _)
        have hD7 : Dp K H7 (.ref r2) (partsD L2 E2) := dp_mono (hid_ex _ _) hD2
        refine ⟨_, rfl, _, rfl, .ref r2, ls, L2, E2, rfl, hL, hD7, hR2, fun m ps H8 e8 hM hps zps => ?_⟩
        refine ⟨m, ls, L2, E2, ps, rfl, hM, hL, hR2, hps, zps, hT7.ext e8, fun hc t ra rw_ H9 e9 hT9 hrow hra ht => ?_, fun pp qq rest hc t wy aa bb cc ee H9 e9 hw hwy ht => ?_⟩
        · have x9 : ExtN H7 H9 := (extN_of e8).trans e9
          refine ⟨_, rfl, _, rfl, .ref r2, ls, L2, E2, rfl, dp_extN x9 hD7, hL, hR2, fun r3 ps3 H10 hr3 e10 hps3 zps3 hD3 => ?_⟩
          obtain rfl := hps3.eq hps
          rw [hc] at hD3
          have ht10 : H10 t = some (.tup [.str "row", .ref ra]) := e10 _ _ ht
          have x10 : ExtN H7 H10 := x9.trans (extN_of e10)
          refine ⟨_, rfl, t, _, _, _, rfl, rfl, SqT.of ht10, rfl, rfl, _, rfl, Nat.zero_le _, fun g hg => ⟨.list [], .list [], dp_mono (Evl.Ex.new hg) hD3, .lst (SqL.of upd_same) .nil, sh0, sh0, ?_⟩⟩
          rw [eqv_nil, decide_eq_true (show V.str "row" = V.str "row" from rfl)]
          refine ⟨rfl, _, rfl, iteF ?_⟩
          refine ⟨_, rfl, _, rfl, and_two (fun G eG => ?_) (fun hb h => ?_)⟩
          · refine iteF ?_
            have eG0 : Ex H10 G := (Evl.Ex.new hg).trans eG
            have htG := eG0 _ _ ht10
            have xG : ExtN H7 G := x10.trans (extN_of eG0)
            refine ⟨_, rfl, t, _, _, _, rfl, rfl, SqT.of htG, rfl, rfl, ?_⟩
            rw [decide_eq_true (show V.str "row" = V.str "row" from rfl)]
            refine ⟨_, rfl, iteT ⟨_, rfl, _, rfl, _, rfl, t, _, _, _, rfl, rfl, SqT.of htG, rfl, .ref r2, ls, L2, E2, _, rw_, ra, rfl, hL, dp_extN xG hD7, hR2, hps, zps, (EM.crL_nil hps).mp hc, hrow, (hra.ex e10).ex eG0, fun H11 e11 => ⟨_, rfl, iteF ?_⟩⟩⟩
            refine ⟨_, rfl, t, _, _, _, rfl, rfl, SqT.of (e11 _ _ htG), rfl, rfl, ?_⟩
            rw [decide_eq_false nrc]
            refine ⟨_, rfl, iteF (iteF ?_)⟩
            exact ⟨_, _, _, _, _, _, _, rfl, sqL_extN (xG.trans (extN_of e11)) hA7, hT9.ext fun b o ho => (eG0.trans e11) b o (e10 b o ho)⟩
          · refine ⟨_, rfl, Nat.zero_le _, fun g2 hg2 => ⟨.list [], .list [], dp_mono ((Evl.Ex.new hg).trans (Evl.Ex.new hg2)) hD3, .lst (SqL.of upd_same) .nil, sh0, sh0, ?_⟩⟩
            rw [eqv_nil]
            exact ⟨_, rfl, h _ (Evl.Ex.new hg2)⟩
        · have x9 : Ex H7 H9 := e8.trans e9
          refine ⟨_, rfl, _, rfl, .ref r2, ls, L2, E2, rfl, dp_mono x9 hD7, hL, hR2, fun r3 ps3 H10 hr3 e10 hps3 zps3 hD3 => ?_⟩
          obtain rfl := hps3.eq hps
          rw [hc] at hD3
          have ht10 : H10 t = some (.tup [.str "cross", .int pp, .int qq, .ref wy]) := e10 _ _ ht
          have hwy10 := e10 _ _ hwy
          have x10 : Ex H7 H10 := x9.trans e10
          refine ⟨_, rfl, t, _, _, _, rfl, rfl, SqT.of ht10, rfl, rfl, _, rfl, Nat.zero_le _, fun g hg => ⟨.list (((pp, qq) :: rest).map prP), .list [], dp_mono (Evl.Ex.new hg) hD3, .lst (SqL.of upd_same) .nil, shaped_prPs _, sh0, ?_⟩⟩
          rw [eqv_nil, decide_eq_false ncr]
          refine ⟨rfl, _, rfl, iteF ?_⟩
          refine ⟨_, rfl, _, rfl, and_two (fun G eG => ?_) (fun hb h => ?_)⟩
          · refine iteF ?_
            have eG0 : Ex H10 G := (Evl.Ex.new hg).trans eG
            have htG := eG0 _ _ ht10
            have xG : Ex H7 G := x10.trans eG0
            refine ⟨_, rfl, t, _, _, _, rfl, rfl, SqT.of htG, rfl, rfl, ?_⟩
            rw [decide_eq_false ncr]
            refine ⟨_, rfl, iteF (iteF ?_)⟩
            refine ⟨_, rfl, t, _, _, _, rfl, rfl, SqT.of htG, rfl, rfl, ?_⟩
            rw [decide_eq_true (show V.str "cross" = V.str "cross" from rfl)]
            obtain ⟨r3', fx, er3, hS3, hA3⟩ := dp_lst (dp_mono eG0 hD3)
            obtain rfl := V.ref.inj er3
            obtain ⟨vx, hvx⟩ : ∃ vx, fx[0]? = some vx := by
              cases fx with
              | nil => cases hA3
              | cons a t => exact ⟨a, rfl⟩
            obtain ⟨y, fi, hy, rfl, hTf⟩ := dps_prP hA3 hvx
            obtain rfl : (pp, qq) = y := Option.some.inj hy
            refine ⟨_, rfl, iteT ⟨_, rfl, _, rfl, _, rfl, _, rfl, r3, fx, _, .ref fi, rfl, rfl, hS3, (show atI fx ((0 : Nat) : Int) = some (.ref fi) from atI_nat hvx), .ref r2, ls, L2, E2, t, wy, fi, pp, qq, aa, bb, cc, ee, rfl, hL, dp_mono xG hD7, hR2, SqT.of htG, SqT.of (eG0 _ _ hwy10), hTf, hw, fun H11 e11 => ⟨_, rfl, iteF ?_⟩⟩⟩
            exact ⟨_, _, _, _, _, _, _, rfl, Evl.ex_l (xG.trans e11) hA7, hT7.ext fun b o ho => (xG.trans e11) b o ho⟩
          · exfalso
            obtain ⟨m0, tt, hm0, T0⟩ := hst2 (hSt hb)
            have hnil := (EM.crL_nil hps).mpr (T0.noCross hm0)
            rw [hc] at hnil
            cases hnil
      · rw [decide_eq_false hd0]
        refine ⟨_, rfl, _, rfl, iteF ?_⟩
        have x6 := x5
        have hp6 := hp5
        have hSt : false = true → EM.Stands ls L := fun z => by cases z
        generalize H5 = H6 at x6 hp6 hD ⊢
        have hA6 : SqL K (hid [p] H6) a (ns.map V.int) := Evl.ex_l x6 hA2
        have hT6 : TabS (hid [p] H6) PT rowQ := hT2.ext x6
        refine ⟨_, rfl, _, rfl, p, .ref r, ls, L, Es, _, rfl, hD, hp6, by decide, hR, fun r2 L2 E2 H7 e7 hp7 hR2 hst2 hD2 => ?_⟩
        have hA7 : SqL K H7 a (ns.map V.int) := Evl.ex_l (hid_ex _ _) (Evl.ex_l e7.hid hA6)
        have hT7 : TabS H7 PT rowQ := (hT6.ext e7.hid).ext (hid_ex _ _)
        have hD7 : Dp K H7 (.ref r2) (partsD L2 E2) := dp_mono (hid_ex _ _) hD2
        refine ⟨_, rfl, _, rfl, .ref r2, ls, L2, E2, rfl, hL, hD7, hR2, fun m ps H8 e8 hM hps zps => ?_⟩
        refine ⟨m, ls, L2, E2, ps, rfl, hM, hL, hR2, hps, zps, hT7.ext e8, fun hc t ra rw_ H9 e9 hT9 hrow hra ht => ?_, fun pp qq rest hc t wy aa bb cc ee H9 e9 hw hwy ht => ?_⟩
        · have x9 : ExtN H7 H9 := (extN_of e8).trans e9
          refine ⟨_, rfl, _, rfl, .ref r2, ls, L2, E2, rfl, dp_extN x9 hD7, hL, hR2, fun r3 ps3 H10 hr3 e10 hps3 zps3 hD3 => ?_⟩
          obtain rfl := hps3.eq hps
          rw [hc] at hD3
          have ht10 : H10 t = some (.tup [.str "row", .ref ra]) := e10 _ _ ht
          have x10 : ExtN H7 H10 := x9.trans (extN_of e10)
          refine ⟨_, rfl, t, _, _, _, rfl, rfl, SqT.of ht10, rfl, rfl, _, rfl, Nat.zero_le _, fun g hg => ⟨.list [], .list [], dp_mono (Evl.Ex.new hg) hD3, .lst (SqL.of upd_same) .nil, sh0, sh0, ?_⟩⟩
          rw [eqv_nil, decide_eq_true (show V.str "row" = V.str "row" from rfl)]
          refine ⟨rfl, _, rfl, iteF ?_⟩
          refine ⟨_, rfl, _, rfl, and_two (fun G eG => ?_) (fun hb h => ?_)⟩
          · refine iteF ?_
            have eG0 : Ex H10 G := (Evl.Ex.new hg).trans eG
            have htG := eG0 _ _ ht10
            have xG : ExtN H7 G := x10.trans (extN_of eG0)
            refine ⟨_, rfl, t, _, _, _, rfl, rfl, SqT.of htG, rfl, rfl, ?_⟩
            rw [decide_eq_true (show V.str "row" = V.str "row" from rfl)]
            refine ⟨_, rfl, iteT ⟨_, rfl, _, rfl, _, rfl, t, _, _, _, rfl, rfl, SqT.of htG, rfl, .ref r2, ls, L2, E2, _, rw_, ra, rfl, hL, dp_extN xG hD7, hR2, hps, zps, (EM.crL_nil hps).mp hc, hrow, (hra.ex e10).ex eG0, fun H11 e11 => ⟨_, rfl, iteF ?_⟩⟩⟩
            refine ⟨_, rfl, t, _, _, _, rfl, rfl, SqT.of (e11 _ _ htG), rfl, rfl, ?_⟩
            rw [decide_eq_false nrc]
            refine ⟨_, rfl, iteF (iteF ?_)⟩
            exact ⟨_, _, _, _, _, _, _, rfl, sqL_extN (xG.trans (extN_of e11)) hA7, hT9.ext fun b o ho => (eG0.trans e11) b o (e10 b o ho)⟩
          · refine ⟨_, rfl, Nat.zero_le _, fun g2 hg2 => ⟨.list [], .list [], dp_mono ((Evl.Ex.new hg).trans (Evl.Ex.new hg2)) hD3, .lst (SqL.of upd_same) .nil, sh0, sh0, ?_⟩⟩
            rw [eqv_nil]
            exact ⟨_, rfl, h _ (Evl.Ex.new hg2)⟩
        · have x9 : Ex H7 H9 := e8.trans e9
          refine ⟨_, rfl, _, rfl, .ref r2, ls, L2, E2, rfl, dp_mono x9 hD7, hL, hR2, fun r3 ps3 H10 hr3 e10 hps3 zps3 hD3 => ?_⟩
          obtain rfl := hps3.eq hps
          rw [hc] at hD3
          have ht10 : H10 t = some (.tup [.str "cross", .int pp, .int qq, .ref wy]) := e10 _ _ ht
          have hwy10 := e10 _ _ hwy
          have x10 : Ex H7 H10 := x9.trans e10
          refine ⟨_, rfl, t, _, _, _, rfl, rfl, SqT.of ht10, rfl, rfl, _, rfl, Nat.zero_le _, fun g hg => ⟨.list (((pp, qq) :: rest).map prP), .list [], dp_mono (Evl.Ex.new hg) hD3, .lst (SqL.of upd_same) .nil, shaped_prPs _, sh0, ?_⟩⟩
          rw [eqv_nil, decide_eq_false ncr]
          refine ⟨rfl, _, rfl, iteF ?_⟩
          refine ⟨_, rfl, _, rfl, and_two (fun G eG => ?_) (fun hb h => ?_)⟩
          · refine iteF ?_
            have eG0 : Ex H10 G := (Evl.Ex.new hg).trans eG
            have htG := eG0 _ _ ht10
            have xG : Ex H7 G := x10.trans eG0
            refine ⟨_, rfl, t, _, _, _, rfl, rfl, SqT.of htG, rfl, rfl, ?_⟩
            rw [decide_eq_false ncr]
            refine ⟨_, rfl, iteF (iteF ?_)⟩
            refine ⟨_, rfl, t, _, _, _, rfl, rfl, SqT.of htG, rfl, rfl, ?_⟩
            rw [decide_eq_true (show V.str "cross" = V.str "cross" from rfl)]
            obtain ⟨r3', fx, er3, hS3, hA3⟩ := dp_lst (dp_mono eG0 hD3)
            obtain rfl := V.ref.inj er3
            obtain ⟨vx, hvx⟩ : ∃ vx, fx[0]? = some vx := by
              cases fx with
              | nil => cases hA3
              | cons a t => exact ⟨a, rfl⟩
            obtain ⟨y, fi, hy, rfl, hTf⟩ := dps_prP hA3 hvx
            obtain rfl : (pp, qq) = y := Option.some.inj hy
            refine ⟨_, rfl, iteT ⟨_, rfl, _, rfl, _, rfl, _, rfl, r3, fx, _, .ref fi, rfl, rfl, hS3, (show atI fx ((0 : Nat) : Int) = some (.ref fi) from atI_nat hvx), .ref r2, ls, L2, E2, t, wy, fi, pp, qq, aa, bb, cc, ee, rfl, hL, dp_mono xG hD7, hR2, SqT.of htG, SqT.of (eG0 _ _ hwy10), hTf, hw, fun H11 e11 => ⟨_, rfl, iteF ?_⟩⟩⟩
            exact ⟨_, _, _, _, _, _, _, rfl, Evl.ex_l (xG.trans e11) hA7, hT7.ext fun b o ho => (xG.trans e11) b o ho⟩
          · exfalso
            obtain ⟨m0, tt, hm0, T0⟩ := hst2 (hSt hb)
            have hnil := (EM.crL_nil hps).mpr (T0.noCross hm0)
            rw [hc] at hnil
            cases hnil
    · rintro σ H1 ⟨o1, o2, o3, o4, o5, o6, o7, rfl, hA1, hT1⟩
      exact q H1
end
end E

set_option maxRecDepth 100000
set_option maxHeartbeats 4000000
namespace E
open PySem PySem.Spec PyProof.Rows L2 LamX NdefX
section
variable {K : PySem.W.Frag}
theorem exc_ofB {C : Addr} (q : excB K C = true) : ∃ nm qn N bs bm sn sub ab col dd k0 k1 k2 k3 k5, K.lookup C = some (excClassObj nm qn C N bs bm true sn sub ab col dd k0 k1 k2 k3 k5 "ValueError.__new__") ∧ PySem.HandSPX.refsVE bm = true := by
  unfold excB at q
  split at q
  · rename_i dd cd sl ho
    split at q
    · rename_i C' bm k0 k1 k2 k3 n k5 hm hs
      simp only [Bool.and_eq_true, beq_iff_eq, Bool.not_eq_true'] at q
      obtain ⟨rfl, rfl, hdel, hdict, ht⟩ := q
      obtain ⟨nm, bs, mro, ns, qn, hd, sn, sub, ab, col, del⟩ := cd
      dsimp only at hm hdel hdict
      subst hm hdel hdict
      have hsl : sl = #[k0, k1, k2, k3, some (.builtin "ValueError.__new__"), k5] := by
        obtain ⟨l⟩ := sl
        simp only at hs
        rw [hs]
      subst hsl
      exact ⟨nm, qn, ns, bs, bm, sn, sub, ab, col, dd, k0, k1, k2, k3, k5, ho, ht⟩
    · cases q
  · cases q
theorem cell_ofB {cc C : Addr} (q : cellB K cc C = true) : ∃ cl cld csl, K.lookup cc = some ⟨cl, cld, .cell (some (.ref C)), csl⟩ := by
  unfold cellB at q
  split at q
  · rename_i cl cld D csl ho
    rw [of_decide_eq_true q] at ho
    exact ⟨_, _, _, ho⟩
  · cases q
theorem file_ofB {c : Addr} {file0 : Str} (q : fileB K c file0 = true) : ∃ ccl cdd vs ccs file tf, K.lookup c = some ⟨ccl, cdd, .fields vs, ccs⟩ ∧ vs[2]? = some (.str file tf) ∧ (file0 == file) = true := by
  unfold fileB at q
  split at q
  · rename_i ccl cdd vs ccs ho
    split at q
    · rename_i file tf hv
      exact ⟨_, _, _, _, _, _, ho, hv, q⟩
    · cases q
  · cases q
theorem fn_ofB {file0 : Str} (e : crObs K = crVal) (q : fnB K file0 = true) : ∃ cc c doc pm ctv oc od osl, K.lookup (crI K) = some ⟨oc, od, .func ((crF cc c).fd doc pm ctv), osl⟩ ∧ PySem.W.codeIn K (.ref c) "Crossing.__init__" = true ∧ cellB K cc (crA K) = true ∧ fileB K c file0 = true := by
  unfold fnB at q
  unfold crObs at e
  cases ho : K.lookup (crI K) with
  | none =>
    rw [ho] at q
    cases q
  | some o =>
    obtain ⟨oc, od, dt, osl⟩ := o
    rw [ho] at q e
    cases dt with
    | func fd =>
      obtain ⟨n1, n2, n3, n4, n5, n6, n7, n8, n9, n10, n11, n12, n13, n14, n15⟩ := fd
      have e2 : (some (n1, n2, n3, n4, n5, n6, n15) : FnC) = some (("__init__" : Str), ("Crossing.__init__" : Str), defArgs (inClass (top 17) 0), FuncBody.stmts (defBody (inClass (top 17) 0)), defScope (inClass (top 17) 0), mainGlobals, builtinsNs) := e
      simp only [Option.some.injEq, Prod.mk.injEq] at e2
      obtain ⟨h1, h2, h3, h4, h5, h6, h7⟩ := e2
      subst h1 h2 h3 h4 h5 h6 h7
      have q2 : (match (generalizing := false) n13, n7 with
        | .ref c, [(y, cc)] => PySem.W.codeIn K (.ref c) "Crossing.__init__" && (decide (y = ("__class__" : Str)) && (isNone n8 && (isNone n9 && (decide (n12 = none) && (cellB K cc (crA K) && fileB K c file0)))))
        | _, _ => false) = true := q
      split at q2
      · rename_i c y cc
        simp only [Bool.and_eq_true, decide_eq_true_eq] at q2
        obtain ⟨a1, rfl, a3, a4, rfl, a6, a7⟩ := q2
        obtain rfl := isNone_eq a3
        obtain rfl := isNone_eq a4
        exact ⟨cc, c, n10, n11, n14, oc, od, osl, rfl, a1, a6, a7⟩
      · cases q2
    | _ => cases q
theorem crM_of {P : Program} {mg : Str → Option Value} (g : mg "Crossing" = some (.ref (crA K))) (e : crObs K = crVal) (q : crB P.main.file K = true) : CrM P K mg (crA K) := by
  unfold crB at q
  simp only [Bool.and_eq_true, decide_eq_true_eq] at q
  obtain ⟨b1, b2, b3, b4, b5, b6, b7, b8, b9, b10, b11, b12, b13, b14, b15, b16, b17⟩ := q
  obtain ⟨cc, c, doc, pm, ctv, oc, od, osl, lk, hcd, hce, hfi⟩ := fn_ofB e b1
  obtain ⟨ccl, cdd, vs, ccs, file, tf, k1, k2, k3⟩ := file_ofB hfi
  have ex := exc_ofB b2
  have oex : OexC K (crA K) := ⟨ex, He.eqO_ok b3, b4, b5, b6⟩
  refine ⟨g, ⟨crI K, cc, c, ⟨⟨_, _, _, _, _, _, lk⟩, hcd, rfl, cell_ofB hce, ⟨_, _, _, _, _, _, k1, k2⟩, oex, ?_, b7, He.eqO_ok b8, He.eqO_ok b9, b10, He.eqO_ok b11, He.eqO_ok b12, He.eqO_ok b13⟩, He.eqO_ok b14, b15, ?_⟩, xfB_ok b16, b17⟩
  · obtain ⟨nm, qn, N, bs, bm, sn, sub, ab, col, dd, k0, k1, k2, k3, k5, hl, _⟩ := ex
    unfold PySem.W.clsIn
    rw [hl]
    exact ⟨_, rfl⟩
  · rintro file2 ⟨ccl2, cdd2, vs2, ccs2, tf2, j1, j2⟩
    rw [k1] at j1
    cases j1
    rw [k2] at j2
    cases j2
    exact k3
end
end E

set_option maxRecDepth 100000
set_option maxHeartbeats 4000000
namespace E
open PySem PySem.Spec PyProof.Rows L2 LamX
section
variable {K : PySem.W.Frag} {h : Heap} {mg : Str → Option Value}
theorem dfp_of (X : K.In h) (G : h.Ns mainGlobals mg) (c : SaysZ h K) (i j : Nat) {n : Nat} {x : Str} (h1 : fa[i]? = some (.glo x)) (h2 : fn[j]? = some (dG n x)) : DfP K mg x n := by
  obtain ⟨fd, F⟩ := c.d.def_ j h2
  exact ⟨_, fd, He.glo_ok X G (c.d.fact i h1), F⟩
theorem allD (X : K.In h) (G : h.Ns mainGlobals mg) (c : SaysZ h K) : AllD K mg :=
  ⟨dfp_of X G c 0 0 rfl rfl,
    dfp_of X G c 1 1 rfl rfl,
    dfp_of X G c 2 2 rfl rfl,
    dfp_of X G c 3 3 rfl rfl,
    dfp_of X G c 4 4 rfl rfl,
    dfp_of X G c 5 5 rfl rfl,
    dfp_of X G c 7 7 rfl rfl,
    dfp_of X G c 8 8 rfl rfl,
    dfp_of X G c 9 9 rfl rfl,
    dfp_of X G c 10 10 rfl rfl,
    dfp_of X G c 11 14 rfl rfl,
    dfp_of X G c 12 17 rfl rfl,
    dfp_of X G c 13 18 rfl rfl,
    dfp_of X G c 14 19 rfl rfl,
    dfp_of X G c 15 20 rfl rfl,
    dfp_of X G c 16 21 rfl rfl,
    dfp_of X G c 17 22 rfl rfl,
    dfp_of X G c 18 23 rfl rfl,
    dfp_of X G c 19 24 rfl rfl,
    dfp_of X G c 20 25 rfl rfl,
    dfp_of X G c 21 26 rfl rfl,
    dfp_of X G c 22 27 rfl rfl,
    dfp_of X G c 23 28 rfl rfl,
    dfp_of X G c 24 29 rfl rfl,
    dfp_of X G c 25 30 rfl rfl,
    dfp_of X G c 26 31 rfl rfl,
    dfp_of X G c 27 32 rfl rfl,
    dfp_of X G c 28 33 rfl rfl,
    dfp_of X G c 29 34 rfl rfl,
    dfp_of X G c 30 35 rfl rfl,
    dfp_of X G c 31 36 rfl rfl,
    dfp_of X G c 32 37 rfl rfl,
    dfp_of X G c 33 38 rfl rfl⟩
theorem frees_of (X : K.In h) (G : h.Ns mainGlobals mg) (c : SaysZ h K) : Frees mg :=
  ⟨He.free_ok X G (c.d.fact 35 (f := .free "len") rfl),
    He.free_ok X G (c.d.fact 36 (f := .free "isinstance") rfl),
    He.free_ok X G (c.d.fact 37 (f := .free "int") rfl),
    He.free_ok X G (c.d.fact 38 (f := .free "bool") rfl),
    He.free_ok X G (c.d.fact 39 (f := .free "str") rfl),
    He.free_ok X G (c.d.fact 40 (f := .free "list") rfl),
    He.free_ok X G (c.d.fact 41 (f := .free "tuple") rfl),
    He.free_ok X G (c.d.fact 42 (f := .free "set") rfl),
    He.free_ok X G (c.d.fact 43 (f := .free "all") rfl),
    He.free_ok X G (c.d.fact 44 (f := .free "any") rfl),
    He.free_ok X G (c.d.fact 45 (f := .free "sorted") rfl),
    He.free_ok X G (c.d.fact 46 (f := .free "enumerate") rfl),
    He.free_ok X G (c.d.fact 47 (f := .free "range") rfl),
    He.free_ok X G (c.d.fact 48 (f := .free "dict") rfl),
    He.free_ok X G (c.d.fact 49 (f := .free "super") rfl)⟩
theorem signs_of (X : K.In h) (G : h.Ns mainGlobals mg) (c : SaysZ h K) : ∃ t, mg "SIGNS" = some (.str "abcdefghijklmnopqrstuvwxyz" t) := He.str_ok X G (c.d.fact 53 (f := .str "SIGNS" "abcdefghijklmnopqrstuvwxyz") rfl)
theorem ordC (X : K.In h) (G : h.Ns mainGlobals mg) (c : SaysZ h K) : OrdC K mg (He.ga K "Order") := by
  obtain ⟨fd1, F1⟩ := c.d.def_ 15 (d := dM 44 0 "Order" "__init__" "Order.__init__") rfl
  obtain ⟨fd2, F2⟩ := c.d.def_ 16 (d := dM 44 2 "Order" "__contains__" "Order.__contains__") rfl
  exact ⟨He.glo_ok X G (c.d.fact 51 (f := .glo "Order") rfl), He.cls_ok (c.d.fact 55 (f := .cls "Order") rfl), ⟨_, fd1, He.mkr_ok (c.d.fact 57 (f := .mkr "Order") rfl), F1⟩, ⟨_, fd2, He.meth_ok (c.d.fact 60 (f := .meth "Order" "__contains__") rfl), F2⟩,
    He.noat_ok (c.d.fact 66 (f := .noat "Order" "letters") rfl), He.noat_ok (c.d.fact 67 (f := .noat "Order" "ranks") rfl)⟩
theorem machC (X : K.In h) (G : h.Ns mainGlobals mg) (c : SaysZ h K) : MachC K mg (He.ga K "Machine") := by
  obtain ⟨fd1, F1⟩ := c.d.def_ 11 (d := dM 41 0 "Machine" "__init__" "Machine.__init__") rfl
  obtain ⟨fd2, F2⟩ := c.d.def_ 12 (d := dM 41 1 "Machine" "check_idle" "Machine.check_idle") rfl
  obtain ⟨fd3, F3⟩ := c.d.def_ 13 (d := dM 41 3 "Machine" "go" "Machine.go") rfl
  exact ⟨He.glo_ok X G (c.d.fact 50 (f := .glo "Machine") rfl), He.cls_ok (c.d.fact 54 (f := .cls "Machine") rfl), ⟨_, fd1, He.mkr_ok (c.d.fact 56 (f := .mkr "Machine") rfl), F1⟩, ⟨_, fd2, He.meth_ok (c.d.fact 58 (f := .meth "Machine" "check_idle") rfl), F2⟩, ⟨_, fd3, He.meth_ok (c.d.fact 59 (f := .meth "Machine" "go") rfl), F3⟩,
    He.noat_ok (c.d.fact 61 (f := .noat "Machine" "order") rfl), He.noat_ok (c.d.fact 62 (f := .noat "Machine" "targets") rfl), He.noat_ok (c.d.fact 63 (f := .noat "Machine" "ends") rfl), He.noat_ok (c.d.fact 64 (f := .noat "Machine" "lanes") rfl), He.noat_ok (c.d.fact 65 (f := .noat "Machine" "places") rfl)⟩
theorem crM (X : K.In h) (G : h.Ns mainGlobals mg) (c : SaysZ h K) : CrM P0 K mg (crA K) := crM_of (He.glo_ok X G (c.d.fact 52 (f := .glo "Crossing") rfl)) c.cr c.more
abbrev tfp : He.Defn := ("row_of", none)
theorem rowF (X : K.In h) (G : h.Ns mainGlobals mg) (c : SaysZ h K) : RowF K mg (He.cT K tfp).1 := by
  obtain ⟨fd, F⟩ := c.d.def_ 6 (d := dG 23 "row_of") rfl
  refine ⟨_, fd, He.glo_ok X G (c.d.fact 6 (f := .glo "row_of") rfl), F, ?_⟩
  obtain ⟨oc, od, dV, kV, doc, pm, an, cdv, ct, osl, rfl, lk, hcd, _, _⟩ := F.ex
  obtain ⟨cc, rfl⟩ := He.codeIn_ref hcd
  exact congrArg Value.ref (He.codeOf_eq (p := tfp) lk rfl).symm
theorem law_at {w : World} {fl : Addr} (X : K.In h) (G : h.Ns mainGlobals mg) (c : SaysZ h K) (hfl : mg "law" = some (.ref fl)) : LawAtS PySem.Challenge.rw_endrows_k15_whole_rows_of_machines w K CX0 7 63 "_law_script" mg fl h := by
  obtain ⟨fd, F⟩ := c.d.def_ 39 (d := dG 68 "law") rfl
  have e := hfl.symm.trans (He.glo_ok X G (c.d.fact 34 (f := .glo "law") rfl))
  cases e
  have hin : tfp ∈ tf := List.mem_singleton.mpr rfl
  have b := FunD.bindsA (ps := ["_law_script"]) F fun _ _ _ _ _ _ us hl => match us, hl with | [_], _ => rfl
  refine ⟨fd, [He.cT K tfp], spLaw K (He.cT K tfp).2, fun p hp => ?_, fun p hp => ?_, fun p hp => ?_, fun s v => b s [v] rfl, fun H a ns _ _ hT hS => ⟨a, ns, rfl, hS, TabS.nil (hT _ (List.mem_singleton.mpr rfl)), fun _ => rfl⟩, fun base _ _ hT => ?_⟩
  · rw [List.mem_singleton.mp hp]
    exact c.empty _ hin
  · rw [List.mem_singleton.mp hp]
    exact c.out _ hin
  · rw [List.mem_singleton.mp hp]
    exact PySem.W.codeHd_of_K X (c.hd _ hin)
  · exact ok_law (by decide +kernel) (frees_of X G c) (hT _ (List.mem_singleton.mpr rfl)) (signs_of X G c) (machC X G c) (ordC X G c) (crM X G c) (rowF X G c) (allD X G c) F
end
end E

set_option maxRecDepth 100000
set_option maxHeartbeats 0
open PySem PySem.W PySem.Calls PyProof.Rows
theorem PySem.Challenge.cw_endrows_k15_whole_rows_of_machines_holds : PySem.Challenge.rw_endrows_k15_whole_rows_of_machines.Holds := by
  w_on; o_law
  refine HandSHeadRun.head_any (r := OpenLaw.row PySem.Challenge.rw_endrows_k15_whole_rows_of_machines) (q := view (OpenLaw.row PySem.Challenge.rw_endrows_k15_whole_rows_of_machines).prog [68]) (H := E.hookZ) (ob := E.ob) (M := 20000) (loose := E.loose0) (d := HandSHeadRun.topDef (OpenLaw.row PySem.Challenge.rw_endrows_k15_whole_rows_of_machines).prog 68) (kwd := []) E.ob_eq
    (by kernel_rfl) (fun s => by kernel_rfl) E.run (by kernel_rfl) (by kernel_rfl) (by kernel_rfl) (by rfl) (by first | assumption | decide +kernel) (by decide +kernel) ⟨rfl, rfl, rfl, rfl, rfl, by decide +kernel⟩ ?hw ?hc
  case hw => w_witness2
  case hc =>
    refine LamX.walk_ofTsE (l := PySem.Challenge.rw_endrows_k15_whole_rows_of_machines) (n := 63) (k := 7) (x := "_law_script") (CX := fun _ => L2.CX0) rfl (by decide) (by kernel_rfl) ⟨rfl, by decide, by decide⟩ ?F (fun _ _ _ _ _ z => z)
    intro w mg fa h Y G hmg0
    obtain ⟨K, KX, c⟩ := Y
    have hmg : mg ("law" : PySem.Str) = some (.ref fa) := by
      have e : (HandSHeadRun.topDef (OpenLaw.row PySem.Challenge.rw_endrows_k15_whole_rows_of_machines).prog 68).name = ("law" : PySem.Str) := by kernel_rfl
      rw [← e]
      exact hmg0
    exact ⟨K, KX, E.law_at KX G c hmg⟩
