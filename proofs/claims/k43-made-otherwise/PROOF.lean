import PyProof.Rows.All
import Wide.All
import OpenK.AllK
import Wide.FinOn
import KE.KStateDown
import HandS.Head0
import HandS.Head1
import HandS.Head2
import HandS.HeadEnd
import HandS.HeadHook1
import HandS.Words
import HandS.Exc
import HandS.ExcInit
import HandS.HeadHook4
import HandS.ForMost
import HandS.ForExc
import HandS.Walk
import HandS.Zip
import HandS.TupAny
import HandS.SortInts
import HandS.SortRule
import HandS.Strs
import HandS.Wide
import HandS.Flow
import HandS.Deep
import HandS.Lambda
import HandS.Nested
import HandS.ExcCtx
import HandS.Style
import KE.GoesEnum
import KE.GoesMore
import HandS.SetFor
import HandS.IsInst
import KE.KDictZip
import HandS.ListItems
import HandS.SortKw
import KE.KMinKey
import KE.KeyNested
import PyProof.DictRoadsH
import HandS.Conv
import KE.KDictSum
import PyProof.Rows.SortShellAny
import HandS.BoundDict
import PyProof.Rows.StrInSeq3
import HandS.StrMore
import HandS.Text
import HandS.ExcIs
import HandS.ExcOwn
import HandS.ExcValue
import KE.KExcIs
import HandS.ExcField
import HandS.IntHex
import HandS.RevRange
import HandS.WideBits
import PyProof.MeetsStr3
import HandS.TupMul
import HandS.More
import PyProof.ReprRoads
import KE.KMulAny
import HandS.ExcInitHot
import KE.KSortKeySt
import HandS.WordsExc
import HandS.EndTab
import HandS.NestedK
import KE.KIndexOf
import HandS.FStr
import PyProof.AutoSeq1
import PyProof.NeKinds
import HandS.ReplaceLit
import PyProof.SliceList
import PyProof.ListIndex
import PySem.Challenge.RW_gatewright_k43_made_otherwise
set_option Elab.async false
set_option autoImplicit false
set_option linter.all false
set_option maxRecDepth 100000
set_option maxHeartbeats 4000000
/-! Gw, part Ha: what the program's top leaves, told by one run -/
namespace Gw
open PySem PySem.Spec PyProof.Rows L2
/-- the module's names, and what was laid behind the boot -/
def laidA (n0 n : Nat) : List Addr := mainGlobals :: cStatics :: (List.range (n - n0)).map fun i => n0 + i
/-- what the facts read: functions, their code, classes, dicts -/
def readO : Obj → Bool
  | ⟨_, _, .func _, _⟩ => true
  | ⟨_, _, .cls _, _⟩ => true
  | ⟨_, _, .dict es _, _⟩ => !es.isEmpty
  | ⟨_, _, .fields vs, _⟩ => (match vs.toList with | _ :: .str _ _ :: _ => true | _ => false)
  | ⟨.type _, _, .seq vs _, _⟩ => (match vs.toList with | .str _ _ :: _ => true | _ => false)
  | _ => false
def frR (g : Addr → Option Obj) (as : List Addr) : PySem.W.Frag := (He.frG g as).filter fun z => z.1 == cStatics || readO z.2
theorem look_filter {p : Addr × Obj → Bool} {a : Addr} {o : Obj} : ∀ {l : List (Addr × Obj)}, (l.filter p).lookup a = some o → (a, o) ∈ l
  | [], h => nomatch h
  | (b, u) :: r, h => by
    by_cases c : p (b, u) = true
    · rw [List.filter_cons_of_pos c, List.lookup_cons] at h
      by_cases e : (a == b) = true
      · rw [e] at h
        have e2 : u = o := Option.some.inj h
        rw [e2, eq_of_beq e]
        exact List.mem_cons_self
      · rw [Bool.eq_false_iff.mpr e] at h
        exact List.mem_cons_of_mem _ (look_filter h)
    · rw [List.filter_cons_of_neg c] at h
      exact List.mem_cons_of_mem _ (look_filter h)
theorem frR_in {as : List Addr} {h : Heap} : (frR h.get? as).In h := fun a o e => by
  have m := look_filter e
  unfold He.frG at m
  obtain ⟨b, _, e2⟩ := List.mem_filterMap.mp m
  cases q : h.get? b with
  | none =>
    rw [q] at e2
    cases e2
  | some u =>
    rw [q] at e2
    cases e2
    exact q
abbrev ToldA : Type := Bool × He.Al
def toldG (fa : List He.Fa) (ex : PySem.W.Frag → Bool) (fn : List He.FnD) (K : PySem.W.Frag) : ToldA := (ex K, He.obsE fa fn K)
def dueG (fn : List He.FnD) : ToldA := (true, He.valE fn)
def hookG (n0 : Nat) (fa : List He.Fa) (ex : PySem.W.Frag → Bool) (fn : List He.FnD) : PySem.W.Hook where
  α := ToldA
  obs := fun s => toldG fa ex fn (frR s.heap.get? (laidA n0 s.heap.objs.size))
  val := fun _ => dueG fn
  says := fun _ h => ∃ K : PySem.W.Frag, K.In h ∧ ex K = true ∧ He.SaysE fa fn K
  of := fun _ _ e => ⟨_, frR_in, congrArg (fun z : ToldA => z.1) e, congrArg (fun z : ToldA => z.2) e⟩
  keeps := fun _ _ _ ⟨K, hK, c⟩ k => ⟨K, PySem.W.Frag.In.keeps hK k, c⟩
def seeG (n0 : Nat) (fa : List He.Fa) (ex : PySem.W.Frag → Bool) (fn : List He.FnD) (s : PySem.W.SharedT) : ToldA := toldG fa ex fn (frR (HandSHeadRun.getT s) (laidA n0 s.n))
/-! ### two runs of one top: the facts of both -/
theorem obs_two {fa fb : List He.Fa} {fn gn : List He.FnD} {ea eb : PySem.W.Frag → Bool} {K : PySem.W.Frag} (h1 : toldG fa ea fn K = dueG fn) (h2 : toldG fb eb gn K = dueG gn) : toldG (fa ++ fb) (fun K => ea K && eb K) (fn ++ gn) K = dueG (fn ++ gn) := by
  have a1 : ea K = true := congrArg (fun z : ToldA => z.1) h1
  have b1 : eb K = true := congrArg (fun z : ToldA => z.1) h2
  have a2 : He.obsE fa fn K = He.valE fn := congrArg (fun z : ToldA => z.2) h1
  have b2 : He.obsE fb gn K = He.valE gn := congrArg (fun z : ToldA => z.2) h2
  have a3 := congrArg (fun z : He.Al => z.1) a2
  have b3 := congrArg (fun z : He.Al => z.1) b2
  have a4 := congrArg (fun z : He.Al => z.2) a2
  have b4 := congrArg (fun z : He.Al => z.2) b2
  simp only [He.obsE, He.valE, Bool.and_eq_true] at a3 b3 a4 b4
  refine Prod.ext ?_ (Prod.ext ?_ ?_)
  · show (ea K && eb K) = true
    rw [a1, b1]
    rfl
  · show (_ && _) = true
    rw [List.all_append, List.all_append, a3.1, a3.2, b3.1, b3.2]
    rfl
  · show (fn ++ gn).map _ = (fn ++ gn).map _
    rw [List.map_append, List.map_append, a4, b4]
theorem obs_three {fa : List He.Fa} {fn : List He.FnD} {ex : PySem.W.Frag → Bool} {K : PySem.W.Frag} (h1 : toldG fa (fun _ => true) [] K = dueG []) (h2 : toldG [] (fun _ => true) fn K = dueG fn) (h3 : toldG [] ex [] K = dueG []) : toldG fa ex fn K = dueG fn := by
  have h := obs_two (obs_two h1 h2) h3
  simp only [List.append_nil, List.nil_append] at h
  exact h
/-! ### .. and the defs' tables of code objects: empty, not in K -/
def tabR (g : Addr → Option Obj) (tf : List He.Defn) (K : PySem.W.Frag) : Bool := tf.all (fun p => PySem.W.codeHdIn K (He.cT K p).1 (He.cT K p).2 && (decide ((He.cT K p).2 ≠ cStatics) && (match g (He.cT K p).2 with
  | some o => He.emptyTab o
  | none => false))) && decide ((tf.map fun p => (He.cT K p).2).Nodup)
structure TabsSay (tf : List He.Defn) (K : PySem.W.Frag) (h : Heap) : Prop where
  hd : ∀ p ∈ tf, PySem.W.codeHdIn K (He.cT K p).1 (He.cT K p).2 = true
  out : ∀ p ∈ tf, K.lookup (He.cT K p).2 = none
  empty : ∀ p ∈ tf, h.get? (He.cT K p).2 = some { cls := .none, data := .fields #[] }
  nd : (tf.map fun p => (He.cT K p).2).Nodup
theorem mem_filter_look {p : Addr × Obj → Bool} {a : Addr} {o : Obj} : ∀ {l : List (Addr × Obj)}, (l.filter p).lookup a = some o → p (a, o) = true
  | [], h => nomatch h
  | (b, u) :: r, h => by
    by_cases c : p (b, u) = true
    · rw [List.filter_cons_of_pos c, List.lookup_cons] at h
      by_cases e : (a == b) = true
      · rw [e] at h
        have e2 : u = o := Option.some.inj h
        rw [← e2, eq_of_beq e]
        exact c
      · rw [Bool.eq_false_iff.mpr e] at h
        exact mem_filter_look h
    · rw [List.filter_cons_of_neg c] at h
      exact mem_filter_look h
theorem emptyTab_unread {o : Obj} (h : He.emptyTab o = true) : readO o = false := by
  rw [He.emptyTab_eq h]
  rfl
theorem tabR_say {as : List Addr} {h : Heap} {tf : List He.Defn} (e : tabR h.get? tf (frR h.get? as) = true) : TabsSay tf (frR h.get? as) h := by
  obtain ⟨e1, e2⟩ := He.ba e
  have at_ : ∀ p ∈ tf, PySem.W.codeHdIn (frR h.get? as) (He.cT (frR h.get? as) p).1 (He.cT (frR h.get? as) p).2 = true ∧ (He.cT (frR h.get? as) p).2 ≠ cStatics ∧ ∃ o, h.get? (He.cT (frR h.get? as) p).2 = some o ∧ He.emptyTab o = true := fun p hp => by
    obtain ⟨a1, a2⟩ := He.ba (List.all_eq_true.mp e1 p hp)
    obtain ⟨a2, a3⟩ := He.ba a2
    refine ⟨a1, of_decide_eq_true a2, ?_⟩
    cases q : h.get? (He.cT (frR h.get? as) p).2 with
    | none =>
      rw [q] at a3
      cases a3
    | some o =>
      rw [q] at a3
      exact ⟨o, rfl, a3⟩
  refine ⟨fun p hp => (at_ p hp).1, fun p hp => ?_, fun p hp => ?_, of_decide_eq_true e2⟩
  · obtain ⟨_, a2, o, a3, a4⟩ := at_ p hp
    cases q : (frR h.get? as).lookup (He.cT (frR h.get? as) p).2 with
    | none => rfl
    | some u =>
      have m := frR_in _ _ q
      rw [a3] at m
      cases m
      have c := mem_filter_look q
      rcases Bool.or_eq_true _ _ |>.mp c with c | c
      · exact absurd (eq_of_beq c) a2
      · have c : readO o = true := c
        rw [emptyTab_unread a4] at c
        cases c
  · obtain ⟨_, _, o, a3, a4⟩ := at_ p hp
    rw [a3, He.emptyTab_eq a4]
def hookT (n0 : Nat) (fa : List He.Fa) (ex : PySem.W.Frag → Bool) (fn : List He.FnD) (tf : List He.Defn) : PySem.W.Hook where
  α := ToldA × Bool
  obs := fun s => (toldG fa ex fn (frR s.heap.get? (laidA n0 s.heap.objs.size)), tabR s.heap.get? tf (frR s.heap.get? (laidA n0 s.heap.objs.size)))
  val := fun _ => (dueG fn, true)
  says := fun _ h => ∃ K : PySem.W.Frag, K.In h ∧ (ex K = true ∧ He.SaysE fa fn K) ∧ TabsSay tf K h
  of := fun _ _ e => ⟨_, frR_in, ⟨congrArg (fun z : ToldA × Bool => z.1.1) e, congrArg (fun z : ToldA × Bool => z.1.2) e⟩, tabR_say (congrArg (fun z : ToldA × Bool => z.2) e)⟩
  keeps := fun _ _ _ ⟨K, hK, c, t⟩ k => ⟨K, PySem.W.Frag.In.keeps hK k, c, ⟨t.hd, t.out, fun p hp => k _ _ (t.empty p hp), t.nd⟩⟩
def seeT (n0 : Nat) (fa : List He.Fa) (ex : PySem.W.Frag → Bool) (fn : List He.FnD) (tf : List He.Defn) (s : PySem.W.SharedT) : ToldA × Bool := (seeG n0 fa ex fn s, tabR (HandSHeadRun.getT s) tf (frR (HandSHeadRun.getT s) (laidA n0 s.n)))
theorem seeT_eq {n0 : Nat} {fa : List He.Fa} {ex : PySem.W.Frag → Bool} {fn : List He.FnD} {tf : List He.Defn} (s : PySem.W.SharedT) : seeT n0 fa ex fn tf s = (hookT n0 fa ex fn tf).obs s.abs := by
  have e : HandSHeadRun.getT s = s.abs.heap.get? := funext (HandSHeadRun.getT_eq s)
  have n : s.n = s.abs.heap.objs.size := (PySem.W.absHeap_size s.tree s.n s.life).symm
  unfold seeT seeG
  rw [e, n]
  rfl
theorem run_threeT {r : PySem.W.OpenRow} {q : Program} {n M : Nat} {fa : List He.Fa} {fn : List He.FnD} {tf : List He.Defn} {ex : PySem.W.Frag → Bool} {loose : List Str} {w : World} (h1 : HandSHeadRun.RunEq r q (hookG n fa (fun _ => true) []) (seeG n fa (fun _ => true) []) M loose w)
    (h2 : HandSHeadRun.RunEq r q (hookG n [] (fun _ => true) fn) (seeG n [] (fun _ => true) fn) M loose w) (h3 : HandSHeadRun.RunEq r q (hookT n [] ex [] tf) (seeT n [] ex [] tf) M loose w) : HandSHeadRun.RunEq r q (hookT n fa ex fn tf) (seeT n fa ex fn tf) M loose w := fun os => by
  have e1 := h1 os
  have e2 := h2 os
  have e3 := h3 os
  obtain ⟨s, hs, v1⟩ := Option.map_eq_some_iff.mp e1
  rw [hs] at e2 e3 ⊢
  have v2 := Option.some.inj e2
  have v3 := Option.some.inj e3
  have p1 : seeG n fa (fun _ => true) [] s = dueG [] := congrArg (fun z => z.2.2) v1
  have p2 : seeG n [] (fun _ => true) fn s = dueG fn := congrArg (fun z => z.2.2) v2
  have p3 : seeT n [] ex [] tf s = (dueG [], true) := congrArg (fun z => z.2.2) v3
  have p4 : seeG n fa ex fn s = dueG fn := obs_three p1 p2 (congrArg (fun z : ToldA × Bool => z.1) p3)
  have p6 : tabR (HandSHeadRun.getT s) tf (frR (HandSHeadRun.getT s) (laidA n s.n)) = true := congrArg (fun z : ToldA × Bool => z.2) p3
  have p5 : seeT n fa ex fn tf s = (dueG fn, true) := Prod.ext p4 p6
  refine congrArg some ?_
  refine Prod.ext (congrArg (fun z => z.1) v1) (Prod.ext (congrArg (fun z => z.2.1) v1) p5)
/-! ### more facts -/
/-- a class over ValueError, with an __init__ of its own or without -/
def oexB (K : PySem.W.Frag) (C : Addr) : Bool := match K.lookup C with
  | some ⟨.type ty, _, .cls q, w⟩ => decide (ty = "type") && (q.hasDict && ((!q.hasDel) && ((match q.mro with | .ref D :: up => decide (D = C) && PySem.HandSPX.refsVE up | _ => false) && (match w.toList with | [_, _, _, _, some (.builtin nw), _] => decide (nw = "ValueError.__new__") | _ => false))))
  | _ => false
/-- these texts -/
def strsB : List Value → List Str → Bool
  | [], [] => true
  | .str y _ :: r, z :: t => decide (y = z) && strsB r t
  | _, _ => false
/-- a tuple of these texts under that name -/
def tupsB (K : PySem.W.Frag) (A : Addr) (ss : List Str) : Bool := match K.lookup A with
  | some ⟨.type ty, _, .seq its _, _⟩ => decide (ty = "tuple") && (decide (its.size ≤ 1000) && strsB its.toList ss)
  | _ => false
inductive Hx where
  | same (x m : Str) (p : Str × Option Str) | inst (x : Str) | isof (x y : Str) (b : Bool) | exq (x : Str) | exis (x y : Str) (b : Bool) | exty (x : Str) (n : String) (b : Bool) | exty2 | reg (x : Str) | oex (x : Str) | tyf (x m : Str) | gin (x : Str) | tups (x : Str) (ss : List Str)
def Hx.ok (K : PySem.W.Frag) : Hx → Bool
  | .oex x => oexB K (He.ga K x) && (He.eqO (PySem.W.findIn K (.ref (He.ga K x)) "__setattr__") (some (some (.builtin "object.__setattr__"))) && (decide (PySem.W.subIn K (.ref (He.ga K x)) (.type "BaseException") = some true) && (decide (PySem.W.typeIn K (.ref (He.ga K x)) = some (.type "type")) && PySem.W.keepIn K (.ref (He.ga K x)))))
  | .tyf x m => decide (PySem.W.typeIn K (.ref (He.ma K (He.ga K x) m)) = some (.type "function"))
  | .gin x => He.eqO (PySem.W.specialIn K (.ref (He.ga K x)) "__getattribute__") (some (some (.builtin "type.__getattribute__"))) && (PySem.W.readsIn K (He.ga K x) (.type "type") && (match PySem.W.findCls K (.ref (He.ga K x)) (.type "type") "__init__" with | some (.val (.builtin nw)) => decide (nw = "ValueError.__init__") | _ => false))
  | .same x m p => decide (He.ma K (He.ga K x) m = He.fAd K p)
  | .inst x => He.eqO (PySem.W.findIn K (.ref (He.ga K x)) "__class__") (some (some (.builtin "object.__class__"))) && decide (PySem.W.mroIn K (He.ga K x) (.type "object") = some true)
  | .isof x y b => decide (PySem.W.kitOne K (.ref (He.ga K x)) (.ref (He.ga K y)) = some b)
  | .exq x => He.eqO (PySem.W.findIn K (.ref (He.ga K x)) "__getattribute__") (some (some (.builtin "BaseException.__getattribute__"))) && (He.eqO (PySem.W.findIn K (.ref (He.ga K x)) "__getattr__") (some none) && (decide (PySem.W.subIn K (.ref (He.ga K x)) (.type "BaseException") = some true) && (PySem.W.hasDictIn K (He.ga K x) && (He.eqO (PySem.W.findIn K (.ref (He.ga K x)) "__class__") (some (some (.builtin "object.__class__"))) && decide (PySem.W.mroIn K (He.ga K x) (.type "object") = some true)))))
  | .exis x y b => decide (PySem.W.kitOne K (.ref (He.ga K x)) (.ref (He.ga K y)) = some b)
  | .exty x n b => decide (PySem.W.kitOne K (.ref (He.ga K x)) (.type n) = some b)
  | .exty2 => He.eqO (PySem.W.specialIn K (.builtin "object.__class__") "__get__") (some (some (.builtin "getset_descriptor.__get__"))) && decide (PySem.W.takesIn K (.builtin "object.__class__") = some true)
  | .reg x => He.eqO (PySem.W.nsIn K mainGlobals x) (some (some (.ref (He.ga K x))))
  | .tups x ss => He.eqO (PySem.W.nsIn K mainGlobals x) (some (some (.ref (He.ga K x)))) && tupsB K (He.ga K x) ss
/-- a def of the text -/
def defG (at_ : Str × Option Str) (name qual : Str) (st : Stmt) : He.FnD := ⟨at_, name, qual, defArgs st, defBody st, defScope st⟩
end Gw
namespace Gw
open PySem PySem.Spec PyProof.Rows L2
def topS (i : Nat) : Stmt := PySem.Challenge.pw_gatewright_k43_made_otherwise.main.body.getD i (.Pass ⟨0, 0, 0, 0⟩)
abbrev st_has : Stmt := topS 2
abbrev st_parts : Stmt := topS 3
abbrev st_Table_init : Stmt := inClass (topS 5) 0
abbrev st_Table_mosts : Stmt := inClass (topS 5) 1
abbrev st_Table_top : Stmt := inClass (topS 5) 2
abbrev st_Table_tests : Stmt := inClass (topS 5) 3
abbrev st_number_tests : Stmt := topS 6
abbrev st_goal_by : Stmt := topS 7
abbrev st_Grower_init : Stmt := inClass (topS 8) 0
abbrev st_Grower_goal_of : Stmt := inClass (topS 8) 1
abbrev st_Grower_table_behind : Stmt := inClass (topS 8) 2
abbrev st_Maker_init : Stmt := inClass (topS 9) 0
abbrev st_Maker_goal_for : Stmt := inClass (topS 9) 2
abbrev st_law_mixed : Stmt := topS 12
abbrev st_law_great : Stmt := topS 13
abbrev st_law_mosts : Stmt := topS 14
abbrev st_law_some_set : Stmt := topS 15
abbrev st_law_boxes : Stmt := topS 16
abbrev st_law_leaf : Stmt := topS 17
abbrev st_law_halves : Stmt := topS 18
abbrev st_law_same : Stmt := topS 19
abbrev st_wk0 : Stmt := (defBody (topS 20)).getD 2 (.Pass ⟨0, 0, 0, 0⟩)
abbrev st_wk1 : Stmt := (defBody (topS 20)).getD 3 (.Pass ⟨0, 0, 0, 0⟩)
abbrev st_Maker_goal_behind : Stmt := inClass (topS 9) 1
abbrev st_made : Stmt := topS 10
abbrev st_law_right : Stmt := topS 20
abbrev st_law : Stmt := topS 21
end Gw
namespace Gw
open PySem PySem.Spec PyProof.Rows L2 RZ
def hFa0 : List He.Fa := [.glo "Table", .glo "Grower", .glo "Maker", .cls "Table", .noat "Table" "first_goal", .noat "Table" "kept_tests", .noat "Table" "sides", .cls "Grower", .noat "Grower" "grown", .noat "Grower" "numbered", .cls "Maker", .noat "Maker" "sides", .noat "Maker" "goals_found", .noat "Maker" "grower", .noat "Maker" "rooms", .keep "has", .glo "has", .keep "parts", .glo "parts", .meth "Table" "__init__", .mkr "Table", .meth "Table" "mosts", .meth "Table" "top", .meth "Table" "tests", .keep "number_tests", .glo "number_tests", .keep "goal_by", .glo "goal_by", .meth "Grower" "__init__", .mkr "Grower"]
def hFa1 : List He.Fa := [.meth "Grower" "goal_of", .meth "Grower" "table_behind", .meth "Maker" "__init__", .mkr "Maker", .meth "Maker" "goal_for", .keep "_law_mixed", .glo "_law_mixed", .keep "_law_great", .glo "_law_great", .keep "_law_mosts", .glo "_law_mosts", .keep "_law_some_set", .glo "_law_some_set", .keep "_law_boxes", .glo "_law_boxes", .keep "_law_leaf", .glo "_law_leaf", .keep "_law_halves", .glo "_law_halves", .keep "_law_same", .glo "_law_same", .meth "Maker" "goal_behind", .keep "made", .glo "made", .keep "_law_right", .glo "_law_right", .keep "law", .glo "law", .free "any", .free "enumerate"]
def hFa2 : List He.Fa := [.free "len", .free "list", .free "max", .free "min", .free "range", .free "set", .free "sorted", .free "sum", .free "tuple", .free "zip"]
def hFa : List He.Fa := hFa0 ++ hFa1 ++ hFa2
def hGx0 : List Hx := []
def hGx : List Hx := hGx0
def hFn0 : List He.FnD := [defG ("has", none) "has" "has" st_has, defG ("parts", none) "parts" "parts" st_parts, defG ("Table", some "__init__") "__init__" "Table.__init__" st_Table_init, defG ("Table", some "mosts") "mosts" "Table.mosts" st_Table_mosts, defG ("Table", some "top") "top" "Table.top" st_Table_top, defG ("Table", some "tests") "tests" "Table.tests" st_Table_tests, defG ("number_tests", none) "number_tests" "number_tests" st_number_tests, defG ("goal_by", none) "goal_by" "goal_by" st_goal_by, defG ("Grower", some "__init__") "__init__" "Grower.__init__" st_Grower_init, defG ("Grower", some "goal_of") "goal_of" "Grower.goal_of" st_Grower_goal_of, defG ("Grower", some "table_behind") "table_behind" "Grower.table_behind" st_Grower_table_behind, defG ("Maker", some "__init__") "__init__" "Maker.__init__" st_Maker_init, defG ("Maker", some "goal_for") "goal_for" "Maker.goal_for" st_Maker_goal_for, defG ("_law_mixed", none) "_law_mixed" "_law_mixed" st_law_mixed, defG ("_law_great", none) "_law_great" "_law_great" st_law_great, defG ("_law_mosts", none) "_law_mosts" "_law_mosts" st_law_mosts, defG ("_law_some_set", none) "_law_some_set" "_law_some_set" st_law_some_set, defG ("_law_boxes", none) "_law_boxes" "_law_boxes" st_law_boxes, defG ("_law_leaf", none) "_law_leaf" "_law_leaf" st_law_leaf, defG ("_law_halves", none) "_law_halves" "_law_halves" st_law_halves, defG ("_law_same", none) "_law_same" "_law_same" st_law_same, defG ("Maker", some "goal_behind") "goal_behind" "Maker.goal_behind" st_Maker_goal_behind, defG ("made", none) "made" "made" st_made, defG ("_law_right", none) "_law_right" "_law_right" st_law_right, defG ("law", none) "law" "law" st_law]
def hFn : List He.FnD := hFn0
def hNm0 : List Str := ["_wall", "has", "parts", "Table", "number_tests", "goal_by", "Grower", "Maker", "made", "_law_mixed", "_law_great", "_law_mosts", "_law_some_set", "_law_boxes", "_law_leaf", "_law_halves", "_law_same", "_law_right"]
def hNm : List Str := hNm0
def hTf : List He.Defn := [("_law_right", none)]
def hEx (K : PySem.W.Frag) : Bool := hGx.all fun z => z.ok K
abbrev hRow : PySem.W.OpenRow := PySem.W.OpenLaw.row PySem.Challenge.rw_gatewright_k43_made_otherwise
theorem hRunA (w : World) : HandSHeadRun.RunEq hRow (PySem.W.view hRow.prog [21]) (hookG 11 hFa (fun _ => true) []) (seeG 11 hFa (fun _ => true) []) 40000 hNm w := by
  intro os
  kernel_rfl
theorem hRunB (w : World) : HandSHeadRun.RunEq hRow (PySem.W.view hRow.prog [21]) (hookG 11 [] (fun _ => true) hFn) (seeG 11 [] (fun _ => true) hFn) 40000 hNm w := by
  intro os
  kernel_rfl
theorem hRunC (w : World) : HandSHeadRun.RunEq hRow (PySem.W.view hRow.prog [21]) (hookT 11 [] hEx [] hTf) (seeT 11 [] hEx [] hTf) 40000 hNm w := by
  intro os
  kernel_rfl
theorem hRun (w : World) : HandSHeadRun.RunEq hRow (PySem.W.view hRow.prog [21]) (hookT 11 hFa hEx hFn hTf) (seeT 11 hFa hEx hFn hTf) 40000 hNm w := run_threeT (hRunA w) (hRunB w) (hRunC w)
end Gw
/-! Gw, part A: data as trees beside a store of objects that change; what they stand for in a heap; expressions over them. -/
namespace Gw
open PySem PySem.Spec PyProof.Rows L2
/-- a tree of data that never changes -/
inductive T where
  | non | bl (b : Bool) | int (i : Int) | str (s : Str) | tup (xs : List T) | lst (xs : List T) | ro (xs : List T) | emp | remp | pt (xs : List T)
/-- what a name holds: a tree, or an object of the store -/
inductive D where
  | t (x : T) | loc (n : Nat) | tp (ds : List D)
/-- an exception: its class, its fields -/
structure XD where
  c : Str
  fs : List (Str × T)
  hot : Bool
/-- one name at every place -/
instance coeNm : Coe Str (Nat → Nat → Str) := ⟨fun q _ _ => q⟩
/-- an object of the store -/
inductive MO where
  | exc (x : XD) | lst (ds : List D) | dic (kvs : List (Key × D)) | lck (z : Obj × List (Key × V)) (kvs : List (Key × D)) | ins (c : Str) (fs : List (Str × D)) | tab (d : He.Defn) (q : Nat → Nat → Str) | gen (ds : List D) (o : Addr → List V → HO) | fn (nf : NdefX.NF) (caps : Option (List D))
abbrev DEnv := List (Option D)
abbrev Store := List MO
section
variable (K : PySem.W.Frag) (G : Hp)
mutual
/-- what a tree stands for: own lists lie in F, lists of others in G -/
def Rp (F : Hp) : T → V → Prop
  | .emp, v => ∃ a, v = .ref a ∧ F a = some (.dK [])
  | .remp, v => ∃ a, v = .ref a ∧ G a = some (.dK [])
  | .non, v => v = .non
  | .bl b, v => v = .bl b
  | .int i, v => v = .int i
  | .str s, v => v = .str s
  | .tup xs, v => ∃ a vs, v = .ref a ∧ F a = some (.tup vs) ∧ Rps F xs vs
  | .lst xs, v => ∃ a vs, v = .ref a ∧ F a = some (.lst vs) ∧ Rps F xs vs
  | .ro xs, v => ∃ a vs, v = .ref a ∧ SqL K G a vs ∧ Rps F xs vs
  | .pt xs, v => ∃ a vs o, v = .ref a ∧ F a = some (.frz o (.tup vs)) ∧ o.dict = none ∧ Rps F xs vs
def Rps (F : Hp) : List T → List V → Prop
  | [], vs => vs = []
  | x :: xs, vs => ∃ v r, vs = v :: r ∧ Rp F x v ∧ Rps F xs r
end
end
theorem same_new {H : Hp} {p : Addr} {o : HO} (h : H p = none) : Same H (upd H p o) := fun b x e => by
  rw [upd_ne (ne_of_none e h)]
  exact e
/-- a tuple whose object is known -/
theorem sqT_pt {K : PySem.W.Frag} {F : Hp} {a : Addr} {o : Obj} {xs : List V} (h : F a = some (.frz o (.tup xs))) : SqT K F a xs := .inl (.inr ⟨o, h⟩)
section
variable {K : PySem.W.Frag} {G G' F F' : Hp}
mutual
theorem Rp.mono2 (g : Same G G') (e : Same F F') : ∀ (x : T) (v : V), Rp K G F x v → Rp K G' F' x v
  | .emp, v, ⟨a, hv, h⟩ => ⟨a, hv, e _ _ h⟩
  | .remp, v, ⟨a, hv, h⟩ => ⟨a, hv, g _ _ h⟩
  | .non, v, h => h
  | .bl _, v, h => h
  | .int _, v, h => h
  | .str _, v, h => h
  | .tup xs, v, ⟨a, vs, hv, h, r⟩ => ⟨a, vs, hv, e _ _ h, Rps.mono2 g e xs vs r⟩
  | .lst xs, v, ⟨a, vs, hv, h, r⟩ => ⟨a, vs, hv, e _ _ h, Rps.mono2 g e xs vs r⟩
  | .ro xs, v, ⟨a, vs, hv, h, r⟩ => ⟨a, vs, hv, g.seq h, Rps.mono2 g e xs vs r⟩
  | .pt xs, v, ⟨a, vs, o, hv, h, hd, r⟩ => ⟨a, vs, o, hv, e _ _ h, hd, Rps.mono2 g e xs vs r⟩
theorem Rps.mono2 (g : Same G G') (e : Same F F') : ∀ (xs : List T) (vs : List V), Rps K G F xs vs → Rps K G' F' xs vs
  | [], vs, h => h
  | x :: xs, vs, ⟨v, r, hv, h1, h2⟩ => ⟨v, r, hv, Rp.mono2 g e x v h1, Rps.mono2 g e xs r h2⟩
end
theorem Rp.mono (e : Same F F') {x : T} {v : V} (h : Rp K G F x v) : Rp K G F' x v := h.mono2 (Same.refl G) e
theorem Rps.mono (e : Same F F') {x : List T} {v : List V} (h : Rps K G F x v) : Rps K G F' x v := h.mono2 (Same.refl G) e
theorem Rps.length : ∀ {xs : List T} {vs : List V}, Rps K G F xs vs → xs.length = vs.length
  | [], vs, h => by
    have e : vs = [] := h
    rw [e]
    rfl
  | x :: xs, vs, ⟨v, r, hv, h1, h2⟩ => by
    rw [hv, List.length_cons, List.length_cons, Rps.length h2]
theorem Rps.get : ∀ {xs : List T} {vs : List V} {i : Nat} {x : T}, Rps K G F xs vs → xs[i]? = some x → ∃ v, vs[i]? = some v ∧ Rp K G F x v
  | [], vs, i, x, h, e => by simp at e
  | y :: xs, vs, 0, x, ⟨v, r, hv, h1, h2⟩, e => by
    have e' : y = x := by simpa using e
    subst e'
    exact ⟨v, by rw [hv]; rfl, h1⟩
  | y :: xs, vs, i + 1, x, ⟨v, r, hv, h1, h2⟩, e => by
    obtain ⟨w, h3, h4⟩ := Rps.get (i := i) (x := x) h2 (by simpa using e)
    exact ⟨w, by rw [hv]; simpa using h3, h4⟩
theorem Rps.append : ∀ {xs ys : List T} {vs ws : List V}, Rps K G F xs vs → Rps K G F ys ws → Rps K G F (xs ++ ys) (vs ++ ws)
  | [], ys, vs, ws, h, h' => by
    have e : vs = [] := h
    rw [e]
    exact h'
  | x :: xs, ys, vs, ws, ⟨v, r, hv, h1, h2⟩, h' => ⟨v, r ++ ws, by rw [hv]; rfl, h1, Rps.append h2 h'⟩
theorem Rps.of_at : ∀ {xs : List T} {vs : List V}, xs.length = vs.length → (∀ (i : Nat) (x : T) (v : V), xs[i]? = some x → vs[i]? = some v → Rp K G F x v) → Rps K G F xs vs
  | [], [], _, _ => rfl
  | [], _ :: _, h, _ => by simp at h
  | _ :: _, [], h, _ => by simp at h
  | x :: xs, v :: vs, h, k => ⟨v, vs, rfl, k 0 x v rfl rfl, Rps.of_at (by simpa using h) fun i y w h1 h2 => k (i + 1) y w (by simpa using h1) (by simpa using h2)⟩
/-- the same places taken of both -/
theorem Rps.pick {xs xs' : List T} {vs vs' : List V} (h : Rps K G F xs vs) (f : Nat → Nat) (hl : xs'.length = vs'.length) (h1 : ∀ i, i < xs'.length → xs'[i]? = xs[f i]?) (h2 : ∀ i, i < vs'.length → vs'[i]? = vs[f i]?) : Rps K G F xs' vs' := by
  refine Rps.of_at hl fun i x v e1 e2 => ?_
  have l1 := (List.getElem?_eq_some_iff.mp e1).1
  have l2 := (List.getElem?_eq_some_iff.mp e2).1
  rw [h1 i l1] at e1
  rw [h2 i l2] at e2
  obtain ⟨w, h3, h4⟩ := h.get e1
  rw [e2] at h3
  cases h3
  exact h4
theorem Rps.take {xs : List T} {vs : List V} (n : Nat) (h : Rps K G F xs vs) : Rps K G F (xs.take n) (vs.take n) :=
  h.pick id (by rw [List.length_take, List.length_take, h.length]) (fun i hi => by rw [List.getElem?_take, if_pos (by rw [List.length_take] at hi; omega)]; rfl) (fun i hi => by rw [List.getElem?_take, if_pos (by rw [List.length_take] at hi; omega)]; rfl)
theorem Rps.drop {xs : List T} {vs : List V} (n : Nat) (h : Rps K G F xs vs) : Rps K G F (xs.drop n) (vs.drop n) :=
  h.pick (fun i => n + i) (by rw [List.length_drop, List.length_drop, h.length]) (fun i hi => by rw [List.getElem?_drop]) (fun i hi => by rw [List.getElem?_drop])
theorem Rps.ints : ∀ {ns : List Int} {vs : List V}, Rps K G F (ns.map T.int) vs → vs = ns.map V.int
  | [], vs, h => h
  | n :: ns, vs, ⟨v, r, hv, h1, h2⟩ => by
    have e : v = .int n := h1
    rw [hv, e, Rps.ints h2]
    rfl
theorem Rps.of_ints : ∀ (ns : List Int), Rps K G F (ns.map T.int) (ns.map V.int)
  | [] => rfl
  | n :: ns => ⟨.int n, ns.map V.int, rfl, rfl, Rps.of_ints ns⟩
theorem Rps.bls : ∀ {ns : List Bool} {vs : List V}, Rps K G F (ns.map T.bl) vs → vs = ns.map V.bl
  | [], vs, h => h
  | n :: ns, vs, ⟨v, r, hv, h1, h2⟩ => by
    have e : v = .bl n := h1
    rw [hv, e, Rps.bls h2]
    rfl
theorem Rps.strs : ∀ {ns : List Str} {vs : List V}, Rps K G F (ns.map T.str) vs → vs = ns.map V.str
  | [], vs, h => h
  | n :: ns, vs, ⟨v, r, hv, h1, h2⟩ => by
    have e : v = .str n := h1
    rw [hv, e, Rps.strs h2]
    rfl
end
/-! ### the part of the heap that stays: no object of the store, no list of others -/
def isT : Option HO → Bool
  | some (.tup _) => true
  | some (.frz _ (.tup _)) => true
  | _ => false
def frz (B H : Hp) (ρ : List Addr) : Hp := fun a => if a ∈ ρ then none else if (B a).isSome && !isT (B a) then none else H a
theorem frz_le (B H : Hp) (ρ : List Addr) : Same (frz B H ρ) H := fun b o e => by
  unfold frz at e
  split at e
  · cases e
  · split at e
    · cases e
    · exact e
theorem frz_mono {B H H' : Hp} {ρ : List Addr} (e : Same H H') : Same (frz B H ρ) (frz B H' ρ) := fun b o h => by
  unfold frz at h ⊢
  split at h
  · cases h
  · rename_i hb
    rw [if_neg hb]
    split at h
    · cases h
    · rename_i hc
      rw [if_neg hc]
      exact e _ _ h
theorem frz_of {B H : Hp} {ρ : List Addr} {a : Addr} {o : HO} (h : H a = some o) (n : a ∉ ρ) (b : B a = none) : frz B H ρ a = some o := by
  unfold frz
  rw [if_neg n, b]
  exact h
/-! what a name's datum stands for -/
mutual
def Rl (K : PySem.W.Frag) (G F : Hp) (ρ : List Addr) : D → V → Prop
  | .t x, v => Rp K G F x v
  | .loc n, v => ∃ a, v = .ref a ∧ ρ[n]? = some a
  | .tp ds, v => ∃ a vs, v = .ref a ∧ F a = some (.tup vs) ∧ RlA K G F ρ ds vs
def RlA (K : PySem.W.Frag) (G F : Hp) (ρ : List Addr) : List D → List V → Prop
  | [], vs => vs = []
  | d :: ds, vs => ∃ v r, vs = v :: r ∧ Rl K G F ρ d v ∧ RlA K G F ρ ds r
end
mutual
theorem Rl.mono {K : PySem.W.Frag} {G F F' : Hp} {ρ ρ' : List Addr} (e : Same F F') (p : ρ <+: ρ') : ∀ {d : D} {v : V}, Rl K G F ρ d v → Rl K G F' ρ' d v
  | .t x, v, h => Rp.mono e h
  | .loc n, v, ⟨a, hv, h⟩ => ⟨a, hv, by
      obtain ⟨m, rfl⟩ := p
      rw [List.getElem?_append_left (List.getElem?_eq_some_iff.mp h).1]
      exact h⟩
  | .tp ds, v, ⟨a, vs, hv, h, r⟩ => ⟨a, vs, hv, e _ _ h, RlA.mono e p r⟩
theorem RlA.mono {K : PySem.W.Frag} {G F F' : Hp} {ρ ρ' : List Addr} (e : Same F F') (p : ρ <+: ρ') : ∀ {d : List D} {v : List V}, RlA K G F ρ d v → RlA K G F' ρ' d v
  | [], _, h => h
  | d :: ds, _, ⟨v, r, hv, h1, h2⟩ => ⟨v, r, hv, Rl.mono e p h1, RlA.mono e p h2⟩
end
abbrev Rls (K : PySem.W.Frag) (G F : Hp) (ρ : List Addr) : List D → List V → Prop := Paired (Rl K G F ρ)
theorem rlA_p {K : PySem.W.Frag} {G F : Hp} {ρ : List Addr} : ∀ {ds : List D} {vs : List V}, RlA K G F ρ ds vs → Rls K G F ρ ds vs
  | [], vs, h => by
    have e : vs = [] := h
    rw [e]
    exact .nil
  | d :: ds, vs, ⟨v, r, hv, h1, h2⟩ => by
    rw [hv]
    exact .cons h1 (rlA_p h2)
theorem p_rlA {K : PySem.W.Frag} {G F : Hp} {ρ : List Addr} : ∀ {ds : List D} {vs : List V}, Rls K G F ρ ds vs → RlA K G F ρ ds vs
  | [], _, .nil => rfl
  | d :: ds, _, .cons r t => ⟨_, _, rfl, r, p_rlA t⟩
theorem Paired.imp {α β : Type} {P Q : α → β → Prop} (h : ∀ a b, P a b → Q a b) : ∀ {l : List α} {m : List β}, Paired P l m → Paired Q l m
  | _, _, .nil => .nil
  | _, _, .cons r t => .cons (h _ _ r) (Paired.imp h t)
theorem Paired.at {α β : Type} {P : α → β → Prop} : ∀ {l : List α} {m : List β} {i : Nat} {a : α}, Paired P l m → l[i]? = some a → ∃ b, m[i]? = some b ∧ P a b
  | _, _, _, _, .nil, e => by simp at e
  | _, _, 0, _, .cons r _, e => by
    simp at e
    subst e
    exact ⟨_, rfl, r⟩
  | _, _, i + 1, x, .cons _ t, e => by
    obtain ⟨u, h1, h2⟩ := Paired.at (i := i) (a := x) t (by simpa using e)
    exact ⟨u, by simpa using h1, h2⟩
theorem Paired.app {α β : Type} {P : α → β → Prop} : ∀ {l l' : List α} {m m' : List β}, Paired P l m → Paired P l' m' → Paired P (l ++ l') (m ++ m')
  | _, _, _, _, .nil, s => s
  | _, _, _, _, .cons r t, s => .cons r (Paired.app t s)
theorem Paired.set' {α β : Type} {P : α → β → Prop} {a : α} {b : β} (r : P a b) : ∀ {l : List α} {m : List β} (i : Nat), Paired P l m → Paired P (l.set i a) (m.set i b)
  | _, _, _, .nil => .nil
  | _, _, 0, .cons _ t => .cons r t
  | _, _, i + 1, .cons q t => .cons q (Paired.set' r i t)
theorem Paired.len {α β : Type} {P : α → β → Prop} : ∀ {l : List α} {m : List β}, Paired P l m → l.length = m.length
  | _, _, .nil => rfl
  | _, _, .cons _ t => by rw [List.length_cons, List.length_cons, Paired.len t]
theorem rls_t {K : PySem.W.Frag} {G F : Hp} {ρ : List Addr} : ∀ {xs : List T} {vs : List V}, Rls K G F ρ (xs.map D.t) vs → Rps K G F xs vs
  | [], _, .nil => rfl
  | x :: xs, _, .cons r t => ⟨_, _, rfl, r, rls_t t⟩
theorem t_rls {K : PySem.W.Frag} {G F : Hp} {ρ : List Addr} : ∀ {xs : List T} {vs : List V}, Rps K G F xs vs → Rls K G F ρ (xs.map D.t) vs
  | [], vs, h => by
    have e : vs = [] := h
    rw [e]
    exact .nil
  | x :: xs, vs, ⟨v, r, hv, h1, h2⟩ => by
    rw [hv]
    exact .cons h1 (t_rls h2)
/-- an exception object that was caught -/
def ExH (cls : Value) (d : Option Addr) (a : Addr) : HO := .ext fun h => ∃ (oe : Obj) (vs : Array Value), h.get? a = some oe ∧ Zc cls d oe ∧ oe.data = .fields vs
/-- an exception's fields -/
def RXf (K : PySem.W.Frag) (G F : Hp) (fs : List (Str × T)) (d : Option Addr) : Prop :=
  (fs = [] ∧ d = none) ∨ ∃ dd ws, fs ≠ [] ∧ d = some dd ∧ F dd = some (.xd ws) ∧ Paired (fun (p : Str × T) (q : Str × V) => p.1 = q.1 ∧ Rp K G F p.2 q.2) fs ws
theorem RXf.mono {K : PySem.W.Frag} {G F F' : Hp} {fs : List (Str × T)} {d : Option Addr} (e : Same F F') : RXf K G F fs d → RXf K G F' fs d
  | .inl h => .inl h
  | .inr ⟨dd, ws, h0, h1, h2, h3⟩ => .inr ⟨dd, ws, h0, h1, e _ _ h2, Paired.imp (fun _ _ r => ⟨r.1, r.2.mono e⟩) h3⟩
/-- an exception's class and dict -/
def RX (K : PySem.W.Frag) (G F : Hp) (x : XD) (cls : Value) (d : Option Addr) : Prop := ∃ C, PySem.W.nsIn K mainGlobals x.c = some (some (.ref C)) ∧ cls = .ref C ∧ RXf K G F x.fs d
theorem RX.mono {K : PySem.W.Frag} {G F F' : Hp} {x : XD} {cls : Value} {d : Option Addr} (e : Same F F') : RX K G F x cls d → RX K G F' x cls d
  | ⟨C, h1, h2, h3⟩ => ⟨C, h1, h2, h3.mono e⟩
/-- a def's table: each code object in it bears the name that its place has -/
def CodesOk (F : Hp) (q : Nat → Nat → Str) (ps : Array Value) : Prop := TriplesOk ps.toList ∧ ∀ (pos : Pos) (cv : Value), codeAmong pos ps.toList = some cv → ∃ c, cv = .ref c ∧ F c = some (LamX.CodeO c (q pos.line pos.col))
theorem CodesOk.mono {F F' : Hp} {q : Nat → Nat → Str} {ps : Array Value} (e : Same F F') (h : CodesOk F q ps) : CodesOk F' q ps := ⟨h.1, fun pos cv k => let ⟨c, h1, h2⟩ := h.2 pos cv k; ⟨c, h1, e _ _ h2⟩⟩
/-- a cell that another frame owns: it stays as it is -/
def CelO (o : Obj) (v : V) : HO := .frz o (.ext fun _ => ∃ u, L2.RelV v u ∧ o.data = .cell (some u))
/-- an object of the store, at its address -/
def MOk (K : PySem.W.Frag) (G F : Hp) (ρ : List Addr) (H : Hp) (a : Addr) : MO → Prop
  | .exc x => ∃ cls d, RX K G F x cls d ∧ H a = some (ExH cls d a)
  | .lst ds => ∃ vs, H a = some (.lst vs) ∧ Rls K G F ρ ds vs
  | .dic kvs => ∃ ws, H a = some (.dK ws) ∧ Paired (fun (p : Key × D) (q : Key × V) => p.1 = q.1 ∧ Rl K G F ρ p.2 q.2) kvs ws
  | .lck z kvs => H a = some (.frz z.1 (.dK z.2)) ∧ Paired (fun (p : Key × D) (q : Key × V) => p.1 = q.1 ∧ Rl K G F ρ p.2 q.2) kvs z.2
  | .ins c fs => ∃ C dx ws, PySem.W.nsIn K mainGlobals c = some (some (.ref C)) ∧ H a = some (.ins C dx ws) ∧ Paired (fun (p : Str × D) (q : Str × V) => p.1 = q.1 ∧ Rl K G F ρ p.2 q.2) fs ws
  | .tab d q => a = (He.cT K d).2 ∧ ∃ ps, H a = some (.tbl ps) ∧ CodesOk F q ps
  | .gen ds o => ∃ vs, H a = some (o a vs) ∧ isT (some (o a vs)) = false ∧ Rls K G F ρ ds vs
  | .fn nf caps => H a = some (NdefX.FnO a nf) ∧ F nf.c = some (LamX.CodeO nf.c nf.qual) ∧ ((nf.cl.map (·.1)).Nodup ∧ (nf.cl.map (·.2)).Nodup) ∧ ∀ ds, caps = some ds → ∃ vs, Rls K G F ρ ds vs ∧ Paired (fun (p : Str × Addr) (v : V) => ∃ o, F p.2 = some (CelO o v)) nf.cl vs
theorem MOk.mono {K : PySem.W.Frag} {G F F' : Hp} {ρ ρ' : List Addr} {H H' : Hp} {a : Addr} {o : MO} (e : Same F F') (p : ρ <+: ρ') (h : H' a = H a) (m : MOk K G F ρ H a o) : MOk K G F' ρ' H' a o := by
  cases o with
  | exc x =>
    obtain ⟨cls, d, h1, h2⟩ := m
    exact ⟨cls, d, h1.mono e, h.trans h2⟩
  | lst ds =>
    obtain ⟨vs, h1, h2⟩ := m
    exact ⟨vs, h.trans h1, Paired.imp (fun _ _ r => r.mono e p) h2⟩
  | dic kvs =>
    obtain ⟨vs, h1, h2⟩ := m
    exact ⟨vs, h.trans h1, Paired.imp (fun _ _ r => ⟨r.1, r.2.mono e p⟩) h2⟩
  | lck z kvs => exact ⟨h.trans m.1, Paired.imp (fun _ _ r => ⟨r.1, r.2.mono e p⟩) m.2⟩
  | ins c fs =>
    obtain ⟨C, dx, ws, h0, h1, h2⟩ := m
    exact ⟨C, dx, ws, h0, h.trans h1, Paired.imp (fun _ _ r => ⟨r.1, r.2.mono e p⟩) h2⟩
  | tab d q =>
    obtain ⟨h0, ps, h1, h2⟩ := m
    exact ⟨h0, ps, h.trans h1, h2.mono e⟩
  | gen ds o =>
    obtain ⟨vs, h1, h0, h2⟩ := m
    exact ⟨vs, h.trans h1, h0, Paired.imp (fun _ _ r => r.mono e p) h2⟩
  | fn nf caps =>
    obtain ⟨h1, h2, h0, h3⟩ := m
    exact ⟨h.trans h1, e _ _ h2, h0, fun ds hd => let ⟨vs, r, q⟩ := h3 ds hd; ⟨vs, Paired.imp (fun _ _ r => r.mono e p) r, Paired.imp (fun _ _ ⟨o, z⟩ => ⟨o, e _ _ z⟩) q⟩⟩
theorem MOk.there {K : PySem.W.Frag} {G F : Hp} {ρ : List Addr} {H : Hp} {a : Addr} {o : MO} (m : MOk K G F ρ H a o) : ∃ u, H a = some u ∧ isT (some u) = false := by
  cases o with
  | exc x =>
    obtain ⟨cls, d, h1, h2⟩ := m
    exact ⟨_, h2, rfl⟩
  | lst ds =>
    obtain ⟨vs, h1, h2⟩ := m
    exact ⟨_, h1, rfl⟩
  | dic kvs =>
    obtain ⟨vs, h1, h2⟩ := m
    exact ⟨_, h1, rfl⟩
  | lck z kvs => exact ⟨_, m.1, rfl⟩
  | ins c fs =>
    obtain ⟨C, dx, ws, h0, h1, h2⟩ := m
    exact ⟨_, h1, rfl⟩
  | tab d q =>
    obtain ⟨h0, ps, h1, h2⟩ := m
    exact ⟨_, h1, rfl⟩
  | gen ds o =>
    obtain ⟨vs, h1, h0, h2⟩ := m
    exact ⟨_, h1, h0⟩
  | fn nf caps =>
    obtain ⟨h1, h2, h0, h3⟩ := m
    exact ⟨_, h1, rfl⟩
/-- the store lies in the heap at ρ: B is what must stay, ρ0 what was handed in -/
structure SH (K : PySem.W.Frag) (G B : Hp) (ρ0 : List Addr) (μ : Store) (ρ : List Addr) (H : Hp) : Prop where
  same : Same B H
  sameG : Same G H
  out : ∀ a ∈ ρ, B a = none
  outG : ∀ a ∈ ρ, G a = none
  nd : ρ.Nodup
  pre : ρ0 <+: ρ
  len : μ.length = ρ.length
  sto : ∀ (n : Nat) (o : MO) (a : Addr), μ[n]? = some o → ρ[n]? = some a → MOk K G (frz B H ρ) ρ H a o
structure SR (K : PySem.W.Frag) (G B : Hp) (ρ0 : List Addr) (env : DEnv) (μ : Store) (ρ : List Addr) (σ : L2.St) (H : Hp) : Prop where
  sh : SH K G B ρ0 μ ρ H
  slen : σ.length = env.length
  slot : ∀ (i : Nat) (d : D), env[i]? = some (some d) → ∃ v, σ[i]? = some (some v) ∧ Rl K G (frz B H ρ) ρ d v
section
variable {K : PySem.W.Frag} {G B H H' : Hp} {ρ0 ρ : List Addr} {env : DEnv} {μ : Store} {σ : L2.St}
theorem SH.there (s : SH K G B ρ0 μ ρ H) {a : Addr} (h : a ∈ ρ) : ∃ o, H a = some o ∧ isT (some o) = false := by
  obtain ⟨n, hn⟩ := List.getElem?_of_mem h
  have hl : n < μ.length := by
    rw [s.len]
    exact (List.getElem?_eq_some_iff.mp hn).1
  exact (s.sto n μ[n] a (List.getElem?_eq_getElem hl) hn).there
theorem SH.fresh (s : SH K G B ρ0 μ ρ H) {a : Addr} (h : H a = none) : a ∉ ρ := fun z => by
  obtain ⟨o, e, _⟩ := s.there z
  rw [h] at e
  cases e
theorem SH.freshB (s : SH K G B ρ0 μ ρ H) {a : Addr} (h : H a = none) : B a = none := s.same.free h
theorem SH.keep (s : SH K G B ρ0 μ ρ H) (e : Same H H') {a : Addr} (h : a ∈ ρ) : H' a = H a := by
  obtain ⟨o, q, _⟩ := s.there h
  rw [q, e _ _ q]
theorem SH.mono (s : SH K G B ρ0 μ ρ H) (e : Same H H') : SH K G B ρ0 μ ρ H' :=
  ⟨s.same.trans e, s.sameG.trans e, s.out, s.outG, s.nd, s.pre, s.len, fun n o a h1 h2 => (s.sto n o a h1 h2).mono (frz_mono e) (List.prefix_refl _) (s.keep e (List.mem_of_getElem? h2))⟩
theorem SR.mono (s : SR K G B ρ0 env μ ρ σ H) (e : Same H H') : SR K G B ρ0 env μ ρ σ H' :=
  ⟨s.sh.mono e, s.slen, fun i d h => let ⟨v, h1, h2⟩ := s.slot i d h; ⟨v, h1, h2.mono (frz_mono e) (List.prefix_refl _)⟩⟩
/-- a new tree's object -/
theorem SH.new (s : SH K G B ρ0 μ ρ H) {p : Addr} {o : HO} (h : H p = none) : Same H (upd H p o) ∧ frz B (upd H p o) ρ p = some o :=
  ⟨same_new h, frz_of upd_same (s.fresh h) (s.freshB h)⟩
end
/-! ### expressions -/
abbrev DP := DEnv → Store → (D → Prop) → Prop
def tOf (K : PySem.W.Frag) (p : DP) : TE := fun σ H R => ∃ G B ρ0 env μ ρ Q, SR K G B ρ0 env μ ρ σ H ∧ p env μ Q ∧ ∀ d v H', Q d → Same H H' → Rl K G (frz B H' ρ) ρ d v → R v H'
def EX (X : Cx) (e : Expr) (p : DP) : Prop := PE X e (tOf X.K p)
theorem PE.imp {X : Cx} {e : Expr} {t t' : TE} (h : PE X e t) (k : ∀ σ H Q, t' σ H Q → t σ H Q) : PE X e t' := ⟨fun pins s σ H Q I q => h.run pins s σ H Q I (k σ H Q q)⟩
theorem PT.imp {X : Cx} {e : Expr} {t t' : TT} (h : PT X e t) (k : ∀ σ H Q, t' σ H Q → t σ H Q) : PT X e t' := ⟨fun pins s σ H Q I q => h.run pins s σ H Q I (k σ H Q q)⟩
/-- tests -/
abbrev DT := DEnv → Store → (Bool → Prop) → Prop
def ttOf (K : PySem.W.Frag) (p : DT) : TT := fun σ H R => ∃ G B ρ0 env μ ρ Q, SR K G B ρ0 env μ ρ σ H ∧ p env μ Q ∧ ∀ b H', Q b → Same H H' → R b H'
def TX (X : Cx) (e : Expr) (p : DT) : Prop := PT X e (ttOf X.K p)
/-- argument lists -/
abbrev DA := DEnv → Store → (List D → Prop) → Prop
def taOf (K : PySem.W.Frag) (p : DA) : TA := fun σ H R => ∃ G B ρ0 env μ ρ Q, SR K G B ρ0 env μ ρ σ H ∧ p env μ Q ∧ ∀ ds vs H', Q ds → Same H H' → Rls K G (frz B H' ρ) ρ ds vs → R vs H'
def AX (X : Cx) (es : List Expr) (p : DA) : Prop := PA X es (taOf X.K p)
theorem PA.imp {X : Cx} {es : List Expr} {t t' : TA} (h : PA X es t) (k : ∀ σ H Q, t' σ H Q → t σ H Q) : PA X es t' := ⟨fun pos pins s σ H Q I q => h.run pos pins s σ H Q I (k σ H Q q)⟩
/-- a list of the store seen as a tree -/
def vw (μ : Store) (d : D) (Q : T → Prop) : Prop := match d with
  | .t x => Q x
  | .loc n => ∃ xs, μ[n]? = some (.lst (xs.map D.t)) ∧ Q (.lst xs)
  | .tp _ => False
section
variable {K : PySem.W.Frag} {G B H H' : Hp} {ρ0 ρ : List Addr} {env : DEnv} {μ : Store} {σ : L2.St}
theorem peek (s : SH K G B ρ0 μ ρ H) {d : D} {v : V} {Q : T → Prop} (r : Rl K G (frz B H ρ) ρ d v) (h : vw μ d Q) : ∃ x, Q x ∧ Rp K G H x v := by
  cases d with
  | t x => exact ⟨x, h, Rp.mono (frz_le _ _ _) r⟩
  | loc n =>
    obtain ⟨xs, h1, h2⟩ := h
    obtain ⟨a, rfl, ha⟩ := r
    obtain ⟨vs, h3, h4⟩ := s.sto n _ a h1 ha
    exact ⟨_, h2, a, vs, rfl, h3, Rps.mono (frz_le _ _ _) (rls_t h4)⟩
  | tp ds => exact h.elim
end
/-! names, constants -/
def dVar (i : Nat) : DP := fun env _ Q => ∃ d, env[i]? = some (some d) ∧ Q d
def dC (x : T) : DP := fun _ _ Q => Q (.t x)
section
variable {X : Cx} {pos : Pos}
theorem ex_var (i : Nat) {x : Str} (hN : X.N[i]? = some x := by rfl) (hv : Vis X.env.scope x := by first | exact Or.inl rfl | exact Or.inr (Or.inl rfl) | exact Or.inr (Or.inr rfl)) (hd : (x == ("__debug__" : Str)) = false := by decide)
    (hcd : (x == ("__classdict__" : Str)) = false := by decide) : EX X (.Name x pos) (dVar i) :=
  PE.imp (pe_var hN hv hd hcd) fun σ H R ⟨G, B, ρ0, env, μ, ρ, Q, s, ⟨d, hd, q⟩, k⟩ => by
    obtain ⟨v, h1, h2⟩ := s.slot i d hd
    exact ⟨v, h1, k d v H q (Same.refl H) h2⟩
theorem ex_c {e : Expr} {v : V} {x : T} (h : PE X e (tC v)) (hr : ∀ G F, Rp X.K G F x v) : EX X e (dC x) :=
  PE.imp h fun σ H R ⟨G, B, ρ0, env, μ, ρ, Q, s, q, k⟩ => k (.t x) v H q (Same.refl H) (hr _ _)
theorem ex_int {i : Int} {j : Nat} : EX X (.Constant (.int i) j pos) (dC (.int i)) := ex_c pe_int fun _ _ => rfl
theorem ex_bl {b : Bool} {j : Nat} : EX X (.Constant (.bool b) j pos) (dC (.bl b)) := ex_c pe_bl fun _ _ => rfl
theorem ex_non {j : Nat} : EX X (.Constant .none j pos) (dC .non) := ex_c pe_non fun _ _ => rfl
theorem ex_str {x : Str} {j : Nat} : EX X (.Constant (.str x) j pos) (dC (.str x)) := ex_c pe_str fun _ _ => rfl
end
/-! two expressions in a row -/
def d2 (p q : DP) (W : Store → D → D → (D → Prop) → Prop) : DP := fun env μ Q => p env μ fun x => q env μ fun y => W μ x y Q
/-- what a two-place rule must bear -/
def W2 (K : PySem.W.Frag) (r : R2) (W : Store → D → D → (D → Prop) → Prop) : Prop :=
  ∀ G B ρ0 μ ρ H x y v u Q (R : VK), SH K G B ρ0 μ ρ H → Rl K G (frz B H ρ) ρ x v → Rl K G (frz B H ρ) ρ y u → W μ x y Q → (∀ d z H', Q d → Same H H' → Rl K G (frz B H' ρ) ρ d z → R z H') → r v u H R
theorem two {K : PySem.W.Frag} {p q : DP} {r : R2} {W : Store → D → D → (D → Prop) → Prop} (hw : W2 K r W) {σ : L2.St} {H : Hp} {R : VK} (h : tOf K (d2 p q W) σ H R) : tOp r (tOf K p) (tOf K q) σ H R := by
  obtain ⟨G, B, ρ0, env, μ, ρ, Q, s, q1, k⟩ := h
  refine ⟨G, B, ρ0, env, μ, ρ, _, s, q1, fun d v H1 q2 e1 r1 => ?_⟩
  refine ⟨G, B, ρ0, env, μ, ρ, _, s.mono e1, q2, fun d2 v2 H2 q3 e2 r2 => ?_⟩
  exact hw G B ρ0 μ ρ H2 d d2 v v2 Q R ((s.mono e1).mono e2).sh (r1.mono (frz_mono e2) (List.prefix_refl _)) r2 q3 fun d' z H' a b c => k d' z H' a ((e1.trans e2).trans b) c
/-- both seen as trees, the answer a tree -/
def tw (f : T → T → (T → Prop) → Prop) : Store → D → D → (D → Prop) → Prop := fun μ x y Q => vw μ x fun a => vw μ y fun b => f a b fun c => Q (.t c)
theorem W2.tree {K : PySem.W.Frag} {r : R2} {f : T → T → (T → Prop) → Prop} (hf : ∀ a b v u G H (Q : T → Prop) (R : VK), Same G H → Rp K G H a v → Rp K G H b u → f a b Q → (∀ c z, Q c → (∀ G F, Rp K G F c z) → R z H) → r v u H R) : W2 K r (tw f) := by
  intro G B ρ0 μ ρ H x y v u Q R s r1 r2 w k
  obtain ⟨a, w, ra⟩ := peek s r1 w
  obtain ⟨b, w, rb⟩ := peek s r2 w
  exact hf a b v u G H _ R s.sameG ra rb w fun c z q hr => k (.t c) z H q (Same.refl H) (hr _ _)
section
variable {X : Cx} {a b : Expr} {p q : DP} {pos : Pos}
theorem ex_op {op : Operator} {r : R2} {W : Store → D → D → (D → Prop) → Prop} (ho : OpR X (binaryOp op) r) (hw : W2 X.K r W) (ha : EX X a p) (hb : EX X b q) : EX X (.BinOp a op b pos) (d2 p q W) :=
  PE.imp (pe_op ho ha hb) fun σ H R h => two hw h
theorem ex_cmp {op : CmpOp} {r : R2} {W : Store → D → D → (D → Prop) → Prop} (ho : OpR X (compareOp op) r) (hw : W2 X.K r W) (ha : EX X a p) (hb : EX X b q) (hm : behindInMarks op b = false) : EX X (.Compare a [op] [b] pos) (d2 p q W) :=
  PE.imp (pe_cmpR ho ha hb hm) fun σ H R h => two hw h
/-- a value that is True or False as a test -/
def dTest (p : DP) : DT := fun env μ Q => p env μ fun d => ∃ b, d = .t (.bl b) ∧ Q b
theorem tt_of {p : DP} {K : PySem.W.Frag} {σ : L2.St} {H : Hp} {R : Bool → Hp → Prop} (h : ttOf K (dTest p) σ H R) : tTest (tOf K p) σ H R := by
  obtain ⟨G, B, ρ0, env, μ, ρ, Q, s, q1, k⟩ := h
  refine ⟨G, B, ρ0, env, μ, ρ, _, s, q1, fun d v H1 q2 e1 r1 => ?_⟩
  obtain ⟨b, rfl, q2⟩ := q2
  exact ⟨b, r1, k b H1 q2 e1⟩
theorem tx_val {e : Expr} {p : DP} (h : EX X e p) (he : ∀ whole, isTrue e X.env whole = (do let v ← whole; standAt e.pos; holding [v] (truthy v)) := by intro _; rfl) : TX X e (dTest p) :=
  PT.imp (pt_val h he) fun σ H R q => tt_of q
theorem tx_cmp {op : CmpOp} {r : R2} {W : Store → D → D → (D → Prop) → Prop} (ho : OpR X (compareOp op) r) (hw : W2 X.K r W) (ha : EX X a p) (hb : EX X b q) (hm : behindInMarks op b = false) : TX X (.Compare a [op] [b] pos) (dTest (d2 p q W)) :=
  PT.imp (pt_cmpR ho ha hb hm) fun σ H R h => by
    obtain ⟨G, B, ρ0, env, μ, ρ, Q, s, q1, k⟩ := h
    refine two hw ⟨G, B, ρ0, env, μ, ρ, _, s, q1, fun d v H' q2 e r => ?_⟩
    obtain ⟨b, rfl, q2⟩ := q2
    exact ⟨b, r, k b H' q2 e⟩
def dAnd (p q : DT) : DT := fun env μ Q => p env μ fun b => if b = true then q env μ Q else Q false
def dOr (p q : DT) : DT := fun env μ Q => p env μ fun b => if b = true then Q true else q env μ Q
def dNot (p : DT) : DT := fun env μ Q => p env μ fun b => Q (!b)
def WX (X : Cx) (e : Expr) (p : DT) : Prop := PW X e (ttOf X.K p)
theorem PW.imp {e : Expr} {t t' : TT} (h : PW X e t) (k : ∀ σ H Q, t' σ H Q → t σ H Q) : PW X e t' := ⟨fun wh pins s σ H Q I q => h.run wh pins s σ H Q I (k σ H Q q)⟩
theorem tx_w {e : Expr} {p : DT} (h : WX X e p) : TX X e p := L2.PW.pt h
theorem wx_and1 {p : DT} (h : TX X a p) : WX X (.BoolOp .And [a] pos) p := pw_and1 h
theorem wx_and {p q : DT} {rest : List Expr} (h : TX X a p) (h' : WX X (.BoolOp .And (b :: rest) pos) q) : WX X (.BoolOp .And (a :: b :: rest) pos) (dAnd p q) :=
  PW.imp (pw_and h h') fun σ H R ⟨G, B, ρ0, env, μ, ρ, Q, s, q1, k⟩ => by
    refine ⟨G, B, ρ0, env, μ, ρ, _, s, q1, fun c H1 q2 e => ?_⟩
    cases c with
    | true => exact ⟨G, B, ρ0, env, μ, ρ, Q, s.mono e, q2, fun b' H2 q3 e2 => k b' H2 q3 (e.trans e2)⟩
    | false => exact k false H1 q2 e
/-- .. as values of bools -/
def dAndV (p q : DP) : DP := fun env μ Q => p env μ fun d => ∃ b, d = .t (.bl b) ∧ if b = true then q env μ Q else Q (.t (.bl false))
def dOrV (p q : DP) : DP := fun env μ Q => p env μ fun d => ∃ b, d = .t (.bl b) ∧ if b = true then Q (.t (.bl true)) else q env μ Q
def dNotV (p : DP) : DP := fun env μ Q => p env μ fun d => ∃ b, d = .t (.bl b) ∧ Q (.t (.bl (!b)))
def dIf (c : DT) (p q : DP) : DP := fun env μ Q => c env μ fun b => if b = true then p env μ Q else q env μ Q
theorem ex_if {c : Expr} {t : DT} (hc : TX X c t) (ha : EX X a p) (hb : EX X b q) : EX X (.IfExp c a b pos) (dIf t p q) :=
  PE.imp (pe_ifExp hc ha hb) fun σ H R ⟨G, B, ρ0, env, μ, ρ, Q, s, q1, k⟩ => by
    refine ⟨G, B, ρ0, env, μ, ρ, _, s, q1, fun c H1 q2 e => ?_⟩
    cases c with
    | true => exact ⟨G, B, ρ0, env, μ, ρ, Q, s.mono e, q2, fun b' v' H2 q3 e2 => k b' v' H2 q3 (e.trans e2)⟩
    | false => exact ⟨G, B, ρ0, env, μ, ρ, Q, s.mono e, q2, fun b' v' H2 q3 e2 => k b' v' H2 q3 (e.trans e2)⟩
end
/-! argument lists -/
def aNil : DA := fun _ _ Q => Q []
def aCons (p : DP) (q : DA) : DA := fun env μ Q => p env μ fun d => q env μ fun ds => Q (d :: ds)
section
variable {X : Cx} {e : Expr} {es : List Expr} {p : DP} {q : DA}
theorem ax_nil : AX X [] aNil := PA.imp pa_nil fun σ H R ⟨G, B, ρ0, env, μ, ρ, Q, s, q1, k⟩ => k [] [] H q1 (Same.refl H) .nil
theorem ax_cons (h : EX X e p) (h' : AX X es q) (hs : starEach (e :: es) X.env = (false, eval e X.env) :: starEach es X.env := by rfl) : AX X (e :: es) (aCons p q) :=
  PA.imp (pa_cons h h' hs) fun σ H R ⟨G, B, ρ0, env, μ, ρ, Q, s, q1, k⟩ => by
    refine ⟨G, B, ρ0, env, μ, ρ, _, s, q1, fun d v H1 q2 e1 r1 => ?_⟩
    refine ⟨G, B, ρ0, env, μ, ρ, _, s.mono e1, q2, fun ds vs H2 q3 e2 r2 => ?_⟩
    exact k (d :: ds) (v :: vs) H2 q3 (e1.trans e2) (.cons (r1.mono (frz_mono e2) (List.prefix_refl _)) r2)
end
/-- a list of data that are trees -/
def allT : List D → (List T → Prop) → Prop
  | [], Q => Q []
  | .t x :: ds, Q => allT ds fun xs => Q (x :: xs)
  | .loc _ :: _, _ => False
  | .tp _ :: _, _ => False
theorem allT_rps {K : PySem.W.Frag} {G F : Hp} {ρ : List Addr} : ∀ {ds : List D} {vs : List V} {Q : List T → Prop}, allT ds Q → Rls K G F ρ ds vs → ∃ xs, Q xs ∧ Rps K G F xs vs
  | [], _, _, h, .nil => ⟨[], h, rfl⟩
  | .t x :: ds, _, Q, h, .cons r t => by
    obtain ⟨xs, h1, h2⟩ := allT_rps (Q := fun xs => Q (x :: xs)) h t
    exact ⟨x :: xs, h1, _, _, rfl, r, h2⟩
  | .loc _ :: _, _, _, h, _ => h.elim
  | .tp _ :: _, _, _, h, _ => h.elim
/-- displays -/
def dTup (a : DA) : DP := fun env μ Q => a env μ fun ds => allT ds fun xs => xs.length ≤ sizeLine ∧ Q (.t (.tup xs))
def dLst (a : DA) : DP := fun env μ Q => a env μ fun ds => allT ds fun xs => xs.length ≤ sizeLine ∧ Q (.t (.lst xs))
section
variable {X : Cx} {es : List Expr} {a : DA} {pos : Pos}
theorem ex_tup {k : Nat} (h : AX X es a) : EX X (.Tuple es k pos) (dTup a) :=
  PE.imp (pe_tup h) fun σ H R ⟨G, B, ρ0, env, μ, ρ, Q, s, q1, k⟩ => by
    refine ⟨G, B, ρ0, env, μ, ρ, _, s, q1, fun ds vs H1 q2 e1 r1 => ?_⟩
    obtain ⟨xs, ⟨hl, q3⟩, r2⟩ := allT_rps q2 r1
    refine ⟨by rw [← r2.length]; exact hl, fun p hp => ?_⟩
    have n := (s.mono e1).sh.new (o := .tup vs) hp
    exact k _ _ _ q3 (e1.trans n.1) ⟨p, vs, rfl, n.2, Rps.mono (frz_mono n.1) r2⟩
theorem ex_lst (h : AX X es a) : EX X (.List es pos) (dLst a) :=
  PE.imp (pe_lst h) fun σ H R ⟨G, B, ρ0, env, μ, ρ, Q, s, q1, k⟩ => by
    refine ⟨G, B, ρ0, env, μ, ρ, _, s, q1, fun ds vs H1 q2 e1 r1 => ?_⟩
    obtain ⟨xs, ⟨hl, q3⟩, r2⟩ := allT_rps q2 r1
    refine ⟨by rw [← r2.length]; exact hl, fun p hp => ?_⟩
    have n := (s.mono e1).sh.new (o := .lst vs) hp
    exact k _ _ _ q3 (e1.trans n.1) ⟨p, vs, rfl, n.2, Rps.mono (frz_mono n.1) r2⟩
end
end Gw
/-! Gw, part B: new lists, expressions that change the store, statements, loops, comprehensions. -/
namespace Gw
open PySem PySem.Spec PyProof.Rows L2
/-! ### an expression that gives a new list -/
abbrev DF := DEnv → Store → (List T → Prop) → Prop
def tfOf (K : PySem.W.Frag) (p : DF) : TE := fun σ H R => ∃ G B ρ0 env μ ρ Q, SR K G B ρ0 env μ ρ σ H ∧ p env μ Q ∧
  ∀ xs a vs H', Q xs → Same H H' → H a = none → H' a = some (.lst vs) → Rps K G (frz B H' (ρ ++ [a])) xs vs → R (.ref a) H'
def EF (X : Cx) (e : Expr) (p : DF) : Prop := PE X e (tfOf X.K p)
theorem frz_app {B H H' : Hp} {ρ : List Addr} {a : Addr} (e : Same H H') (n : H a = none) : Same (frz B H ρ) (frz B H' (ρ ++ [a])) := fun b o h => by
  have hb : H b = some o := frz_le _ _ _ _ _ h
  have hne : b ≠ a := ne_of_none hb n
  have h' := frz_mono e b o h
  unfold frz at h' ⊢
  split at h'
  · cases h'
  · rename_i hm
    rw [if_neg (by simp only [List.mem_append, List.mem_singleton, not_or]; exact ⟨hm, hne⟩)]
    exact h'
theorem frz_app_le {B H : Hp} {ρ : List Addr} {a : Addr} : Same (frz B H (ρ ++ [a])) (frz B H ρ) := fun b o h => by
  unfold frz at h ⊢
  split at h
  · cases h
  · rename_i hm
    rw [if_neg (by simp only [List.mem_append, not_or] at hm; exact hm.1)]
    exact h
/-- the common case: the new list is the last thing laid -/
theorem ef_at {K : PySem.W.Frag} {G B H H1 : Hp} {ρ0 ρ : List Addr} {env : DEnv} {μ : Store} {σ : L2.St} {xs : List T} {vs : List V} {a : Addr} (s : SR K G B ρ0 env μ ρ σ H) (e : Same H H1) (n : H1 a = none) (r : Rps K G (frz B H1 ρ) xs vs) {R : VK}
    (k : Same H (upd H1 a (.lst vs)) → H a = none → (upd H1 a (.lst vs)) a = some (.lst vs) → Rps K G (frz B (upd H1 a (.lst vs)) (ρ ++ [a])) xs vs → R (.ref a) (upd H1 a (.lst vs))) : R (.ref a) (upd H1 a (.lst vs)) :=
  k (e.trans (same_new n)) (e.free n) upd_same (r.mono (frz_app (same_new n) n))
/-- kept as a tree -/
def dF (p : DF) : DP := fun env μ Q => p env μ fun xs => Q (.t (.lst xs))
theorem ex_f {X : Cx} {e : Expr} {p : DF} (h : EF X e p) : EX X e (dF p) :=
  PE.imp h fun σ H R ⟨G, B, ρ0, env, μ, ρ, Q, s, q, k⟩ => ⟨G, B, ρ0, env, μ, ρ, _, s, q, fun xs a vs H' q' e n h r =>
    k _ _ H' q' e ⟨a, vs, rfl, frz_of h (s.sh.fresh n) (s.sh.freshB n), r.mono frz_app_le⟩⟩
/-! ### expressions that may change the store -/
abbrev DX := DEnv → Store → (D → Store → Prop) → Prop
def txOf (K : PySem.W.Frag) (p : DX) : TE := fun σ H R => ∃ G B ρ0 env μ ρ Q, SR K G B ρ0 env μ ρ σ H ∧ p env μ Q ∧
  ∀ d v μ' ρ' H', Q d μ' → SR K G B ρ0 env μ' ρ' σ H' → ρ <+: ρ' → Same (frz B H ρ) (frz B H' ρ') → Rl K G (frz B H' ρ') ρ' d v → R v H'
def XX (X : Cx) (e : Expr) (p : DX) : Prop := PE X e (txOf X.K p)
def xP (p : DP) : DX := fun env μ Q => p env μ fun d => Q d μ
theorem xx_p {X : Cx} {e : Expr} {p : DP} (h : EX X e p) : XX X e (xP p) :=
  PE.imp h fun σ H R ⟨G, B, ρ0, env, μ, ρ, Q, s, q, k⟩ => ⟨G, B, ρ0, env, μ, ρ, _, s, q, fun d v H' q' e r => k d v μ ρ H' q' (s.mono e) (List.prefix_refl _) (frz_mono e) r⟩
/-- a new object comes into the store -/
theorem claim {K : PySem.W.Frag} {G B H H' : Hp} {ρ0 ρ : List Addr} {env : DEnv} {μ : Store} {σ : L2.St} {a : Addr} {m : MO} (s : SR K G B ρ0 env μ ρ σ H) (e : Same H H') (n : H a = none) (h : MOk K G (frz B H' (ρ ++ [a])) (ρ ++ [a]) H' a m) :
    SR K G B ρ0 env (μ ++ [m]) (ρ ++ [a]) σ H' ∧ ρ <+: ρ ++ [a] ∧ Same (frz B H ρ) (frz B H' (ρ ++ [a])) ∧ Rl K G (frz B H' (ρ ++ [a])) (ρ ++ [a]) (.loc μ.length) (.ref a) := by
  have sm := frz_app (B := B) (ρ := ρ) e n
  have pf : ρ <+: ρ ++ [a] := List.prefix_append _ _
  refine ⟨⟨⟨s.sh.same.trans e, s.sh.sameG.trans e, fun b hb => ?_, fun b hb => ?_, ?_, s.sh.pre.trans pf, by rw [List.length_append, List.length_append, s.sh.len]; rfl, fun i o b h1 h2 => ?_⟩, s.slen, fun i d hd => ?_⟩, pf, sm, ⟨a, rfl, ?_⟩⟩
  · rcases List.mem_append.mp hb with hb | hb
    · exact s.sh.out b hb
    · have : b = a := by simpa using hb
      rw [this]
      exact s.sh.freshB n
  · rcases List.mem_append.mp hb with hb | hb
    · exact s.sh.outG b hb
    · have : b = a := by simpa using hb
      rw [this]
      exact s.sh.sameG.free n
  · rw [List.nodup_append]
    refine ⟨s.sh.nd, by simp, fun x hx y hy hxy => ?_⟩
    have : y = a := by simpa using hy
    rw [hxy, this] at hx
    exact s.sh.fresh n hx
  · by_cases hi : i < μ.length
    · rw [List.getElem?_append_left hi] at h1
      rw [List.getElem?_append_left (by rw [← s.sh.len]; exact hi)] at h2
      exact (s.sh.sto i o b h1 h2).mono sm pf (s.sh.keep e (List.mem_of_getElem? h2))
    · have hl := (List.getElem?_eq_some_iff.mp h1).1
      rw [List.length_append] at hl
      have : i = μ.length := by
        simp at hl
        omega
      subst this
      rw [List.getElem?_append_right (Nat.le_refl _), Nat.sub_self] at h1
      rw [s.sh.len, List.getElem?_append_right (Nat.le_refl _), Nat.sub_self] at h2
      have e1 : m = o := by simpa using h1
      have e2 : a = b := by simpa using h2
      rw [← e1, ← e2]
      exact h
  · obtain ⟨v, h1, h2⟩ := s.slot i d hd
    exact ⟨v, h1, h2.mono sm pf⟩
  · rw [s.sh.len, List.getElem?_append_right (Nat.le_refl _), Nat.sub_self]
    rfl
/-- a new list taken into the store -/
def xF (p : DF) : DX := fun env μ Q => p env μ fun xs => Q (.loc μ.length) (μ ++ [.lst (xs.map D.t)])
theorem xx_f {X : Cx} {e : Expr} {p : DF} (h : EF X e p) : XX X e (xF p) :=
  PE.imp h fun σ H R ⟨G, B, ρ0, env, μ, ρ, Q, s, q, k⟩ => ⟨G, B, ρ0, env, μ, ρ, _, s, q, fun xs a vs H' q' e n h r => by
    obtain ⟨h1, h2, h3, h4⟩ := claim s e n (m := .lst (xs.map D.t)) ⟨vs, h, t_rls r⟩
    exact k _ _ _ _ H' q' h1 h2 h3 h4⟩
/-- arguments that may change the store -/
abbrev DAX := DEnv → Store → (List D → Store → Prop) → Prop
def taxOf (K : PySem.W.Frag) (p : DAX) : TA := fun σ H R => ∃ G B ρ0 env μ ρ Q, SR K G B ρ0 env μ ρ σ H ∧ p env μ Q ∧
  ∀ ds vs μ' ρ' H', Q ds μ' → SR K G B ρ0 env μ' ρ' σ H' → ρ <+: ρ' → Same (frz B H ρ) (frz B H' ρ') → Rls K G (frz B H' ρ') ρ' ds vs → R vs H'
def AXX (X : Cx) (es : List Expr) (p : DAX) : Prop := PA X es (taxOf X.K p)
def axNil : DAX := fun _ μ Q => Q [] μ
def axCons (p : DX) (q : DAX) : DAX := fun env μ Q => p env μ fun d μ1 => q env μ1 fun ds μ2 => Q (d :: ds) μ2
section
variable {X : Cx} {e : Expr} {es : List Expr} {p : DX} {q : DAX} {pos : Pos}
theorem axx_nil : AXX X [] axNil := PA.imp pa_nil fun σ H R ⟨G, B, ρ0, env, μ, ρ, Q, s, q1, k⟩ => k [] [] μ ρ H q1 s (List.prefix_refl _) (Same.refl _) .nil
theorem axx_cons (h : XX X e p) (h' : AXX X es q) (hs : starEach (e :: es) X.env = (false, eval e X.env) :: starEach es X.env := by rfl) : AXX X (e :: es) (axCons p q) :=
  PA.imp (pa_cons h h' hs) fun σ H R ⟨G, B, ρ0, env, μ, ρ, Q, s, q1, k⟩ => by
    refine ⟨G, B, ρ0, env, μ, ρ, _, s, q1, fun d v μ1 ρ1 H1 q2 s1 p1 e1 r1 => ?_⟩
    refine ⟨G, B, ρ0, env, μ1, ρ1, _, s1, q2, fun ds vs μ2 ρ2 H2 q3 s2 p2 e2 r2 => ?_⟩
    exact k (d :: ds) (v :: vs) μ2 ρ2 H2 q3 s2 (p1.trans p2) (e1.trans e2) (.cons (r1.mono e2 p2) r2)
/-- a list's display, taken into the store -/
def xLst (a : DAX) : DX := fun env μ Q => a env μ fun ds μ1 => ds.length ≤ sizeLine ∧ Q (.loc μ1.length) (μ1 ++ [.lst ds])
theorem xx_lst {a : DAX} (h : AXX X es a) : XX X (.List es pos) (xLst a) :=
  PE.imp (pe_lst h) fun σ H R ⟨G, B, ρ0, env, μ, ρ, Q, s, q1, k⟩ => by
    refine ⟨G, B, ρ0, env, μ, ρ, _, s, q1, fun ds vs μ1 ρ1 H1 q2 s1 p1 e1 r1 => ?_⟩
    obtain ⟨hl, q2⟩ := q2
    refine ⟨by rw [← Paired.len r1]; exact hl, fun p hp => ?_⟩
    obtain ⟨h1, h2, h3, h4⟩ := claim s1 (same_new hp) hp (m := .lst ds) ⟨vs, upd_same, Paired.imp (fun _ _ r => r.mono (frz_app (same_new hp) hp) (List.prefix_append _ _)) r1⟩
    exact k _ _ _ _ _ q2 h1 (p1.trans h2) (e1.trans h3) h4
end
/-- a new dict whose keys will be ints and texts -/
def xDic : DX := fun _ μ Q => Q (.loc μ.length) (μ ++ [.dic []])
/-! ### an object of the store is changed -/
theorem frz_upd {B H : Hp} {ρ : List Addr} {a : Addr} {o : HO} (h : a ∈ ρ) : frz B (upd H a o) ρ = frz B H ρ := by
  funext b
  unfold frz
  by_cases hb : b ∈ ρ
  · rw [if_pos hb, if_pos hb]
  · rw [if_neg hb, if_neg hb, upd_ne (fun e => hb (by rw [e]; exact h))]
theorem SR.upd {K : PySem.W.Frag} {G B H : Hp} {ρ0 ρ : List Addr} {env : DEnv} {μ : Store} {σ : L2.St} (s : SR K G B ρ0 env μ ρ σ H) {n : Nat} {a : Addr} {m : MO} {o : HO} (ha : ρ[n]? = some a)
    (hm : MOk K G (frz B H ρ) ρ (L2.upd H a o) a m) : SR K G B ρ0 env (μ.set n m) ρ σ (L2.upd H a o) := by
  have hin : a ∈ ρ := List.mem_of_getElem? ha
  have ef := frz_upd (B := B) (H := H) (o := o) hin
  refine ⟨⟨fun b x e => ?_, fun b x e => ?_, s.sh.out, s.sh.outG, s.sh.nd, s.sh.pre, by rw [List.length_set]; exact s.sh.len, fun i x b h1 h2 => ?_⟩, s.slen, fun i d h => ?_⟩
  · rw [upd_ne (ne_of_none e (s.sh.out a hin))]
    exact s.sh.same b x e
  · rw [upd_ne (ne_of_none e (s.sh.outG a hin))]
    exact s.sh.sameG b x e
  · rw [ef]
    by_cases hi : i = n
    · subst hi
      have hl : i < μ.length := by
        have := (List.getElem?_eq_some_iff.mp h1).1
        rw [List.length_set] at this
        exact this
      rw [List.getElem?_set_self hl] at h1
      rw [ha] at h2
      cases h1
      cases h2
      exact hm
    · rw [List.getElem?_set_ne (fun e => hi e.symm)] at h1
      have hne : b ≠ a := fun e => hi (L2.nd_ix s.sh.nd h2 (e ▸ ha))
      exact (s.sh.sto i x b h1 h2).mono (Same.refl _) (List.prefix_refl _) (upd_ne hne)
  · rw [ef]
    exact s.slot i d h
/-! ### statements -/
structure Post where
  nx : DEnv → Store → Prop
  rt : D → Store → Prop
  bk : DEnv → Store → Prop := fun _ _ => False
  ct : DEnv → Store → Prop := fun _ _ => False
  xc : XD → DEnv → Store → Prop := fun _ _ _ => False
abbrev DS := DEnv → Store → Post → Prop
/-- where a statement may end -/
def Nx (K : PySem.W.Frag) (G B : Hp) (ρ0 ρ : List Addr) (F : Hp) (P : DEnv → Store → Prop) (N : L2.St → Hp → Prop) : Prop :=
  ∀ env' μ' ρ' σ' H', P env' μ' → SR K G B ρ0 env' μ' ρ' σ' H' → ρ <+: ρ' → Same F (frz B H' ρ') → N σ' H'
/-- what is taken whatever was handled when it was made is taken where nothing was -/
theorem takesN {X : Cx} {W : L2.WX} (t : Takes X W) : L2N.Takes X W := fun u s' ⟨a, B, sI, pins, σ, H, cls, d, e, I, nb, up, sky, r⟩ => by
  have zc : ∀ {o}, L2N.Zn cls d o → Zc cls d o := fun h => h.zc
  refine t u s' ⟨a, B, sI, pins, σ, H, cls, d, e, I, nb, up, ?_, r⟩
  rcases sky with ⟨h1, h2, h3, oe, vs, h4, h5, h6⟩ | ⟨h1, h2, h3, oe, vs, T, oT, ts, h4, h5, h6⟩ | ⟨h1, h2, h3, oe, vs, T, oT, ts, h4, h5, h6⟩
  · exact .inl ⟨h1, h2, h3, oe, vs, h4, zc h5, h6⟩
  · exact .inr (.inl ⟨h1, h2, h3, oe, vs, T, oT, ts, h4, zc h5, h6⟩)
  · exact .inr (.inr ⟨h1, h2, h3, oe, vs, T, oT, ts, h4, zc h5, h6⟩)
/-- what may be raised: cold, where nothing is handled; hot, anywhere -/
def XNx (X : Cx) (G B : Hp) (ρ0 ρ : List Addr) (F : Hp) (Z : XD → DEnv → Store → Prop) : Prop :=
  ∃ W : Bool → L2.WX, L2N.Takes X (W false) ∧ Takes X (W true) ∧ ∀ x env' μ' ρ' σ' H' cls d, Z x env' μ' → SR X.K G B ρ0 env' μ' ρ' σ' H' → ρ <+: ρ' → Same F (frz B H' ρ') → RX X.K G (frz B H' ρ') x cls d → W x.hot cls d σ' H'
theorem takes_no {X : Cx} : Takes X (fun _ _ _ _ => False) := fun u s' ⟨a, B, sI, pins, σ, H, cls, d, e, I, nb, up, sky, na, os, ag, w⟩ => False.elim w
theorem xnx_no {X : Cx} {G B : Hp} {ρ0 ρ : List Addr} {F : Hp} : XNx X G B ρ0 ρ F (fun _ _ _ => False) := ⟨fun _ _ _ _ _ => False, takesN takes_no, takes_no, fun _ _ _ _ _ _ _ _ h => h.elim⟩
theorem XNx.on {X : Cx} {G B : Hp} {ρ0 ρ ρ' : List Addr} {F F' : Hp} {Z : XD → DEnv → Store → Prop} (n : XNx X G B ρ0 ρ F Z) (p : ρ <+: ρ') (e : Same F F') : XNx X G B ρ0 ρ' F' Z :=
  n.imp fun _ n => ⟨n.1, n.2.1, fun x env' μ' ρ2 σ' H' cls d h s p2 e2 r => n.2.2 x env' μ' ρ2 σ' H' cls d h s (p.trans p2) (e.trans e2) r⟩
structure EndsOk (X : Cx) (G B : Hp) (ρ0 ρ : List Addr) (F : Hp) (P : Post) (E : Ends) : Prop where
  nx : Nx X.K G B ρ0 ρ F P.nx E.nx
  rt : ∀ d v μ' ρ' H', P.rt d μ' → SH X.K G B ρ0 μ' ρ' H' → ρ <+: ρ' → Same F (frz B H' ρ') → Rl X.K G (frz B H' ρ') ρ' d v → E.rt v H'
  bk : Nx X.K G B ρ0 ρ F P.bk E.bk
  ct : Nx X.K G B ρ0 ρ F P.ct E.ct
  xc : XNx X G B ρ0 ρ F P.xc
theorem Nx.on {K : PySem.W.Frag} {G B : Hp} {ρ0 ρ ρ' : List Addr} {F F' : Hp} {P : DEnv → Store → Prop} {N : L2.St → Hp → Prop} (n : Nx K G B ρ0 ρ F P N) (p : ρ <+: ρ') (e : Same F F') : Nx K G B ρ0 ρ' F' P N :=
  fun env' μ' ρ2 σ' H' h s p2 e2 => n env' μ' ρ2 σ' H' h s (p.trans p2) (e.trans e2)
theorem EndsOk.on {X : Cx} {G B : Hp} {ρ0 ρ ρ' : List Addr} {F F' : Hp} {P : Post} {E : Ends} (n : EndsOk X G B ρ0 ρ F P E) (p : ρ <+: ρ') (e : Same F F') : EndsOk X G B ρ0 ρ' F' P E :=
  ⟨n.nx.on p e, fun d v μ' ρ2 H' h s p2 e2 r => n.rt d v μ' ρ2 H' h s (p.trans p2) (e.trans e2) r, n.bk.on p e, n.ct.on p e, n.xc.on p e⟩
def tsOf (X : Cx) (s : DS) : TS := fun E σ H => ∃ G B ρ0 env μ ρ P, SR X.K G B ρ0 env μ ρ σ H ∧ s env μ P ∧ EndsOk X G B ρ0 ρ (frz B H ρ) P E
def SX (X : Cx) (st : Stmt) (s : DS) : Prop := PS X st (tsOf X s)
def SsX (X : Cx) (sts : List Stmt) (s : DS) : Prop := PSs X sts (tsOf X s)
theorem PS.imp {X : Cx} {e : Stmt} {t t' : TS} (h : PS X e t) (k : ∀ E σ H, t' E σ H → t E σ H) : PS X e t' := ⟨fun pins s σ H E I q => h.run pins s σ H E I (k E σ H q)⟩
theorem PSs.imp {X : Cx} {e : List Stmt} {t t' : TS} (h : PSs X e t) (k : ∀ E σ H, t' E σ H → t E σ H) : PSs X e t' := ⟨fun pins s σ H E I q => h.run pins s σ H E I (k E σ H q)⟩
def sNil : DS := fun env μ P => P.nx env μ
def sSeq (a b : DS) : DS := fun env μ P => a env μ { P with nx := fun env' μ' => b env' μ' P }
section
variable {X : Cx} {st : Stmt} {sts : List Stmt} {a b : DS} {e : Expr} {pos : Pos}
theorem ssx_nil : SsX X [] sNil := PSs.imp pss_nil fun E σ H ⟨G, B, ρ0, env, μ, ρ, P, s, q, k⟩ => k.nx env μ ρ σ H q s (List.prefix_refl _) (Same.refl _)
theorem ssx_cons (h : SX X st a) (h' : SsX X sts b) : SsX X (st :: sts) (sSeq a b) :=
  PSs.imp (pss_cons h h') fun E σ H ⟨G, B, ρ0, env, μ, ρ, P, s, q, k⟩ => ⟨G, B, ρ0, env, μ, ρ, _, s, q,
    fun env' μ' ρ' σ' H' q' s' p' e' => ⟨G, B, ρ0, env', μ', ρ', P, s', q', k.on p' e'⟩, k.rt, k.bk, k.ct, k.xc⟩
def sBreak : DS := fun env μ P => P.bk env μ
def sCont : DS := fun env μ P => P.ct env μ
def sDrop (p : DX) : DS := fun env μ P => p env μ fun _ μ' => P.nx env μ'
theorem sx_drop {p : DX} (h : XX X e p) (hs : swapsWith e none pos.line X.env = pure false := by rfl) : SX X (.Expr e pos) (sDrop p) :=
  PS.imp (ps_expr h hs) fun E σ H ⟨G, B, ρ0, env, μ, ρ, P, s, q, k⟩ => ⟨G, B, ρ0, env, μ, ρ, _, s, q, fun d v μ' ρ' H' q' s' p' e' r' => k.nx env μ' ρ' σ H' q' s' p' e'⟩
def sRet (p : DX) : DS := fun env μ P => p env μ fun d μ' => P.rt d μ'
theorem sx_ret {p : DX} (h : XX X e p) : SX X (.Return (some e) pos) (sRet p) :=
  PS.imp (ps_ret h) fun E σ H ⟨G, B, ρ0, env, μ, ρ, P, s, q, k⟩ => ⟨G, B, ρ0, env, μ, ρ, _, s, q, fun d v μ' ρ' H' q' s' p' e' r' => k.rt d v μ' ρ' H' q' s'.sh p' e' r'⟩
def sRetN : DS := fun env μ P => P.rt (.t .non) μ
def sIf (c : DT) (a b : DS) : DS := fun env μ P => c env μ fun k => if k = true then a env μ P else b env μ P
theorem sx_if {c : Expr} {x y : List Stmt} {t : DT} (hc : TX X c t) (ha : SsX X x a) (hb : SsX X y b) : SX X (.If c x y pos) (sIf t a b) :=
  PS.imp (ps_if hc ha hb) fun E σ H ⟨G, B, ρ0, env, μ, ρ, P, s, q, k⟩ => ⟨G, B, ρ0, env, μ, ρ, _, s, q, fun c H' q' e' => by
    cases c with
    | true => exact ⟨G, B, ρ0, env, μ, ρ, P, s.mono e', q', k.on (List.prefix_refl _) (frz_mono e')⟩
    | false => exact ⟨G, B, ρ0, env, μ, ρ, P, s.mono e', q', k.on (List.prefix_refl _) (frz_mono e')⟩⟩
/-! targets -/
abbrev DG := D → DEnv → (DEnv → Prop) → Prop
def tgOf (K : PySem.W.Frag) (ts : List Nat) (g : DG) : TG := fun v σ H R => ∃ G B ρ0 env μ ρ d Q, SR K G B ρ0 env μ ρ σ H ∧ Rl K G (frz B H ρ) ρ d v ∧ g d env Q ∧
  ∀ env' σ', Q env' → SR K G B ρ0 env' μ ρ σ' H → (∀ j, j ∉ ts → σ'[j]? = σ[j]?) → σ'.length = σ.length → R σ' H
def GX (X : Cx) (tg : Expr) (ts : List Nat) (g : DG) : Prop := PG X tg (tgOf X.K ts g)
theorem PG.imp {tg : Expr} {t t' : TG} (h : PG X tg t) (k : ∀ v σ H R, t' v σ H R → t v σ H R) : PG X tg t' := ⟨fun pins s σ H v u Q I r q => h.run pins s σ H v u Q I r (k v σ H Q q)⟩
theorem SR.set {K : PySem.W.Frag} {G B H : Hp} {ρ0 ρ : List Addr} {env : DEnv} {μ : Store} {σ : L2.St} (s : SR K G B ρ0 env μ ρ σ H) (i : Nat) {d : D} {v : V} (r : Rl K G (frz B H ρ) ρ d v) : SR K G B ρ0 (env.set i (some d)) μ ρ (σ.set i (some v)) H := by
  refine ⟨s.sh, by rw [List.length_set, List.length_set]; exact s.slen, fun j d' h => ?_⟩
  by_cases hj : i = j
  · subst hj
    have hl : i < env.length := by
      have := (List.getElem?_eq_some_iff.mp h).1
      rw [List.length_set] at this
      exact this
    rw [List.getElem?_set_self hl] at h
    cases h
    exact ⟨v, List.getElem?_set_self (by rw [s.slen]; exact hl), r⟩
  · rw [List.getElem?_set_ne hj] at h
    obtain ⟨w, h1, h2⟩ := s.slot j d' h
    exact ⟨w, by rw [List.getElem?_set_ne hj]; exact h1, h2⟩
def gNm (i : Nat) : DG := fun d env Q => Q (env.set i (some d))
theorem gx_name (i : Nat) {x : Str} (hN : X.N.Nodup) (hi : X.N[i]? = some x := by rfl) (hx : Loc X.env.scope x := by first | exact Or.inl rfl | exact Or.inr rfl) (hf : X.fn x = true ∨ X.env.scope.names.lookup x = some .local := by first | exact .inl rfl | exact .inr rfl | assumption) : GX X (.Name x pos) [i] (gNm i) :=
  PG.imp (pg_name hN hi hx hf) fun v σ H R ⟨G, B, ρ0, env, μ, ρ, d, Q, s, r, q, k⟩ => k _ _ q (s.set i r) (fun j hj => List.getElem?_set_ne (fun e => hj (by simp [e]))) (List.length_set ..)
/-- targets in a row -/
abbrev DGs := List T → DEnv → (DEnv → Prop) → Prop
def tgsOf (K : PySem.W.Frag) (ts : List Nat) (g : DGs) : TGs := fun vs σ H R => ∃ G B ρ0 env μ ρ xs Q, SR K G B ρ0 env μ ρ σ H ∧ Rps K G (frz B H ρ) xs vs ∧ g xs env Q ∧
  ∀ env' σ', Q env' → SR K G B ρ0 env' μ ρ σ' H → (∀ j, j ∉ ts → σ'[j]? = σ[j]?) → σ'.length = σ.length → R σ' H
def GsX (X : Cx) (tgs : List Expr) (ts : List Nat) (g : DGs) : Prop := PGs X tgs (tgsOf X.K ts g)
theorem PGs.imp {tg : List Expr} {t t' : TGs} (h : PGs X tg t) (k : ∀ v σ H R, t' v σ H R → t v σ H R) : PGs X tg t' := ⟨fun pins s σ H v u Q I r q => h.run pins s σ H v u Q I r (k v σ H Q q)⟩
def gNil' : DGs := fun xs env Q => xs = [] ∧ Q env
def gCons' (g : DG) (h : DGs) : DGs := fun xs env Q => ∃ x r, xs = x :: r ∧ g (.t x) env fun env' => h r env' Q
theorem gsx_nil : GsX X [] [] gNil' := PGs.imp pgs_nil fun vs σ H R ⟨G, B, ρ0, env, μ, ρ, xs, Q, s, r, ⟨e, q⟩, k⟩ => by
  subst e
  exact ⟨r, k env σ q s (fun _ _ => rfl) rfl⟩
theorem gsx_cons {tg : Expr} {tgs : List Expr} {t1 t2 : List Nat} {g : DG} {h : DGs} (hg : GX X tg t1 g) (hh : GsX X tgs t2 h)
    (hs : (assignEach (tg :: tgs) X.env).map (·.2) = assign tg X.env :: (assignEach tgs X.env).map (·.2) := by rfl) : GsX X (tg :: tgs) (t1 ++ t2) (gCons' g h) :=
  PGs.imp (pgs_cons hg hh hs) fun vs σ H R ⟨G, B, ρ0, env, μ, ρ, xs, Q, s, r, ⟨x, xr, e, q⟩, k⟩ => by
    subst e
    obtain ⟨v, vr, hv, r1, r2⟩ := r
    refine ⟨v, vr, hv, G, B, ρ0, env, μ, ρ, .t x, _, s, r1, q, fun env' σ' q' s' n' l' => ?_⟩
    refine ⟨G, B, ρ0, env', μ, ρ, xr, Q, s', r2, q', fun env2 σ2 q2 s2 n2 l2 => k env2 σ2 q2 s2 (fun j hj => ?_) (l2.trans l')⟩
    rw [n2 j (fun z => hj (List.mem_append_right _ z)), n' j (fun z => hj (List.mem_append_left _ z))]
def gTp (n : Nat) (h : DGs) : DG := fun d env Q => ∃ xs, d = .t (.tup xs) ∧ xs.length = n ∧ h xs env Q
theorem gx_tup {es : List Expr} {k n : Nat} {ts : List Nat} {h : DGs} (hc : X.calm = true) (hh : GsX X es ts h) (hn : (assignEach es X.env).length = n := by rfl) (hst : (assignEach es X.env).findIdx? (·.1) = none := by rfl) : GX X (.Tuple es k pos) ts (gTp n h) :=
  PG.imp (pg_tup hc hh hn hst) fun v σ H R ⟨G, B, ρ0, env, μ, ρ, d, Q, s, r, ⟨xs, e, hl, q⟩, k⟩ => by
    subst e
    obtain ⟨a, vs, rfl, h1, h2⟩ := r
    exact ⟨a, vs, rfl, SqT.of (frz_le _ _ _ _ _ h1), by rw [← h2.length]; exact hl, G, B, ρ0, env, μ, ρ, xs, Q, s, h2, q, k⟩
/-- target = value -/
def sAsg (p : DX) (g : DG) : DS := fun env μ P => p env μ fun d μ' => g d env fun env' => P.nx env' μ'
theorem sx_set (i : Nat) {x : Str} {p : DX} {pos' : Pos} (h : XX X e p) (hN : X.N.Nodup) (hi : X.N[i]? = some x := by rfl) (hx : Loc X.env.scope x := by first | exact Or.inl rfl | exact Or.inr rfl) (hs : swapsWith e (some (.Name x pos')) pos.line X.env = pure false := by rfl)
    (hf : X.fn x = true ∨ X.env.scope.names.lookup x = some .local := by first | exact .inl rfl | exact .inr rfl | assumption) : SX X (.Assign [.Name x pos'] e pos) (sAsg p (gNm i)) :=
  PS.imp (ps_set hN hi hx h hs hf) fun E σ H ⟨G, B, ρ0, env, μ, ρ, P, s, q, k⟩ => ⟨G, B, ρ0, env, μ, ρ, _, s, q, fun d v μ' ρ' H' q' s' p' e' r' => k.nx _ _ _ _ H' q' (s'.set i r') p' e'⟩
theorem sx_asg {tg : Expr} {p : DX} {g : DG} {ts : List Nat} (h : XX X e p) (hg : GX X tg ts g) (hs : swapsWithSole [tg] e pos.line X.env = pure false := by rfl) (hw : swappedStores [tg] e X.env = pure none := by rfl)
    (h1 : (assignEach [tg] X.env).map (·.2) = [assign tg X.env] := by rfl) : SX X (.Assign [tg] e pos) (sAsg p g) :=
  PS.imp (ps_asg h hg hs hw h1) fun E σ H ⟨G, B, ρ0, env, μ, ρ, P, s, q, k⟩ => ⟨G, B, ρ0, env, μ, ρ, _, s, q, fun d v μ' ρ' H' q' s' p' e' r' =>
    ⟨G, B, ρ0, env, μ', ρ', d, _, s', r', q', fun env' σ' q2 s2 _ _ => k.nx _ _ _ _ H' q2 s2 p' e'⟩⟩
/-! ### while -/
end
end Gw
/-! Gw, part C: what is walked, for, comprehensions. -/
namespace Gw
open PySem PySem.Spec PyProof.Rows L2 RZ
/-- what a loop walks: its items, and what must stay of the store meanwhile -/
structure DIt where
  items : List D
  keep : Store → Prop
abbrev DI := DEnv → Store → (DIt → Prop) → Prop
/-- a later state -/
structure Later (K : PySem.W.Frag) (G B : Hp) (ρ0 ρ : List Addr) (F : Hp) (μ' : Store) (ρ' : List Addr) (H' : Hp) : Prop where
  sh : SH K G B ρ0 μ' ρ' H'
  pre : ρ <+: ρ'
  fro : Same F (frz B H' ρ')
structure Wk (K : PySem.W.Frag) (G : Hp) (ρ0 ρ : List Addr) (F : Hp) (J : It) (j : DIt) : Prop where
  ex : ∃ (Gd : Hp → Prop) (Y : Nat → Hp → V → Hp → Prop), Walk J j.items.length Gd Y ∧
    (∀ B' μ' ρ' H', Later K G B' ρ0 ρ F μ' ρ' H' → j.keep μ' → Gd H') ∧
    (∀ i B' μ' ρ' H' x H2, i < j.items.length → Later K G B' ρ0 ρ F μ' ρ' H' → j.keep μ' → Y i H' x H2 → Same H' H2 ∧ ∃ d, j.items[i]? = some d ∧ Rl K G (frz B' H2 ρ') ρ' d x)
def tiOf (K : PySem.W.Frag) (p : DI) : TI := fun σ H R => ∃ G B ρ0 env μ ρ Q, SR K G B ρ0 env μ ρ σ H ∧ p env μ Q ∧
  ∀ j J H1, Q j → Same H H1 → j.keep μ → Wk K G ρ0 ρ (frz B H1 ρ) J j → R J H1
def IX (X : Cx) (tg e : Expr) (p : DI) : Prop := PI X tg e (tiOf X.K p)
theorem PI.imp {X : Cx} {tg e : Expr} {t t' : TI} (h : PI X tg e t) (k : ∀ σ H R, t' σ H R → t σ H R) : PI X tg e t' := ⟨fun pins s σ H R I q => h.run pins s σ H R I (k σ H R q)⟩
/-! ### sources -/
/-- a list seen item by item: trees only -/
def srcL (μ : Store) (d : D) (Q : List T → (Store → Prop) → Prop) : Prop := match d with
  | .t (.lst xs) => Q xs fun _ => True
  | .t (.ro xs) => Q xs fun _ => True
  | .loc n => ∃ xs, μ[n]? = some (.lst (xs.map D.t)) ∧ Q xs fun μ' => μ'[n]? = some (.lst (xs.map D.t))
  | _ => False
def srcT (d : D) (Q : List T → Prop) : Prop := match d with
  | .t (.tup xs) => Q xs
  | _ => False
/-- items that may be objects of the store -/
def srcD (μ : Store) (d : D) (Q : List D → (Store → Prop) → Prop) : Prop := match d with
  | .t (.lst xs) => Q (xs.map D.t) fun _ => True
  | .t (.ro xs) => Q (xs.map D.t) fun _ => True
  | .t (.tup xs) => Q (xs.map D.t) fun _ => True
  | .t (.pt xs) => Q (xs.map D.t) fun _ => True
  | .loc n => ∃ ds, μ[n]? = some (.lst ds) ∧ Q ds fun μ' => μ'[n]? = some (.lst ds)
  | .tp ds => Q ds fun _ => True
  | _ => False
section
variable {K : PySem.W.Frag} {G B H : Hp} {ρ0 ρ : List Addr} {μ : Store}
theorem src_ok (s : SH K G B ρ0 μ ρ H) {d : D} {v : V} {Q : List T → (Store → Prop) → Prop} (r : Rl K G (frz B H ρ) ρ d v) (h : srcL μ d Q) : ∃ xs kp a, Q xs kp ∧ v = .ref a ∧ kp μ ∧
    ∀ B' μ' ρ' H', Later K G B' ρ0 ρ (frz B H ρ) μ' ρ' H' → kp μ' → ∃ vs, SqL K H' a vs ∧ Rps K G (frz B' H' ρ') xs vs := by
  cases d with
  | t x =>
    cases x with
    | lst xs =>
      obtain ⟨a, vs, rfl, h1, h2⟩ := r
      exact ⟨xs, _, a, h, rfl, trivial, fun B' μ' ρ' H' l _ => ⟨vs, SqL.of (frz_le _ _ _ _ _ (l.fro _ _ h1)), h2.mono l.fro⟩⟩
    | ro xs =>
      obtain ⟨a, vs, rfl, h1, h2⟩ := r
      exact ⟨xs, _, a, h, rfl, trivial, fun B' μ' ρ' H' l _ => ⟨vs, l.sh.sameG.seq h1, h2.mono l.fro⟩⟩
    | _ => exact h.elim
  | loc n =>
    obtain ⟨xs, h1, h2⟩ := h
    obtain ⟨a, rfl, ha⟩ := r
    refine ⟨xs, _, a, h2, rfl, h1, fun B' μ' ρ' H' l k => ?_⟩
    have ha' : ρ'[n]? = some a := by
      obtain ⟨m, rfl⟩ := l.pre
      rw [List.getElem?_append_left (List.getElem?_eq_some_iff.mp ha).1]
      exact ha
    obtain ⟨vs, h3, h4⟩ := l.sh.sto n _ a k ha'
    exact ⟨vs, SqL.of h3, rls_t h4⟩
  | tp ds => exact h.elim
theorem srcT_ok (s : SH K G B ρ0 μ ρ H) {d : D} {v : V} {Q : List T → Prop} (r : Rl K G (frz B H ρ) ρ d v) (h : srcT d Q) : ∃ xs a vs, Q xs ∧ v = .ref a ∧ (frz B H ρ) a = some (.tup vs) ∧ Rps K G (frz B H ρ) xs vs := by
  cases d with
  | t x =>
    cases x with
    | tup xs =>
      obtain ⟨a, vs, rfl, h1, h2⟩ := r
      exact ⟨xs, a, vs, h, rfl, h1, h2⟩
    | _ => exact h.elim
  | loc n => exact h.elim
  | tp ds => exact h.elim
theorem later_refl (s : SH K G B ρ0 μ ρ H) : Later K G B ρ0 ρ (frz B H ρ) μ ρ H := ⟨s, List.prefix_refl _, Same.refl _⟩
/-- an item of a paired list -/
theorem rps_item {F : Hp} {xs : List T} {vs : List V} (r : Rps K G F xs vs) {i : Nat} (hi : i < xs.length) : ∃ x v, xs[i]? = some x ∧ vs[i]? = some v ∧ Rp K G F x v := by
  obtain ⟨v, h1, h2⟩ := r.get (List.getElem?_eq_getElem hi)
  exact ⟨_, v, List.getElem?_eq_getElem hi, h1, h2⟩
end
section
variable {K : PySem.W.Frag} {a b : Addr} {n : Nat}
theorem walk_listV : Walk (Itl K a) n (fun H => ∃ vs, SqL K H a vs ∧ vs.length = n) (fun i H x H' => H' = H ∧ ∀ vs, SqL K H a vs → vs[i]? = some x) :=
  ⟨fun i H hi ⟨vs, q, l⟩ => ⟨vs, vs[i]'(by omega), q, List.getElem?_eq_getElem _⟩, fun H ⟨vs, q, l⟩ => ⟨vs, q, by omega⟩, fun i H x H' hi q y => y⟩
theorem walk_enumV : Walk (Ite K a) n (fun H => ∃ vs, SqL K H a vs ∧ vs.length = n) (fun i H v H' => ∃ T x, v = .ref T ∧ H T = none ∧ H' = upd H T (.tup [.int (i : Nat), x]) ∧ ∀ vs, SqL K H a vs → vs[i]? = some x) :=
  ⟨fun i H hi ⟨vs, q, l⟩ => ⟨vs, vs[i]'(by omega), q, List.getElem?_eq_getElem _⟩, fun H ⟨vs, q, l⟩ => ⟨vs, q, by omega⟩, fun i H x H' hi q y => y⟩
end
/-- just one argument, two, three -/
def one (ds : List D) (Q : D → Prop) : Prop := match ds with
  | [d] => Q d
  | _ => False
def two' (ds : List D) (Q : D → D → Prop) : Prop := match ds with
  | [d, e] => Q d e
  | _ => False
def three (ds : List D) (Q : D → D → D → Prop) : Prop := match ds with
  | [d, e, f] => Q d e f
  | _ => False
theorem one_of {ds : List D} {Q : D → Prop} (h : one ds Q) : ∃ d, ds = [d] ∧ Q d := by
  match ds, h with
  | [d], h => exact ⟨d, rfl, h⟩
theorem two_of {ds : List D} {Q : D → D → Prop} (h : two' ds Q) : ∃ d e, ds = [d, e] ∧ Q d e := by
  match ds, h with
  | [d, e], h => exact ⟨d, e, rfl, h⟩
theorem three_of {ds : List D} {Q : D → D → D → Prop} (h : three ds Q) : ∃ d e f, ds = [d, e, f] ∧ Q d e f := by
  match ds, h with
  | [d, e, f], h => exact ⟨d, e, f, rfl, h⟩
/-! ### what is walked -/
section
variable {X : Cx} {tg e e2 : Expr} {p q : DP} {pos : Pos}
def iSeq (K : PySem.W.Frag) (tl : TE) : TI := fun σ H R => tl σ H fun x H1 => ∃ a, x = .ref a ∧ (((∃ xs, SqL K H1 a xs) ∧ R (Itl K a) H1) ∨ ((∃ xs, SqT K H1 a xs) ∧ R (Itt K a) H1))
theorem pi_seq {l : Expr} {tl : TE} (hl : PE X l tl) : PI X tg l (iSeq X.K tl) := by
  refine ⟨fun pins s σ H R I h => ?_⟩
  refine thn (hl.run pins s σ H _ I h) fun v s1 ⟨x, H1, I1, r1, q1⟩ => ?_
  obtain ⟨a, e, q⟩ := q1
  subst e
  cases r1
  rcases q with ⟨⟨xs, hq⟩, q⟩ | ⟨⟨xs, hq⟩, q⟩
  · obtain ⟨its, rv, p, hz⟩ := I1.list hq
    refine wpAny_pyIter_list p.isList ?_
    refine ⟨s1.heap.objs.size, [s1.heap.objs.size], _, _, H1, rfl, I1.kept (t' := s1.toks) fun b o e => Heap.get?_push_of_some _ e, turn_list a _, ⟨_, Heap.get?_push_size _ rfl, rfl, rfl⟩, fun b hb => ?_, q⟩
    have e : b = s1.heap.objs.size := by simpa using hb
    subst e
    exact I1.fpOk (Nat.le_refl _) (I1.hok.fresh (Nat.le_refl _))
  · obtain ⟨its, rv, p, hz⟩ := I1.tuple hq
    refine wpAny_pyIter_tuple (show s1.heap.IsTuple a its.toArray from p) ?_
    refine ⟨s1.heap.objs.size, [s1.heap.objs.size], _, _, H1, rfl, I1.kept (t' := s1.toks) fun b o e => Heap.get?_push_of_some _ e, turn_tuple a _, ⟨_, Heap.get?_push_size _ rfl, rfl, rfl⟩, fun b hb => ?_, q⟩
    have e : b = s1.heap.objs.size := by simpa using hb
    subst e
    exact I1.fpOk (Nat.le_refl _) (I1.hok.fresh (Nat.le_refl _))
/-- a list or a tuple -/
def iSq (p : DP) : DI := fun env μ Q => p env μ fun d => srcD μ d fun ds kp => Q ⟨ds, kp⟩
theorem ix_seq (h : EX X e p) : IX X tg e (iSq p) :=
  PI.imp (pi_seq h) fun σ H R ⟨G, B, ρ0, env, μ, ρ, Q, s, q1, k⟩ => by
    refine ⟨G, B, ρ0, env, μ, ρ, _, s, q1, fun d v H1 q2 e1 r => ?_⟩
    have sh := (s.mono e1).sh
    have tree : ∀ (xs : List T) (a : Addr) (vs : List V), Rps X.K G (frz B H1 ρ) xs vs → (∀ B' μ' ρ' H', Later X.K G B' ρ0 ρ (frz B H1 ρ) μ' ρ' H' → SqL X.K H' a vs) → Wk X.K G ρ0 ρ (frz B H1 ρ) (Itl X.K a) ⟨xs.map D.t, fun _ => True⟩ := fun xs a vs hr hq =>
      ⟨⟨_, _, walk_listV, fun B' μ' ρ' H' l _ => ⟨vs, hq B' μ' ρ' H' l, by rw [List.length_map, hr.length]⟩, fun i B' μ' ρ' H' x H2 hi l _ y => by
        obtain ⟨rfl, y⟩ := y
        obtain ⟨z, w, h1, h2, h3⟩ := rps_item hr (i := i) (by rw [← List.length_map (f := D.t)]; exact hi)
        have := (y vs (hq B' μ' ρ' H2 l)).symm.trans h2
        cases this
        exact ⟨Same.refl _, .t z, by rw [List.getElem?_map, h1]; rfl, Rp.mono l.fro h3⟩⟩⟩
    cases d with
    | t x =>
      cases x with
      | lst xs =>
        obtain ⟨a, vs, rfl, h1, h2⟩ := r
        refine ⟨a, rfl, .inl ⟨⟨vs, SqL.of (frz_le _ _ _ _ _ h1)⟩, k _ _ H1 q2 e1 trivial (tree xs a vs h2 fun B' μ' ρ' H' l => SqL.of (frz_le _ _ _ _ _ (l.fro _ _ h1)))⟩⟩
      | ro xs =>
        obtain ⟨a, vs, rfl, h1, h2⟩ := r
        refine ⟨a, rfl, .inl ⟨⟨vs, sh.sameG.seq h1⟩, k _ _ H1 q2 e1 trivial (tree xs a vs h2 fun B' μ' ρ' H' l => l.sh.sameG.seq h1)⟩⟩
      | tup xs =>
        obtain ⟨a, vs, rfl, h1, h2⟩ := r
        refine ⟨a, rfl, .inr ⟨⟨vs, SqT.of (frz_le _ _ _ _ _ h1)⟩, k _ _ H1 q2 e1 trivial ⟨⟨_, _, (show Walk (Itt X.K a) (xs.map D.t).length _ _ by
          rw [List.length_map, h2.length]
          exact walk_tup), fun B' μ' ρ' H' l _ => SqT.of (frz_le _ _ _ _ _ (l.fro _ _ h1)), fun i B' μ' ρ' H' x H2 hi l _ y => ?_⟩⟩⟩⟩
        obtain ⟨rfl, y⟩ := y
        obtain ⟨z, w, h3, h4, h5⟩ := rps_item h2 (i := i) (by rw [← List.length_map (f := D.t)]; exact hi)
        rw [y] at h4
        cases h4
        exact ⟨Same.refl _, .t z, by rw [List.getElem?_map, h3]; rfl, Rp.mono l.fro h5⟩
      | pt xs =>
        obtain ⟨a, vs, o, rfl, h1, _, h2⟩ := r
        refine ⟨a, rfl, .inr ⟨⟨vs, sqT_pt (frz_le _ _ _ _ _ h1)⟩, k _ _ H1 q2 e1 trivial ⟨⟨_, _, (show Walk (Itt X.K a) (xs.map D.t).length _ _ by
          rw [List.length_map, h2.length]
          exact walk_tup), fun B' μ' ρ' H' l _ => sqT_pt (frz_le _ _ _ _ _ (l.fro _ _ h1)), fun i B' μ' ρ' H' x H2 hi l _ y => ?_⟩⟩⟩⟩
        obtain ⟨rfl, y⟩ := y
        obtain ⟨z, w, h3, h4, h5⟩ := rps_item h2 (i := i) (by rw [← List.length_map (f := D.t)]; exact hi)
        rw [y] at h4
        cases h4
        exact ⟨Same.refl _, .t z, by rw [List.getElem?_map, h3]; rfl, Rp.mono l.fro h5⟩
      | _ => exact q2.elim
    | loc n =>
      obtain ⟨ds, h1, q2⟩ := q2
      obtain ⟨a, rfl, ha⟩ := r
      obtain ⟨vs, h3, h4⟩ := sh.sto n _ a h1 ha
      have at' : ∀ B' μ' ρ' H', Later X.K G B' ρ0 ρ (frz B H1 ρ) μ' ρ' H' → μ'[n]? = some (.lst ds) → ∃ vs, H' a = some (.lst vs) ∧ Rls X.K G (frz B' H' ρ') ρ' ds vs := fun B' μ' ρ' H' l kp => by
        have ha' : ρ'[n]? = some a := by
          obtain ⟨m, rfl⟩ := l.pre
          rw [List.getElem?_append_left (List.getElem?_eq_some_iff.mp ha).1]
          exact ha
        exact l.sh.sto n _ a kp ha'
      refine ⟨a, rfl, .inl ⟨⟨vs, SqL.of h3⟩, k _ _ H1 q2 e1 h1 ⟨⟨_, _, walk_listV, fun B' μ' ρ' H' l kp => ?_, fun i B' μ' ρ' H' x H2 hi l kp y => ?_⟩⟩⟩⟩
      · obtain ⟨ws, h5, h6⟩ := at' B' μ' ρ' H' l kp
        exact ⟨ws, SqL.of h5, (Paired.len h6).symm⟩
      · obtain ⟨rfl, y⟩ := y
        obtain ⟨ws, h5, h6⟩ := at' B' μ' ρ' H2 l kp
        obtain ⟨w, h7, h8⟩ := Paired.at h6 (List.getElem?_eq_getElem hi)
        have := (y ws (SqL.of h5)).symm.trans h7
        cases this
        exact ⟨Same.refl _, _, List.getElem?_eq_getElem hi, h8⟩
    | tp ds =>
      obtain ⟨a, vs, rfl, h1, h2⟩ := r
      have h2 := rlA_p h2
      refine ⟨a, rfl, .inr ⟨⟨vs, SqT.of (frz_le _ _ _ _ _ h1)⟩, k _ _ H1 q2 e1 trivial ⟨⟨_, _, (show Walk (Itt X.K a) ds.length _ _ by
        rw [Paired.len h2]
        exact walk_tup), fun B' μ' ρ' H' l _ => SqT.of (frz_le _ _ _ _ _ (l.fro _ _ h1)), fun i B' μ' ρ' H' x H2 hi l _ y => ?_⟩⟩⟩⟩
      obtain ⟨rfl, y⟩ := y
      obtain ⟨w, h7, h8⟩ := Paired.at h2 (List.getElem?_eq_getElem hi)
      rw [y] at h7
      cases h7
      exact ⟨Same.refl _, _, List.getElem?_eq_getElem hi, h8.mono l.fro l.pre⟩
/-- range -/
def iR1 (p : DP) : DI := fun env μ Q => p env μ fun d => ∃ n : Int, d = .t (.int n) ∧ -(2 ^ 62) ≤ n ∧ n < 2 ^ 62 ∧ Q ⟨(List.range n.toNat).map fun (i : Nat) => D.t (.int i), fun _ => True⟩
theorem wk_range {K : PySem.W.Frag} {G : Hp} {ρ0 ρ : List Addr} {F : Hp} (lo : Int) (n : Nat) : Wk K G ρ0 ρ F (Itr lo n) ⟨(List.range n).map fun (i : Nat) => D.t (.int (lo + i)), fun _ => True⟩ :=
  ⟨⟨_, _, (show Walk (Itr lo n) ((List.range n).map fun (i : Nat) => D.t (.int (lo + i))).length _ _ by
    rw [List.length_map, List.length_range]
    exact walk_range), fun _ _ _ _ _ _ => trivial, fun i B' μ' ρ' H' x H2 hi l _ y => by
    obtain ⟨rfl, rfl⟩ := y
    have hi' : i < n := by
      have : i < ((List.range n).map fun (i : Nat) => D.t (.int (lo + i))).length := hi
      rw [List.length_map, List.length_range] at this
      exact this
    refine ⟨Same.refl _, .t (.int (lo + i)), ?_, rfl⟩
    show ((List.range n).map fun (i : Nat) => D.t (.int (lo + i)))[i]? = _
    rw [List.getElem?_map, List.getElem?_range hi']
    rfl⟩⟩
theorem ix_range1 {a : Expr} {p0 : Pos} (hg : Gl X "range") (hm : X.mg "range" = none) (h : EX X a p) (hs : starEach [a] X.env = (false, eval a X.env) :: starEach [] X.env := by rfl) (hs2 : starEach [a] X.env = [(false, eval a X.env)] := by rfl) : IX X tg (.Call (.Name "range" p0) [a] [] pos) (iR1 p) :=
  PI.imp (pi_range1 hg hm (ax_cons h ax_nil hs) hs2) fun σ H R ⟨G, B, ρ0, env, μ, ρ, Q, s, q1, k⟩ => by
    refine ⟨G, B, ρ0, env, μ, ρ, fun ds => one ds fun d => ∃ n : Int, d = .t (.int n) ∧ -(2 ^ 62) ≤ n ∧ n < 2 ^ 62 ∧ Q ⟨(List.range n.toNat).map fun (i : Nat) => D.t (.int i), fun _ => True⟩, s, ?_, fun ds vs H1 q0 e1 r => ?_⟩
    · exact q1
    · obtain ⟨d, rfl, n, rfl, h1, h2, q2⟩ := one_of q0
      cases r with
      | cons r rr =>
        cases rr
        refine ⟨n, by rw [show _ = V.int n from r], h1, h2, k _ _ H1 q2 e1 trivial ?_⟩
        have w := wk_range (K := X.K) (G := G) (ρ0 := ρ0) (ρ := ρ) (F := frz B H1 ρ) 0 n.toNat
        simpa using w
/-- enumerate of a list -/
def enumD (xs : List T) : List D := xs.zipIdx.map fun z => D.t (.tup [.int z.2, z.1])
theorem enumD_length (xs : List T) : (enumD xs).length = xs.length := by simp [enumD]
theorem enumD_at {xs : List T} {i : Nat} {x : T} (h : xs[i]? = some x) : (enumD xs)[i]? = some (.t (.tup [.int i, x])) := by simp [enumD, h]
def iEn (p : DP) : DI := fun env μ Q => p env μ fun d => srcL μ d fun xs kp => Q ⟨enumD xs, kp⟩
theorem ix_enum {elts : List Expr} {kk : Nat} {tpos p0 : Pos} (hg : Gl X "enumerate") (hm : X.mg "enumerate" = none) (h : EX X e p) (hs : starEach [e] X.env = (false, eval e X.env) :: starEach [] X.env := by rfl) (hs2 : starEach [e] X.env = [(false, eval e X.env)] := by rfl) :
    IX X (.Tuple elts kk tpos) (.Call (.Name "enumerate" p0) [e] [] pos) (iEn p) :=
  PI.imp (pi_enum hg hm (ax_cons h ax_nil hs) hs2) fun σ H R ⟨G, B, ρ0, env, μ, ρ, Q, s, q1, k⟩ => by
    refine ⟨G, B, ρ0, env, μ, ρ, fun ds => one ds fun d => srcL μ d fun xs kp => Q ⟨enumD xs, kp⟩, s, ?_, fun ds vs H1 q0 e1 r => ?_⟩
    · exact q1
    · obtain ⟨d, rfl, q2⟩ := one_of q0
      cases r with
      | cons r rr =>
        cases rr
        obtain ⟨xs, kp, a, q3, rfl, kk', lat⟩ := src_ok (s.mono e1).sh r q2
        obtain ⟨vs, hq, hr⟩ := lat B μ ρ H1 (later_refl (s.mono e1).sh) kk'
        refine ⟨a, vs, rfl, hq, k _ _ H1 q3 e1 kk' ⟨⟨_, _, walk_enumV, fun B' μ' ρ' H' l kp => ?_, fun i B' μ' ρ' H' x H2 hi l kp y => ?_⟩⟩⟩
        · obtain ⟨ws, h5, h6⟩ := lat B' μ' ρ' H' l kp
          exact ⟨ws, h5, by rw [enumD_length]; exact h6.length.symm⟩
        · obtain ⟨T', x', rfl, hT, rfl, y⟩ := y
          have hi' : i < xs.length := by rw [← enumD_length]; exact hi
          obtain ⟨ws, h5, h6⟩ := lat B' μ' ρ' H' l kp
          obtain ⟨z, w, h7, h8, h9⟩ := rps_item h6 hi'
          have := (y ws h5).symm.trans h8
          cases this
          have n := l.sh.new (o := .tup [.int (i : Nat), x']) hT
          exact ⟨n.1, _, enumD_at h7, T', _, rfl, n.2, _, _, rfl, rfl, _, _, rfl, Rp.mono (frz_mono n.1) h9, rfl⟩
/-- zip of two lists, or of two tuples -/
def zipD (xs ys : List T) : List D := List.zipWith (fun x y => D.t (.tup [x, y])) xs ys
theorem zipD_at {xs ys : List T} {i : Nat} {x y : T} (h : xs[i]? = some x) (h' : ys[i]? = some y) : (zipD xs ys)[i]? = some (.t (.tup [x, y])) := by simp [zipD, List.getElem?_zipWith, h, h']
end
/-! ### for -/
def forD (kp : Store → Prop) (g : DG) (b : DS) (P : Post) : List D → DEnv → Store → Prop
  | [], env, μ => kp μ ∧ P.nx env μ
  | d :: r, env, μ => kp μ ∧ g d env fun env' => b env' μ { P with nx := forD kp g b P r, ct := forD kp g b P r, bk := P.nx }
def sFor (it : DI) (g : DG) (b : DS) : DS := fun env μ P => it env μ fun j => forD j.keep g b P j.items env μ
theorem forD_drop {kp : Store → Prop} {g : DG} {b : DS} {P : Post} {l : List D} {i : Nat} {d : D} {env : DEnv} {μ : Store} (h : l[i]? = some d) : forD kp g b P (l.drop i) env μ = forD kp g b P (d :: l.drop (i + 1)) env μ := by
  obtain ⟨hi, e⟩ := List.getElem?_eq_some_iff.mp h
  rw [List.drop_eq_getElem_cons hi, e]
section
variable {X : Cx} {tg iter : Expr} {body : List Stmt} {it : DI} {g : DG} {b : DS} {ts : List Nat} {pos : Pos}
theorem sx_for (hp : PassesOwn (model X.prog X.w) X.A X.env X.xe) (hc : X.calm = true) (hi : IX X tg iter it) (hg : GX X tg ts g) (hb : SsX X body b) (hs : ∀ x, foldedSetIterable iter X.env x = pure x := by intro _; rfl) : SX X (.For tg iter body [] pos) (sFor it g b) :=
  PS.imp (ps_for hp hc hi hg hb hs) fun E σ H ⟨G, B, ρ0, env, μ, ρ, P, s, q, k⟩ => by
    refine ⟨G, B, ρ0, env, μ, ρ, _, s, q, fun j J H1 q1 e1 k1 w => ?_⟩
    obtain ⟨Gd, Y, wk, hG, hY⟩ := w.ex
    have s1 := s.mono e1
    have k2 := k.on (List.prefix_refl ρ) (frz_mono (B := B) (ρ := ρ) e1)
    refine for_it wk (fun i σ' H' => ∃ env' μ' ρ', SR X.K G B ρ0 env' μ' ρ' σ' H' ∧ Later X.K G B ρ0 ρ (frz B H1 ρ) μ' ρ' H' ∧ forD j.keep g b P (j.items.drop i) env' μ') ⟨env, μ, ρ, s1, later_refl s1.sh, q1⟩ ?_ ?_ ?_
    · rintro i σ' H' hi' ⟨env', μ', ρ', s', l', f'⟩
      refine hG B μ' ρ' H' l' ?_
      cases hd : j.items.drop i with
      | nil =>
        rw [hd] at f'
        exact f'.1
      | cons d r =>
        rw [hd] at f'
        exact f'.1
    · rintro i x σ' H' H2 hi' ⟨env', μ', ρ', s', l', f'⟩ y
      have hd := List.getElem?_eq_getElem hi'
      rw [forD_drop hd] at f'
      obtain ⟨kp, f'⟩ := f'
      obtain ⟨e2, d, hd', r⟩ := hY i B μ' ρ' H' x H2 hi' l' kp y
      rw [hd] at hd'
      cases hd'
      refine ⟨G, B, ρ0, env', μ', ρ', _, _, s'.mono e2, r, f', fun env2 σ2 q2 s2 _ _ => ?_⟩
      have l2 : Same (frz B H1 ρ) (frz B H2 ρ') := l'.fro.trans (frz_mono e2)
      have again : Nx X.K G B ρ0 ρ' (frz B H2 ρ') (forD j.keep g b P (j.items.drop (i + 1))) (fun σ' H' => ∃ env' μ' ρ', SR X.K G B ρ0 env' μ' ρ' σ' H' ∧ Later X.K G B ρ0 ρ (frz B H1 ρ) μ' ρ' H' ∧ forD j.keep g b P (j.items.drop (i + 1)) env' μ') := by
        intro env3 μ3 ρ3 σ3 H3 f3 s3 p3 e3
        exact ⟨env3, μ3, ρ3, s3, ⟨s3.sh, l'.pre.trans p3, l2.trans e3⟩, f3⟩
      exact ⟨G, B, ρ0, env2, μ', ρ', _, s2, q2, again, fun d v μ3 ρ3 H3 h3 s3 p3 e3 r3 => k2.rt d v μ3 ρ3 H3 h3 s3 (l'.pre.trans p3) (l2.trans e3) r3, k2.nx.on l'.pre l2, again, k2.xc.on l'.pre l2⟩
    · rintro σ' H' ⟨env', μ', ρ', s', l', f'⟩
      rw [List.drop_length] at f'
      exact k2.nx env' μ' ρ' σ' H' f'.2 s' l'.pre l'.fro
end
/-! ### comprehensions -/
def wipeE (env : DEnv) : List Nat → DEnv
  | [] => env
  | v :: vs => (wipeE env vs).set v none
theorem SR.wipe {K : PySem.W.Frag} {G B H : Hp} {ρ0 ρ : List Addr} {env : DEnv} {μ : Store} {σ : L2.St} (s : SR K G B ρ0 env μ ρ σ H) : ∀ vs : List Nat, SR K G B ρ0 (wipeE env vs) μ ρ (L2.wipe σ vs) H
  | [] => s
  | v :: vs => by
    have ih := SR.wipe s vs
    refine ⟨ih.sh, by show ((L2.wipe σ vs).set v none).length = ((wipeE env vs).set v none).length; rw [List.length_set, List.length_set]; exact ih.slen, fun j d h => ?_⟩
    have h : ((wipeE env vs).set v none)[j]? = some (some d) := h
    show ∃ w, ((L2.wipe σ vs).set v none)[j]? = some (some w) ∧ _
    by_cases hj : v = j
    · subst hj
      by_cases hl : v < (wipeE env vs).length
      · rw [List.getElem?_set_self hl] at h
        cases h
      · rw [List.getElem?_eq_none (by rw [List.length_set]; omega)] at h
        cases h
    · rw [List.getElem?_set_ne hj] at h
      obtain ⟨w, h1, h2⟩ := ih.slot j d h
      exact ⟨w, by rw [List.getElem?_set_ne hj]; exact h1, h2⟩
theorem wipe_in {σ : L2.St} {i : Nat} : ∀ {vs : List Nat}, i ∈ vs → i < σ.length → (L2.wipe σ vs)[i]? = some none
  | v :: vs, h, hl => by
    show ((L2.wipe σ vs).set v none)[i]? = some none
    by_cases hv : v = i
    · subst hv
      rw [List.getElem?_set_self (by rw [wipe_length]; exact hl)]
    · rw [List.getElem?_set_ne hv]
      rcases List.mem_cons.mp h with e | h
      · exact absurd e.symm hv
      · exact wipe_in h hl
theorem wipe_eq {σ σ2 : L2.St} {vs ts : List Nat} (hl : σ2.length = σ.length) (ht : ∀ j ∈ ts, j ∈ vs) (h : ∀ j, j ∉ ts → σ2[j]? = (L2.wipe σ vs)[j]?) : L2.wipe σ2 vs = L2.wipe σ vs := by
  apply List.ext_getElem?
  intro i
  by_cases hi : i ∈ vs
  · by_cases hlt : i < σ.length
    · rw [wipe_in hi (by rw [hl]; exact hlt), wipe_in hi hlt]
    · rw [List.getElem?_eq_none (by rw [wipe_length]; omega), List.getElem?_eq_none (by rw [wipe_length]; omega)]
  · rw [wipe_out hi, h i fun z => hi (ht i z)]
/-- the items that stay, from the left -/
def lcD (g : DG) (t : DT) (e : DP) (env : DEnv) (μ : Store) : List D → (List T → Prop) → Prop
  | [], Q => Q []
  | d :: r, Q => g d env fun env' => t env' μ fun b => if b = true then e env' μ fun y => ∃ x, y = .t x ∧ lcD g t e env μ r fun xs => Q (x :: xs) else lcD g t e env μ r Q
def fLc (it : DI) (g : DG) (t : DT) (e : DP) (vs : List Nat) : DF := fun env μ Q => it env μ fun j => j.items.length ≤ sizeLine ∧ lcD g t e (wipeE env vs) μ j.items Q
def tYesD : DT := fun _ _ Q => Q true
def TsX (X : Cx) (ifs : List Expr) (p : DT) : Prop := PTs X ifs (ttOf X.K p)
theorem PTs.imp {X : Cx} {e : List Expr} {t t' : TT} (h : PTs X e t) (k : ∀ σ H Q, t' σ H Q → t σ H Q) : PTs X e t' := ⟨fun pins s σ H Q I q => h.run pins s σ H Q I (k σ H Q q)⟩
theorem tsx_nil {X : Cx} : TsX X [] tYesD := PTs.imp pts_nil fun σ H R ⟨G, B, ρ0, env, μ, ρ, Q, s, q, k⟩ => k true H q (Same.refl H)
theorem tsx_one {X : Cx} {c : Expr} {t : DT} (h : TX X c t) : TsX X [c] t := pts_one h
section
variable {X : Cx} {elt tg iter : Expr} {ifs : List Expr} {scope : Scope} {own : List (Str × Nat)} {pos : Pos} {it : DI} {g : DG} {t : DT} {e : DP} {ts : List Nat}
theorem frz_hide {B H : Hp} {ρ : List Addr} {a : Addr} {o : HO} (hn : isT (some o) = false) : Same (frz (upd B a o) H ρ) (frz B H (ρ ++ [a])) := fun b x h => by
  by_cases hb : b = a
  · subst hb
    unfold frz at h
    split at h
    · cases h
    · rw [upd_same, hn] at h
      cases h
  · unfold frz at h ⊢
    split at h
    · cases h
    · rename_i hm
      rw [if_neg (by simp only [List.mem_append, List.mem_singleton, not_or]; exact ⟨hm, hb⟩)]
      rw [upd_ne hb] at h
      exact h
theorem hide_frz {B H : Hp} {ρ : List Addr} {a : Addr} {o : HO} : Same (frz B H (ρ ++ [a])) (frz (upd B a o) H ρ) := fun b x h => by
  have hb : b ∉ ρ ++ [a] := fun z => by
    unfold frz at h
    rw [if_pos z] at h
    cases h
  have h1 : b ∉ ρ := fun z => hb (List.mem_append_left _ z)
  have h2 : b ≠ a := fun z => hb (by simp [z])
  unfold frz at h ⊢
  rw [if_neg hb] at h
  rw [if_neg h1, upd_ne h2]
  exact h
/-- a fresh list under making is hidden -/
theorem SR.hide {K : PySem.W.Frag} {G B H H' : Hp} {ρ0 ρ : List Addr} {env : DEnv} {μ : Store} {σ : L2.St} {a : Addr} {vs : List V} (s : SR K G B ρ0 env μ ρ σ H) (e : Same H H') (n : H a = none) (h : H' a = some (.lst vs)) : SR K G (L2.upd B a (.lst vs)) ρ0 env μ ρ σ H' := by
  have hb := s.sh.freshB n
  have ha := s.sh.fresh n
  have sm : Same (frz B H ρ) (frz (L2.upd B a (.lst vs)) H' ρ) := (frz_app e n).trans hide_frz
  refine ⟨⟨fun b x q => ?_, s.sh.sameG.trans e, fun b hb' => ?_, s.sh.outG, s.sh.nd, s.sh.pre, s.sh.len, fun i o b h1 h2 => (s.sh.sto i o b h1 h2).mono sm (List.prefix_refl _) (s.sh.keep e (List.mem_of_getElem? h2))⟩, s.slen, fun i d q => let ⟨v, h1, h2⟩ := s.slot i d q; ⟨v, h1, h2.mono sm (List.prefix_refl _)⟩⟩
  · by_cases hba : b = a
    · subst hba
      rw [upd_same] at q
      cases q
      exact h
    · rw [upd_ne hba] at q
      exact e _ _ (s.sh.same _ _ q)
  · rw [upd_ne (fun z => ha (by rw [← z]; exact hb'))]
    exact s.sh.out b hb'
theorem lc_read {σ : L2.St} {H : Hp} {R : VK} (hts : ∀ j ∈ ts, j ∈ own.map (·.2)) (h : tfOf X.K (fLc it g t e (own.map (·.2))) σ H R) : tLc (tiOf X.K it) (tgOf X.K ts g) (ttOf X.K t) (tOf X.K e) (own.map (·.2)) σ H R := by
  obtain ⟨G, B, ρ0, env, μ, ρ, Q, s, q, k⟩ := h
  refine ⟨G, B, ρ0, env, μ, ρ, _, s, q, fun j J H1 q1 e1 k1 w Da hD => ?_⟩
  obtain ⟨hz, q1⟩ := q1
  obtain ⟨Gd, Y, wk, hG, hY⟩ := w.ex
  have s1 := s.mono e1
  have hDr := s1.sh.fresh hD
  refine lc_it wk (fun i H' => ∃ acc vs, H' Da = some (.lst vs) ∧ vs.length ≤ i ∧ Same H1 H' ∧ Rps X.K G (frz B H' (ρ ++ [Da])) acc vs ∧
    lcD g t e (wipeE env (own.map (·.2))) μ (j.items.drop i) fun xs => Q (acc ++ xs)) ⟨[], [], upd_same, Nat.le_refl _, same_new hD, rfl, q1⟩ ?_ ?_ ?_
  · rintro i H' hi ⟨acc, vs, h1, h2, h3, h4, h5⟩
    have sm := s1.mono h3
    exact hG B μ ρ H' ⟨sm.sh, List.prefix_refl _, frz_mono h3⟩ k1
  · rintro i x H' H2 hi ⟨acc, vs, h1, h2, h3, h4, h5⟩ y
    have sB : SR X.K G (L2.upd B Da (.lst vs)) ρ0 env μ ρ σ H' := s1.hide h3 hD h1
    have fB : Same (frz B H1 ρ) (frz (L2.upd B Da (.lst vs)) H' ρ) := (frz_app h3 hD).trans hide_frz
    obtain ⟨e2, d, hd', r⟩ := hY i _ μ ρ H' x H2 hi ⟨sB.sh, List.prefix_refl _, fB⟩ k1 y
    have hd : j.items.drop i = d :: j.items.drop (i + 1) := by
      rw [List.drop_eq_getElem_cons hi, (List.getElem?_eq_some_iff.mp hd').2]
    rw [hd] at h5
    have h6 : g d (wipeE env (own.map (·.2))) (fun env' => t env' μ fun b => if b = true then e env' μ fun y => ∃ x, y = .t x ∧ lcD g t e (wipeE env (own.map (·.2))) μ (j.items.drop (i + 1)) (fun xs => Q (acc ++ x :: xs)) else lcD g t e (wipeE env (own.map (·.2))) μ (j.items.drop (i + 1)) (fun xs => Q (acc ++ xs))) := h5
    refine ⟨G, L2.upd B Da (.lst vs), ρ0, wipeE env (own.map (·.2)), μ, ρ, d, _, (sB.mono e2).wipe _, r, h6, fun env2 σ2 q2 s2 n2 l2 => ⟨wipe_eq (by rw [l2, wipe_length]) hts n2, ?_⟩⟩
    refine ⟨G, L2.upd B Da (.lst vs), ρ0, env2, μ, ρ, _, s2, q2, fun b H3 q3 e3 => ?_⟩
    cases b with
    | false =>
      exact ⟨acc, vs, e3 _ _ (e2 _ _ h1), by omega, (h3.trans e2).trans e3, h4.mono ((frz_mono e2).trans (frz_mono e3)), q3⟩
    | true =>
      refine ⟨G, L2.upd B Da (.lst vs), ρ0, env2, μ, ρ, _, s2.mono e3, q3, fun y v H4 q4 e4 r4 => ?_⟩
      obtain ⟨z, rfl, q4⟩ := q4
      have hD4 : H4 Da = some (.lst vs) := e4 _ _ (e3 _ _ (e2 _ _ h1))
      have nin : Da ∈ ρ ++ [Da] := by simp
      refine ⟨vs, hD4, by omega, acc ++ [z], vs ++ [v], upd_same, by rw [List.length_append, List.length_singleton]; omega, ?_, ?_, ?_⟩
      · intro b o hb
        rw [upd_ne (ne_of_none hb hD)]
        exact e4 _ _ (e3 _ _ (e2 _ _ (h3 _ _ hb)))
      · rw [frz_upd nin]
        exact (h4.mono (((frz_mono e2).trans (frz_mono e3)).trans (frz_mono e4))).append ⟨v, [], rfl, Rp.mono (frz_hide (o := .lst vs) rfl) r4, rfl⟩
      · have e : (fun xs => Q (acc ++ [z] ++ xs)) = fun xs => Q (acc ++ z :: xs) := by
          funext xs
          rw [List.append_assoc]
          rfl
        rw [e]
        exact q4
  · rintro H' ⟨acc, vs, h1, h2, h3, h4, h5⟩
    rw [List.drop_length] at h5
    have h5 : Q (acc ++ []) := h5
    rw [List.append_nil] at h5
    exact k acc Da vs H' h5 (e1.trans h3) (e1.free hD) h1 h4
end
end Gw
/-! Gw, part Gu: the contract of a def with the word that no text of a thing is being made above it (repr wants that). The names shadow those of L2. -/
namespace Gw
open PySem PySem.Spec PyProof.Rows L2
structure Room (j : Nat) (B : Around) : Prop where
  ro : L2.Room j B
  gd : B.guards = some []
section
variable {i j : Nat} {B : Around}
theorem Room.mono (z : Room j B) (le : i ≤ j) : Room i B := ⟨z.ro.mono le, z.gd⟩
theorem Room.deeper (z : Room (j + 1) B) (e : Env) : Room j (B.deeper e) := ⟨z.ro.deeper e, z.gd⟩
theorem guards_make {C : Addr} {uu : List Value} : (B.under (.builtin "type.__call__" ⟨.ref C :: uu, []⟩)).guards = B.guards := by
  cases hg : B.guards <;> simp [Around.under, Code.guards, Code.isGuard, guardIds, pushGuards, hg]
theorem Room.make (z : Room (j + 1) B) (C : Addr) (uu : List Value) : Room j (B.under (.builtin "type.__call__" ⟨.ref C :: uu, []⟩)) := ⟨z.ro.make C uu [], guards_make.trans z.gd⟩
theorem Room.units (z : Room j B) : B.units + 64 < cLine := z.ro.units
theorem hu_of (z : Room j B) : B.units + 1 < cLine := L2.hu_of z.ro
end
section
variable (P : Program) (w : World) (K : PySem.W.Frag) (mg : Str → Option Value) (base : Heap) (CX : CXT)
structure FnOk (k : Nat) (f : Addr) (fd : FuncData) (ps : List Str) (sp : Sp) : Prop where
  len : ∀ xs G R Z, sp xs G R Z → xs.length = ps.length
  run : ∀ (B : Around) (out : List Env) (t : Shared) (G : Hp) (ag : Args) (uu : List Value) (xs : List V) (R : VK) (Z : XK), Room k B → Env0 P w K mg base B out t G → BindsTo t fd ag (ps.zip uu) → Vals xs uu → sp xs G R Z →
    codeAny (model P w) B (.call (.ref f) ag) (CR CX out P w G t R Z) t
end
section
variable {P : Program} {w : World} {K : PySem.W.Frag} {mg : Str → Option Value} {base : Heap} {CX : CXT}
theorem FnOk.mono {i j : Nat} {f : Addr} {fd : FuncData} {ps : List Str} {sp : Sp} (F : FnOk P w K mg base CX i f fd ps sp) (le : i ≤ j) : FnOk P w K mg base CX j f fd ps sp :=
  ⟨F.len, fun B out t G ag uu xs R Z z => F.run B out t G ag uu xs R Z (z.mono le)⟩
end
section
variable {X : Cx} {CX : CXT} {k : Nat} {f C : Addr} {fd : FuncData} {ps : List Str} {sp : Sp} {dvs : List V} {ds : List Value} {E : XK} {x m : Str} {p pos : Pos} {e : Expr} {es : List Expr} {t : TA}
theorem fn_out {pins : List (Addr × Obj)} {σ : L2.St} {G : Hp} {u : Shared} {R : VK} {Z : XK} {ag : List Value} {uu : List Value} {xs : List V} (F : FnOk X.prog X.w X.K X.mg X.base CX k f fd ps sp) (z : Room k X.A) (bd : BindsTo u fd ⟨ag, []⟩ (ps.zip uu))
    (pass : ∀ v u', CX X.stack G u Z v u' → X.xe v u') (I : Inv X pins σ G u) (r : Vals xs uu) (h : sp xs G R Z) : wpAny (model X.prog X.w) X.A (call (.ref f) ag) (EP X pins σ R) X.xe u := by
  refine wpAny_call (codeAny_mono (F.run _ _ u G ⟨ag, []⟩ uu xs R Z z I.env0 bd r h) ?_)
  intro o u' q
  match o, q with
  | .error v, q => exact pass v u' q
  | .ok (.ret v), q => exact I.after q
/-- the def runs -/
theorem run_fn {pins : List (Addr × Obj)} {σ : L2.St} {G : Hp} {u : Shared} {R : VK} {uu : List Value} {xs : List V} (F : FnOk X.prog X.w X.K X.mg X.base CX k f fd ps sp) (z : Room k X.A) (bd : Binds X.K fd ps ds) (dd : Vals dvs ds) (pass : Passes CX X E)
    (I : Inv X pins σ G u) (r : Vals xs uu) (h : sp (xs ++ dvs) G R E) : wpAny (model X.prog X.w) X.A (call (.ref f) uu) (EP X pins σ R) X.xe u :=
  fn_out F z (bd u uu I.kIn ((r.append dd).length.symm.trans (F.len _ _ _ _ h))) (fun v u' q => pass pins σ G u v u' I q) I (r.append dd) h
/-! by name -/
theorem pe_call (F : FnOk X.prog X.w X.K X.mg X.base CX k f fd ps sp) (z : Room k X.A) (gl : Gl X x) (at_ : X.mg x = some (.ref f)) (kp : PySem.W.keepIn X.K (.ref f) = true) (bd : Binds X.K fd ps ds) (dd : Vals dvs ds) (pass : Passes CX X E)
    (ha : PA X (e :: es) t) (nd : (x == ("__debug__" : Str)) = false := by decide) (st : starEach (e :: es) X.env = (false, eval e X.env) :: starEach es X.env := by rfl) (pl : (backTo pos (starEach es X.env)).any (·.1) = false := by rfl) :
    PE X (.Call (.Name x p) (e :: es) [] pos) (tCall sp dvs E t) :=
  ⟨fun pins u σ G R I h => wpAny_Call_Name_kw (ld_glob I gl at_ (PySem.W.callWith_K (h₀ := X.base) I.ok.mod.kin kp (thn (ha.run pos pins u σ G _ I h) fun _ _ ⟨_, _, I', r, q⟩ => ⟨I'.kIn, run_fn F z bd dd pass I' r q⟩) st pl) nd)⟩
/-! a new object -/
theorem run_make {pins : List (Addr × Obj)} {σ : L2.St} {G : Hp} {u : Shared} {R : VK} {uu : List Value} {xs : List V} (M : Mk X.K C f) (F : FnOk X.prog X.w X.K X.mg X.base CX k f fd ps sp) (z : Room (k + 1) X.A) (bd : Binds X.K fd ps ds) (dd : Vals dvs ds)
    (pass : Passes CX X E) (I : Inv X pins σ G u) (r : Vals xs uu)
    (h : ∀ a b, G a = none → G b = none → b ≠ a → sp (.ref a :: (xs ++ dvs)) (upd (upd G b (.own a)) a (.ins C b [])) (fun v G' => v = .non ∧ R (.ref a) G') E) :
    wpAny (model X.prog X.w) X.A (call (.ref C) uu) (EP X pins σ R) X.xe u := by
  let n := u.heap.objs.size
  have q := h (n + 1) n (I.hok.fresh (Nat.le_succ n)) (I.hok.fresh (Nat.le_refl n)) (Nat.ne_of_lt (Nat.lt_succ_self n))
  have J := Inv.made (C := C) I
  have rr : Vals (V.ref (n + 1) :: (xs ++ dvs)) (Value.ref (n + 1) :: (uu ++ ds)) := .cons rfl (r.append dd)
  have b := bd _ (Value.ref (n + 1) :: uu) J.kIn (show (Value.ref (n + 1) :: (uu ++ ds)).length = _ from rr.length.symm.trans (F.len _ _ _ _ q))
  refine wpAny_call (make_map (f := f) I.kIn M.makes M.init (beq_iff_eq.mp M.fn) (codeAny_mono (F.run _ _ _ _ _ _ _ _ E (z.make C uu) (J.env0.make C uu []) b rr q) ?_))
  intro o u' y
  match o, y with
  | .error v, y => exact pass pins σ _ _ v u' J y
  | .ok (.ret v), y =>
    obtain ⟨w', G', I3, rv, ⟨e1, q3⟩⟩ := J.after y
    subst e1
    exact ⟨rv, V.ref (n + 1), G', I3, rfl, q3⟩
theorem pe_make (M : Mk X.K C f) (F : FnOk X.prog X.w X.K X.mg X.base CX k f fd ps sp) (z : Room (k + 1) X.A) (gl : Gl X x) (at_ : X.mg x = some (.ref C)) (bd : Binds X.K fd ps ds) (dd : Vals dvs ds) (pass : Passes CX X E)
    (ha : PA X (e :: es) t) (nd : (x == ("__debug__" : Str)) = false := by decide) (st : starEach (e :: es) X.env = (false, eval e X.env) :: starEach es X.env := by rfl) (pl : (backTo pos (starEach es X.env)).any (·.1) = false := by rfl) :
    PE X (.Call (.Name x p) (e :: es) [] pos) (tMake C sp dvs E t) :=
  ⟨fun pins u σ G R I h => wpAny_Call_Name_kw (ld_glob I gl at_ (PySem.W.callWith_K (h₀ := X.base) I.ok.mod.kin M.kp (thn (ha.run pos pins u σ G _ I h) fun _ _ ⟨_, _, I', r, q⟩ => ⟨I'.kIn, run_make M F z bd dd pass I' r q⟩) st pl) nd)⟩
theorem pe_make0 (M : Mk X.K C f) (F : FnOk X.prog X.w X.K X.mg X.base CX k f fd ps sp) (z : Room (k + 1) X.A) (gl : Gl X x) (at_ : X.mg x = some (.ref C)) (bd : Binds X.K fd ps ds) (dd : Vals dvs ds) (pass : Passes CX X E)
    (nd : (x == ("__debug__" : Str)) = false := by decide) : PE X (.Call (.Name x p) [] [] pos) (tMake C sp dvs E tNil) :=
  ⟨fun pins u σ G R I h => wpAny_Call_Name_kw (ld_glob I gl at_ (PySem.W.callWith_K0 I.kIn M.kp (run_make (uu := []) M F z bd dd pass I .nil h)) nd)⟩
end
/-! a def by its body -/
section
variable {CX : CXT} {P : Program} {w : World} {K : PySem.W.Frag} {mg : Str → Option Value} {base : Heap}
theorem fun_okX {x qual : Str} {st : Stmt} {f : Addr} {fd : FuncData} {N ps : List Str} {j : Nat} {sp : Sp} (D : Fun K x qual st f fd) (S : FnScope N ps (defScope st)) (len : ∀ xs G R Z, sp xs G R Z → xs.length = ps.length)
    (hb : ∀ (cv : Value) (B : Around) (out : List Env) (u : Shared) (G : Hp) (xs : List V) (R : VK) (Z : XK), Room j (B.deeper (envOfC qual (defScope st) u.heap.objs.size f cv)) → sp xs G R Z →
      ∃ t, PSs (cxOf CX P w K mg base N qual (defScope st) f cv B out u G Z) (defBody st) t ∧ t { nx := fun _ G' => R .non G', rt := R } (start N xs) G) : FnOk P w K mg base CX (j + 1) f fd ps sp := by
  obtain ⟨oc, od, kV, doc, pm, an, cv, ct, osl, rfl, lk, cd⟩ := D.ex
  constructor
  · exact len
  intro B out u G ag uu xs R Z z e0 bd r h
  have up : K.In u.heap := e0.mod.kin.keeps fun a o q => (e0.bs a o q).1
  have lm : u.heap.NoLimit := e0.mod.nolimit.keeps fun a o q => (e0.bs a o q).1
  refine codeAny_call_function z.ro.depth (up _ _ lk) rfl S.co S.gen rfl (PySem.W.codeRec_of up cd) (bd _ _ _ _ ?_)
  refine wpAny_newFunctionEnv_cells S.kind (fun y hy => (S.par y.1 (List.of_mem_zip (show (y.1, y.2) ∈ _ from hy)).1).imp id fun q => ⟨q, PySem.W.cellsFrom_some _ _ _ (.inl q)⟩) ?_
  intro env he u1 c
  subst he
  refine ⟨lm.keeps c.toInCall.keep, codeAny_func ?_⟩
  obtain ⟨t, ps_, q⟩ := hb cv B out u G xs R Z (z.deeper _) h
  have I : Inv (cxOf CX P w K mg base N qual (defScope st) f cv B out u G Z) [] (start N xs) G u1 := inv_start S z.ro.hd e0 (len _ _ _ _ h) r c
  refine wpAny_mono (ps_.run [] u1 (start N xs) G _ I q) ?_ fun _ _ y => y
  intro fl u2 y
  have en : ∀ {σ : L2.St} {G' : Hp} {v : V} {v' : Value}, Inv (cxOf CX P w K mg base N qual (defScope st) f cv B out u G Z) [] σ G' u2 → RelV v v' → R v G' → CE out P w G u R v' u2 := fun J rv q => ⟨_, _, J.os, J.bare, J.base, J.hok, rv, q⟩
  match fl, y with
  | .ret _, ⟨_, _, _, J, rv, q⟩ => exact en J rv q
  | .next, ⟨_, _, J, q⟩ => exact en (v := V.non) J rfl q
  | .brk, ⟨_, _, _, q⟩ => exact q.elim
  | .cont, ⟨_, _, _, q⟩ => exact q.elim
theorem fun_ok {x qual : Str} {st : Stmt} {f : Addr} {fd : FuncData} {N ps : List Str} {j : Nat} {sp : Sp} (D : Fun K x qual st f fd) (S : FnScope N ps (defScope st)) (len : ∀ xs G R Z, sp xs G R Z → xs.length = ps.length)
    (hb : ∀ (cv : Value) (B : Around) (out : List Env) (u : Shared) (G : Hp) (xs : List V) (R : VK) (Z : XK), Room j (B.deeper (envOfC qual (defScope st) u.heap.objs.size f cv)) → sp xs G R Z →
      ∃ t, PSs (cxOf CX0 P w K mg base N qual (defScope st) f cv B out u G Z).nox (defBody st) t ∧ t { nx := fun _ G' => R .non G', rt := R } (start N xs) G) : FnOk P w K mg base CX0 (j + 1) f fd ps sp :=
  fun_okX D S len fun cv B out u G xs R Z z h => let ⟨t, a, b⟩ := hb cv B out u G xs R Z z h; ⟨t, a.nox, b⟩
/-! the end of a law -/
def Good (t t' : Shared) (r : Result) : Prop := r = .ok (.ret (.bool true)) ∧ OldK t.heap t'.heap ∧ t'.os = t.os ∧ AllBare t'.gens
/-- what the law starts from: nothing is tracked but at most the script, which is no dict and no object of the module's -/
structure Begin (K : PySem.W.Frag) (P : Program) (w : World) (G : Hp) (a : Addr) (ns : List Int) (t : Shared) : Prop where
  only : Only G
  sq : SqL K G a (ns.map V.int)
  hok : HOk P w G t.heap
  at_ : ∀ b, G b = none ∨ b = a ∧ K.lookup a = none
end
end Gw
/-! Gw, part D: comprehensions as rules, calls of defs, operators and built-ins. -/
namespace Gw
open PySem PySem.Spec PyProof.Rows L2 RZ
section
variable {X : Cx} {elt tg iter : Expr} {ifs : List Expr} {scope : Scope} {own : List (Str × Nat)} {pos : Pos} {it : DI} {g : DG} {t : DT} {e : DP} {ts : List Nat}
theorem ef_lc (own : List (Str × Nat)) (hc : X.calm = true) (hN : X.N.Nodup) (hi : IX X tg iter it) (ok : BlkOk X.N X.env.scope scope own) (hts : ∀ j ∈ ts, j ∈ own.map (·.2))
    (hg : ∀ (s : Shared) (H : Hp) (C : Addr) (cl : List (Str × Addr)) (fp : List Addr), GX (X.blk s H scope (compEnvC scope cl C X.env) fp) tg ts g) (ht : ∀ (s : Shared) (H : Hp) (C : Addr) (cl : List (Str × Addr)) (fp : List Addr), TsX (X.blk s H scope (compEnvC scope cl C X.env) fp) ifs t)
    (he : ∀ (s : Shared) (H : Hp) (C : Addr) (cl : List (Str × Addr)) (fp : List Addr), EX (X.blk s H scope (compEnvC scope cl C X.env) fp) elt e) (hs : ∀ x, foldedSetIterable iter X.env x = pure x := by intro _; rfl) :
    EF X (.ListComp elt [⟨tg, iter, ifs, 0⟩] scope pos) (fLc it g t e (own.map (·.2))) :=
  PE.imp (pe_lc (g := tgOf X.K ts g) (tt := ttOf X.K t) (te := tOf X.K e) hc hN hi ok hg ht he hs) fun σ H R h => lc_read hts h
/-- name = [..] on one line: as a tree, and as an object of the store -/
theorem sx_setLc (i : Nat) (own : List (Str × Nat)) {y : Str} {py spos : Pos} (hc : X.calm = true) (hN : X.N.Nodup) (hy : X.N[i]? = some y) (hyl : X.env.scope.names.lookup y = some .local)
    (hsw : swapsWith (.ListComp elt [⟨tg, iter, ifs, 0⟩] scope pos) (some (.Name y py)) spos.line X.env = pure true) (hi : IX X tg iter it) (ok : BlkOk X.N X.env.scope scope own) (hts : ∀ j ∈ ts, j ∈ own.map (·.2))
    (hg : ∀ (s : Shared) (H : Hp) (C : Addr) (cl : List (Str × Addr)) (fp : List Addr), GX (X.blk s H scope (compEnvC scope cl C X.env) fp) tg ts g) (ht : ∀ (s : Shared) (H : Hp) (C : Addr) (cl : List (Str × Addr)) (fp : List Addr), TsX (X.blk s H scope (compEnvC scope cl C X.env) fp) ifs t)
    (he : ∀ (s : Shared) (H : Hp) (C : Addr) (cl : List (Str × Addr)) (fp : List Addr), EX (X.blk s H scope (compEnvC scope cl C X.env) fp) elt e) (hs : ∀ x, foldedSetIterable iter X.env x = pure x := by intro _; rfl) :
    SX X (.Assign [.Name y py] (.ListComp elt [⟨tg, iter, ifs, 0⟩] scope pos) spos) (sAsg (xP (dF (fLc it g t e (own.map (·.2))))) (gNm i)) :=
  PS.imp (ps_setLc (g := tgOf X.K ts g) (tt := ttOf X.K t) (te := tOf X.K e) hc hN hy hyl hsw hi ok hg ht he hs) fun E σ H ⟨G, B, ρ0, env, μ, ρ, P, s, q, k⟩ => lc_read (R := fun x H1 => E.nx (σ.set i (some x)) H1) hts ⟨G, B, ρ0, env, μ, ρ, _, s, q, fun xs a vs H' q' e n h r =>
    k.nx _ _ _ _ H' q' ((s.mono e).set i (show Rl X.K G (frz B H' ρ) ρ (.t (.lst xs)) (.ref a) from ⟨a, vs, rfl, frz_of h (s.sh.fresh n) (s.sh.freshB n), r.mono frz_app_le⟩)) (List.prefix_refl _) (frz_mono e)⟩
end
/-! ### calls of defs -/
mutual
/-- a tree handed over: its lists are another's now -/
def ro : T → T
  | .lst xs => .ro (ros xs)
  | .tup xs => .tup (ros xs)
  | .pt xs => .pt (ros xs)
  | .ro xs => .ro (ros xs)
  | .emp => .remp | .remp => .remp
  | .non => .non | .bl b => .bl b | .int i => .int i | .str s => .str s
def ros : List T → List T
  | [] => []
  | x :: xs => ro x :: ros xs
/-- no list of another within -/
def nro : T → Bool
  | .lst xs => nros xs
  | .tup xs => nros xs
  | .pt xs => nros xs
  | .ro _ => false
  | .emp => true | .remp => false
  | .non => true | .bl _ => true | .int _ => true | .str _ => true
def nros : List T → Bool
  | [] => true
  | x :: xs => nro x && nros xs
end
theorem ros_map : ∀ xs : List T, ros xs = xs.map ro
  | [] => rfl
  | x :: xs => by rw [ros, ros_map xs]; rfl
theorem nros_all : ∀ xs : List T, nros xs = xs.all nro
  | [] => rfl
  | x :: xs => by rw [nros, nros_all xs]; rfl
section
variable {K : PySem.W.Frag} {G F H : Hp}
theorem frz_tup {a : Addr} {o : HO} (h : H a = some o) (t : isT (some o) = true) : frz H H [] a = some o := by
  unfold frz
  rw [if_neg (by simp), h, t]
  rfl
mutual
theorem ro_rp (g : Same G H) (f : Same F H) : ∀ (x : T) (v : V), Rp K G F x v → Rp K H (frz H H []) (ro x) v
  | .emp, v, ⟨a, hv, h⟩ => ⟨a, hv, f _ _ h⟩
  | .remp, v, ⟨a, hv, h⟩ => ⟨a, hv, g _ _ h⟩
  | .non, v, h => h
  | .bl _, v, h => h
  | .int _, v, h => h
  | .str _, v, h => h
  | .tup xs, v, ⟨a, vs, hv, h, r⟩ => ⟨a, vs, hv, frz_tup (f _ _ h) rfl, ros_rp g f xs vs r⟩
  | .pt xs, v, ⟨a, vs, o, hv, h, hd, r⟩ => ⟨a, vs, o, hv, frz_tup (f _ _ h) rfl, hd, ros_rp g f xs vs r⟩
  | .lst xs, v, ⟨a, vs, hv, h, r⟩ => ⟨a, vs, hv, SqL.of (f _ _ h), ros_rp g f xs vs r⟩
  | .ro xs, v, ⟨a, vs, hv, h, r⟩ => ⟨a, vs, hv, g.seq h, ros_rp g f xs vs r⟩
theorem ros_rp (g : Same G H) (f : Same F H) : ∀ (xs : List T) (vs : List V), Rps K G F xs vs → Rps K H (frz H H []) (ros xs) vs
  | [], vs, h => h
  | x :: xs, vs, ⟨v, r, hv, h1, h2⟩ => ⟨v, r, hv, ro_rp g f x v h1, ros_rp g f xs r h2⟩
end
mutual
theorem nro_rp {G' : Hp} : ∀ (x : T) (v : V), nro x = true → Rp K G F x v → Rp K G' F x v
  | .emp, v, _, h => h
  | .remp, v, n, _ => by simp [nro] at n
  | .non, v, _, h => h
  | .bl _, v, _, h => h
  | .int _, v, _, h => h
  | .str _, v, _, h => h
  | .tup xs, v, n, ⟨a, vs, hv, h, r⟩ => ⟨a, vs, hv, h, nros_rp xs vs (by simpa [nro] using n) r⟩
  | .pt xs, v, n, ⟨a, vs, o, hv, h, hd, r⟩ => ⟨a, vs, o, hv, h, hd, nros_rp xs vs (by simpa [nro] using n) r⟩
  | .lst xs, v, n, ⟨a, vs, hv, h, r⟩ => ⟨a, vs, hv, h, nros_rp xs vs (by simpa [nro] using n) r⟩
  | .ro xs, v, n, _ => by simp [nro] at n
theorem nros_rp {G' : Hp} : ∀ (xs : List T) (vs : List V), nros xs = true → Rps K G F xs vs → Rps K G' F xs vs
  | [], vs, _, h => h
  | x :: xs, vs, n, ⟨v, r, hv, h1, h2⟩ => by
    rw [nros, Bool.and_eq_true] at n
    exact ⟨v, r, hv, nro_rp x v n.1 h1, nros_rp xs r n.2 h2⟩
end
end
abbrev noH : Hp := fun _ => none
/-- each argument seen as a tree -/
def vwAll (μ : Store) : List D → (List T → Prop) → Prop
  | [], Q => Q []
  | d :: ds, Q => vw μ d fun x => vwAll μ ds fun xs => Q (x :: xs)
theorem vwAll_ok {K : PySem.W.Frag} {G B H : Hp} {ρ0 ρ : List Addr} {μ : Store} (s : SH K G B ρ0 μ ρ H) : ∀ {ds : List D} {vs : List V} {Q : List T → Prop}, Rls K G (frz B H ρ) ρ ds vs → vwAll μ ds Q → ∃ xs, Q xs ∧ Rps K G H xs vs
  | [], _, _, .nil, h => ⟨[], h, rfl⟩
  | d :: ds, _, Q, .cons r t, h => by
    obtain ⟨x, h, rx⟩ := peek s r h
    obtain ⟨xs, h, rs⟩ := vwAll_ok s t h
    exact ⟨x :: xs, h, _, _, rfl, rx, rs⟩
/-- what a def that changes nothing promises: data in, a tree out -/
def spT (K : PySem.W.Frag) (Φ : List T → T → Prop) : Sp := fun vs H Q _ => ∃ xs y, Rps K H (frz H H []) xs vs ∧ Φ xs y ∧ ∀ v H', Same H H' → Rp K noH (frz H H' []) y v → Q v H'
/-- .. a new list out -/
def spN (K : PySem.W.Frag) (Φ : List T → List T → Prop) : Sp := fun vs H Q _ => ∃ xs ys, Rps K H (frz H H []) xs vs ∧ Φ xs ys ∧
  ∀ a ws H', Same H H' → H a = none → H' a = some (.lst ws) → Rps K noH (frz H H' [a]) ys ws → Q (.ref a) H'
theorem noH_le (H : Hp) : Same noH H := fun _ _ h => nomatch h
section
variable {K : PySem.W.Frag} {G B H H' : Hp} {ρ0 ρ : List Addr} {μ : Store}
/-- what a callee laid stays with the caller -/
theorem SH.back (s : SH K G B ρ0 μ ρ H) (e : Same H H') (δ : List Addr) : Same (frz H H' δ) (frz B H' (ρ ++ δ)) := fun b o h => by
  have hb : b ∉ δ := fun z => by
    unfold frz at h
    rw [if_pos z] at h
    cases h
  have h' : H' b = some o := frz_le _ _ _ _ _ h
  unfold frz at h
  rw [if_neg hb] at h
  split at h
  · cases h
  · rename_i hc
    have hr : b ∉ ρ := fun z => by
      obtain ⟨u, q, t⟩ := s.there z
      rw [q, t] at hc
      exact hc rfl
    unfold frz
    rw [if_neg (by simp only [List.mem_append, not_or]; exact ⟨hr, hb⟩)]
    cases q : B b with
    | none => exact h'
    | some u =>
      rw [s.same _ _ q] at hc
      rw [if_neg hc]
      exact h'
end
def dCall (Φ : List T → T → Prop) (a : DA) : DP := fun env μ Q => a env μ fun ds => vwAll μ ds fun xs => ∃ y, Φ (ros xs) y ∧ Q (.t y)
def fCall (Φ : List T → List T → Prop) (a : DA) : DF := fun env μ Q => a env μ fun ds => vwAll μ ds fun xs => ∃ ys, Φ (ros xs) ys ∧ Q ys
section
variable {X : Cx} {k : Nat} {f : Addr} {fd : FuncData} {ps : List Str} {x : Str} {p pos : Pos} {e : Expr} {es : List Expr} {a : DA} {E : XK}
theorem ex_call {CX : CXT} {Φ : List T → T → Prop} (F : FnOk X.prog X.w X.K X.mg X.base CX k f fd ps (spT X.K Φ)) (hr : Room k X.A) (hm : X.mg x = some (.ref f)) (hk : PySem.W.keepIn X.K (.ref f) = true) (hb : Binds X.K fd ps []) (hx : Passes CX X E) (ha : AX X (e :: es) a) (hg : Gl X x := by rfl)
    (hdb : (x == ("__debug__" : Str)) = false := by decide) (he : starEach (e :: es) X.env = (false, eval e X.env) :: starEach es X.env := by rfl) (hpl : (backTo pos (starEach es X.env)).any (·.1) = false := by rfl) : EX X (.Call (.Name x p) (e :: es) [] pos) (dCall Φ a) :=
  PE.imp (pe_call F hr hg hm hk hb .nil hx ha hdb he hpl) fun σ H R ⟨G, B, ρ0, env, μ, ρ, Q, s, q, k⟩ => by
    refine ⟨G, B, ρ0, env, μ, ρ, _, s, q, fun ds vs H1 q1 e1 r1 => ?_⟩
    have s1 := (s.mono e1).sh
    obtain ⟨xs, ⟨y, hy, q2⟩, rx⟩ := vwAll_ok s1 r1 q1
    show spT X.K Φ (vs ++ []) H1 R E
    rw [List.append_nil]
    refine ⟨ros xs, y, ros_rp s1.sameG (Same.refl _) xs vs rx, hy, fun v H' e2 r2 => k _ v H' q2 (e1.trans e2) ?_⟩
    have sb := s1.back e2 []
    rw [List.append_nil] at sb
    exact Rp.mono2 (noH_le G) sb y v r2
theorem ef_call {CX : CXT} {Φ : List T → List T → Prop} (F : FnOk X.prog X.w X.K X.mg X.base CX k f fd ps (spN X.K Φ)) (hr : Room k X.A) (hm : X.mg x = some (.ref f)) (hk : PySem.W.keepIn X.K (.ref f) = true) (hb : Binds X.K fd ps []) (hx : Passes CX X E) (ha : AX X (e :: es) a) (hg : Gl X x := by rfl)
    (hdb : (x == ("__debug__" : Str)) = false := by decide) (he : starEach (e :: es) X.env = (false, eval e X.env) :: starEach es X.env := by rfl) (hpl : (backTo pos (starEach es X.env)).any (·.1) = false := by rfl) : EF X (.Call (.Name x p) (e :: es) [] pos) (fCall Φ a) :=
  PE.imp (pe_call F hr hg hm hk hb .nil hx ha hdb he hpl) fun σ H R ⟨G, B, ρ0, env, μ, ρ, Q, s, q, k⟩ => by
    refine ⟨G, B, ρ0, env, μ, ρ, _, s, q, fun ds vs H1 q1 e1 r1 => ?_⟩
    have s1 := (s.mono e1).sh
    obtain ⟨xs, ⟨y, hy, q2⟩, rx⟩ := vwAll_ok s1 r1 q1
    show spN X.K Φ (vs ++ []) H1 R E
    rw [List.append_nil]
    refine ⟨ros xs, y, ros_rp s1.sameG (Same.refl _) xs vs rx, hy, fun a ws H' e2 n h2 r2 => k _ a ws H' q2 (e1.trans e2) (e1.free n) h2 ?_⟩
    exact Rps.mono2 (noH_le G) (s1.back e2 [a]) y ws r2
end
def startD (N : List Str) (xs : List T) : DEnv := xs.map (fun x => some (D.t x)) ++ List.replicate (N.length - xs.length) none
/-- the entry of a def that changes nothing -/
theorem entry {K : PySem.W.Frag} {H : Hp} {N : List Str} {xs : List T} {vs : List V} (r : Rps K H (frz H H []) xs vs) : SR K H H [] (startD N xs) [] [] (L2.start N vs) H := by
  refine ⟨⟨Same.refl _, Same.refl _, by simp, by simp, by simp, List.prefix_refl _, rfl, fun n o a h => by simp at h⟩, ?_, fun i d h => ?_⟩
  · unfold L2.start startD
    simp [r.length]
  · unfold startD at h
    unfold L2.start
    by_cases hi : i < xs.length
    · rw [List.getElem?_append_left (by simpa using hi), List.getElem?_map] at h
      obtain ⟨v, h1, h2⟩ := r.get (List.getElem?_eq_getElem hi)
      rw [List.getElem?_eq_getElem hi] at h
      have e : D.t xs[i] = d := by simpa using h
      subst e
      exact ⟨v, by rw [List.getElem?_append_left (by rw [List.length_map, ← r.length]; exact hi), List.getElem?_map, h1]; rfl, h2⟩
    · rw [List.getElem?_append_right (by simp; omega)] at h
      rw [List.getElem?_replicate] at h
      split at h <;> simp at h
section
variable {P : Program} {w : World} {K : PySem.W.Frag} {mg : Str → Option Value} {base : Heap}
theorem fn_T {x qual : Str} {st : Stmt} {f : Addr} {fd : FuncData} {N ps : List Str} {k : Nat} {Φ : List T → T → Prop} {s : DS} (F : Fun K x qual st f fd) (S : FnScope N ps (defScope st)) (len : ∀ xs y, Φ xs y → xs.length = ps.length) (hn : ∀ xs y, Φ xs y → nro y = true)
    (hb : ∀ (cdv : Value) (A : Around) (outer : List Env) (sh : Shared) (H : Hp) (E : XK), Room k (A.deeper (envOfC qual (defScope st) sh.heap.objs.size f cdv)) → SsX (cxOf CX0 P w K mg base N qual (defScope st) f cdv A outer sh H E).nox (defBody st) s)
    (hs : ∀ xs y, Φ xs y → s (startD N xs) [] { nx := fun _ _ => y = .non, rt := fun d _ => d = .t y }) : FnOk P w K mg base CX0 (k + 1) f fd ps (spT K Φ) := by
  refine fun_ok F S (fun vs H Q E ⟨xs, y, r, hy, _⟩ => r.length.symm.trans (len xs y hy)) fun cdv A outer sh H vs Q E hr ⟨xs, y, r, hy, q⟩ => ⟨_, hb cdv A outer sh H E hr, ?_⟩
  refine ⟨H, H, [], startD N xs, [], [], _, entry r, hs xs y hy, ?_, ?_, fun _ _ _ _ _ h => h.elim, fun _ _ _ _ _ h => h.elim, xnx_no⟩
  · intro env' μ' ρ' σ' H' h s' p' e'
    have h : y = .non := h
    exact q .non H' s'.sh.same (by rw [h]; rfl)
  · intro d v μ' ρ' H' h s' p' e' r'
    have h : d = .t y := h
    subst h
    refine q v H' s'.same (nro_rp y v (hn xs y hy) (Rp.mono (fun b o hb => ?_) r'))
    unfold frz at hb ⊢
    split at hb
    · cases hb
    · rw [if_neg (by simp)]
      exact hb
theorem fn_N {x qual : Str} {st : Stmt} {f : Addr} {fd : FuncData} {N ps : List Str} {k : Nat} {Φ : List T → List T → Prop} {s : DS} (F : Fun K x qual st f fd) (S : FnScope N ps (defScope st)) (len : ∀ xs y, Φ xs y → xs.length = ps.length) (hn : ∀ xs y, Φ xs y → nros y = true)
    (hb : ∀ (cdv : Value) (A : Around) (outer : List Env) (sh : Shared) (H : Hp) (E : XK), Room k (A.deeper (envOfC qual (defScope st) sh.heap.objs.size f cdv)) → SsX (cxOf CX0 P w K mg base N qual (defScope st) f cdv A outer sh H E).nox (defBody st) s)
    (hs : ∀ xs y, Φ xs y → s (startD N xs) [] { nx := fun _ _ => False, rt := fun d μ => ∃ n, d = .loc n ∧ μ[n]? = some (.lst (y.map D.t)) }) : FnOk P w K mg base CX0 (k + 1) f fd ps (spN K Φ) := by
  refine fun_ok F S (fun vs H Q E ⟨xs, y, r, hy, _⟩ => r.length.symm.trans (len xs y hy)) fun cdv A outer sh H vs Q E hr ⟨xs, y, r, hy, q⟩ => ⟨_, hb cdv A outer sh H E hr, ?_⟩
  refine ⟨H, H, [], startD N xs, [], [], _, entry r, hs xs y hy, ?_, ?_, fun _ _ _ _ _ h => h.elim, fun _ _ _ _ _ h => h.elim, xnx_no⟩
  · intro env' μ' ρ' σ' H' h
    exact h.elim
  · intro d v μ' ρ' H' h s' p' e' r'
    obtain ⟨n, rfl, hm⟩ := h
    obtain ⟨a, rfl, ha⟩ := r'
    obtain ⟨vs', h1, h2⟩ := s'.sto n _ a hm ha
    have hin := List.mem_of_getElem? ha
    refine q a vs' H' s'.same (s'.out a hin) h1 (nros_rp y vs' (hn xs y hy) (Rps.mono (fun b o hb => ?_) (rls_t h2)))
    unfold frz at hb ⊢
    split at hb
    · cases hb
    · rename_i hm
      rw [if_neg (fun z => hm (by rw [show b = a by simpa using z]; exact hin))]
      exact hb
end
end Gw
/-! Gw, part E: operators, comparisons, built-ins, methods. -/
namespace Gw
open PySem PySem.Spec PyProof.Rows L2 RZ
/-! ### + -/
def rCatL (K : PySem.W.Frag) : R2 := fun x y H Q => ∃ a b xs ys, x = .ref a ∧ y = .ref b ∧ SqL K H a xs ∧ SqL K H b ys ∧ xs.length + ys.length ≤ sizeLine ∧ ∀ p, H p = none → Q (.ref p) (upd H p (.lst (xs ++ ys)))
theorem op_catL {X : Cx} : OpR X (binaryOp .Add) (rCatL X.K) := by
  intro pins s σ H x y v u Q I rx ry h
  obtain ⟨l, b, xs, zs, rfl, rfl, hH, hB, hz, q⟩ := h
  cases rx
  cases ry
  obtain ⟨its, r, ⟨⟨cls, dd, data, sl⟩, n, ho, hc, hdd, hd⟩, hl⟩ := I.list hH
  obtain ⟨its2, r2, ⟨⟨cls2, dd2, data2, sl2⟩, n2, ho2, hc2, hdd2, hd2⟩, hl2⟩ := I.list hB
  have r1 := r.length
  have r3 := r2.length
  simp only at hc hd hc2 hd2
  subst hc hd hc2 hd2
  have e : its.toArray ++ its2.toArray = (its ++ its2).toArray := by simp
  refine concat_meets ⟨_, ho, rfl⟩ ⟨_, ho2, rfl⟩ noFill_list_add seq_list_add PySem.F.slot_list_add PySem.F.entry_list_add (PySem.F.args_list_add_2 _ _) (list_addW l b its.toArray its2.toArray n n2 dd dd2 sl sl2 (by simpa [← r1, ← r3] using hz)) ⟨ho, ho2, ?_⟩
  rw [e]
  exact ⟨.ref _, _, I.lnew (t' := s.toks) (r.append r2) (by rw [List.length_append]; omega), rfl, q _ I.fresh⟩
/-- x + y: ints, texts, tuples, lists -/
def addD (μ : Store) (d e : D) (Q : D → Prop) : Prop := match d, e with
  | .t (.int i), .t (.int j) => Q (.t (.int (i + j)))
  | .t (.str a), .t (.str b) => a.length + b.length ≤ sizeLine ∧ Q (.t (.str (a ++ b)))
  | .t (.tup xs), .t (.tup ys) => xs.length + ys.length ≤ sizeLine ∧ Q (.t (.tup (xs ++ ys)))
  | d, e => srcL μ d fun xs _ => srcL μ e fun ys _ => xs.length + ys.length ≤ sizeLine ∧ Q (.t (.lst (xs ++ ys)))
def rAddA (K : PySem.W.Frag) : R2 := fun x y H Q => (∃ i j, x = .int i ∧ y = .int j ∧ Q (.int (i + j)) H) ∨ (∃ i j, x = .str i ∧ y = .str j ∧ i.length + j.length ≤ sizeLine ∧ Q (.str (i ++ j)) H) ∨ rCatA K x y H Q ∨ rCatL K x y H Q
theorem op_addA {X : Cx} : OpR X (binaryOp .Add) (rAddA X.K) := OpR.or op_add (OpR.or op_add_str (OpR.or op_catA op_catL))
section
variable {K : PySem.W.Frag}
theorem addD_lists {μ : Store} {d e : D} {Q : D → Prop} {G B H : Hp} {ρ0 ρ : List Addr} {v u : V} {R : VK} (s : SH K G B ρ0 μ ρ H) (rx : Rl K G (frz B H ρ) ρ d v) (ry : Rl K G (frz B H ρ) ρ e u)
    (w : srcL μ d fun xs _ => srcL μ e fun ys _ => xs.length + ys.length ≤ sizeLine ∧ Q (.t (.lst (xs ++ ys)))) (k : ∀ d z H', Q d → Same H H' → Rl K G (frz B H' ρ) ρ d z → R z H') : rCatL K v u H R := by
  obtain ⟨xs, _, a, w, rfl, k1, l1⟩ := src_ok s rx w
  obtain ⟨ys, _, b, w, rfl, k2, l2⟩ := src_ok s ry w
  obtain ⟨vs, h1, h2⟩ := l1 B μ ρ H (later_refl s) k1
  obtain ⟨ws, h3, h4⟩ := l2 B μ ρ H (later_refl s) k2
  refine ⟨a, b, vs, ws, rfl, rfl, h1, h3, by rw [← h2.length, ← h4.length]; exact w.1, fun p hp => ?_⟩
  have n := s.new (o := .lst (vs ++ ws)) hp
  exact k _ _ _ w.2 n.1 ⟨p, _, rfl, n.2, (h2.append h4).mono (frz_mono n.1)⟩
theorem addD_ok : W2 K (rAddA K) addD := by
  intro G B ρ0 μ ρ H x y v u Q R s rx ry w k
  have fall := fun w => (addD_lists (d := x) (e := y) (Q := Q) s rx ry w k : rCatL K v u H R)
  unfold addD at w
  split at w
  · rename_i i j
    exact .inl ⟨i, j, rx, ry, k (.t (.int (i + j))) _ H w (Same.refl _) rfl⟩
  · rename_i a b
    exact .inr (.inl ⟨a, b, rx, ry, w.1, k (.t (.str (a ++ b))) _ H w.2 (Same.refl _) rfl⟩)
  · rename_i xs ys
    obtain ⟨a, vs, rfl, h1, h2⟩ := rx
    obtain ⟨b, ws, rfl, h3, h4⟩ := ry
    have l1 := h2.length
    have l2 := h4.length
    refine .inr (.inr (.inl ⟨a, b, vs, ws, rfl, rfl, SqT.of (frz_le _ _ _ _ _ h1), SqT.of (frz_le _ _ _ _ _ h3), by omega, fun e => ?_, fun _ e => ?_, fun _ _ p hp => ?_⟩))
    · have e1 : xs = [] := by
        cases xs with
        | nil => rfl
        | cons _ _ => rw [e] at l1; simp at l1
      rw [e1, List.nil_append] at w
      exact k _ _ H w.2 (Same.refl _) ⟨b, ws, rfl, h3, h4⟩
    · have e1 : ys = [] := by
        cases ys with
        | nil => rfl
        | cons _ _ => rw [e] at l2; simp at l2
      rw [e1, List.append_nil] at w
      exact k _ _ H w.2 (Same.refl _) ⟨a, vs, rfl, h1, h2⟩
    · have n := s.new (o := .tup (vs ++ ws)) hp
      exact k _ _ _ w.2 n.1 ⟨p, _, rfl, n.2, (h2.append h4).mono (frz_mono n.1)⟩
  · exact .inr (.inr (.inr (fall w)))
end
abbrev dAdd (p q : DP) : DP := d2 p q addD
/-- of lists, a new one -/
def fAdd (p q : DP) : DF := fun env μ Q => p env μ fun d => q env μ fun e => srcL μ d fun xs _ => srcL μ e fun ys _ => xs.length + ys.length ≤ sizeLine ∧ Q (xs ++ ys)
section
variable {X : Cx} {a b : Expr} {p q : DP} {pos : Pos}
theorem ex_add (ha : EX X a p) (hb : EX X b q) : EX X (.BinOp a .Add b pos) (dAdd p q) := ex_op op_addA addD_ok ha hb
end
/-! ### ints -/
def ii (f : Int → Int → (T → Prop) → Prop) : Store → D → D → (D → Prop) → Prop := fun _ d e Q => match d, e with
  | .t (.int i), .t (.int j) => f i j fun x => Q (.t x)
  | _, _ => False
theorem ii_ok {K : PySem.W.Frag} {r : R2} {f : Int → Int → (T → Prop) → Prop} (h : ∀ i j (Q : T → Prop) (R : VK) H, f i j Q → (∀ x z, Q x → (∀ G F, Rp K G F x z) → R z H) → r (.int i) (.int j) H R) : W2 K r (ii f) := by
  intro G B ρ0 μ ρ H x y v u Q R s rx ry w k
  unfold ii at w
  split at w
  · rename_i i j
    have e1 : v = .int i := rx
    have e2 : u = .int j := ry
    subst e1 e2
    exact h i j _ R H w fun x z q hr => k (.t x) z H q (Same.refl _) (hr _ _)
  · exact w.elim
/-- how great a product may be -/
def MulOk (i j : Int) : Prop := CMul i j ∨ CMulW i j
theorem op_mulA {X : Cx} : OpR X (binaryOp .Mult) (rI MulOk fun i j => .int (i * j)) := by
  intro pins s σ H x y v u Q I rx ry h
  obtain ⟨i, j, hx, hy, hc | hc, q⟩ := h
  · exact op_mul pins s σ H x y v u Q I rx ry ⟨i, j, hx, hy, hc, q⟩
  · exact op_mulW pins s σ H x y v u Q I rx ry ⟨i, j, hx, hy, hc, q⟩
def DivOk (i j : Int) : Prop := CDiv i j ∨ CDivW i j
theorem op_divA {X : Cx} : OpR X (binaryOp .FloorDiv) (rI DivOk fun i j => .int (i / j)) := by
  intro pins s σ H x y v u Q I rx ry h
  obtain ⟨i, j, hx, hy, hc | hc, q⟩ := h
  · exact op_fdiv pins s σ H x y v u Q I rx ry ⟨i, j, hx, hy, hc, q⟩
  · exact op_fdivW pins s σ H x y v u Q I rx ry ⟨i, j, hx, hy, hc, q⟩
def dSub (p q : DP) : DP := d2 p q (ii fun i j Q => Q (.int (i - j)))
def dMul (p q : DP) : DP := d2 p q (ii fun i j Q => MulOk i j ∧ Q (.int (i * j)))
def dMod (p q : DP) : DP := d2 p q (ii fun i j Q => 0 < j ∧ Q (.int (i % j)))
def dDiv (p q : DP) : DP := d2 p q (ii fun i j Q => DivOk i j ∧ Q (.int (i / j)))
def dPow (p q : DP) : DP := d2 p q (ii fun i j Q => CPow i j ∧ Q (.int (i ^ j.toNat)))
def dShl (p q : DP) : DP := d2 p q (ii fun i j Q => CPow i j ∧ Q (.int (i * 2 ^ j.toNat)))
def dShr (p q : DP) : DP := d2 p q (ii fun i j Q => 0 ≤ j ∧ Q (.int (i / 2 ^ j.toNat)))
def dBand (p q : DP) : DP := d2 p q (ii fun i j Q => Q (.int (Builtin.bitAnd i j)))
def dBor (p q : DP) : DP := d2 p q (ii fun i j Q => Q (.int (Builtin.bitOr i j)))
def dLt (p q : DP) : DP := d2 p q (ii fun i j Q => Q (.bl (decide (i < j))))
def dLe (p q : DP) : DP := d2 p q (ii fun i j Q => Q (.bl (decide (i ≤ j))))
def dGt (p q : DP) : DP := d2 p q (ii fun i j Q => Q (.bl (decide (j < i))))
def dGe (p q : DP) : DP := d2 p q (ii fun i j Q => Q (.bl (decide (j ≤ i))))
section
variable {X : Cx} {a b : Expr} {p q : DP} {pos : Pos}
theorem ex_sub (ha : EX X a p) (hb : EX X b q) : EX X (.BinOp a .Sub b pos) (dSub p q) := ex_op op_sub (ii_ok fun i j Q R H w k => ⟨i, j, rfl, rfl, k _ _ w fun _ _ => rfl⟩) ha hb
theorem ex_mul (ha : EX X a p) (hb : EX X b q) : EX X (.BinOp a .Mult b pos) (dMul p q) := ex_op op_mulA (ii_ok fun i j Q R H w k => ⟨i, j, rfl, rfl, w.1, k _ _ w.2 fun _ _ => rfl⟩) ha hb
theorem ex_mod (ha : EX X a p) (hb : EX X b q) : EX X (.BinOp a .Mod b pos) (dMod p q) := ex_op op_mod (ii_ok fun i j Q R H w k => ⟨i, j, rfl, rfl, w.1, k _ _ w.2 fun _ _ => rfl⟩) ha hb
theorem ex_div (ha : EX X a p) (hb : EX X b q) : EX X (.BinOp a .FloorDiv b pos) (dDiv p q) := ex_op op_divA (ii_ok fun i j Q R H w k => ⟨i, j, rfl, rfl, w.1, k _ _ w.2 fun _ _ => rfl⟩) ha hb
theorem ex_pow (ha : EX X a p) (hb : EX X b q) : EX X (.BinOp a .Pow b pos) (dPow p q) := ex_op op_pow (ii_ok fun i j Q R H w k => ⟨i, j, rfl, rfl, w.1, k _ _ w.2 fun _ _ => rfl⟩) ha hb
theorem w_lt : W2 X.K (rI0 fun i j => .bl (decide (i < j))) (ii fun i j Q => Q (.bl (decide (i < j)))) := ii_ok fun i j Q R H w k => ⟨i, j, rfl, rfl, k _ _ w fun _ _ => rfl⟩
theorem w_le : W2 X.K (rI0 fun i j => .bl (decide (i ≤ j))) (ii fun i j Q => Q (.bl (decide (i ≤ j)))) := ii_ok fun i j Q R H w k => ⟨i, j, rfl, rfl, k _ _ w fun _ _ => rfl⟩
theorem w_gt : W2 X.K (rI0 fun i j => .bl (decide (j < i))) (ii fun i j Q => Q (.bl (decide (j < i)))) := ii_ok fun i j Q R H w k => ⟨i, j, rfl, rfl, k _ _ w fun _ _ => rfl⟩
theorem w_ge : W2 X.K (rI0 fun i j => .bl (decide (j ≤ i))) (ii fun i j Q => Q (.bl (decide (j ≤ i)))) := ii_ok fun i j Q R H w k => ⟨i, j, rfl, rfl, k _ _ w fun _ _ => rfl⟩
theorem tx_lt (ha : EX X a p) (hb : EX X b q) : TX X (.Compare a [.Lt] [b] pos) (dTest (dLt p q)) := tx_cmp op_lt w_lt ha hb (nomark _)
theorem tx_le (ha : EX X a p) (hb : EX X b q) : TX X (.Compare a [.LtE] [b] pos) (dTest (dLe p q)) := tx_cmp op_le w_le ha hb (nomark _)
theorem tx_gt (ha : EX X a p) (hb : EX X b q) : TX X (.Compare a [.Gt] [b] pos) (dTest (dGt p q)) := tx_cmp op_gt w_gt ha hb (nomark _)
theorem tx_ge (ha : EX X a p) (hb : EX X b q) : TX X (.Compare a [.GtE] [b] pos) (dTest (dGe p q)) := tx_cmp op_ge w_ge ha hb (nomark _)
/-- a op b op c of ints -/
def dChain (f g : Int → Int → Bool) (p q r : DP) : DP := fun env μ Q => p env μ fun d => q env μ fun e => match d, e with
  | .t (.int i), .t (.int j) => if f i j = true then r env μ fun z => (match z with | .t (.int k) => Q (.t (.bl (g j k))) | _ => False) else Q (.t (.bl false))
  | _, _ => False
theorem chain_rd {f g : Int → Int → Bool} {r : DP} {K : PySem.W.Frag} {σ : L2.St} {H : Hp} {R : VK} (h : tOf K (dChain f g p q r) σ H R) : tChain (rI0 fun i j => .bl (f i j)) (rI0 fun i j => .bl (g i j)) (tOf K p) (tOf K q) (tOf K r) σ H R := by
  obtain ⟨G, B, ρ0, env, μ, ρ, Q, s, q1, k⟩ := h
  refine ⟨G, B, ρ0, env, μ, ρ, _, s, q1, fun d v H1 q2 e1 r1 => ⟨G, B, ρ0, env, μ, ρ, _, s.mono e1, q2, fun d' v' H2 q3 e2 r2 => ?_⟩⟩
  split at q3
  · rename_i i j
    have a1 : v = .int i := r1
    have a2 : v' = .int j := r2
    subst a1 a2
    refine ⟨i, j, rfl, rfl, f i j, rfl, ?_⟩
    cases hf : f i j with
    | true =>
      rw [hf, if_pos rfl] at q3
      refine ⟨G, B, ρ0, env, μ, ρ, _, (s.mono e1).mono e2, q3, fun z w H3 q4 e3 r3 => ?_⟩
      split at q4
      · rename_i m
        have a3 : w = .int m := r3
        subst a3
        exact ⟨j, m, rfl, rfl, k _ _ H3 q4 ((e1.trans e2).trans e3) rfl⟩
      · exact q4.elim
    | false =>
      rw [hf, if_neg Bool.false_ne_true] at q3
      exact k _ _ H2 q3 (e1.trans e2) rfl
  · exact q3.elim
def iLt (i j : Int) : Bool := decide (i < j)
def iLe (i j : Int) : Bool := decide (i ≤ j)
inductive CmpI (X : Cx) : CmpOp → (Int → Int → Bool) → Prop
  | lt : CmpI X .Lt iLt
  | le : CmpI X .LtE iLe
theorem CmpI.ok {op : CmpOp} {f : Int → Int → Bool} (h : CmpI X op f) : OpR X (compareOp op) (rI0 fun i j => .bl (f i j)) := by
  cases h with
  | lt => exact op_lt
  | le => exact op_le
theorem ex_chain {c : Expr} {r : DP} {op op' : CmpOp} {f g : Int → Int → Bool} (h1 : CmpI X op f) (h2 : CmpI X op' g) (ha : EX X a p) (hb : EX X b q) (hc : EX X c r) (hm : lastMarks [op, op'] [b, c] = false := by with_unfolding_all rfl) : EX X (.Compare a [op, op'] [b, c] pos) (dChain f g p q r) :=
  PE.imp (pe_chain h1.ok h2.ok ha hb hc hm) fun σ H R h => chain_rd h
def dNeg (p : DP) : DP := fun env μ Q => p env μ fun d => match d with | .t (.int i) => Q (.t (.int (-i))) | _ => False
theorem ex_neg (ha : EX X a p) : EX X (.UnaryOp .USub a pos) (dNeg p) :=
  PE.imp (pe_un un_neg ha) fun σ H R ⟨G, B, ρ0, env, μ, ρ, Q, s, q1, k⟩ => ⟨G, B, ρ0, env, μ, ρ, _, s, q1, fun d v H1 q2 e1 r1 => by
    split at q2
    · rename_i i
      exact ⟨i, r1, k _ _ H1 q2 e1 rfl⟩
    · exact q2.elim⟩
end
/-! ### ==, != -/
mutual
def pd : T → PyData
  | .emp => .dict []
  | .remp => .dict []
  | .non => .none
  | .bl b => .bool b
  | .int i => .int i
  | .str s => .str s
  | .tup xs => .tuple (pds xs)
  | .pt xs => .tuple (pds xs)
  | .lst xs => .list (pds xs)
  | .ro xs => .list (pds xs)
def pds : List T → List PyData
  | [] => []
  | x :: xs => pd x :: pds xs
end
def eqT (a b : T) : Bool := PyData.eqv (pd a) (pd b)
def okT (a : T) : Bool := SeqAt.shaped (pd a)
section
variable {K : PySem.W.Frag} {G H : Hp}
mutual
theorem rp_dp (g : Same G H) : ∀ (x : T) (v : V), (pd x).canLay0 = true → Rp K G H x v → Dp K H v (pd x)
  | .emp, v, c, h => by simp [pd, PyData.canLay0] at c
  | .remp, v, c, h => by simp [pd, PyData.canLay0] at c
  | .non, v, _, h => by
    have e : v = .non := h
    rw [e]
    exact .non
  | .bl b, v, _, h => by
    have e : v = .bl b := h
    rw [e]
    exact .bl b
  | .int b, v, _, h => by
    have e : v = .int b := h
    rw [e]
    exact .int b
  | .str b, v, _, h => by
    have e : v = .str b := h
    rw [e]
    exact .str b
  | .tup xs, v, c, ⟨a, vs, hv, h, r⟩ => by
    rw [hv]
    exact .tup (SqT.of h) (rps_dp g xs vs (by simpa [pd, PyData.canLay0] using c) r)
  | .pt xs, v, c, ⟨a, vs, o, hv, h, hd, r⟩ => by
    rw [hv]
    exact .tup (sqT_pt h) (rps_dp g xs vs (by simpa [pd, PyData.canLay0] using c) r)
  | .lst xs, v, c, ⟨a, vs, hv, h, r⟩ => by
    rw [hv]
    exact .lst (SqL.of h) (rps_dp g xs vs (by simpa [pd, PyData.canLay0] using c) r)
  | .ro xs, v, c, ⟨a, vs, hv, h, r⟩ => by
    rw [hv]
    exact .lst (g.seq h) (rps_dp g xs vs (by simpa [pd, PyData.canLay0] using c) r)
theorem rps_dp (g : Same G H) : ∀ (xs : List T) (vs : List V), PyData.canLayAll0 (pds xs) = true → Rps K G H xs vs → DpAll K H vs (pds xs)
  | [], vs, _, h => by
    have e : vs = [] := h
    rw [e]
    exact .nil
  | x :: xs, vs, c, ⟨v, r, hv, h1, h2⟩ => by
    rw [hv]
    rw [pds, PyData.canLayAll0, Bool.and_eq_true] at c
    exact .cons (rp_dp g x v c.1 h1) (rps_dp g xs r c.2 h2)
end
end
theorem okT_lay {x : T} (h : okT x = true) : (pd x).canLay0 = true := by
  unfold okT SeqAt.shaped at h
  rw [Bool.and_eq_true] at h
  exact h.1
def dEq (p q : DP) : DP := d2 p q (tw fun a b Q => okT a = true ∧ okT b = true ∧ Q (.bl (eqT a b)))
def dNe (p q : DP) : DP := d2 p q (tw fun a b Q => okT a = true ∧ okT b = true ∧ Q (.bl (!eqT a b)))
section
variable {X : Cx} {a b : Expr} {p q : DP} {pos : Pos}
theorem w_eq : W2 X.K (rEqD X.K) (tw fun a b Q => okT a = true ∧ okT b = true ∧ Q (.bl (eqT a b))) := W2.tree fun a b v u G H Q R g ra rb w k => ⟨pd a, pd b, rp_dp g a v (okT_lay w.1) ra, rp_dp g b u (okT_lay w.2.1) rb, w.1, w.2.1, k _ _ w.2.2 fun _ _ => rfl⟩
theorem w_ne : W2 X.K (rNeD X.K) (tw fun a b Q => okT a = true ∧ okT b = true ∧ Q (.bl (!eqT a b))) := W2.tree fun a b v u G H Q R g ra rb w k => ⟨pd a, pd b, rp_dp g a v (okT_lay w.1) ra, rp_dp g b u (okT_lay w.2.1) rb, w.1, w.2.1, k _ _ w.2.2 fun _ _ => rfl⟩
theorem ex_eq (hu : X.A.units + 64 < cLine) (ha : EX X a p) (hb : EX X b q) : EX X (.Compare a [.Eq] [b] pos) (dEq p q) := ex_cmp (op_eqD hu) w_eq ha hb (nomark _)
theorem tx_eq (hu : X.A.units + 64 < cLine) (ha : EX X a p) (hb : EX X b q) : TX X (.Compare a [.Eq] [b] pos) (dTest (dEq p q)) := tx_cmp (op_eqD hu) w_eq ha hb (nomark _)
theorem tx_ne (hu : X.A.units + 64 < cLine) (ha : EX X a p) (hb : EX X b q) : TX X (.Compare a [.NotEq] [b] pos) (dTest (dNe p q)) := tx_cmp (op_neD hu) w_ne ha hb (nomark _)
end
/-! ### built-ins called by name -/
def dBi (a : DA) (W : Store → List D → (D → Prop) → Prop) : DP := fun env μ Q => a env μ fun ds => W μ ds Q
def WC (K : PySem.W.Frag) (r : List V → Hp → VK → Prop) (W : Store → List D → (D → Prop) → Prop) : Prop :=
  ∀ G B ρ0 μ ρ H ds vs Q (R : VK), SH K G B ρ0 μ ρ H → Rls K G (frz B H ρ) ρ ds vs → W μ ds Q → (∀ d z H', Q d → Same H H' → Rl K G (frz B H' ρ) ρ d z → R z H') → r vs H R
section
variable {X : Cx} {x : Str} {id : String} {e : Expr} {es : List Expr} {a : DA} {p pos : Pos} {r : List V → Hp → VK → Prop} {W : Store → List D → (D → Prop) → Prop}
theorem ex_bi (hc : CallR X (.builtin id) r) (hw : WC X.K r W) (hv : bootBuiltins x = some (.builtin id)) (hm : X.mg x = none) (ha : AX X (e :: es) a) (hg : Gl X x := by rfl) (hn : x ≠ "__name__" := by decide) (hdb : (x == ("__debug__" : Str)) = false := by decide)
    (he : starEach (e :: es) X.env = (false, eval e X.env) :: starEach es X.env := by rfl) (hpl : (backTo pos (starEach es X.env)).any (·.1) = false := by rfl) : EX X (.Call (.Name x p) (e :: es) [] pos) (dBi a W) :=
  PE.imp (pe_callB hc hg hm hv ha hn hdb he hpl) fun σ H R ⟨G, B, ρ0, env, μ, ρ, Q, s, q1, k⟩ => ⟨G, B, ρ0, env, μ, ρ, _, s, q1, fun ds vs H1 q2 e1 r1 =>
    hw G B ρ0 μ ρ H1 ds vs Q R (s.mono e1).sh r1 q2 fun d z H' q3 e2 r2 => k d z H' q3 (e1.trans e2) r2⟩
theorem ex_ty (hc : CallR X (.type id) r) (hw : WC X.K r W) (hv : bootBuiltins x = some (.type id)) (hm : X.mg x = none) (ha : AX X (e :: es) a) (hg : Gl X x := by rfl) (hn : x ≠ "__name__" := by decide) (hdb : (x == ("__debug__" : Str)) = false := by decide)
    (he : starEach (e :: es) X.env = (false, eval e X.env) :: starEach es X.env := by rfl) (hpl : (backTo pos (starEach es X.env)).any (·.1) = false := by rfl) : EX X (.Call (.Name x p) (e :: es) [] pos) (dBi a W) :=
  PE.imp (pe_callTy hc hg hm hv ha hn hdb he hpl) fun σ H R ⟨G, B, ρ0, env, μ, ρ, Q, s, q1, k⟩ => ⟨G, B, ρ0, env, μ, ρ, _, s, q1, fun ds vs H1 q2 e1 r1 =>
    hw G B ρ0 μ ρ H1 ds vs Q R (s.mono e1).sh r1 q2 fun d z H' q3 e2 r2 => k d z H' q3 (e1.trans e2) r2⟩
end
/-- .. that give a new list -/
def fBi (a : DA) (W : Store → List D → (List T → Prop) → Prop) : DF := fun env μ Q => a env μ fun ds => W μ ds Q
def WF (K : PySem.W.Frag) (r : List V → Hp → VK → Prop) (W : Store → List D → (List T → Prop) → Prop) : Prop :=
  ∀ G B ρ0 μ ρ H ds vs Q (R : VK), SH K G B ρ0 μ ρ H → Rls K G (frz B H ρ) ρ ds vs → W μ ds Q → (∀ xs p ws, Q xs → H p = none → Rps K G (frz B H ρ) xs ws → R (.ref p) (upd H p (.lst ws))) → r vs H R
section
variable {X : Cx} {x : Str} {id : String} {e : Expr} {es : List Expr} {a : DA} {p pos : Pos} {r : List V → Hp → VK → Prop} {W : Store → List D → (List T → Prop) → Prop}
theorem ef_bi (hc : CallR X (.builtin id) r) (hw : WF X.K r W) (hv : bootBuiltins x = some (.builtin id)) (hm : X.mg x = none) (ha : AX X (e :: es) a) (hg : Gl X x := by rfl) (hn : x ≠ "__name__" := by decide) (hdb : (x == ("__debug__" : Str)) = false := by decide)
    (he : starEach (e :: es) X.env = (false, eval e X.env) :: starEach es X.env := by rfl) (hpl : (backTo pos (starEach es X.env)).any (·.1) = false := by rfl) : EF X (.Call (.Name x p) (e :: es) [] pos) (fBi a W) :=
  PE.imp (pe_callB hc hg hm hv ha hn hdb he hpl) fun σ H R ⟨G, B, ρ0, env, μ, ρ, Q, s, q1, k⟩ => ⟨G, B, ρ0, env, μ, ρ, _, s, q1, fun ds vs H1 q2 e1 r1 =>
    hw G B ρ0 μ ρ H1 ds vs Q R (s.mono e1).sh r1 q2 fun xs p ws q3 n r2 => ef_at s e1 n r2 (k xs p ws _ q3)⟩
theorem ef_ty (hc : CallR X (.type id) r) (hw : WF X.K r W) (hv : bootBuiltins x = some (.type id)) (hm : X.mg x = none) (ha : AX X (e :: es) a) (hg : Gl X x := by rfl) (hn : x ≠ "__name__" := by decide) (hdb : (x == ("__debug__" : Str)) = false := by decide)
    (he : starEach (e :: es) X.env = (false, eval e X.env) :: starEach es X.env := by rfl) (hpl : (backTo pos (starEach es X.env)).any (·.1) = false := by rfl) : EF X (.Call (.Name x p) (e :: es) [] pos) (fBi a W) :=
  PE.imp (pe_callTy hc hg hm hv ha hn hdb he hpl) fun σ H R ⟨G, B, ρ0, env, μ, ρ, Q, s, q1, k⟩ => ⟨G, B, ρ0, env, μ, ρ, _, s, q1, fun ds vs H1 q2 e1 r1 =>
    hw G B ρ0 μ ρ H1 ds vs Q R (s.mono e1).sh r1 q2 fun xs p ws q3 n r2 => ef_at s e1 n r2 (k xs p ws _ q3)⟩
end
end Gw
/-! Gw, part F: subscripts, in, built-ins one by one, methods, stores. -/
namespace Gw
open PySem PySem.Spec PyProof.Rows L2 RZ
/-! ### dicts of the store -/
def valD (kvs : List (Key × D)) (k : Key) : Option D := (kvs.find? fun kv => decide (kv.1 = k)).map (·.2)
def putD (kvs : List (Key × D)) (k : Key) (v : D) : List (Key × D) := if (kvs.any fun kv => decide (kv.1 = k)) = true then kvs.map fun kv => if kv.1 = k then (kv.1, v) else kv else kvs ++ [(k, v)]
abbrev DV (K : PySem.W.Frag) (G F : Hp) (ρ : List Addr) : List (Key × D) → List (Key × V) → Prop := Paired fun (p : Key × D) (q : Key × V) => p.1 = q.1 ∧ Rl K G F ρ p.2 q.2
section
variable {K : PySem.W.Frag} {G F : Hp} {ρ : List Addr}
theorem DV.got {k : Key} {d : D} : ∀ {kvs : List (Key × D)} {ws : List (Key × V)}, DV K G F ρ kvs ws → valD kvs k = some d → ∃ v, valV ws k = some v ∧ Rl K G F ρ d v
  | _, _, .nil, h => by simp [valD] at h
  | p :: kvs, q :: ws, .cons r t, h => by
    by_cases e : p.1 = k
    · have h' : p.2 = d := by simpa [valD, List.find?_cons, e] using h
      subst h'
      exact ⟨q.2, valV_pos (by rw [← r.1]; exact e), r.2⟩
    · have h' : valD kvs k = some d := by simpa [valD, List.find?_cons, e] using h
      obtain ⟨v, h1, h2⟩ := DV.got t h'
      exact ⟨v, by rw [valV_neg (by rw [← r.1]; exact e)]; exact h1, h2⟩
theorem DV.not {k : Key} : ∀ {kvs : List (Key × D)} {ws : List (Key × V)}, DV K G F ρ kvs ws → valD kvs k = none → valV ws k = none
  | _, _, .nil, h => rfl
  | p :: kvs, q :: ws, .cons r t, h => by
    by_cases e : p.1 = k
    · simp [valD, List.find?_cons, e] at h
    · have h' : valD kvs k = none := by simpa [valD, List.find?_cons, e] using h
      rw [valV_neg (by rw [← r.1]; exact e)]
      exact DV.not t h'
theorem DV.any {k : Key} : ∀ {kvs : List (Key × D)} {ws : List (Key × V)}, DV K G F ρ kvs ws → (kvs.any fun kv => decide (kv.1 = k)) = ws.any fun kv => decide (kv.1 = k)
  | _, _, .nil => rfl
  | p :: kvs, q :: ws, .cons r t => by rw [List.any_cons, List.any_cons, DV.any t, r.1]
theorem DV.repl {k : Key} {d : D} {v : V} (hr : Rl K G F ρ d v) : ∀ {kvs : List (Key × D)} {ws : List (Key × V)}, DV K G F ρ kvs ws → DV K G F ρ (kvs.map fun kv => if kv.1 = k then (kv.1, d) else kv) (ws.map fun kv => if kv.1 = k then (kv.1, v) else kv)
  | _, _, .nil => .nil
  | p :: kvs, q :: ws, .cons r t => by
    refine .cons ?_ (DV.repl hr t)
    show (if p.1 = k then (p.1, d) else p).1 = (if q.1 = k then (q.1, v) else q).1 ∧ Rl K G F ρ (if p.1 = k then (p.1, d) else p).2 (if q.1 = k then (q.1, v) else q).2
    by_cases e : p.1 = k
    · rw [if_pos e, if_pos (by rw [← r.1]; exact e)]
      exact ⟨r.1, hr⟩
    · rw [if_neg e, if_neg (by rw [← r.1]; exact e)]
      exact r
theorem DV.put {k : Key} {d : D} {v : V} {kvs : List (Key × D)} {ws : List (Key × V)} (h : DV K G F ρ kvs ws) (hr : Rl K G F ρ d v) : DV K G F ρ (putD kvs k d) (putK ws k v) := by
  unfold putD putK
  rw [h.any]
  split
  · exact DV.repl hr h
  · exact Paired.app h (.cons ⟨rfl, hr⟩ .nil)
end
/-- a datum as a key -/
def keyOf : D → Option Key
  | .t (.int i) => some (.inl i)
  | .t (.str s) => some (.inr s)
  | _ => none
theorem keyOf_rl {K : PySem.W.Frag} {G F : Hp} {ρ : List Addr} {d : D} {v : V} {k : Key} (h : keyOf d = some k) (r : Rl K G F ρ d v) : v = kV k := by
  unfold keyOf at h
  split at h
  · cases h
    exact r
  · cases h
    exact r
  · cases h
/-! ### subscripts -/
def ixW (μ : Store) (d e : D) (Q : D → Prop) : Prop := match d, e with
  | .t (.tup xs), .t (.int i) => ∃ x, atI xs i = some x ∧ Q (.t x)
  | .t (.lst xs), .t (.int i) => ∃ x, atI xs i = some x ∧ Q (.t x)
  | .t (.ro xs), .t (.int i) => ∃ x, atI xs i = some x ∧ Q (.t x)
  | .t (.str s), .t (.int i) => s.length ≤ sizeLine ∧ ∃ c, atI s.cps.toList i = some c ∧ Q (.t (.str ⟨#[c]⟩))
  | .loc n, e => (∃ ds i y, μ[n]? = some (.lst ds) ∧ e = .t (.int i) ∧ atI ds i = some y ∧ Q y) ∨ (∃ kvs k y, μ[n]? = some (.dic kvs) ∧ keyOf e = some k ∧ valD kvs k = some y ∧ Q y) ∨ (∃ z kvs k y, μ[n]? = some (.lck z kvs) ∧ keyOf e = some k ∧ valD kvs k = some y ∧ Q y)
  | .tp ds, .t (.int i) => ∃ y, atI ds i = some y ∧ Q y
  | .t (.pt xs), .t (.int i) => ∃ x, atI xs i = some x ∧ Q (.t x)
  | _, _ => False
theorem ix_dict {X : Cx} (hu : X.A.units + 1 < cLine) : IxR X (fun x y H Q => ∃ a v, x = .ref a ∧ DGet H a y (some v) ∧ Q v H) := by
  intro value slice pins s σ H x y v u Q I rx ry h hs
  obtain ⟨a, z, rfl, g, q⟩ := h
  cases rx
  exact tail_any (dict_typeIs I g) PySem.F.slot_dict_getitem.lookup (d_getItem hu I g ry fun w' s3 I3 rw' => ⟨z, H, I3, rw', q⟩) hs
theorem atI_rps {K : PySem.W.Frag} {G F : Hp} {xs : List T} {vs : List V} {i : Int} {x : T} (r : Rps K G F xs vs) (h : atI xs i = some x) : ∃ v, atI vs i = some v ∧ Rp K G F x v := by
  unfold atI at h ⊢
  rw [r.length] at h
  cases e : ixN vs.length i with
  | none =>
    rw [e] at h
    cases h
  | some j =>
    rw [e] at h
    exact r.get h
theorem atI_paired {α β : Type} {P : α → β → Prop} {xs : List α} {vs : List β} {i : Int} {x : α} (r : Paired P xs vs) (h : atI xs i = some x) : ∃ v, atI vs i = some v ∧ P x v := by
  unfold atI at h ⊢
  rw [Paired.len r] at h
  cases e : ixN vs.length i with
  | none =>
    rw [e] at h
    cases h
  | some j =>
    rw [e] at h
    exact Paired.at r h
abbrev rIxA (K : PySem.W.Frag) : R2 := fun x y H Q => rIx K x y H Q ∨ ∃ a v, x = .ref a ∧ DGet H a y (some v) ∧ Q v H
theorem ixW_ok {K : PySem.W.Frag} : W2 K (rIxA K) ixW := by
  intro G B ρ0 μ ρ H x y v u Q R s rx ry w k
  unfold ixW at w
  split at w
  · obtain ⟨a, vs, rfl, h1, h2⟩ := rx
    obtain ⟨z, h3, q⟩ := w
    obtain ⟨z', h4, h5⟩ := atI_rps h2 h3
    exact .inl (.inr (.inl ⟨a, vs, _, z', rfl, ry, SqT.of (frz_le _ _ _ _ _ h1), h4, k _ _ H q (Same.refl _) h5⟩))
  · obtain ⟨a, vs, rfl, h1, h2⟩ := rx
    obtain ⟨z, h3, q⟩ := w
    obtain ⟨z', h4, h5⟩ := atI_rps h2 h3
    exact .inl (.inl ⟨a, vs, _, z', rfl, ry, SqL.of (frz_le _ _ _ _ _ h1), h4, k _ _ H q (Same.refl _) h5⟩)
  · obtain ⟨a, vs, rfl, h1, h2⟩ := rx
    obtain ⟨z, h3, q⟩ := w
    obtain ⟨z', h4, h5⟩ := atI_rps h2 h3
    exact .inl (.inl ⟨a, vs, _, z', rfl, ry, s.sameG.seq h1, h4, k _ _ H q (Same.refl _) h5⟩)
  · obtain ⟨hl, c, h3, q⟩ := w
    exact .inl (.inr (.inr ⟨_, _, c, rx, ry, hl, h3, k _ _ H q (Same.refl _) rfl⟩))
  · obtain ⟨a, rfl, ha⟩ := rx
    rcases w with ⟨ds, i, y, h1, rfl, h3, q⟩ | ⟨kvs, kk, y, h1, h2, h3, q⟩ | ⟨z, kvs, kk, y, h1, h2, h3, q⟩
    · obtain ⟨vs, h4, h5⟩ := s.sto _ _ a h1 ha
      obtain ⟨z', h6, h7⟩ := atI_paired h5 h3
      exact .inl (.inl ⟨a, vs, _, z', rfl, ry, SqL.of h4, h6, k _ _ H q (Same.refl _) h7⟩)
    · obtain ⟨ws, h4, h5⟩ := s.sto _ _ a h1 ha
      obtain ⟨z', h6, h7⟩ := DV.got h5 h3
      have e := keyOf_rl h2 ry
      subst e
      exact .inr ⟨a, z', rfl, by rw [← h6]; exact DGet.k h4, k _ _ H q (Same.refl _) h7⟩
    · obtain ⟨h4, h5⟩ := s.sto _ _ a h1 ha
      obtain ⟨z', h6, h7⟩ := DV.got h5 h3
      have e := keyOf_rl h2 ry
      subst e
      exact .inr ⟨a, z', rfl, by rw [← h6]; exact .inl ⟨_, _, .inr ⟨_, h4⟩, rfl, rfl⟩, k _ _ H q (Same.refl _) h7⟩
  · obtain ⟨a, vs, rfl, h1, h2⟩ := rx
    obtain ⟨y, h3, q⟩ := w
    obtain ⟨z', h6, h7⟩ := atI_paired (rlA_p h2) h3
    exact .inl (.inr (.inl ⟨a, vs, _, z', rfl, ry, SqT.of (frz_le _ _ _ _ _ h1), h6, k _ _ H q (Same.refl _) h7⟩))
  · obtain ⟨a, vs, o, rfl, h1, _, h2⟩ := rx
    obtain ⟨z, h3, q⟩ := w
    obtain ⟨z', h4, h5⟩ := atI_rps h2 h3
    exact .inl (.inr (.inl ⟨a, vs, _, z', rfl, ry, sqT_pt (frz_le _ _ _ _ _ h1), h4, k _ _ H q (Same.refl _) h5⟩))
  · exact w.elim
def dIx (p q : DP) : DP := d2 p q ixW
section
variable {X : Cx} {a b : Expr} {p q : DP} {pos : Pos}
theorem ex_ix (hu : X.A.units + 1 < cLine) (ha : EX X a p) (hb : EX X b q) (hs : PlainIx b := by exact fun _ _ => rfl) : EX X (.Subscript a b pos) (dIx p q) :=
  PE.imp (pe_ix (IxR.or L2.ix_seq (ix_dict hu)) ha hb hs) fun σ H R h => two ixW_ok h
end
/-! ### slices -/
def DO := DEnv → Store → (Option Int → Prop) → Prop
def toOf (K : PySem.W.Frag) (p : DO) : TO := fun σ H R => ∃ G B ρ0 env μ ρ Q, SR K G B ρ0 env μ ρ σ H ∧ p env μ Q ∧ ∀ o H', Q o → Same H H' → R o H'
def OX (X : Cx) (e : Option Expr) (p : DO) : Prop := PO X e (toOf X.K p)
theorem PO.imp {X : Cx} {e : Option Expr} {t t' : TO} (h : PO X e t) (k : ∀ σ H Q, t' σ H Q → t σ H Q) : PO X e t' := ⟨fun pins s σ H Q I q => h.run pins s σ H Q I (k σ H Q q)⟩
def oNo : DO := fun _ _ Q => Q none
def oSo (p : DP) : DO := fun env μ Q => p env μ fun d => match d with | .t (.int i) => Q (some i) | _ => False
section
variable {X : Cx} {a : Expr} {p : DP} {lo hi : Option Expr} {l h : DO} {p2 pos : Pos}
theorem ox_none : OX X none oNo := PO.imp po_none fun σ H R ⟨G, B, ρ0, env, μ, ρ, Q, s, q, k⟩ => k none H q (Same.refl _)
theorem ox_some (ha : EX X a p) : OX X (some a) (oSo p) := PO.imp (po_some ha) fun σ H R ⟨G, B, ρ0, env, μ, ρ, Q, s, q, k⟩ => ⟨G, B, ρ0, env, μ, ρ, _, s, q, fun d v H' q' e r => by
    split at q'
    · rename_i i
      exact ⟨i, r, k (some i) H' q' e⟩
    · exact q'.elim⟩
/-- the places of a slice -/
def cutT {α : Type} (xs : List α) (lo hi : Option Int) : List α := (xs.drop (HT.sIx xs.length 0 lo)).take (HT.sIx xs.length xs.length hi - HT.sIx xs.length 0 lo)
theorem cut_rps {K : PySem.W.Frag} {G F : Hp} {xs : List T} {vs : List V} (r : Rps K G F xs vs) (lo hi : Option Int) : Rps K G F (cutT xs lo hi) (cutV vs lo hi) := by
  unfold cutT cutV
  rw [r.length]
  exact (r.drop _).take _
/-- a tuple's slice, a text's; a list's is a tree of its own -/
def slW (μ : Store) (d : D) (lo hi : Option Int) (Q : D → Prop) : Prop := match d with
  | .t (.tup xs) => Q (.t (.tup (cutT xs lo hi)))
  | .t (.str z) => z.length ≤ sizeLine ∧ Q (.t (.str (cutS z lo hi)))
  | .t (.pt xs) => (HT.sIx xs.length 0 lo = 0 ∧ HT.sIx xs.length xs.length hi = xs.length → Q (.t (.pt xs))) ∧ (¬ (HT.sIx xs.length 0 lo = 0 ∧ HT.sIx xs.length xs.length hi = xs.length) → Q (.t (.tup (cutT xs lo hi))))
  | d => srcL μ d fun xs _ => Q (.t (.lst (cutT xs lo hi)))
def dSl (p : DP) (l h : DO) : DP := fun env μ Q => p env μ fun d => l env μ fun lo => h env μ fun hi => slW μ d lo hi Q
theorem cut_whole {α : Type} {xs : List α} {lo hi : Option Int} (h : HT.sIx xs.length 0 lo = 0 ∧ HT.sIx xs.length xs.length hi = xs.length) : cutT xs lo hi = xs := by
  unfold cutT
  rw [h.1, h.2, List.drop_zero, Nat.sub_zero, List.take_length]
theorem ex_sl (ha : EX X a p) (hl : OX X lo l) (hh : OX X hi h) : EX X (.Subscript a (.Slice lo hi none p2) pos) (dSl p l h) :=
  PE.imp (pe_slice (SlR.or sl_tupA (SlR.or sl_str sl_list)) ha hl hh) fun σ H R ⟨G, B, ρ0, env, μ, ρ, Q, s, q, k⟩ => by
    refine ⟨G, B, ρ0, env, μ, ρ, _, s, q, fun d v H1 q1 e1 r1 => ⟨G, B, ρ0, env, μ, ρ, _, s.mono e1, q1, fun lo H2 q2 e2 => ⟨G, B, ρ0, env, μ, ρ, _, (s.mono e1).mono e2, q2, fun hi H3 q3 e3 => ?_⟩⟩⟩
    have s3 := ((s.mono e1).mono e2).mono e3
    have e := (e1.trans e2).trans e3
    have r3 := r1.mono (frz_mono (B := B) (ρ := ρ) (e2.trans e3)) (List.prefix_refl _)
    unfold slW at q3
    split at q3
    · obtain ⟨a, vs, rfl, h1, h2⟩ := r3
      refine .inl ⟨a, vs, rfl, SqT.of (frz_le _ _ _ _ _ h1), fun hw => ?_, fun hw p hp => ?_⟩
      · rw [cut_whole (by rw [h2.length]; exact hw)] at q3
        exact k _ _ H3 q3 e ⟨a, vs, rfl, h1, h2⟩
      · have n := s3.sh.new (o := .tup (cutV vs lo hi)) hp
        exact k _ _ _ q3 (e.trans n.1) ⟨p, _, rfl, n.2, (cut_rps h2 lo hi).mono (frz_mono n.1)⟩
    · exact .inr (.inl ⟨_, r3, q3.1, k _ _ H3 q3.2 e rfl⟩)
    · obtain ⟨a, vs, ob, rfl, h1, hd, h2⟩ := r3
      refine .inl ⟨a, vs, rfl, sqT_pt (frz_le _ _ _ _ _ h1), fun hw => ?_, fun hw p hp => ?_⟩
      · exact k _ _ H3 (q3.1 (by rw [h2.length]; exact hw)) e ⟨a, vs, ob, rfl, h1, hd, h2⟩
      · have n := s3.sh.new (o := .tup (cutV vs lo hi)) hp
        exact k _ _ _ (q3.2 (by rw [h2.length]; exact hw)) (e.trans n.1) ⟨p, _, rfl, n.2, (cut_rps h2 lo hi).mono (frz_mono n.1)⟩
    · obtain ⟨xs, _, a, q3, rfl, k1, l1⟩ := src_ok s3.sh r3 q3
      obtain ⟨vs, h1, h2⟩ := l1 B μ ρ H3 (later_refl s3.sh) k1
      refine .inr (.inr ⟨a, vs, rfl, h1, fun p hp => ?_⟩)
      have n := s3.sh.new (o := .lst (cutV vs lo hi)) hp
      exact k _ _ _ q3 (e.trans n.1) ⟨p, _, rfl, n.2, (cut_rps h2 lo hi).mono (frz_mono n.1)⟩
theorem Rps.reverse {K : PySem.W.Frag} {G F : Hp} : ∀ {xs : List T} {vs : List V}, Rps K G F xs vs → Rps K G F xs.reverse vs.reverse
  | [], vs, h => by
    have e : vs = [] := h
    rw [e]
    rfl
  | x :: xs, vs, ⟨v, r, hv, h1, h2⟩ => by
    rw [hv, List.reverse_cons, List.reverse_cons]
    exact (Rps.reverse h2).append ⟨v, [], rfl, h1, rfl⟩
end
/-! ### len, max, min, sum, any, all, tuple, list, sorted -/
def wLen (μ : Store) (ds : List D) (Q : D → Prop) : Prop := one ds fun d => match d with
  | .t (.str s) => s.length ≤ sizeLine ∧ Q (.t (.int s.length))
  | .t (.tup xs) => Q (.t (.int xs.length))
  | .t (.lst xs) => Q (.t (.int xs.length))
  | .t (.ro xs) => Q (.t (.int xs.length))
  | .t (.pt xs) => Q (.t (.int xs.length))
  | .loc n => (∃ ds, μ[n]? = some (.lst ds) ∧ Q (.t (.int ds.length))) ∨ ∃ kvs, μ[n]? = some (.dic kvs) ∧ Q (.t (.int kvs.length))
  | _ => False
abbrev rLenA (K : PySem.W.Frag) : List V → Hp → VK → Prop := fun xs H Q => (∃ x n, xs = [x] ∧ LenV K x H n ∧ Q (.int n) H) ∨ ∃ a kvs, xs = [V.ref a] ∧ H a = some (.dK kvs) ∧ Q (.int kvs.length) H
section
variable {K : PySem.W.Frag}
theorem wLen_ok : WC K (rLenA K) wLen := by
  intro G B ρ0 μ ρ H ds vs Q R s rs w k
  obtain ⟨d, e0, w1⟩ := one_of w
  clear w
  subst e0
  have w := w1
  clear w1
  cases rs with
  | cons r rr =>
    cases rr
    split at w
    · rename_i z
      have e : _ = V.str z := r
      subst e
      exact .inl ⟨_, z.length, rfl, ⟨w.1, rfl⟩, k _ _ H w.2 (Same.refl _) rfl⟩
    · rename_i xs
      obtain ⟨a, ws, rfl, h1, h2⟩ := r
      exact .inl ⟨_, xs.length, rfl, .inr ⟨ws, SqT.of (frz_le _ _ _ _ _ h1), h2.length⟩, k _ _ H w (Same.refl _) rfl⟩
    · rename_i xs
      obtain ⟨a, ws, rfl, h1, h2⟩ := r
      exact .inl ⟨_, xs.length, rfl, .inl ⟨ws, SqL.of (frz_le _ _ _ _ _ h1), h2.length⟩, k _ _ H w (Same.refl _) rfl⟩
    · rename_i xs
      obtain ⟨a, ws, rfl, h1, h2⟩ := r
      exact .inl ⟨_, xs.length, rfl, .inl ⟨ws, s.sameG.seq h1, h2.length⟩, k _ _ H w (Same.refl _) rfl⟩
    · rename_i xs
      obtain ⟨a, ws, o, rfl, h1, _, h2⟩ := r
      exact .inl ⟨_, xs.length, rfl, .inr ⟨ws, sqT_pt (frz_le _ _ _ _ _ h1), h2.length⟩, k _ _ H w (Same.refl _) rfl⟩
    · rename_i n
      obtain ⟨a, rfl, ha⟩ := r
      rcases w with ⟨ds, h1, w⟩ | ⟨kvs, h1, w⟩
      · obtain ⟨ws, h2, h3⟩ := s.sto _ _ a h1 ha
        exact .inl ⟨_, ds.length, rfl, .inl ⟨ws, SqL.of h2, Paired.len h3⟩, k _ _ H w (Same.refl _) rfl⟩
      · obtain ⟨ws, h2, h3⟩ := s.sto _ _ a h1 ha
        exact .inr ⟨a, ws, rfl, h2, k _ _ H w (Same.refl _) (by rw [Paired.len h3]; rfl)⟩
    · exact w.elim
def wMM (f : Int → Int → Int) (_ : Store) (ds : List D) (Q : D → Prop) : Prop := two' ds fun d e => match d, e with
  | .t (.int i), .t (.int j) => Q (.t (.int (f i j)))
  | _, _ => False
theorem wMM_ok {f : Int → Int → Int} : WC K (fun xs H Q => ∃ i j, xs = [.int i, .int j] ∧ Q (.int (f i j)) H) (wMM f) := by
  intro G B ρ0 μ ρ H ds vs Q R s rs w k
  obtain ⟨d, e, e0, w1⟩ := two_of w
  clear w
  subst e0
  have w := w1
  clear w1
  cases rs with
  | cons r rr =>
    cases rr with
    | cons r' rr =>
      cases rr
      split at w
      · rename_i i j
        exact ⟨i, j, by rw [show _ = V.int i from r, show _ = V.int j from r'], k _ _ H w (Same.refl _) rfl⟩
      · exact w.elim
abbrev maxI (i j : Int) : Int := if j > i then j else i
abbrev minI (i j : Int) : Int := if j < i then j else i
def wSum (μ : Store) (ds : List D) (Q : D → Prop) : Prop := one ds fun d => srcL μ d fun xs _ => ∃ ns : List Int, xs = ns.map T.int ∧ Q (.t (.int ns.sum))
def wAny (μ : Store) (ds : List D) (Q : D → Prop) : Prop := one ds fun d => srcL μ d fun xs _ => ∃ bs : List Bool, xs = bs.map T.bl ∧ Q (.t (.bl (bs.any id)))
def wAll (μ : Store) (ds : List D) (Q : D → Prop) : Prop := one ds fun d => srcL μ d fun xs _ => ∃ bs : List Bool, xs = bs.map T.bl ∧ Q (.t (.bl (bs.all id)))
/-- a list as the one argument -/
theorem one_src {G B H : Hp} {ρ0 ρ : List Addr} {μ : Store} (s : SH K G B ρ0 μ ρ H) {ds : List D} {vs : List V} {Q : List T → Prop} (r : Rls K G (frz B H ρ) ρ ds vs) (w : one ds fun d => srcL μ d fun xs _ => Q xs) :
    ∃ xs a ws, Q xs ∧ vs = [.ref a] ∧ SqL K H a ws ∧ Rps K G (frz B H ρ) xs ws := by
  obtain ⟨d, e0, w1⟩ := one_of w
  clear w
  subst e0
  have w := w1
  clear w1
  cases r with
  | cons r rr =>
    cases rr
    obtain ⟨xs, _, a, w, rfl, k1, l1⟩ := src_ok s r w
    obtain ⟨ws, h1, h2⟩ := l1 B μ ρ H (later_refl s) k1
    exact ⟨xs, a, ws, w, rfl, h1, h2⟩
theorem wSum_ok : WC K (rSum K) wSum := by
  intro G B ρ0 μ ρ H ds vs Q R s rs w k
  obtain ⟨xs, a, ws, ⟨ns, rfl, q⟩, rfl, h1, h2⟩ := one_src s rs w
  exact ⟨a, ns, rfl, by rw [← h2.ints]; exact h1, k _ _ H q (Same.refl _) rfl⟩
theorem wAny_ok : WC K (rAny K) wAny := by
  intro G B ρ0 μ ρ H ds vs Q R s rs w k
  obtain ⟨xs, a, ws, ⟨ns, rfl, q⟩, rfl, h1, h2⟩ := one_src s rs w
  exact ⟨a, ns, rfl, by rw [← h2.bls]; exact h1, k _ _ H q (Same.refl _) rfl⟩
def wTuple (μ : Store) (ds : List D) (Q : D → Prop) : Prop := one ds fun d => match d with
  | .t (.tup xs) => Q (.t (.tup xs))
  | d => srcL μ d fun xs _ => Q (.t (.tup xs))
abbrev rTupleA (K : PySem.W.Frag) : List V → Hp → VK → Prop := fun xs H Q => ∃ p ys, xs = [.ref p] ∧ ((SqL K H p ys ∧ ∀ l, H l = none → Q (.ref l) (upd H l (.tup ys))) ∨ (SqT K H p ys ∧ Q (.ref p) H))
theorem wTuple_ok : WC K (rTupleA K) wTuple := by
  intro G B ρ0 μ ρ H ds vs Q R s rs w k
  obtain ⟨d, e0, w1⟩ := one_of w
  clear w
  subst e0
  have w := w1
  clear w1
  cases rs with
  | cons r rr =>
    cases rr
    split at w
    · obtain ⟨a, ws, rfl, h1, h2⟩ := r
      exact ⟨a, ws, rfl, .inr ⟨SqT.of (frz_le _ _ _ _ _ h1), k _ _ H w (Same.refl _) ⟨a, ws, rfl, h1, h2⟩⟩⟩
    · obtain ⟨xs, _, a, w, rfl, k1, l1⟩ := src_ok s r w
      obtain ⟨ws, h1, h2⟩ := l1 B μ ρ H (later_refl s) k1
      refine ⟨a, ws, rfl, .inl ⟨h1, fun l hl => ?_⟩⟩
      have n := s.new (o := .tup ws) hl
      exact k _ _ _ w n.1 ⟨l, ws, rfl, n.2, h2.mono (frz_mono n.1)⟩
def wList (μ : Store) (ds : List D) (Q : List T → Prop) : Prop := one ds fun d => match d with
  | .t (.tup xs) => Q xs
  | .t (.pt xs) => Q xs
  | d => srcL μ d fun xs _ => Q xs
abbrev rListA (K : PySem.W.Frag) : List V → Hp → VK → Prop := fun xs H Q => ∃ p ys, xs = [.ref p] ∧ (SqL K H p ys ∨ SqT K H p ys) ∧ ∀ l, H l = none → Q (.ref l) (upd H l (.lst ys))
theorem wList_ok : WF K (rListA K) wList := by
  intro G B ρ0 μ ρ H ds vs Q R s rs w k
  obtain ⟨d, e0, w1⟩ := one_of w
  clear w
  subst e0
  have w := w1
  clear w1
  cases rs with
  | cons r rr =>
    cases rr
    split at w
    · obtain ⟨a, ws, rfl, h1, h2⟩ := r
      exact ⟨a, ws, rfl, .inr (SqT.of (frz_le _ _ _ _ _ h1)), fun l hl => k _ l ws w hl h2⟩
    · obtain ⟨a, ws, o, rfl, h1, _, h2⟩ := r
      exact ⟨a, ws, rfl, .inr (sqT_pt (frz_le _ _ _ _ _ h1)), fun l hl => k _ l ws w hl h2⟩
    · obtain ⟨xs, _, a, w, rfl, k1, l1⟩ := src_ok s r w
      obtain ⟨ws, h1, h2⟩ := l1 B μ ρ H (later_refl s) k1
      exact ⟨a, ws, rfl, .inl h1, fun l hl => k _ l ws w hl h2⟩
/-- a pair of ints -/
def eP (p : Int × Int) : T := .tup [.int p.1, .int p.2]
def leP (p q : Int × Int) : Prop := p.1 < q.1 ∨ (p.1 = q.1 ∧ p.2 ≤ q.2)
def wSortI (μ : Store) (ds : List D) (Q : List T → Prop) : Prop := one ds fun d => srcL μ d fun xs _ => ∃ ns : List Int, xs = ns.map T.int ∧ ∀ ms : List Int, ms.Perm ns → ms.Pairwise (· ≤ ·) → Q (ms.map T.int)
def wSortP (μ : Store) (ds : List D) (Q : List T → Prop) : Prop := one ds fun d => srcL μ d fun xs _ => ∃ ns : List (Int × Int), xs = ns.map eP ∧ ∀ ms : List (Int × Int), ms.Perm ns → ms.Pairwise leP → Q (ms.map eP)
theorem wSortI_ok : WF K (rSortedI K) wSortI := by
  intro G B ρ0 μ ρ H ds vs Q R s rs w k
  obtain ⟨xs, a, ws, ⟨ns, rfl, q⟩, rfl, h1, h2⟩ := one_src s rs w
  exact ⟨a, ns, rfl, by rw [← h2.ints]; exact h1, fun ms p h3 h4 h5 => k _ p _ (q ms h3 h4) h5 (Rps.of_ints ms)⟩
def kP (H : Hp) : V → Int × Int
  | .ref t => match H t with
    | some (.tup [.int a, .int b]) => (a, b)
    | _ => (0, 0)
  | _ => (0, 0)
theorem eP_rp {G F : Hp} {p : Int × Int} {v : V} (h : Rp K G F (eP p) v) : ∃ t, v = .ref t ∧ F t = some (.tup [.int p.1, .int p.2]) := by
  obtain ⟨a, vs, rfl, h1, v1, r1, e1, h2, v2, r2, e2, h3, e3⟩ := h
  have a1 : v1 = .int p.1 := h2
  have a2 : v2 = .int p.2 := h3
  have a3 : r2 = [] := e3
  subst a1 a2 a3
  rw [e2] at e1
  rw [e1] at h1
  exact ⟨a, rfl, h1⟩
theorem kP_at {H : Hp} {t : Addr} {p : Int × Int} (h : H t = some (.tup [.int p.1, .int p.2])) : kP H (.ref t) = p := by
  show (match H t with
    | some (.tup [.int a, .int b]) => (a, b)
    | _ => (0, 0)) = p
  rw [h]
theorem rps_pairs {G F H : Hp} (f : Same F H) : ∀ {ps : List (Int × Int)} {vs : List V}, Rps K G F (ps.map eP) vs → vs.map (kP H) = ps ∧ ∀ v ∈ vs, ∃ t, v = .ref t ∧ F t = some (.tup [.int (kP H v).1, .int (kP H v).2])
  | [], vs, h => by
    have e : vs = [] := h
    rw [e]
    exact ⟨rfl, by simp⟩
  | p :: ps, vs, ⟨v, r, hv, h1, h2⟩ => by
    obtain ⟨e, hr⟩ := rps_pairs f h2
    obtain ⟨t, ev, ht⟩ := eP_rp h1
    have ek : kP H v = p := by
      rw [ev]
      exact kP_at (f _ _ ht)
    rw [hv, List.map_cons, ek, e]
    refine ⟨rfl, fun w hw => ?_⟩
    rcases List.mem_cons.mp hw with rfl | hw
    · exact ⟨t, ev, by rw [ek]; exact ht⟩
    · exact hr w hw
theorem pairs_rps {G F H : Hp} : ∀ {vs : List V}, (∀ v ∈ vs, ∃ t, v = .ref t ∧ F t = some (.tup [.int (kP H v).1, .int (kP H v).2])) → Rps K G F ((vs.map (kP H)).map eP) vs
  | [], _ => rfl
  | v :: vs, h => by
    obtain ⟨t, ev, ht⟩ := h v (by simp)
    exact ⟨v, vs, rfl, ⟨t, _, ev, ht, _, _, rfl, rfl, _, _, rfl, rfl, rfl⟩, pairs_rps fun w hw => h w (by simp [hw])⟩
theorem wSortP_ok : WF K (rSortedPO K) wSortP := by
  intro G B ρ0 μ ρ H ds vs Q R s rs w k
  obtain ⟨xs, a, ws, ⟨ns, rfl, q⟩, rfl, h1, h2⟩ := one_src s rs w
  obtain ⟨e1, e2⟩ := rps_pairs (frz_le B H ρ) h2
  refine ⟨a, ws, kP H, rfl, h1, fun x hx => let ⟨t, h3, h4⟩ := e2 x hx; ⟨t, h3, frz_le _ _ _ _ _ h4⟩, fun ys p h3 h4 h5 => ?_⟩
  refine k _ p ys (q (ys.map (kP H)) (by rw [← e1]; exact h4.perm.map _) (List.pairwise_map.mpr (h3.imp fun {x y} hxy => ?_))) h5 (pairs_rps fun v hv => e2 v (h4.perm.mem_iff.mp hv))
  have hn := SrtO.lexB_no.mp hxy
  unfold leP
  omega
end
/-! ### stores -/
/-- o[i] = v: a list's place, a dict's key -/
def setW (μ : Store) (o i x : D) (Q : Store → Prop) : Prop := match o with
  | .loc n => (∃ ds k j, μ[n]? = some (.lst ds) ∧ i = .t (.int k) ∧ ixN ds.length k = some j ∧ Q (μ.set n (.lst (ds.set j x)))) ∨
      ∃ kvs k, μ[n]? = some (.dic kvs) ∧ keyOf i = some k ∧ kvs.length < sizeLine ∧ Q (μ.set n (.dic (putD kvs k x)))
  | _ => False
def sSetIx (v : DX) (o i : DP) : DS := fun env μ P => v env μ fun x μ' => o env μ' fun d => i env μ' fun e => setW μ' d e x fun μ2 => P.nx env μ2
def rSetA : V → V → V → Hp → (Hp → Prop) → Prop := fun o i v H Q => rSetL o i v H Q ∨ ∃ a H', o = .ref a ∧ DPut H a i v H' ∧ Q H'
theorem set_any {X : Cx} (hu : X.A.units + 1 < cLine) : PSet X rSetA := by
  intro pins s σ H o i v ov iv u Q I ro ri rv h
  rcases h with h | ⟨a, H', rfl, g, q⟩
  · exact set_list pins s σ H o i v ov iv u Q I ro ri rv h
  · cases ro
    exact d_setItem hu I g ri rv fun s' I' => ⟨H', I', q⟩
section
variable {X : Cx} {value o i : Expr} {v : DX} {p q : DP} {pos pos' : Pos}
theorem sx_setIx (hu : X.A.units + 1 < cLine) (hv : XX X value v) (ho : EX X o p) (hi : EX X i q)
    (ha : ∀ v, assign (.Subscript o i pos') X.env v = (do
      let ov ← holding [v] (eval o X.env)
      let iv ← holding [v, ov] (eval i X.env)
      standAt pos'
      holding [v, ov, iv] (setItem ov iv v)
      release [v, ov, iv] []) := by intro _; rfl)
    (hs : swapsWithSole [.Subscript o i pos'] value pos.line X.env = pure false := by rfl) (hw : swappedStores [.Subscript o i pos'] value X.env = pure none := by rfl) (h1 : (assignEach [.Subscript o i pos'] X.env).map (·.2) = [assign (.Subscript o i pos') X.env] := by rfl) :
    SX X (.Assign [.Subscript o i pos'] value pos) (sSetIx v p q) :=
  PS.imp (ps_asg hv (pg_sub ho hi (set_any hu) ha) hs hw h1) fun E σ H ⟨G, B, ρ0, env, μ, ρ, P, s, q1, k⟩ => by
    refine ⟨G, B, ρ0, env, μ, ρ, _, s, q1, fun x xv μ1 ρ1 H1 q2 s1 p1 e1 r1 => ?_⟩
    refine ⟨G, B, ρ0, env, μ1, ρ1, _, s1, q2, fun d dv H2 q3 e2 r2 => ⟨G, B, ρ0, env, μ1, ρ1, _, s1.mono e2, q3, fun e ev H3 q4 e3 r3 => ?_⟩⟩
    have s3 := (s1.mono e2).mono e3
    have rx := r1.mono (frz_mono (B := B) (ρ := ρ1) (e2.trans e3)) (List.prefix_refl _)
    have rd := r2.mono (frz_mono (B := B) (ρ := ρ1) e3) (List.prefix_refl _)
    have fr : Same (frz B H ρ) (frz B H3 ρ1) := e1.trans (frz_mono (e2.trans e3))
    unfold setW at q4
    split at q4
    · obtain ⟨a, rfl, ha⟩ := rd
      have hin := List.mem_of_getElem? ha
      rcases q4 with ⟨ds, kk, j, h1, rfl, h3, q4⟩ | ⟨kvs, kk, h1, h2, h3, q4⟩
      · obtain ⟨vs, h4, h5⟩ := s3.sh.sto _ _ a h1 ha
        refine .inl ⟨a, vs, kk, j, rfl, r3, h4, by rw [← Paired.len h5]; exact h3, ?_⟩
        have s4 := s3.upd (m := .lst (ds.set j x)) (o := .lst (vs.set j xv)) ha ⟨_, upd_same, Paired.set' rx j h5⟩
        exact k.nx env _ ρ1 σ _ q4 s4 p1 (by rw [frz_upd hin]; exact fr)
      · obtain ⟨vs, h4, h5⟩ := s3.sh.sto _ _ a h1 ha
        have ek := keyOf_rl h2 r3
        subst ek
        refine .inr ⟨a, _, rfl, DPut.k h4 (by rw [← Paired.len h5]; exact h3), ?_⟩
        have s4 := s3.upd (m := .dic (putD kvs kk x)) (o := .dK (putK vs kk xv)) ha ⟨_, upd_same, DV.put h5 rx⟩
        exact k.nx env _ ρ1 σ _ q4 s4 p1 (by rw [frz_upd hin]; exact fr)
    · exact q4.elim
end
/-! ### methods of lists of the store -/
/-- a method with arguments on an object of the store -/
def xM (o : DP) (a : DAX) (W : Nat → MO → List D → (D → MO → Prop) → Prop) : DX := fun env μ Q => o env μ fun d => match d with
  | .loc n => (∃ ds, μ[n]? = some (.lst ds)) ∧ a env μ fun xs μ1 => ∃ m, μ1[n]? = some m ∧ W n m xs fun y m' => Q y (μ1.set n m')
  | _ => False
def WM (K : PySem.W.Frag) (r : V → List V → Hp → VK → Prop) (W : Nat → MO → List D → (D → MO → Prop) → Prop) : Prop :=
  ∀ G F ρ H n a m xs vs Q (R : VK), Same F H → MOk K G F ρ H a m → Rls K G F ρ xs vs → W n m xs Q → (∀ y m' z o, Q y m' → Rl K G F ρ y z → MOk K G F ρ (L2.upd H a o) a m' → R z (L2.upd H a o)) → r (.ref a) vs H R
def wAppend (_ : Nat) (m : MO) (xs : List D) (Q : D → MO → Prop) : Prop := match m, xs with
  | .lst ds, [x] => ds.length < sizeLine ∧ Q (.t .non) (.lst (ds ++ [x]))
  | _, _ => False
def wPop (_ : Nat) (m : MO) (xs : List D) (Q : D → MO → Prop) : Prop := match m, xs with
  | .lst ds, [] => ∃ y, ds[ds.length - 1]? = some y ∧ Q y (.lst ds.dropLast)
  | _, _ => False
def wReverse (_ : Nat) (m : MO) (xs : List D) (Q : D → MO → Prop) : Prop := match m, xs with
  | .lst ds, [] => Q (.t .non) (.lst ds.reverse)
  | _, _ => False
def wClear (_ : Nat) (m : MO) (xs : List D) (Q : D → MO → Prop) : Prop := match m, xs with
  | .lst ds, [] => Q (.t .non) (.lst [])
  | _, _ => False
section
variable {K : PySem.W.Frag}
theorem wAppend_ok : WM K rAppend wAppend := by
  intro G F ρ H n a m xs vs Q R fs hm rs w k
  unfold wAppend at w
  split at w
  · rename_i ds x
    obtain ⟨ws, h1, h2⟩ := hm
    cases rs with
    | cons r rr =>
      cases rr
      exact ⟨a, ws, _, rfl, rfl, h1, by rw [← Paired.len h2]; exact w.1, k _ _ _ _ w.2 rfl ⟨_, upd_same, Paired.app h2 (.cons r .nil)⟩⟩
  · exact w.elim
theorem Paired.dropLast {α β : Type} {P : α → β → Prop} : ∀ {l : List α} {m : List β}, Paired P l m → Paired P l.dropLast m.dropLast
  | _, _, .nil => .nil
  | _, _, .cons r .nil => .nil
  | _, _, .cons r (.cons r' t) => .cons r (Paired.dropLast (.cons r' t))
def wExtend (_ : Nat) (m : MO) (xs : List D) (Q : D → MO → Prop) : Prop := match m, xs with
  | .lst ds, [.t (.lst ys)] => ds.length + ys.length ≤ sizeLine ∧ Q (.t .non) (.lst (ds ++ ys.map D.t))
  | _, _ => False
theorem wPop_ok : WM K rPop wPop := by
  intro G F ρ H n a m xs vs Q R fs hm rs w k
  unfold wPop at w
  split at w
  · obtain ⟨ws, h1, h2⟩ := hm
    cases rs
    obtain ⟨y, hy, w⟩ := w
    obtain ⟨z, hz, r⟩ := Paired.at h2 hy
    exact ⟨a, ws, z, rfl, rfl, h1, by rw [← Paired.len h2]; exact hz, k _ _ _ _ w r ⟨_, upd_same, Paired.dropLast h2⟩⟩
  · exact w.elim
end
section
variable {X : Cx} {o e : Expr} {es : List Expr} {p : DP} {a : DAX} {name : Str} {apos cpos : Pos} {id : String} {r : V → List V → Hp → VK → Prop} {W : Nat → MO → List D → (D → MO → Prop) → Prop}
theorem xM_fin {K : PySem.W.Frag} {G B H1 H : Hp} {ρ0 ρ ρ1 : List Addr} {env : DEnv} {μ1 : Store} {σ : L2.St} {n : Nat} {ad : Addr} {xs : List D} {vs : List V} {Q : D → Store → Prop} {R : VK} (hw : WM K r W) (s1 : SR K G B ρ0 env μ1 ρ1 σ H1) (p1 : ρ <+: ρ1) (e1 : Same (frz B H ρ) (frz B H1 ρ1)) (ha : ρ1[n]? = some ad)
    (w : ∃ m, μ1[n]? = some m ∧ W n m xs fun y m' => Q y (μ1.set n m')) (r1 : Rls K G (frz B H1 ρ1) ρ1 xs vs)
    (k : ∀ d v μ' ρ' H', Q d μ' → SR K G B ρ0 env μ' ρ' σ H' → ρ <+: ρ' → Same (frz B H ρ) (frz B H' ρ') → Rl K G (frz B H' ρ') ρ' d v → R v H') : r (.ref ad) vs H1 R := by
  obtain ⟨m, hm, w⟩ := w
  have hin := List.mem_of_getElem? ha
  refine hw G (frz B H1 ρ1) ρ1 H1 n ad m xs vs _ R (frz_le _ _ _) (s1.sh.sto n m ad hm ha) r1 w fun y m' z o q ry hm' => ?_
  have ef := frz_upd (B := B) (H := H1) (o := o) hin
  exact k y z (μ1.set n m') ρ1 _ q (s1.upd ha hm') p1 (by rw [ef]; exact e1) (by rw [ef]; exact ry)
theorem xx_m (pa : PlainAttrs "list") (slot : Slot "list" name id) (hty : typeOf (.builtin id) = pure (.type "method_descriptor")) (hm : MtR X id r) (hw : WM X.K r W) (ho : EX X o p) (ha : AXX X (e :: es) a)
    (hbase : attributeBase o name X.env (eval o X.env) = eval o X.env := by rfl)
    (hfew : ((backTo cpos (starEach (e :: es) X.env)).all (fun x => !x.1) && (backToKw cpos (keywordEach [] X.env)).all (fun x => x.1.isSome)
      && decide ((e :: es).length + ([] : List Keyword).length + (if ([] : List Keyword).isEmpty then 0 else 1) < 30)) = true := by rfl)
    (hline : (apos.endLine == cpos.line) = true := by rfl) (hs : starEach (e :: es) X.env = (false, eval e X.env) :: starEach es X.env := by rfl) (hplain : (backTo cpos (starEach es X.env)).any (·.1) = false := by rfl) :
    XX X (.Call (.Attribute o name apos) (e :: es) [] cpos) (xM p a W) :=
  PE.imp (pe_bm pa slot hty hm ho ha hbase hfew hline hs hplain) fun σ H R ⟨G, B, ρ0, env, μ, ρ, Q, s, q, k⟩ => by
    refine ⟨G, B, ρ0, env, μ, ρ, _, s, q, fun d v H1 q1 e1 r1 => ?_⟩
    split at q1
    · obtain ⟨ad, rfl, had⟩ := r1
      obtain ⟨⟨ds, hds⟩, q1⟩ := q1
      obtain ⟨ws, h1, _⟩ := (s.mono e1).sh.sto _ _ ad hds had
      refine ⟨.inl ⟨rfl, ws, SqL.of h1⟩, G, B, ρ0, env, μ, ρ, _, s.mono e1, q1, fun xs vs μ1 ρ1 H2 q2 s2 p2 e2 r2 => ?_⟩
      exact xM_fin hw s2 p2 ((frz_mono e1).trans e2) (by
        obtain ⟨m, rfl⟩ := p2
        rw [List.getElem?_append_left (List.getElem?_eq_some_iff.mp had).1]
        exact had) q2 r2 k
    · exact q1.elim
theorem xx_m0 (pa : PlainAttrs "list") (slot : Slot "list" name id) (hty : typeOf (.builtin id) = pure (.type "method_descriptor")) (hm : MtR X id r) (hw : WM X.K r W) (ho : EX X o p)
    (hbase : attributeBase o name X.env (eval o X.env) = eval o X.env := by rfl) (hline : (apos.endLine == cpos.line) = true := by rfl) : XX X (.Call (.Attribute o name apos) [] [] cpos) (xM p axNil W) :=
  PE.imp (pe_bm0 pa slot hty hm ho hbase hline) fun σ H R ⟨G, B, ρ0, env, μ, ρ, Q, s, q, k⟩ => by
    refine ⟨G, B, ρ0, env, μ, ρ, _, s, q, fun d v H1 q1 e1 r1 => ?_⟩
    split at q1
    · obtain ⟨ad, rfl, had⟩ := r1
      obtain ⟨⟨ds, hds⟩, q1⟩ := q1
      obtain ⟨ws, h1, _⟩ := (s.mono e1).sh.sto _ _ ad hds had
      exact ⟨.inl ⟨rfl, ws, SqL.of h1⟩, xM_fin hw (s.mono e1) (List.prefix_refl _) (frz_mono e1) had q1 .nil k⟩
    · exact q1.elim
end
/-! ### x op= e of ints, of texts -/
def sAug (i : Nat) (p : DP) (W : Store → D → D → (D → Prop) → Prop) : DS := fun env μ P => ∃ d, env[i]? = some (some d) ∧ p env μ fun e => W μ d e fun z => P.nx (env.set i (some z)) μ
def wIAdd : Store → D → D → (D → Prop) → Prop := ii fun i j Q => Q (.int (i + j))
def wISub : Store → D → D → (D → Prop) → Prop := ii fun i j Q => Q (.int (i - j))
end Gw
/-! Gw, part G: enumerate, zip of two and of three, over lists and tuples in any mix. -/
namespace Gw
open PySem PySem.Spec PyProof.Rows L2 RZ
/-- a list (l) or a tuple (t) as a source -/
inductive SK where
  | l | t
def SqK (k : SK) (K : PySem.W.Frag) (H : Hp) (a : Addr) (xs : List V) : Prop := match k with
  | .l => SqL K H a xs
  | .t => SqT K H a xs
def itK (k : SK) (h : Heap) (it a : Addr) (i : Nat) : Prop := match k with
  | .l => h.IsListIter it a i
  | .t => h.IsTupleIter it a i
def isK (k : SK) (h : Heap) (a : Addr) (items : Array Value) : Prop := match k with
  | .l => h.IsList a items
  | .t => h.IsTuple a items
def objK (k : SK) (a : Addr) : Obj := match k with
  | .l => { cls := .type "list_iterator", data := .fields #[.ref a, .int 0 0] }
  | .t => { cls := .type "tuple_iterator", data := .fields #[.ref a, .int 0 0] }
theorem beginsK (k : SK) (a : Addr) (items : Array Value) : Begins (.ref a) (objK k a) (fun h => isK k h a items) := by
  cases k with
  | l => exact begins_list a items
  | t => exact begins_tuple a items
theorem itK_0 {k : SK} {h : Heap} {it a : Addr} (e : h.get? it = some (objK k a)) : itK k h it a 0 := by
  cases k with
  | l => exact ⟨_, e, rfl, rfl⟩
  | t => exact ⟨_, e, rfl, rfl⟩
theorem drawsK {prog : Program} {w : World} {A : Around} (hh : A.handled = none) (k : SK) (it a : Addr) (hne : a ≠ it) (items : Array Value) : Draws prog w A it [it, a] items.size (fun i v => items[i]? = some v) (fun i h => itK k h it a i ∧ isK k h a items) := by
  cases k with
  | l => exact Draws.list hh it a hne items
  | t => exact Draws.tuple hh it a hne items
theorem itK_at {k : SK} {h h' : Heap} {it a : Addr} {i : Nat} (st : itK k h it a i) (e : ∀ o, h.get? it = some o → h'.get? it = some o) : itK k h' it a i := by
  cases k with
  | l => exact Heap.IsListIter.at st e
  | t => exact Heap.IsTupleIter.at st e
theorem itK_obj {k : SK} {h : Heap} {it a : Addr} {i : Nat} (st : itK k h it a i) : ∃ o, h.get? it = some o ∧ ∀ v, o.data ≠ .cell v := by
  cases k with
  | l =>
    obtain ⟨o, e, c, d⟩ := st
    exact ⟨o, e, fun v z => by rw [d] at z; cases z⟩
  | t =>
    obtain ⟨o, e, c, d⟩ := st
    exact ⟨o, e, fun v z => by rw [d] at z; cases z⟩
section
variable {X : Cx} {pins : List (Addr × Obj)} {σ : L2.St} {H : Hp} {s : Shared} {a : Addr} {xs ys : List V} {k : SK}
theorem inv_K (I : Inv X pins σ H s) (h : SqK k X.K H a xs) : ∃ its : List Value, Vals xs its ∧ isK k s.heap a its.toArray ∧ a < s.heap.objs.size := by
  cases k with
  | l =>
    obtain ⟨its, r, p, _⟩ := I.list h
    exact ⟨its, r, p.isList, p.lt⟩
  | t =>
    obtain ⟨its, r, p, _⟩ := I.tuple h
    exact ⟨its, r, p, p.lt⟩
theorem inv_Ki (I : Inv X pins σ H s) (h : SqK k X.K H a xs) (h' : SqK k X.K H a ys) : xs = ys := by
  cases k with
  | l => exact I.list_inj h h'
  | t => exact I.tuple_inj h h'
end
def It2 (K : PySem.W.Frag) (k1 k2 : SK) (a b : Addr) : It :=
  ⟨fun i H => ∃ xs ys x y, SqK k1 K H a xs ∧ SqK k2 K H b ys ∧ xs[i]? = some x ∧ ys[i]? = some y,
    fun i H v H' => ∃ T x y, v = .ref T ∧ H T = none ∧ H' = upd H T (.tup [x, y]) ∧ (∀ xs, SqK k1 K H a xs → xs[i]? = some x) ∧ ∀ ys, SqK k2 K H b ys → ys[i]? = some y,
    fun i H => ∃ xs ys, SqK k1 K H a xs ∧ SqK k2 K H b ys ∧ i = min xs.length ys.length⟩
/-- the last steps of a turn: a new tuple -/
theorem turn_fin {X : Cx} {pins : List (Addr × Obj)} {σ : L2.St} {H : Hp} {s : Shared} {h1 h2 : Heap} {tk : Nat} {T : Addr} {vals : List Value} {xs : List V} {wr fp : List Addr} (I : Inv X pins σ H s) (hwr : ∀ b ∈ wr, b ∈ fp) (hf : ∀ b ∈ fp, FpOk X pins H b) (hT : s.heap.objs.size ≤ T)
    (ht : h1.IsTuple T vals.toArray) (hap : T ∉ wr) (hv : Vals xs vals) (hz : xs.length ≤ sizeLine) (k1 : ∀ b o, b ∉ wr → s.heap.get? b = some o → h1.get? b = some o) (k2 : ∀ b o, b ∉ wr → h1.get? b = some o → h2.get? b = some o) :
    Inv X pins σ (upd H T (.tup xs)) { s with heap := h2, toks := tk } := by
  have ht2 : h2.IsTuple T vals.toArray := Heap.IsTuple.at ht fun o e => k2 T o hap e
  exact I.turnedNew (ch := wr) (fun b o hb e => k2 b o hb (k1 b o hb e)) (fun b hb => hf b (hwr b hb)) hT ⟨hz, vals, hv, ht2⟩
section
variable {P : Program} {w : World} {K : PySem.W.Frag} {elts : List Expr} {kk : Nat} {tpos : Pos}
theorem turn_2 {k1 k2 : SK} {a b N : Addr} (ha : a < N) (hb : b < N) : Turn P w K (.Tuple elts kk tpos) (It2 K k1 k2 a b) [(N + 4 : Nat), (N + 2 : Nat), (N + 3 : Nat), N, (N + 1 : Nat)] (N + 4 : Nat)
    (fun i h => IsZip h (N + 4 : Nat) (N + 2 : Nat) (N + 3 : Nat) .none ∧ IsTupOf2 h (N + 2 : Nat) (.ref N) (.ref (N + 1 : Nat)) ∧ (∃ a1 a2, IsTupOf2 h (N + 3 : Nat) a1 a2) ∧ itK k1 h N a i ∧ itK k2 h (N + 1 : Nat) b i) := by
  have na : a ≠ N := Nat.ne_of_lt ha
  have nb : b ≠ (N + 1 : Nat) := Nat.ne_of_lt (Nat.lt_succ_of_lt hb)
  have sep : ZipSep2 (N + 4 : Nat) (N + 2 : Nat) (N + 3 : Nat) N (N + 1 : Nat) [N, a] [(N + 1 : Nat), b] := zip_sep2 (fun z hz => by rw [List.mem_singleton.mp hz]; exact ha) (fun z hz => by rw [List.mem_singleton.mp hz]; exact hb)
  refine ⟨by simp, fun i h st z hz => ?_, fun i h h' st k => ?_, ?_, ?_, fun A i s Q E st h => wpAny_pyIter_zip st.1 h⟩
  · obtain ⟨h1, h2, ⟨_, _, h3⟩, h4, h5⟩ := st
    have e : z = (N + 4 : Nat) ∨ z = (N + 2 : Nat) ∨ z = (N + 3 : Nat) ∨ z = N ∨ z = (N + 1 : Nat) := by simpa using hz
    rcases e with e | e | e | e | e
    · rw [e]; exact ⟨_, h1, fun v q => nomatch q⟩
    · rw [e]; exact ⟨_, h2, fun v q => nomatch q⟩
    · rw [e]; exact ⟨_, h3, fun v q => nomatch q⟩
    · rw [e]; exact itK_obj h4
    · rw [e]; exact itK_obj h5
  · obtain ⟨h1, h2, ⟨a1, a2, h3⟩, h4, h5⟩ := st
    exact ⟨k _ (by simp) _ h1, k _ (by simp) _ h2, ⟨a1, a2, k _ (by simp) _ h3⟩, itK_at h4 fun o e => k _ (by simp) o e, itK_at h5 fun o e => k _ (by simp) o e⟩
  · intro X hP hw hK hcm i pins s σ H E I hf st hg
    subst hP hw hK
    obtain ⟨h1, h2, h3, h4, h5⟩ := st
    obtain ⟨xs, ys, x, y, q1, q2, x1, x2⟩ := hg
    obtain ⟨i1, v1, p1, _⟩ := inv_K I q1
    obtain ⟨i2, v2, p2, _⟩ := inv_K I q2
    obtain ⟨u1, g1, r1⟩ := v1.get x1
    obtain ⟨u2, g2, r2⟩ := v2.get x2
    have hh : X.A.in1.handled = none := I.ok.hd hcm
    have W := WalksT.zipD2 (prog := X.prog) (w := X.w) (A := X.A) sep (drawsK hh k1 N a na i1.toArray) (drawsK hh k2 (N + 1 : Nat) b nb i2.toArray)
    have l1 := (List.getElem?_eq_some_iff.mp g1).1
    have l2 := (List.getElem?_eq_some_iff.mp g2).1
    refine W.item i s _ _ (by simp; omega) ⟨h1, h2, h3, ⟨h4, p1⟩, ⟨h5, p2⟩⟩ fun T vals h' tk hP hT ht hm hk => ⟨_, rfl, ?_⟩
    refine W.go elts kk tpos i T _ _ _ hm fun h'' st2 hk2 => ?_
    obtain ⟨w1, w2, e1, e2, rfl⟩ := hP
    have d1 : u1 = w1 := Option.some.inj (g1.symm.trans (by simpa using e1))
    have d2 : u2 = w2 := Option.some.inj (g2.symm.trans (by simpa using e2))
    subst d1 d2
    have I1 := turn_fin (xs := [x, y]) (vals := [u1, u2]) (tk := tk) I (fun b hb => by
      have e : b = (N + 4 : Nat) ∨ b = (N + 3 : Nat) ∨ b = N ∨ b = (N + 1 : Nat) := by simpa using hb
      simp only [List.mem_cons]
      rcases e with e | e | e | e <;> simp [e]) hf hT ht (W.apart i T _ hm) (.cons r1 (.cons r2 .nil)) (by show 2 ≤ sizeLine; decide) hk hk2
    refine ⟨.ref T, _, I1, rfl, ⟨T, x, y, rfl, I.hok.fresh hT, rfl, fun us hu => by rw [inv_Ki I hu q1]; exact x1, fun us hu => by rw [inv_Ki I hu q2]; exact x2⟩, ⟨st2.1, st2.2.1, st2.2.2.1, st2.2.2.2.1.1, st2.2.2.2.2.1⟩, fun b hb => ?_⟩
    obtain ⟨o, ho, _⟩ : ∃ o, s.heap.get? b = some o ∧ ∀ v, o.data ≠ .cell v := by
      obtain ⟨_, _, h3⟩ := h3
      have e : b = (N + 4 : Nat) ∨ b = (N + 2 : Nat) ∨ b = (N + 3 : Nat) ∨ b = N ∨ b = (N + 1 : Nat) := by simpa using hb
      rcases e with e | e | e | e | e
      · rw [e]; exact ⟨_, h1, fun v q => nomatch q⟩
      · rw [e]; exact ⟨_, h2, fun v q => nomatch q⟩
      · rw [e]; exact ⟨_, h3, fun v q => nomatch q⟩
      · rw [e]; exact itK_obj h4
      · rw [e]; exact itK_obj h5
    rw [upd_ne (Nat.ne_of_lt (Nat.lt_of_lt_of_le (Heap.lt_size ho) hT))]
    exact (hf b hb).1
  · intro X hP hw hK hcm i pins s σ H E I hf st hg
    subst hP hw hK
    obtain ⟨h1, h2, h3, h4, h5⟩ := st
    obtain ⟨xs, ys, q1, q2, hi⟩ := hg
    obtain ⟨i1, v1, p1, _⟩ := inv_K I q1
    obtain ⟨i2, v2, p2, _⟩ := inv_K I q2
    have hh : X.A.in1.handled = none := I.ok.hd hcm
    have W := WalksT.zipD2 (prog := X.prog) (w := X.w) (A := X.A) sep (drawsK hh k1 N a na i1.toArray) (drawsK hh k2 (N + 1 : Nat) b nb i2.toArray)
    have en : i = min i1.toArray.size i2.toArray.size := by
      rw [hi, v1.length, v2.length]
      simp
    refine W.done s _ _ (by rw [← en]; exact ⟨h1, h2, h3, ⟨h4, p1⟩, ⟨h5, p2⟩⟩) fun h' tk hk => ⟨rfl, ?_⟩
    exact I.turnedL (t' := tk) (ch := [(N + 4 : Nat), (N + 3 : Nat), N, (N + 1 : Nat)]) hk fun b hb => hf b (by
      have e : b = (N + 4 : Nat) ∨ b = (N + 3 : Nat) ∨ b = N ∨ b = (N + 1 : Nat) := by simpa using hb
      simp only [List.mem_cons]
      rcases e with e | e | e | e <;> simp [e])
end
/-! ### walks of these -/
section
variable {K : PySem.W.Frag} {k1 k2 k3 : SK} {a b c : Addr} {n : Nat}
theorem walk_2 {l m : Nat} (hn : n = min l m) : Walk (It2 K k1 k2 a b) n (fun H => ∃ xs ys, SqK k1 K H a xs ∧ SqK k2 K H b ys ∧ xs.length = l ∧ ys.length = m)
    (fun i H v H' => ∃ T x y, v = .ref T ∧ H T = none ∧ H' = upd H T (.tup [x, y]) ∧ (∀ xs, SqK k1 K H a xs → xs[i]? = some x) ∧ ∀ ys, SqK k2 K H b ys → ys[i]? = some y) :=
  ⟨fun i H hi ⟨xs, ys, q1, q2, l1, l2⟩ => ⟨xs, ys, xs[i]'(by omega), ys[i]'(by omega), q1, q2, List.getElem?_eq_getElem _, List.getElem?_eq_getElem _⟩,
    fun H ⟨xs, ys, q1, q2, l1, l2⟩ => ⟨xs, ys, q1, q2, by rw [l1, l2]; exact hn⟩, fun i H x H' hi q y => y⟩
end
/-! ### as what is walked -/
section
variable {X : Cx} {e1 e2 e3 : Expr} {ta : TA} {p pos tpos : Pos} {elts : List Expr} {kk : Nat}
def iZ2 (K : PySem.W.Frag) (ta : TA) : TI := fun σ H R => ta σ H fun vs H1 => ∃ k1 k2 a b xs ys, vs = [.ref a, .ref b] ∧ SqK k1 K H1 a xs ∧ SqK k2 K H1 b ys ∧ R (It2 K k1 k2 a b) H1
theorem pi_zip2 (hg : Gl X "zip") (hm : X.mg "zip" = none) (ha : PA X [e1, e2] ta) (hs : starEach [e1, e2] X.env = (false, eval e1 X.env) :: starEach [e2] X.env := by rfl) (hpl : (backTo pos (starEach [e2] X.env)).any (·.1) = false := by rfl) :
    PI X (.Tuple elts kk tpos) (.Call (.Name "zip" p) [e1, e2] [] pos) (iZ2 X.K ta) := by
  refine ⟨fun pins s σ H R I h => ?_⟩
  refine Call_ (ld_blt I hg hm PyProof.Rows.boot_zip (PyProof.Rows.callWith_type1 (thn (ha.run pos pins s σ H _ I h) fun us s1 ⟨vs, H1, I1, r1, q1⟩ => ?_) hs hpl))
  obtain ⟨k1, k2, a, b, xs, ys, rfl, h1, h2, q⟩ := q1
  cases r1 with
  | cons r rr =>
    cases rr with
    | cons r' rr =>
      cases rr
      cases r
      cases r'
      obtain ⟨i1, v1, p1, l1⟩ := inv_K I1 h1
      obtain ⟨i2, v2, p2, l2⟩ := inv_K I1 h2
      refine zip_begins2 (beginsK k1 a i1.toArray) (beginsK k2 b i2.toArray) p1 p2 fun h' hz hTI hTO o1 o2 hsz hk => wpAny_pyIter_zip hz ?_
      have I2 : Inv X pins σ H1 { s1 with heap := h' } := I1.kept (t' := s1.toks) hk
      refine ⟨s1.heap.objs.size + 4, _, _, _, H1, rfl, I2, turn_2 l1 l2, ⟨hz, hTI, ⟨_, _, hTO⟩, itK_0 o1, itK_0 o2⟩, fun d hd => ?_, q⟩
      have e' : d = s1.heap.objs.size + 4 ∨ d = s1.heap.objs.size + 2 ∨ d = s1.heap.objs.size + 3 ∨ d = s1.heap.objs.size ∨ d = s1.heap.objs.size + 1 := by simpa using hd
      have hle : s1.heap.objs.size ≤ d := by
        rcases e' with z | z | z | z | z
        · rw [z]; exact Nat.le_add_right _ _
        · rw [z]; exact Nat.le_add_right _ _
        · rw [z]; exact Nat.le_add_right _ _
        · rw [z]; exact Nat.le_refl _
        · rw [z]; exact Nat.le_add_right _ _
      exact I1.fpOk hle (I1.hok.fresh hle)
end
end Gw
/-! Gw, part H: zip over any sources, displays of dicts, dicts' keys, slices with a step. -/
namespace Gw
open PySem PySem.Spec PyProof.Rows L2 RZ
/-! ### a list or a tuple as a source -/
def srcA (μ : Store) (d : D) (Q : List T → (Store → Prop) → Prop) : Prop := match d with
  | .t (.lst xs) => Q xs fun _ => True
  | .t (.ro xs) => Q xs fun _ => True
  | .t (.tup xs) => Q xs fun _ => True
  | .t (.pt xs) => Q xs fun _ => True
  | .loc n => ∃ xs, μ[n]? = some (.lst (xs.map D.t)) ∧ Q xs fun μ' => μ'[n]? = some (.lst (xs.map D.t))
  | _ => False
section
variable {K : PySem.W.Frag} {G B H : Hp} {ρ0 ρ : List Addr} {μ : Store}
theorem srcA_ok (s : SH K G B ρ0 μ ρ H) {d : D} {v : V} {Q : List T → (Store → Prop) → Prop} (r : Rl K G (frz B H ρ) ρ d v) (h : srcA μ d Q) : ∃ sk xs kp a, Q xs kp ∧ v = .ref a ∧ kp μ ∧
    ∀ B' μ' ρ' H', Later K G B' ρ0 ρ (frz B H ρ) μ' ρ' H' → kp μ' → ∃ vs, SqK sk K H' a vs ∧ Rps K G (frz B' H' ρ') xs vs := by
  cases d with
  | t x =>
    cases x with
    | lst xs => exact ⟨.l, src_ok s r (d := .t (.lst xs)) h⟩
    | ro xs => exact ⟨.l, src_ok s r (d := .t (.ro xs)) h⟩
    | tup xs =>
      obtain ⟨a, vs, rfl, h1, h2⟩ := r
      exact ⟨.t, xs, _, a, h, rfl, trivial, fun B' μ' ρ' H' l _ => ⟨vs, SqT.of (frz_le _ _ _ _ _ (l.fro _ _ h1)), h2.mono l.fro⟩⟩
    | pt xs =>
      obtain ⟨a, vs, o, rfl, h1, _, h2⟩ := r
      exact ⟨.t, xs, _, a, h, rfl, trivial, fun B' μ' ρ' H' l _ => ⟨vs, sqT_pt (frz_le _ _ _ _ _ (l.fro _ _ h1)), h2.mono l.fro⟩⟩
    | _ => exact h.elim
  | loc n => exact ⟨.l, src_ok s r (d := .loc n) h⟩
  | tp ds => exact h.elim
end
def iZp2 (p q : DP) : DI := fun env μ Q => p env μ fun d => q env μ fun d' => srcA μ d fun xs kp => srcA μ d' fun ys kp' => Q ⟨zipD xs ys, fun μ' => kp μ' ∧ kp' μ'⟩
def zip3D : List T → List T → List T → List D
  | x :: xs, y :: ys, z :: zs => .t (.tup [x, y, z]) :: zip3D xs ys zs
  | _, _, _ => []
def iZp3 (p q r : DP) : DI := fun env μ Q => p env μ fun d => q env μ fun d' => r env μ fun d2 => srcA μ d fun xs kp => srcA μ d' fun ys kp' => srcA μ d2 fun zs kp2 => Q ⟨zip3D xs ys zs, fun μ' => kp μ' ∧ kp' μ' ∧ kp2 μ'⟩
section
variable {X : Cx} {e e2 e3 : Expr} {p q r : DP} {pos : Pos}
theorem ix_zip2 {elts : List Expr} {kk : Nat} {tpos p0 : Pos} (hg : Gl X "zip") (hm : X.mg "zip" = none) (h : EX X e p) (h' : EX X e2 q) (hs : starEach [e, e2] X.env = (false, eval e X.env) :: starEach [e2] X.env := by rfl) (hs1 : starEach [e2] X.env = (false, eval e2 X.env) :: starEach [] X.env := by rfl)
    (hpl : (backTo pos (starEach [e2] X.env)).any (·.1) = false := by rfl) : IX X (.Tuple elts kk tpos) (.Call (.Name "zip" p0) [e, e2] [] pos) (iZp2 p q) :=
  PI.imp (pi_zip2 hg hm (ax_cons h (ax_cons h' ax_nil hs1) hs) hs hpl) fun σ H R ⟨G, B, ρ0, env, μ, ρ, Q, s, q1, k⟩ => by
    refine ⟨G, B, ρ0, env, μ, ρ, fun ds => two' ds fun d d' => srcA μ d fun xs kp => srcA μ d' fun ys kp' => Q ⟨zipD xs ys, fun μ' => kp μ' ∧ kp' μ'⟩, s, q1, fun ds vs H1 q0 e1 rr => ?_⟩
    obtain ⟨d, d', rfl, q2⟩ := two_of q0
    cases rr with
    | cons r1 rr =>
      cases rr with
      | cons r2 rr =>
        cases rr
        have sh := (s.mono e1).sh
        obtain ⟨k1, xs, kp, a, q3, rfl, p1, lat⟩ := srcA_ok sh r1 q2
        obtain ⟨k2, ys, kp', b, q4, rfl, p2, lat'⟩ := srcA_ok sh r2 q3
        obtain ⟨vs, hq, hr⟩ := lat B μ ρ H1 (later_refl sh) p1
        obtain ⟨ws, hq', hr'⟩ := lat' B μ ρ H1 (later_refl sh) p2
        refine ⟨k1, k2, a, b, vs, ws, rfl, hq, hq', k _ _ H1 q4 e1 ⟨p1, p2⟩ ⟨⟨_, _, walk_2 (l := xs.length) (m := ys.length) (by simp [zipD]), fun B' μ' ρ' H' l kp => ?_, fun i B' μ' ρ' H' x H2 hi l kp y => ?_⟩⟩⟩
        · obtain ⟨w1, h5, h6⟩ := lat B' μ' ρ' H' l kp.1
          obtain ⟨w2, h5', h6'⟩ := lat' B' μ' ρ' H' l kp.2
          exact ⟨w1, w2, h5, h5', h6.length.symm, h6'.length.symm⟩
        · obtain ⟨T', x', y', rfl, hT, rfl, y1, y2⟩ := y
          have hi' : i < min xs.length ys.length := by
            have : i < (zipD xs ys).length := hi
            simpa [zipD] using this
          obtain ⟨w1, h5, h6⟩ := lat B' μ' ρ' H' l kp.1
          obtain ⟨w2, h5', h6'⟩ := lat' B' μ' ρ' H' l kp.2
          obtain ⟨z, w, h7, h8, h9⟩ := rps_item h6 (i := i) (by omega)
          obtain ⟨z', w', h7', h8', h9'⟩ := rps_item h6' (i := i) (by omega)
          have := (y1 w1 h5).symm.trans h8
          cases this
          have := (y2 w2 h5').symm.trans h8'
          cases this
          have n := l.sh.new (o := .tup [x', y']) hT
          exact ⟨n.1, _, zipD_at h7 h7', T', _, rfl, n.2, _, _, rfl, Rp.mono (frz_mono n.1) h9, _, _, rfl, Rp.mono (frz_mono n.1) h9', rfl⟩
end
/-! ### a new object under making is hidden -/
theorem SR.hideO {K : PySem.W.Frag} {G B H H' : Hp} {ρ0 ρ : List Addr} {env : DEnv} {μ : Store} {σ : L2.St} {a : Addr} {o : HO} (t : isT (some o) = false) (s : SR K G B ρ0 env μ ρ σ H) (e : Same H H') (n : H a = none) (h : H' a = some o) : SR K G (L2.upd B a o) ρ0 env μ ρ σ H' := by
  have hb := s.sh.freshB n
  have ha := s.sh.fresh n
  have sm : Same (frz B H ρ) (frz (L2.upd B a o) H' ρ) := (frz_app e n).trans hide_frz
  refine ⟨⟨fun b x q => ?_, s.sh.sameG.trans e, fun b hb' => ?_, s.sh.outG, s.sh.nd, s.sh.pre, s.sh.len, fun i m b h1 h2 => (s.sh.sto i m b h1 h2).mono sm (List.prefix_refl _) (s.sh.keep e (List.mem_of_getElem? h2))⟩, s.slen, fun i d q => let ⟨v, h1, h2⟩ := s.slot i d q; ⟨v, h1, h2.mono sm (List.prefix_refl _)⟩⟩
  · by_cases hba : b = a
    · rw [hba, upd_same] at q
      cases q
      rw [hba]
      exact h
    · rw [upd_ne hba] at q
      exact e _ _ (s.sh.same _ _ q)
  · rw [upd_ne (fun z => ha (by rw [← z]; exact hb'))]
    exact s.sh.out b hb'
/-! ### displays of dicts -/
abbrev DPs := DEnv → Store → (List (D × D) → Prop) → Prop
def dpNil : DPs := fun _ _ Q => Q []
def dpCons (p q : DP) (r : DPs) : DPs := fun env μ Q => p env μ fun d => q env μ fun e => r env μ fun ps => Q ((d, e) :: ps)
def PX (X : Cx) (pos : Pos) (keys : List (Option Expr)) (values : List Expr) (p : DPs) : Prop := ∃ trs, PPs X pos keys values trs ∧
  ∀ (G B : Hp) ρ0 env μ ρ σ H (Q : List (D × D) → Prop) (R : List (V × V) → Hp → Prop), SR X.K G B ρ0 env μ ρ σ H → p env μ Q →
    (∀ ps vs H', Q ps → Same H H' → Paired (fun (a : D × D) (b : V × V) => Rl X.K G (frz B H' ρ) ρ a.1 b.1 ∧ Rl X.K G (frz B H' ρ) ρ a.2 b.2) ps vs → R vs H') → tPairs trs σ H R
def kD : Key → D
  | .inl i => .t (.int i)
  | .inr s => .t (.str s)
theorem kD_rl {K : PySem.W.Frag} {G F : Hp} {ρ : List Addr} {k : Key} {v : V} (h : Rl K G F ρ (kD k) v) : v = kV k := by
  cases k with
  | inl i => exact h
  | inr s => exact h
theorem kV_rl {K : PySem.W.Frag} {G F : Hp} {ρ : List Addr} (k : Key) : Rl K G F ρ (kD k) (kV k) := by
  cases k with
  | inl i => rfl
  | inr s => rfl
def mergeD (kvs more : List (Key × D)) : List (Key × D) := more.foldl (fun acc kv => putD acc kv.1 kv.2) kvs
def xDisp (p : DPs) : DX := fun env μ Q => p env μ fun ps => ∃ kvs : List (Key × D), ps = kvs.map (fun kv => (kD kv.1, kv.2)) ∧ kvs.length ≤ 15 ∧ Q (.loc μ.length) (μ ++ [.dic (mergeD [] kvs)])
theorem DV.merge {K : PySem.W.Frag} {G F : Hp} {ρ : List Addr} : ∀ {kvs : List (Key × D)} {vs : List (V × V)} {acc : List (Key × D)} {ws : List (Key × V)}, DV K G F ρ acc ws →
    Paired (fun (a : D × D) (b : V × V) => Rl K G F ρ a.1 b.1 ∧ Rl K G F ρ a.2 b.2) (kvs.map fun kv => (kD kv.1, kv.2)) vs → ∃ us : List (Key × V), vs = us.map (fun kv => (kV kv.1, kv.2)) ∧ us.length = kvs.length ∧ DV K G F ρ (mergeD acc kvs) (mergeK ws us)
  | [], _, acc, ws, d, .nil => ⟨[], rfl, rfl, d⟩
  | kv :: kvs, _, acc, ws, d, .cons (b := (x, y)) r t => by
    obtain ⟨r1, r2⟩ := r
    have e := kD_rl r1
    have r2 : Rl K G F ρ kv.2 y := r2
    obtain ⟨us, h1, h2, h3⟩ := DV.merge (acc := putD acc kv.1 kv.2) (ws := putK ws kv.1 y) (d.put r2) t
    exact ⟨(kv.1, y) :: us, by rw [h1]; simp only [List.map_cons]; rw [← e], by rw [List.length_cons, List.length_cons, h2], h3⟩
section
variable {X : Cx} {pos : Pos} {k v : Expr} {ks : List (Option Expr)} {vs : List Expr} {p q : DP} {r : DPs}
theorem dpx_nil : PX X pos [] [] dpNil := ⟨[], pps_nil, fun G B ρ0 env μ ρ σ H Q R s q k => k [] [] H q (Same.refl _) .nil⟩
theorem dpx_cons (hk : EX X k p) (hv : EX X v q) (hr : PX X pos ks vs r) : PX X pos (some k :: ks) (v :: vs) (dpCons p q r) := by
  obtain ⟨trs, h1, h2⟩ := hr
  refine ⟨_, pps_cons hk hv h1, fun G B ρ0 env μ ρ σ H Q R s q1 kk => ?_⟩
  refine ⟨G, B, ρ0, env, μ, ρ, _, s, q1, fun d x H1 q2 e1 r1 => ?_⟩
  refine ⟨G, B, ρ0, env, μ, ρ, _, s.mono e1, q2, fun e y H2 q3 e2 r2 => ?_⟩
  refine h2 G B ρ0 env μ ρ σ H2 _ _ ((s.mono e1).mono e2) q3 fun ps ws H3 q4 e3 r3 => ?_
  exact kk _ _ H3 q4 ((e1.trans e2).trans e3) (.cons ⟨r1.mono (frz_mono (e2.trans e3)) (List.prefix_refl _), r2.mono (frz_mono e3) (List.prefix_refl _)⟩ r3)
theorem xx_disp (h : PX X pos ks vs r) (hall : ks.all (·.isSome) = true) (hl : ks.length = vs.length) (h0 : ks ≠ []) (h15 : ks.length ≤ 15) : XX X (.Dict ks vs pos) (xDisp r) := by
  obtain ⟨trs, h1, h2⟩ := h
  refine PE.imp (pe_disp h1 hall hl h0 h15) fun σ H R ⟨G, B, ρ0, env, μ, ρ, Q, s, q1, k⟩ p hp => ?_
  have sm := same_new (o := .dK []) hp
  refine h2 G _ ρ0 env μ ρ σ _ _ _ (s.hideO (o := .dK []) rfl sm hp upd_same) q1 fun ps ws H2 q2 e2 r2 => ⟨e2 _ _ upd_same, ?_⟩
  obtain ⟨kvs, rfl, hz, q3⟩ := q2
  have r3 : Paired (fun (a : D × D) (b : V × V) => Rl X.K G (frz B H2 (ρ ++ [p])) (ρ ++ [p]) a.1 b.1 ∧ Rl X.K G (frz B H2 (ρ ++ [p])) (ρ ++ [p]) a.2 b.2) (kvs.map fun kv => (kD kv.1, kv.2)) ws :=
    Paired.imp (fun _ _ r => ⟨r.1.mono (frz_hide (o := .dK []) rfl) (List.prefix_append _ _), r.2.mono (frz_hide (o := .dK []) rfl) (List.prefix_append _ _)⟩) r2
  obtain ⟨us, h3, h4, h5⟩ := DV.merge (acc := []) (ws := []) .nil r3
  refine ⟨us, h3, by omega, ?_⟩
  have nin : p ∈ ρ ++ [p] := by simp
  have e : Same H (upd H2 p (.dK (mergeK [] us))) := fun b o hb => by
    rw [upd_ne (ne_of_none hb hp)]
    exact e2 _ _ (sm _ _ hb)
  obtain ⟨c1, c2, c3, c4⟩ := claim s e hp (m := .dic (mergeD [] kvs)) ⟨_, upd_same, by rw [frz_upd nin]; exact h5⟩
  exact k _ _ _ _ _ q3 c1 c2 c3 c4
/-- {} -/
theorem xx_dic : XX X (.Dict [] [] pos) xDic := by
  refine PE.imp pe_dnewK fun σ H R ⟨G, B, ρ0, env, μ, ρ, Q, s, q1, k⟩ p hp => ?_
  obtain ⟨c1, c2, c3, c4⟩ := claim s (same_new (o := .dK []) hp) hp (m := .dic []) ⟨_, upd_same, .nil⟩
  exact k _ _ _ _ _ q1 c1 c2 c3 c4
end
/-! ### a dict of the store is walked -/
/-- its keys; it is locked -/
def iKy (p : DP) : DI := fun env μ Q => p env μ fun d => match d with
  | .loc n => ∃ z kvs, μ[n]? = some (.lck z kvs) ∧ Q ⟨kvs.map (fun kv => kD kv.1), fun μ' => μ'[n]? = some (.lck z kvs)⟩
  | _ => False
theorem SH.upd {K : PySem.W.Frag} {G B H : Hp} {ρ0 ρ : List Addr} {μ : Store} (s : SH K G B ρ0 μ ρ H) {n : Nat} {a : Addr} {m : MO} {o : HO} (ha : ρ[n]? = some a)
    (hm : MOk K G (frz B H ρ) ρ (L2.upd H a o) a m) : SH K G B ρ0 (μ.set n m) ρ (L2.upd H a o) :=
  (SR.upd (env := []) (σ := []) ⟨s, rfl, fun i d h => by simp at h⟩ ha hm).sh
theorem later_at {K : PySem.W.Frag} {G B' : Hp} {ρ0 ρ : List Addr} {F : Hp} {μ' : Store} {ρ' : List Addr} {H' : Hp} (l : Later K G B' ρ0 ρ F μ' ρ' H') {n : Nat} {a : Addr} (ha : ρ[n]? = some a) : ρ'[n]? = some a := by
  obtain ⟨m, h⟩ := l.pre
  rw [← h, List.getElem?_append_left (List.getElem?_eq_some_iff.mp ha).1]
  exact ha
section
variable {X : Cx} {e tg : Expr} {p : DP} {pos : Pos}
theorem ix_keys (h : EX X e p) : IX X tg e (iKy p) :=
  PI.imp (pi_keys h) fun σ H R ⟨G, B, ρ0, env, μ, ρ, Q, s, q1, k⟩ => by
    refine ⟨G, B, ρ0, env, μ, ρ, _, s, q1, fun d v H1 q2 e1 r => ?_⟩
    cases d with
    | t x => exact q2.elim
    | tp ds => exact q2.elim
    | loc n =>
      obtain ⟨z, kvs, h1, q3⟩ := q2
      obtain ⟨a, rfl, ha⟩ := r
      have sh := (s.mono e1).sh
      obtain ⟨h2, h3⟩ := sh.sto n _ a h1 ha
      refine ⟨a, z.1, rfl, .inl ⟨z.2, h2, k _ _ H1 q3 e1 h1 ⟨⟨_, _, (show Walk (Itk a z.1 z.2) (kvs.map fun kv => kD kv.1).length _ _ by rw [List.length_map, Paired.len h3]; exact walk_keys), fun B' μ' ρ' H' l kp => ?_, fun i B' μ' ρ' H' x H2 hi l kp y => ?_⟩⟩⟩⟩
      · exact (l.sh.sto n _ a kp (later_at l ha)).1
      · obtain ⟨rfl, kk, vv, h4, rfl⟩ := y
        refine ⟨Same.refl _, kD kk, ?_, kV_rl kk⟩
        rw [List.getElem?_map]
        have hi' : i < kvs.length := by simpa using hi
        obtain ⟨w, h5, h6⟩ := Paired.at h3 (List.getElem?_eq_getElem hi')
        rw [h4] at h5
        cases h5
        rw [List.getElem?_eq_getElem hi']
        show some (kD (kvs[i]).1) = _
        rw [h6.1]
theorem Nx.unlock {K : PySem.W.Frag} {G B : Hp} {ρ0 ρ : List Addr} {F : Hp} {n : Nat} {a : Addr} {od : Obj} {ws : List (Key × V)} {kvs : List (Key × D)} {PP : DEnv → Store → Prop} {N : L2.St → Hp → Prop} (ha : ρ[n]? = some a) (x : Nx K G B ρ0 ρ F PP N) :
    Nx K G B ρ0 ρ F (fun env' μ' => μ'[n]? = some (.lck (od, ws) kvs) ∧ PP env' (μ'.set n (.dic kvs))) (fun σ' H' => H' a = some (.frz od (.dK ws)) ∧ N σ' (L2.upd H' a (.dK ws))) := fun env' μ' ρ' σ' H' ⟨h1, h2⟩ s' p' e' => by
  have ha' : ρ'[n]? = some a := by
    obtain ⟨m, rfl⟩ := p'
    rw [List.getElem?_append_left (List.getElem?_eq_some_iff.mp ha).1]
    exact ha
  obtain ⟨h3, h4⟩ := s'.sh.sto n _ a h1 ha'
  exact ⟨h3, x env' _ ρ' σ' _ h2 (s'.upd (m := .dic kvs) (o := .dK ws) ha' ⟨ws, upd_same, h4⟩) p' (by rw [frz_upd (List.mem_of_getElem? ha')]; exact e')⟩
end
/-! ### xs[::2], xs[1::2] -/
def evT {α : Type} : List α → List α
  | [] => []
  | [x] => [x]
  | x :: _ :: r => x :: evT r
def odT {α : Type} : List α → List α
  | [] => []
  | _ :: r => evT r
theorem evT_length {α : Type} : ∀ xs : List α, (evT xs).length = (xs.length + 1) / 2
  | [] => by simp [evT]
  | [x] => by simp [evT]
  | x :: y :: r => by
    rw [evT, List.length_cons, evT_length r, List.length_cons, List.length_cons]
    omega
theorem evT_at {α : Type} : ∀ (xs : List α) (i : Nat), (evT xs)[i]? = xs[2 * i]?
  | [], i => by simp [evT]
  | [x], 0 => rfl
  | [x], i + 1 => by
    rw [List.getElem?_eq_none (by simp [evT]), List.getElem?_eq_none (by simp; omega)]
  | x :: y :: r, 0 => rfl
  | x :: y :: r, i + 1 => by
    have e : 2 * (i + 1) = 2 * i + 2 := by omega
    rw [evT, e, List.getElem?_cons_succ, List.getElem?_cons_succ, List.getElem?_cons_succ]
    exact evT_at r i
theorem Rps.ev {K : PySem.W.Frag} {G F : Hp} {xs : List T} {vs : List V} (h : Rps K G F xs vs) : Rps K G F (evT xs) (evT vs) :=
  h.pick (fun i => 2 * i) (by rw [evT_length, evT_length, h.length]) (fun i _ => evT_at _ _) (fun i _ => evT_at _ _)
theorem Rps.od {K : PySem.W.Frag} {G F : Hp} {xs : List T} {vs : List V} (h : Rps K G F xs vs) : Rps K G F (odT xs) (odT vs) := by
  match xs, vs, h with
  | [], vs, h =>
    have e : vs = [] := h
    rw [e]
    rfl
  | x :: xs, _, ⟨v, r, rfl, _, h⟩ => exact h.ev
theorem ev_pick {α : Type} : ∀ xs : List α, (List.range ((xs.length + 1) / 2)).filterMap (fun i => xs[2 * i]?) = evT xs
  | [] => by simp [evT]
  | [x] => by simp [evT, List.range_succ]
  | x :: y :: r => by
    have e : ((x :: y :: r).length + 1) / 2 = (r.length + 1) / 2 + 1 := by
      rw [List.length_cons, List.length_cons]
      omega
    have e2 : ((fun i => (x :: y :: r)[2 * i]?) ∘ Nat.succ) = fun i => r[2 * i]? := by
      funext i
      show (x :: y :: r)[2 * (i + 1)]? = _
      rw [show 2 * (i + 1) = 2 * i + 2 by omega, List.getElem?_cons_succ, List.getElem?_cons_succ]
    rw [e, List.range_succ_eq_map, List.filterMap_cons, List.filterMap_map, e2, ev_pick r]
    rfl
theorem pick_ev (its : List Value) : slicePick its.toArray none none (some 2) = (evT its).toArray := by
  unfold slicePick
  have e : sliceBounds none none (some 2) its.toArray.size = (0, (its.length : Int), 2) := by simp [sliceBounds]
  rw [e, ← ev_pick its]
  unfold sliceRange
  have c : (if (2 : Int) > 0 then if (0 : Int) < (its.length : Int) then ((its.length : Int) - 0 + 2 - 1) / 2 else 0 else if (0 : Int) > (its.length : Int) then (0 - (its.length : Int) - 2 - 1) / -2 else 0).toNat = (its.length + 1) / 2 := by
    by_cases h : (0 : Int) < (its.length : Int)
    · simp only [h, if_true, show (2 : Int) > 0 by decide]
      omega
    · have h0 : its.length = 0 := by omega
      simp [h0]
  simp only [c, List.filterMap_map]
  congr 2
  funext i
  show its.toArray[(0 + 2 * (i : Int)).toNat]? = _
  rw [show (0 + 2 * (i : Int)).toNat = 2 * i by omega]
  simp
theorem pick_od (its : List Value) : slicePick its.toArray (some 1) none (some 2) = (odT its).toArray := by
  cases its with
  | nil => simp [slicePick, sliceBounds, sliceRange, odT]
  | cons x r =>
    unfold slicePick
    have e : sliceBounds (some 1) none (some 2) (x :: r).toArray.size = (1, (r.length : Int) + 1, 2) := by
      simp [sliceBounds]
      try omega
    rw [e]
    show _ = (evT r).toArray
    rw [← ev_pick r]
    unfold sliceRange
    have c : (if (2 : Int) > 0 then if (1 : Int) < (r.length : Int) + 1 then ((r.length : Int) + 1 - 1 + 2 - 1) / 2 else 0 else if (1 : Int) > (r.length : Int) + 1 then (1 - ((r.length : Int) + 1) - 2 - 1) / -2 else 0).toNat = (r.length + 1) / 2 := by
      by_cases h : (1 : Int) < (r.length : Int) + 1
      · simp only [h, if_true, show (2 : Int) > 0 by decide]
        omega
      · have h0 : r.length = 0 := by omega
        simp [h0]
    simp only [c, List.filterMap_map]
    congr 2
    funext i
    show (x :: r).toArray[(1 + 2 * (i : Int)).toNat]? = _
    rw [show (1 + 2 * (i : Int)).toNat = 2 * i + 1 by omega]
    simp
section
variable {X : Cx} {e : Expr} {te : TE} {p : DP} {pos p1 p2 p3 : Pos} {k : Nat}
/-- a slice of a list with the step two -/
def tStep (K : PySem.W.Frag) (te : TE) (to : TO) (f : List V → List V) : TE := fun σ H Q => te σ H fun x H1 => to σ H1 fun _ H2 => ∃ a xs, x = .ref a ∧ SqL K H2 a xs ∧ ∀ q, H2 q = none → Q (.ref q) (upd H2 q (.lst (f xs)))
theorem Vals.ev {xs : List V} {its : List Value} (r : Vals xs its) : Vals (evT xs) (evT its) := by
  match xs, its, r with
  | _, _, .nil => exact .nil
  | _, _, .cons r1 .nil => exact .cons r1 .nil
  | _, _, .cons r1 (.cons r2 t) => exact .cons r1 (Vals.ev t)
theorem Vals.od {xs : List V} {its : List Value} (r : Vals xs its) : Vals (odT xs) (odT its) := by
  cases r with
  | nil => exact .nil
  | cons r1 t => exact Vals.ev t
theorem pe_step {lo : Option Expr} {to : TO} {o : Option Int} {f : List V → List V} {g : List Value → List Value} (he : PE X e te) (hl : PO X lo to) (hv : ∀ σ H Q, to σ H Q → to σ H fun o' H' => o' = o ∧ Q o' H') (hf : ∀ its, slicePick its.toArray o none (some 2) = (g its).toArray)
    (hfg : ∀ xs its, Vals xs its → Vals (f xs) (g its)) (hlen : ∀ xs : List V, (f xs).length ≤ xs.length) : PE X (.Subscript e (.Slice lo none (some (.Constant (.int 2) k p2)) p3) pos) (tStep X.K te to f) := by
  refine ⟨fun pins s σ H Q I h => ?_⟩
  refine Subscript_ (thn (he.run pins s σ H _ I h) fun v s1 ⟨x, H1, I1, r1, q1⟩ => ?_)
  refine wpAny_Slice (thn (hl.run pins s1 σ H1 _ I1 (hv σ H1 _ q1)) fun vl s2 ⟨l, H2, I2, pl, el, q2⟩ => ?_)
  obtain ⟨a, xs, ex, hx, q⟩ := q2
  subst el ex
  cases r1
  refine thn (po_none.run pins s2 σ H2 (fun o H3 => o = none ∧ H3 = H2) I2 ⟨rfl, rfl⟩) fun vu s3 ⟨u, H3, I3, pu, eu, e3⟩ => ?_
  subst eu e3
  have hst : PO X (some (.Constant (.int 2) k p2)) (tPart (tC (.int 2))) := po_some pe_int
  refine thn (hst.run pins s3 σ H3 (fun o H4 => o = some 2 ∧ H4 = H3) I3 ⟨2, rfl, rfl, rfl⟩) fun vs s4 ⟨o', H4, I4, ps, eo, e4⟩ => ?_
  subst eo e4
  have I5 : Inv X pins σ H4 { s4 with heap := s4.heap.push { cls := .type "slice", data := .fields #[vl, vu, vs] } } := I4.kept (t' := s4.toks) fun b ob q => Heap.get?_push_of_some _ q
  obtain ⟨its, r, ht, hz⟩ := I5.list hx
  refine tail_any (ops := [.ref a, .ref s4.heap.objs.size]) ht.isList.typeIs (PySem.slot_list_getitem.lookup) ?_ (by with_unfolding_all rfl)
  refine wpAny_getItem_list_slice ht.isList (Heap.IsSliceOf.new _ vl vu vs) pl pu ps (by decide) ?_ (by rw [List.size_toArray, ← r.length]; exact hz)
  rw [hf]
  exact ⟨.ref _, _, I5.laid (t' := s4.toks) (o := .lst (f xs)) (fun b ob q => Heap.get?_push_of_some _ q) (Nat.le_refl _) ⟨Nat.le_trans (hlen xs) hz, _, 0, hfg _ _ r, Heap.get?_push_size _ rfl⟩, rfl, q _ (I5.hok.fresh (Nat.le_refl _))⟩
def fEv (p : DP) : DF := fun env μ Q => p env μ fun d => srcL μ d fun xs _ => Q (evT xs)
def fOd (p : DP) : DF := fun env μ Q => p env μ fun d => srcL μ d fun xs _ => Q (odT xs)
theorem ev_le {α : Type} (xs : List α) : (evT xs).length ≤ xs.length := by
  rw [evT_length]
  omega
theorem ef_ev (ha : EX X e p) : EF X (.Subscript e (.Slice none none (some (.Constant (.int 2) k p2)) p3) pos) (fEv p) :=
  PE.imp (pe_step (f := evT) (g := evT) (o := none) ha po_none (fun σ H Q h => ⟨rfl, h⟩) pick_ev (fun _ _ r => Vals.ev r) ev_le) fun σ H R ⟨G, B, ρ0, env, μ, ρ, Q, s, q, k⟩ => by
    refine ⟨G, B, ρ0, env, μ, ρ, _, s, q, fun d v H1 q1 e1 r1 => ?_⟩
    obtain ⟨xs, _, a, q3, rfl, k1, l1⟩ := src_ok (s.mono e1).sh r1 q1
    obtain ⟨vs, h1, h2⟩ := l1 B μ ρ H1 (later_refl (s.mono e1).sh) k1
    exact ⟨a, vs, rfl, h1, fun p hp => ef_at s e1 hp h2.ev (k _ p _ _ q3)⟩
theorem ef_od {j : Nat} (ha : EX X e p) : EF X (.Subscript e (.Slice (some (.Constant (.int 1) j p1)) none (some (.Constant (.int 2) k p2)) p3) pos) (fOd p) :=
  PE.imp (pe_step (f := odT) (g := odT) (o := some 1) ha (po_some pe_int) (fun σ H Q ⟨i, e, h⟩ => ⟨i, e, by cases e; rfl, h⟩) pick_od (fun _ _ r => Vals.od r) (fun xs => by
    cases xs with
    | nil => simp [odT]
    | cons x r => exact Nat.le_trans (ev_le r) (Nat.le_succ _))) fun σ H R ⟨G, B, ρ0, env, μ, ρ, Q, s, q, k⟩ => by
    refine ⟨G, B, ρ0, env, μ, ρ, _, s, q, fun d v H1 q1 e1 r1 => ?_⟩
    obtain ⟨xs, _, a, q3, rfl, k1, l1⟩ := src_ok (s.mono e1).sh r1 q1
    obtain ⟨vs, h1, h2⟩ := l1 B μ ρ H1 (later_refl (s.mono e1).sh) k1
    exact ⟨1, rfl, a, vs, rfl, h1, fun p hp => ef_at s e1 hp h2.od (k _ p _ _ q3)⟩
end
end Gw
/-! Gw, part I: sorted(set(..)) of ints, in, extend. -/
namespace Gw
open PySem PySem.Spec PyProof.Rows L2 RZ
/-! ### set(xs), xs a list of ints -/
/-- an empty set just laid -/
def newSet (w : World) : Obj := { cls := .type "set", dict := none, data := .set #[] 0 (.fresh 0 0 (!w.params.followText "set-order")) }
section
variable {P : Program} {w : World} {A : Around} {E : Value → Shared → Prop} {s : Shared}
/-- the update's walk from its begin -/
theorem upd_run {h : Heap} {l : Addr} {its : Array Value} {ns : List Int} {R : Result → Shared → Prop} (hh : A.in1.handled = none) (hl : h.IsList l its) (hn : IntsAre its.toList ns) (hb : ns.length + 1 < scanBound) (hlt : l < h.objs.size) (hs : s.heap = ((h.push (newSet w)).push { cls := .type "list_iterator", data := .fields #[.ref l, .int 0 0] }))
    (k : ∀ (h' : Heap) (tk c : Nat), c ≤ ns.length → SetR w h' h.objs.size (fun j => decide (j ∈ ns)) c → (∀ b o, h.get? b = some o → h'.get? b = some o) → R (.ok (.ret .none)) { s with heap := h', toks := tk }) :
    codeAny (model P w) A (.builtin "set.update.loop" ⟨[.ref h.objs.size, .ref (h.push (newSet w)).objs.size], []⟩) R s := by
  have z1 : (h.push (newSet w)).objs.size = h.objs.size + 1 := Heap.size_push ..
  have n1 : l ≠ (h.push (newSet w)).objs.size := by
    rw [z1]
    exact Nat.ne_of_lt (Nat.lt_succ_of_lt hlt)
  have n2 : h.objs.size ∉ [(h.push (newSet w)).objs.size, l] := by
    rw [z1]
    intro z
    rcases List.mem_cons.mp z with z | z
    · exact absurd z (Nat.ne_of_lt (Nat.lt_succ_self _))
    · exact absurd (List.mem_singleton.mp z) (Nat.ne_of_gt hlt)
  have sz : its.size = ns.length := by
    have := IntsAre.length hn
    simpa using this
  have at' : ∀ (i : Nat) (v : Value), its[i]? = some v → ∃ k t, ns[i]? = some k ∧ v = .int k t := fun i v hv => by
    have hi : i < ns.length := by
      rw [← sz]
      exact (Array.getElem?_eq_some_iff.mp hv).1
    obtain ⟨t, e⟩ := PyProof.Rows.IntsAre.int_at hn i v (by rw [Array.getElem?_toList]; exact hv)
    exact ⟨ns[i], t, List.getElem?_eq_getElem hi, by rw [e, List.getD_eq_getElem?_getD, List.getElem?_eq_getElem hi]; rfl⟩
  have g0 : s.heap.get? h.objs.size = some (newSet w) := by
    rw [hs]
    exact Heap.get?_push_of_some _ (Heap.get?_push_size _ rfl)
  have g1 : s.heap.IsList l its := by
    rw [hs]
    exact (hl.push _).push _
  refine set_update_ints ((Walks.list hh _ l n1 its).toS) h.objs.size n2 ns sz hb at' (its.size - 0) 0 s rfl (Nat.zero_le _) ⟨⟨{ cls := .type "list_iterator", data := .fields #[.ref l, .int 0 0] }, ?_, rfl, rfl⟩, g1⟩ ⟨0, Nat.le_refl 0, setR_new_at g0⟩ fun s' c mv hc R' => ?_
  · rw [hs]
    exact Heap.get?_push_size _ rfl
  · obtain ⟨h', g2, d2, tk, o2⟩ := s'
    have e1 : g2 = s.gens := mv.gens
    have e2 : d2 = s.drawn := mv.drawn
    have e3 : o2 = s.os := mv.os
    subst e1 e2 e3
    refine k h' tk c (by omega) R' fun b o q => mv.heap b o ?_ ?_
    · have hb := Heap.lt_size q
      intro z
      rcases List.mem_cons.mp z with z | z
      · exact absurd z (Nat.ne_of_lt hb)
      · have e := List.mem_singleton.mp z
        rw [z1] at e
        exact absurd e (Nat.ne_of_lt (Nat.lt_succ_of_lt hb))
    · rw [hs]
      exact Heap.get?_push_of_some _ (Heap.get?_push_of_some _ q)
theorem call_setL {l : Addr} {its : Array Value} {ns : List Int} {Q : Value → Shared → Prop} (hh : A.handled = none) (hl : s.heap.IsList l its) (hn : IntsAre its.toList ns) (hb : ns.length + 1 < scanBound)
    (k : ∀ (h' : Heap) (tk c : Nat), c ≤ ns.length → SetR w h' s.heap.objs.size (fun j => decide (j ∈ ns)) c → (∀ b o, s.heap.get? b = some o → h'.get? b = some o) → Q (.ref s.heap.objs.size) { s with heap := h', toks := tk }) : wpAny (model P w) A (call (.type "set") [.ref l]) Q E s := by
  obtain ⟨cl, tl, mro⟩ := F.called_set.mro
  have made := F.called_set.made
  have sub := F.called_set.sub
  have nt := F.called_set.notType
  have cc := F.called_set.canCreate
  have tc := F.typeCall_set_1 (.ref l)
  refine wpAny_call (codeAny_of_tree ?_)
  show wpAny _ _ (callAny (.type "set") _) _ _ _
  refine wpAny_pure ⟨Code.quiet_builtin _ (by decide +kernel), codeAny_builtin F.entry_type_call ?_⟩
  rw [Around.under_plain (weight_type_call_type "set" [.ref l] []) rfl]
  repeat (any_goals (first | assumption | wp_step))
  refine codeAny_mono (code_set_led1 (.ref l) (E := E) (Q₁ := fun ob s1 => ob = .ref s.heap.objs.size ∧ s1 = { s with heap := s.heap.push (newSet w) }) ⟨rfl, rfl⟩) fun r s1 hr => ?_
  match r, hr with
  | .error e, hr => exact hr
  | .ok .next, hr => exact hr.elim
  | .ok .brk, hr => exact hr.elim
  | .ok .cont, hr => exact hr.elim
  | .ok (.ret ob), hr =>
    obtain ⟨rfl, rfl⟩ := hr
    have gS : (s.heap.push (newSet w)).get? s.heap.objs.size = some (newSet w) := Heap.get?_push_size _ rfl
    have tS : Shared.TypeIs { s with heap := s.heap.push (newSet w) } (.ref s.heap.objs.size) "set" := ⟨_, gS, rfl⟩
    have li := F.called_set.init.lookup
    have bi := F.called_set.init.bind (.ref s.heap.objs.size)
    repeat (any_goals (first | assumption | wp_step))
    refine codeAny_mono (codeAny_call_builtin (R := wants (fun r s2 => r = .none ∧ ∃ (h' : Heap) (tk c : Nat), s2 = { s with heap := h', toks := tk } ∧ c ≤ ns.length ∧ SetR w h' s.heap.objs.size (fun j => decide (j ∈ ns)) c ∧
        ∀ b o, s.heap.get? b = some o → h'.get? b = some o) E) F.called_set.init.plain F.entry_set_init (check_set_init_1 tS ?_)) fun r2 s2 hr2 => ?_
    · obtain ⟨⟨oc, od, oda, os⟩, ho, hc, nl, hd⟩ := id hl
      simp only at hc hd
      subst hc hd
      have go : (s.heap.push (newSet w)).get? l = some { cls := .type "list", dict := od, data := .seq its nl, slots := os } := Heap.get?_push_of_some _ ho
      have s1 := F.sub_list_set
      have s2 := F.sub_list_frozenset
      have nd : (Value.type "list" == Value.type "dict") = false := by decide
      unfold Builtin.«set.__init__» noKeywords Builtin.Frozenset.updateFrom
      generalize gi : pyIter = PI
      wp_walk
      subst gi
      refine wpAny_pyIter_list (hl.push _) ?_
      refine wpAny_bind (wpAny_runValue (upd_run (h := s.heap) (by simp [hh]) hl hn hb (Heap.lt_size ho) rfl fun h' tk c hc' R' kp => ?_))
      show wpAny _ _ _ _ _ _
      refine wpAny_pure ?_
      show wpAny _ _ (ret Value.none) _ _ _
      exact wpAny_pure ⟨rfl, h', tk, c, rfl, hc', R', kp⟩
    · match r2, hr2 with
      | .error e, hr2 => exact hr2
      | .ok .next, hr2 => exact hr2.elim
      | .ok .brk, hr2 => exact hr2.elim
      | .ok .cont, hr2 => exact hr2.elim
      | .ok (.ret r), hr2 =>
        obtain ⟨rfl, h', tk, c, rfl, h1, h2, h3⟩ := hr2
        repeat (any_goals (first | assumption | wp_step))
        exact k h' tk c h1 h2 h3
end
section
variable {X : Cx}
/-- set(xs) of a list of ints -/
def rSetL' (K : PySem.W.Frag) (w : World) : List V → Hp → VK → Prop := fun vs H Q => ∃ (a : Addr) (ns : List Int), vs = [V.ref a] ∧ SqL K H a (ns.map V.int) ∧ ns.length ≤ 1000 ∧ ∀ (p : Addr) (c : Nat), c ≤ ns.length → H p = none → Q (.ref p) (upd H p (SetO w p (fun j => decide (j ∈ ns)) c))
theorem cr_setL (hc : X.calm = true) : CallR X (.type "set") (rSetL' X.K X.w) := by
  intro pins s σ H vs us Q I r h
  obtain ⟨a, ns, rfl, hs, hz, q⟩ := h
  obtain ⟨its, rv, hl, _⟩ := I.list hs
  rw [Vals.ref1 r]
  have hi := rv.ints
  refine call_setL (I.ok.hd hc) hl.isList (by simpa using hi) (by unfold scanBound; omega) fun h' tk c hc' R kp => ?_
  exact ⟨.ref _, _, I.laid (t' := tk) (o := SetO X.w s.heap.objs.size (fun j => decide (j ∈ ns)) c) kp (Nat.le_refl _) (setO_new R), rfl, q _ c hc' (I.hok.fresh (Nat.le_refl _))⟩
end
end Gw
/-! Gw, part J: sorted(set(..)). -/
namespace Gw
open PySem PySem.Spec PyProof.Rows L2 RZ
/-- sorted(set(xs)), xs fewer than 64 ints -/
def fSoSet (p : DP) : DF := fun env μ Q => p env μ fun d => srcL μ d fun xs _ => ∃ ns : List Int, xs = ns.map T.int ∧ ns.length < 64 ∧ ∀ ms : List Int, ms.Pairwise (· < ·) → (∀ k, k ∈ ms ↔ k ∈ ns) → Q (ms.map T.int)
section
variable {X : Cx} {e : Expr} {p : DP} {p1 p2 pos pos2 : Pos}
theorem ef_soset (hc : X.calm = true) (hm1 : X.mg "sorted" = none) (hm2 : X.mg "set" = none) (h : EX X e p) (hg1 : Gl X "sorted" := by rfl) (hg2 : Gl X "set" := by rfl)
    (hs : starEach [e] X.env = (false, eval e X.env) :: starEach [] X.env := by rfl) (hpl : (backTo pos2 (starEach [] X.env)).any (·.1) = false := by rfl) (hpl1 : (backTo pos (starEach [] X.env)).any (·.1) = false := by rfl)
    (hs2 : starEach [.Call (.Name "set" p2) [e] [] pos2] X.env = (false, eval (.Call (.Name "set" p2) [e] [] pos2) X.env) :: starEach [] X.env := by rfl) : EF X (.Call (.Name "sorted" p1) [.Call (.Name "set" p2) [e] [] pos2] [] pos) (fSoSet p) :=
  PE.imp (pe_callB (cr_sortedSet hc) hg1 hm1 (by decide +kernel) (pa_cons (pe_callTy (cr_setL hc) hg2 hm2 (by decide +kernel) (pa_cons h pa_nil hs) (by decide) (by decide) hs hpl) pa_nil hs2) (by decide) (by decide) hs2 hpl1) fun σ H R ⟨G, B, ρ0, env, μ, ρ, Q, s, q, k⟩ => by
    refine ⟨G, B, ρ0, env, μ, ρ, _, s, q, fun d v H1 q1 e1 r1 => ?_⟩
    obtain ⟨xs, _, a, ⟨ns, rfl, hz, q2⟩, rfl, k1, l1⟩ := src_ok (s.mono e1).sh r1 q1
    obtain ⟨vs, h1, h2⟩ := l1 B μ ρ H1 (later_refl (s.mono e1).sh) k1
    have ev := h2.ints
    subst ev
    refine ⟨a, ns, rfl, h1, by omega, fun b c hc' hb => ?_⟩
    refine ⟨b, _, c, rfl, upd_same, by omega, fun ms t h3 h4 h5 ht => ?_⟩
    exact ef_at s (e1.trans (same_new hb)) ht (Rps.of_ints ms) (k _ t _ _ (q2 ms h3 fun kk => by rw [h4 kk]; simp))
end
end Gw
/-! Gw, part T: sorted of a tuple, and of anything that is known. -/
namespace Gw
open PySem PySem.Spec PyProof.Rows L2 RZ SrtO Srt
section
variable {P : Program} {w : World} {A : Around} {E : Value → Shared → Prop} {s : Shared}
/-- what a tuple's items come to when they are collected -/
theorem collect_tup {l : Addr} {vs : List Value} {Q : List Value → Shared → Prop} (hl : s.heap.IsTuple l vs.toArray) (hz : vs.length ≤ sizeLine)
    (h : Q vs { s with heap := (s.heap.push (seqObj "list" #[] 0)).update s.heap.objs.size (Obj.mapSeq (· ++ vs.toArray)) }) : wpAny (model P w) A (collect (.ref l)) Q E s := by
  obtain ⟨o, go, ho, n, hd⟩ := hl
  have gS : (s.heap.push (seqObj "list" #[] 0)).get? s.heap.objs.size = some (seqObj "list" #[] 0) := Heap.get?_push_size _ rfl
  have fin : wpAny (model P w) A (match Value.ref s.heap.objs.size with
      | Value.ref a => do
        match (← load a).data with
          | Data.seq xs _ => pure xs.toList
          | _ => unsupported "internal:collect"
      | _ => unsupported "internal:collect") Q E { s with heap := (s.heap.push (seqObj "list" #[] 0)).update s.heap.objs.size (Obj.mapSeq (· ++ vs.toArray)) } := by
    show wpAny _ A (load s.heap.objs.size >>= _) _ _ _
    refine wpAny_bind (wpAny_load (Heap.get?_update_self (Obj.mapSeq (· ++ vs.toArray)) gS rfl) (wpAny_pure ?_))
    show Q ((#[] : Array Value) ++ vs.toArray).toList _
    rw [show ((#[] : Array Value) ++ vs.toArray).toList = vs by simp]
    exact h
  unfold collect
  refine wpAny_bind (wpAny_runValue (codeAny_builtin F.entry_proto_collect ?_))
  rw [Around.under_plainId F.plain_proto_collect _]
  show wpAny _ A.in1 (newList [] >>= fun z => again (.builtin "list.__iadd__" ⟨[z, .ref l], []⟩)) _ _ s
  refine wpAny_bind (wpAny_newObj_type (wpAny_pure ⟨plainId_quiet F.plain_list_iadd _, codeAny_builtin F.entry_list_iadd ?_⟩))
  rw [Around.under_plainId F.plain_list_iadd _]
  show wpAny _ A.in1 (Builtin.List.listExtendWith (.ref s.heap.objs.size) (.ref l) (.ref s.heap.objs.size)) _ _ { s with heap := s.heap.push (seqObj "list" #[] 0) }
  refine wpAny_mono (wpAny_extend_seq (A := A) (s := { s with heap := s.heap.push (seqObj "list" #[] 0) }) (R := fun r s1 => r = .ok (.ret (.ref s.heap.objs.size)) ∧ s1 = { s with heap := (s.heap.push (seqObj "list" #[] 0)).update s.heap.objs.size (Obj.mapSeq (· ++ vs.toArray)) })
    s.heap.objs.size l _ 0 (.inr rfl) gS (Heap.get?_push_of_some _ go) ho hd ⟨rfl, rfl⟩ (by rw [List.size_toArray]; exact hz)) (fun z s1 q => ?_) fun e s1 q => absurd q.1 (by simp)
  match z, q with
  | .done f, q =>
    obtain ⟨e, rfl⟩ := q
    cases e
    exact fin
  | .again c, q => exact ⟨q.1, codeAny_mono q.2 fun r s2 hr => by obtain ⟨rfl, rfl⟩ := hr; exact fin⟩
/-- sorted(t) of a tuple: the new list stands at size + 1 -/
theorem sorted_tup {l : Addr} {vs : List Value} {lt : Value → Value → Bool} {Q : Value → Shared → Prop} (O : Swo lt) (hl : s.heap.IsTuple l vs.toArray) (hz : vs.length ≤ sizeLine)
    (hS : 2 ≤ vs.length → ∀ (h1 : Heap) (a : Addr), h1.get? a = some (seqObj "list" vs.toArray 0) → (∀ b o, s.heap.get? b = some o → b ≠ a ∧ h1.get? b = some o) → SortableO P w A.in1.in1 { s with heap := h1 } a vs lt)
    (h : ∀ out : List Value, Srtd lt out → Stb lt out vs → Q (.ref (s.heap.objs.size + 1)) { s with heap := sortedAll s.heap vs out.toArray }) : wpAny (model P w) A (call (.builtin "sorted") [.ref l]) Q E s := by
  have z1 : ((s.heap.push (seqObj "list" #[] 0)).update s.heap.objs.size (Obj.mapSeq (· ++ vs.toArray))).objs.size = s.heap.objs.size + 1 := by rw [Heap.size_update, size_push']
  have gL : (((s.heap.push (seqObj "list" #[] 0)).update s.heap.objs.size (Obj.mapSeq (· ++ vs.toArray))).push (seqObj "list" vs.toArray 0)).get? (s.heap.objs.size + 1) = some (seqObj "list" vs.toArray 0) := by
    rw [← z1]
    exact Heap.get?_push_size _ rfl
  refine Calls.call_function_entry kind_sorted plain_sorted entry_sorted (args_sorted1 _) ?_
  unfold Builtin.«sorted»
  refine wpAny_bind (m := checkCount "sorted" 1 1 _) (wpAny_pure (wpAny_bind (collect_tup hl hz (wpAny_bind (wpAny_newList ?_ hz)))))
  show wpAny _ _ _ _ _ { s with heap := ((s.heap.push (seqObj "list" #[] 0)).update s.heap.objs.size (Obj.mapSeq (· ++ vs.toArray))).push (seqObj "list" vs.toArray 0) }
  rw [z1]
  refine wpAny_bind (wpAny_holding (wpAny_call_entry slot_list_sort ⟨_, gL, rfl⟩ entry_list_sort (list_sort_ord O gL hz (fun h2 => hS h2 _ _ gL fun b o q => ?_) fun out hs hb => ⟨_, rfl, ?_⟩) (args_list_sort _)))
  · have lt := Heap.lt_size q
    refine ⟨Nat.ne_of_lt (Nat.lt_succ_of_lt lt), Heap.get?_push_of_some _ ?_⟩
    rw [Heap.get?_update_ne _ _ _ _ (Nat.ne_of_lt lt)]
    exact Heap.get?_push_of_some _ q
  · exact wpAny_pure ⟨_, rfl, h out hs hb⟩
end
/-- sorted(t), t a tuple of pairs of ints -/
def rSortPT (K : PySem.W.Frag) : List V → Hp → VK → Prop := fun vs H Q => ∃ (a : Addr) (xs : List V) (k : V → Int × Int), vs = [V.ref a] ∧ SqT K H a xs ∧ (∀ x ∈ xs, ∃ t, x = V.ref t ∧ H t = some (.tup [.int (k x).1, .int (k x).2])) ∧
  ∀ ys p, Srtd (ltP k) ys → Stb (ltP k) ys xs → H p = none → Q (.ref p) (upd H p (.lst ys))
theorem cr_sortPT {X : Cx} : CallR X (.builtin "sorted") (rSortPT X.K) := by
  intro pins s σ H vs us Q I r h
  obtain ⟨a, xs, k, rfl, hs, hx, q⟩ := h
  obtain ⟨its, rv, hl, hz⟩ := I.tuple hs
  rw [Vals.ref1 r]
  have zl : its.length ≤ sizeLine := by
    rw [← rv.length]
    exact hz
  obtain ⟨e1, e2⟩ := refs_back rv fun x m => (hx x m).imp fun _ e => e.1
  have isP : ∀ v ∈ its, IsPair s.heap v (k (backV v)).1 (k (backV v)).2 := fun v hv => by
    obtain ⟨t, rfl⟩ := e2 v hv
    obtain ⟨t', e, ht⟩ := hx (.ref t) (by rw [e1]; exact List.mem_map.mpr ⟨_, hv, rfl⟩)
    cases e
    obtain ⟨_, its2, r2, o, ho, hc, n, hd⟩ := I.hok _ _ ht
    obtain ⟨u1, u2, rfl, ri, rj⟩ := vals2 r2
    obtain ⟨t1, rfl⟩ := ri
    obtain ⟨t2, rfl⟩ := rj
    exact ⟨t, o, t1, t2, n, rfl, ho, hc, hd⟩
  refine sorted_tup (swo_lex fun u => k (backV u)) hl zl (fun h2 h1 b hb kk => ?_) fun out h1 h2 => ?_
  · refine pairs_sortableO (s := { s with heap := h1 }) (by omega) (fun v hm => (isP v hm).keeps fun b o e _ => (kk b o e).2) fun o e => ?_
    rw [hb] at e
    cases e
    exact fun c => absurd (Value.type.inj c) (by decide)
  · have h3 : ∀ u ∈ out, ∃ a, u = Value.ref a := fun u hu => e2 u (h2.perm.mem_iff.mp hu)
    obtain ⟨n, hn⟩ := sortedAll_at s.heap its out.toArray
    have hb : Stb (ltP k) (out.map backV) xs := by
      rw [e1]
      exact Stb.map (ltP_swo k) backV h2
    exact ⟨.ref _, _, I.laid (t' := s.toks) (o := .lst (out.map backV)) (fun _ _ => sortedAll_old) (Nat.le_succ _) ⟨by rw [hb.len, rv.length]; exact zl, out, n, vals_back h3, hn⟩, rfl, q _ _ (srtd_map h1) hb (I.hok.fresh (Nat.le_succ _))⟩
def wSortPT (_ : Store) (ds : List D) (Q : List T → Prop) : Prop := one ds fun d => srcT d fun xs => ∃ ns : List (Int × Int), xs = ns.map eP ∧ ∀ ms : List (Int × Int), ms.Perm ns → ms.Pairwise leP → Q (ms.map eP)
def wSort (μ : Store) (ds : List D) (Q : List T → Prop) : Prop := wSortI μ ds Q ∨ wSortP μ ds Q ∨ wSortPT μ ds Q
def rSortA (K : PySem.W.Frag) : List V → Hp → VK → Prop := fun vs H Q => rSortedI K vs H Q ∨ rSortedPO K vs H Q ∨ rSortPT K vs H Q
theorem cr_sortA {X : Cx} : CallR X (.builtin "sorted") (rSortA X.K) := fun pins s σ H vs us Q I r h => h.elim (cr_sortedI pins s σ H vs us Q I r) fun h => h.elim (cr_sortedPO pins s σ H vs us Q I r) (cr_sortPT pins s σ H vs us Q I r)
theorem wSortPT_ok {K : PySem.W.Frag} : WF K (rSortPT K) wSortPT := by
  intro G B ρ0 μ ρ H ds vs Q R s rs w k
  obtain ⟨d, rfl, w⟩ := one_of w
  cases rs with
  | cons r rr =>
    cases rr
    obtain ⟨xs, a, ws, ⟨ns, rfl, w⟩, rfl, h1, h2⟩ := srcT_ok s r w
    obtain ⟨e1, e2⟩ := rps_pairs (frz_le B H ρ) h2
    refine ⟨a, ws, kP H, rfl, SqT.of (frz_le _ _ _ _ _ h1), fun x hx => ?_, fun ys p hs hb hp => ?_⟩
    · obtain ⟨t, e, ht⟩ := e2 x hx
      exact ⟨t, e, frz_le _ _ _ _ _ ht⟩
    · have hy : ∀ v ∈ ys, ∃ t, v = .ref t ∧ (frz B H ρ) t = some (.tup [.int (kP H v).1, .int (kP H v).2]) := fun v hv => e2 v (hb.perm.mem_iff.mp hv)
      refine k ((ys.map (kP H)).map eP) p ys (w (ys.map (kP H)) (by rw [← e1]; exact hb.perm.map _) ?_) hp (pairs_rps (H := H) hy)
      refine List.pairwise_map.mpr (hs.imp fun {x y} h => ?_)
      have := lexB_no.mp h
      unfold leP
      omega
theorem wSort_ok {K : PySem.W.Frag} : WF K (rSortA K) wSort := fun G B ρ0 μ ρ H ds vs Q R s rs w k => w.elim (fun w => .inl (wSortI_ok G B ρ0 μ ρ H ds vs Q R s rs w k)) fun w => w.elim (fun w => .inr (.inl (wSortP_ok G B ρ0 μ ρ H ds vs Q R s rs w k))) fun w => .inr (.inr (wSortPT_ok G B ρ0 μ ρ H ds vs Q R s rs w k))
end Gw
/-! Gw, part K: isinstance with a built-in type, code that is not reached. -/
namespace Gw
open PySem PySem.Spec PyProof.Rows L2 RZ
/-- the name of a tree's type -/
def tyT : T → String
  | .emp => "dict"
  | .remp => "dict"
  | .non => "NoneType"
  | .bl _ => "bool"
  | .int _ => "int"
  | .str _ => "str"
  | .tup _ => "tuple"
  | .pt _ => "tuple"
  | .lst _ => "list"
  | .ro _ => "list"
def tyD (μ : Store) : D → Option String
  | .t x => some (tyT x)
  | .loc n => match μ[n]? with
    | some (.lst _) => some "list"
    | some (.dic _) => some "dict"
    | some (.lck _ _) => some "dict"
    | some (.ins _ _) => none
    | some (.exc _) => none
    | some (.tab _ _) => none
    | some (.gen _ _) => none
    | some (.fn _ _) => none
    | none => none
  | .tp _ => some "tuple"
/-- isinstance(x, T) of a built-in type T -/
def dIsi (T' : String) (p : DP) : DP := fun env μ Q => p env μ fun d => ∃ n b, tyD μ d = some n ∧ kitB n T' = some b ∧ Q (.t (.bl b))
end Gw
/-! the plain law of sets of stretches: no program in sight -/
namespace Gw
abbrev Pr := Int × Int
def InS (ps : List Pr) (n : Int) : Prop := ∃ p ∈ ps, p.1 ≤ n ∧ n ≤ p.2
/-! ### merged -/
/-! ### cut -/
/-! ### turned -/
/-! ### less -/
end Gw
/-! the plain law of pieces between borders: no program in sight -/
namespace Gw
/-! ### strictly rising lists -/
abbrev Up (l : List Int) : Prop := l.Pairwise (· < ·)
theorem up_unique : ∀ {l m : List Int}, Up l → Up m → (∀ k, k ∈ l ↔ k ∈ m) → l = m
  | [], [], _, _, _ => rfl
  | [], b :: m, _, _, e => absurd ((e b).mpr List.mem_cons_self) (by simp)
  | a :: l, [], _, _, e => absurd ((e a).mp List.mem_cons_self) (by simp)
  | a :: l, b :: m, h, h', e => by
    obtain ⟨h1, h2⟩ := List.pairwise_cons.mp h
    obtain ⟨k1, k2⟩ := List.pairwise_cons.mp h'
    have e1 : a = b := by
      rcases List.mem_cons.mp ((e a).mp List.mem_cons_self) with z | z
      · exact z
      · rcases List.mem_cons.mp ((e b).mpr List.mem_cons_self) with y | y
        · exact y.symm
        · have := h1 b y
          have := k1 a z
          omega
    subst e1
    congr 1
    refine up_unique h2 k2 fun k => ⟨fun z => ?_, fun z => ?_⟩
    · rcases List.mem_cons.mp ((e k).mp (List.mem_cons_of_mem _ z)) with y | y
      · have := h1 k z
        omega
      · exact y
    · rcases List.mem_cons.mp ((e k).mpr (List.mem_cons_of_mem _ z)) with y | y
      · have := k1 k z
        omega
      · exact y
def insI (x : Int) : List Int → List Int
  | [] => [x]
  | y :: r => if x < y then x :: y :: r else if x = y then y :: r else y :: insI x r
theorem insI_mem (x : Int) : ∀ (l : List Int) (k : Int), k ∈ insI x l ↔ k = x ∨ k ∈ l
  | [], k => by simp [insI]
  | y :: r, k => by
    unfold insI
    split
    · simp
    · split
      · rename_i e
        subst e
        simp
      · rw [List.mem_cons, insI_mem x r k, List.mem_cons]
        constructor
        · rintro (h | h | h)
          · exact .inr (.inl h)
          · exact .inl h
          · exact .inr (.inr h)
        · rintro (h | h | h)
          · exact .inr (.inl h)
          · exact .inl h
          · exact .inr (.inr h)
theorem insI_up (x : Int) : ∀ {l : List Int}, Up l → Up (insI x l)
  | [], _ => by simp [insI, Up]
  | y :: r, h => by
    obtain ⟨h1, h2⟩ := List.pairwise_cons.mp h
    unfold insI
    split
    · rename_i c
      refine List.pairwise_cons.mpr ⟨fun z hz => ?_, h⟩
      rcases List.mem_cons.mp hz with e | hz
      · omega
      · have := h1 z hz
        omega
    · split
      · exact h
      · refine List.pairwise_cons.mpr ⟨fun z hz => ?_, insI_up x h2⟩
        rcases (insI_mem x r z).mp hz with e | hz
        · omega
        · exact h1 z hz
theorem insI_len (x : Int) : ∀ l : List Int, (insI x l).length ≤ l.length + 1
  | [] => by simp [insI]
  | y :: r => by
    have := insI_len x r
    unfold insI
    split
    · simp
    · split
      · simp
      · simp only [List.length_cons]
        omega
/-- the list's members, rising, once each -/
def sdI : List Int → List Int
  | [] => []
  | x :: r => insI x (sdI r)
theorem sdI_mem : ∀ (l : List Int) (k : Int), k ∈ sdI l ↔ k ∈ l
  | [], k => Iff.rfl
  | x :: r, k => by rw [sdI, insI_mem, sdI_mem r k, List.mem_cons]
theorem sdI_up : ∀ l : List Int, Up (sdI l)
  | [] => List.Pairwise.nil
  | x :: r => insI_up x (sdI_up r)
theorem sdI_len : ∀ l : List Int, (sdI l).length ≤ l.length
  | [] => Nat.le_refl _
  | x :: r => by
    have := insI_len x (sdI r)
    have := sdI_len r
    rw [sdI, List.length_cons]
    omega
/-! ### toggled -/
def pairsF : List Int → List Pr
  | a :: b :: r => (a, b - 1) :: pairsF r
  | _ => []
/-! ### pieces -/
/-- from each border to the next one -/
def pieces (most : Int) : List Int → List Pr
  | [] => []
  | [b] => [(b, most + 1)]
  | b :: c :: r => (b, c) :: pieces most (c :: r)
theorem pieces_len (most : Int) : ∀ l : List Int, (pieces most l).length = l.length
  | [] => rfl
  | [b] => rfl
  | b :: c :: r => by
    rw [pieces, List.length_cons, pieces_len most (c :: r)]; rfl
/-! ### made -/
/-! ### truths by the pieces -/
def inB (ps : List Pr) (n : Int) : Bool := ps.any fun p => decide (p.1 ≤ n) && decide (n ≤ p.2)
theorem inB_iff {ps : List Pr} {n : Int} : inB ps n = true ↔ InS ps n := by
  unfold inB InS
  rw [List.any_eq_true]
  simp
end Gw
/-! Gw, part S: what is needed to run a def's body as a reading. -/
namespace Gw
open PySem PySem.Spec PyProof.Rows L2 RZ
/-! ### loops -/
/-- .. over data of one kind -/
theorem for_map {α : Type} (f : α → D) {kp : Store → Prop} {g : DG} {b : DS} {P : Post} (I : List α → DEnv → Store → Prop)
    (step : ∀ a r env μ (N : DEnv → Store → Prop), I (a :: r) env μ → (∀ e m, I r e m → N e m) → kp μ ∧ g (f a) env fun env' => b env' μ ⟨N, P.rt, P.nx, N, P.xc⟩) (done : ∀ env μ, I [] env μ → kp μ ∧ P.nx env μ) : ∀ {l : List α} {env : DEnv} {μ : Store}, I l env μ → forD kp g b P (l.map f) env μ
  | [], env, μ, h => done env μ h
  | d :: r, env, μ, h => step d r env μ _ h fun e m hi => for_map f I step done hi
/-- a comprehension over data of one kind: f says what comes of each -/
theorem lc_map {α : Type} (k : α → D) (f : α → Option T) {g : DG} {t : DT} {e : DP} {env : DEnv} {μ : Store} {Q : List T → Prop} : ∀ {l : List α},
    (∀ a ∈ l, ∀ (N : Option T → Prop), N (f a) → g (k a) env fun env' => t env' μ fun b => if b = true then e env' μ fun y => ∃ x, y = .t x ∧ N (some x) else N none) → Q (l.filterMap f) → lcD g t e env μ (l.map k) Q
  | [], h, q => q
  | a :: r, h, q => by
    have ih := fun Q' (q' : Q' (r.filterMap f)) => lc_map k f (Q := Q') (fun b hb => h b (List.mem_cons_of_mem _ hb)) q'
    refine h a List.mem_cons_self (fun o => match o with
      | some x => lcD g t e env μ (r.map k) fun xs => Q (x :: xs)
      | none => lcD g t e env μ (r.map k) Q) ?_
    rw [List.filterMap_cons] at q
    cases e1 : f a with
    | none =>
      rw [e1] at q
      exact ih _ q
    | some x =>
      rw [e1] at q
      exact ih _ q
theorem fm_some {α β : Type} (f : α → β) : ∀ l : List α, l.filterMap (fun a => some (f a)) = l.map f
  | [] => rfl
  | a :: r => by rw [List.filterMap_cons, fm_some f r]; rfl
theorem fm_filter {α β : Type} (c : α → Bool) (f : α → β) : ∀ l : List α, l.filterMap (fun a => if c a = true then some (f a) else none) = (l.filter c).map f
  | [] => rfl
  | a :: r => by
    rw [List.filterMap_cons, List.filter_cons, fm_filter c f r]
    cases c a <;> rfl
/-- .. without a test -/
theorem lc_all {α : Type} (k : α → D) (f : α → T) {g : DG} {e : DP} {env : DEnv} {μ : Store} {Q : List T → Prop} {l : List α}
    (h : ∀ a ∈ l, ∀ (N : T → Prop), N (f a) → g (k a) env fun env' => e env' μ fun y => ∃ x, y = .t x ∧ N x) (q : Q (l.map f)) : lcD g tYesD e env μ (l.map k) Q := by
  refine lc_map k (fun a => some (f a)) (fun a ha N n => ?_) (by rw [fm_some]; exact q)
  exact h a ha (fun x => N (some x)) n
/-- .. the value stays, a test -/
theorem lc_filter {α : Type} (k : α → D) (c : α → Bool) (f : α → T) {g : DG} {t : DT} {e : DP} {env : DEnv} {μ : Store} {Q : List T → Prop} {l : List α}
    (h : ∀ a ∈ l, ∀ (N : Option T → Prop), N (if c a = true then some (f a) else none) → g (k a) env fun env' => t env' μ fun b => if b = true then e env' μ fun y => ∃ x, y = .t x ∧ N (some x) else N none) (q : Q ((l.filter c).map f)) : lcD g t e env μ (l.map k) Q := by
  refine lc_map k (fun a => if c a = true then some (f a) else none) h ?_
  rw [fm_filter]
  exact q
/-! ### equality -/
theorem ok_seq {xs : List T} (h : ∀ x ∈ xs, (pd x).canLay0 = true ∧ (pd x).depth ≤ 63) : PyData.canLayAll0 (pds xs) = true ∧ PyData.depthAll (pds xs) ≤ 63 := by
  induction xs with
  | nil => exact ⟨by simp [pds, PyData.canLayAll0], by simp [pds, PyData.depthAll]⟩
  | cons x xs ih =>
    obtain ⟨h1, h2⟩ := h x List.mem_cons_self
    obtain ⟨i1, i2⟩ := ih fun y hy => h y (List.mem_cons_of_mem _ hy)
    exact ⟨by rw [pds, PyData.canLayAll0, h1, i1]; rfl, by rw [pds, PyData.depthAll]; omega⟩
theorem ok_tup {xs : List T} (h : ∀ x ∈ xs, (pd x).canLay0 = true ∧ (pd x).depth ≤ 63) : okT (.tup xs) = true := by
  obtain ⟨h1, h2⟩ := ok_seq h
  unfold okT SeqAt.shaped
  rw [pd, PyData.canLay0, PyData.depth, h1]
  simp
  omega
theorem ok_lst {xs : List T} (h : ∀ x ∈ xs, (pd x).canLay0 = true ∧ (pd x).depth ≤ 63) : okT (.lst xs) = true := by
  obtain ⟨h1, h2⟩ := ok_seq h
  unfold okT SeqAt.shaped
  rw [pd, PyData.canLay0, PyData.depth, h1]
  simp
  omega
theorem ok_int (i : Int) : okT (.int i) = true := rfl
theorem ok_bl (i : Bool) : okT (.bl i) = true := rfl
theorem flat_int (i : Int) : (pd (.int i)).canLay0 = true ∧ (pd (.int i)).depth ≤ 63 := ⟨rfl, Nat.zero_le _⟩
theorem flat_eP (p : Int × Int) : (pd (eP p)).canLay0 = true ∧ (pd (eP p)).depth ≤ 63 := ⟨rfl, by show 1 ≤ 63; decide⟩
theorem ok_ints (ns : List Int) : okT (.lst (ns.map T.int)) = true := ok_lst fun x h => by
  obtain ⟨i, _, rfl⟩ := List.mem_map.mp h
  exact flat_int i
theorem ok_roInts (ns : List Int) : okT (.ro (ns.map T.int)) = true := ok_ints ns
theorem ok_pairs (ps : List (Int × Int)) : okT (.lst (ps.map eP)) = true := ok_lst fun x h => by
  obtain ⟨i, _, rfl⟩ := List.mem_map.mp h
  exact flat_eP i
theorem ok_set (ps : List (Int × Int)) : okT (.tup (ps.map eP)) = true := ok_tup fun x h => by
  obtain ⟨i, _, rfl⟩ := List.mem_map.mp h
  exact flat_eP i
theorem ok_lnil : okT (.lst []) = true := ok_lst fun x h => nomatch h
theorem ok_tnil : okT (.tup []) = true := ok_tup fun x h => nomatch h
theorem eq_self {x : T} (h : okT x = true) : eqT x x = true := SeqAt.eqv_refl _ (SeqAt.canLay_of_shaped h)
theorem eq_int (i j : Int) : eqT (.int i) (.int j) = (i == j) := by simp [eqT, pd, PyData.eqv]
theorem eq_lnil (xs : List T) : eqT (.lst xs) (.lst []) = xs.isEmpty := by
  cases xs <;> simp [eqT, pd, pds, PyData.eqv, PyData.eqvAll]
theorem eq_ronil (xs : List T) : eqT (.ro xs) (.lst []) = xs.isEmpty := by
  cases xs <;> simp [eqT, pd, pds, PyData.eqv, PyData.eqvAll]
theorem eq_tnil (xs : List T) : eqT (.tup xs) (.tup []) = xs.isEmpty := by
  cases xs <;> simp [eqT, pd, pds, PyData.eqv, PyData.eqvAll]
/-! ### data handed over -/
theorem ros_ints (ns : List Int) : ros (ns.map T.int) = ns.map T.int := by
  rw [ros_map, List.map_map]
  rfl
theorem ros_pairs (ps : List (Int × Int)) : ros (ps.map eP) = ps.map eP := by
  rw [ros_map, List.map_map]
  rfl
theorem nros_ints (ns : List Int) : nros (ns.map T.int) = true := by
  rw [nros_all, List.all_map]
  exact List.all_eq_true.mpr fun _ _ => rfl
theorem nros_pairs (ps : List (Int × Int)) : nros (ps.map eP) = true := by
  rw [nros_all, List.all_map]
  exact List.all_eq_true.mpr fun _ _ => rfl
/-! ### items -/
theorem int_inj : ∀ {xs ys : List Int}, xs.map T.int = ys.map T.int ↔ xs = ys := by
  intro xs ys
  exact ⟨fun h => (List.map_inj_right (fun a b e => by cases e; rfl)).mp h, fun h => by rw [h]⟩
theorem dt_inj {xs ys : List T} : xs.map D.t = ys.map D.t ↔ xs = ys :=
  ⟨fun h => (List.map_inj_right (fun a b e => by cases e; rfl)).mp h, fun h => by rw [h]⟩
theorem bl_inj {xs ys : List Bool} : xs.map T.bl = ys.map T.bl ↔ xs = ys :=
  ⟨fun h => (List.map_inj_right (fun a b e => by cases e; rfl)).mp h, fun h => by rw [h]⟩
theorem atI_map {α β : Type} (f : α → β) (xs : List α) (i : Int) : atI (xs.map f) i = (atI xs i).map f := by
  unfold atI
  rw [List.length_map]
  cases ixN xs.length i with
  | none => rfl
  | some j => simp
theorem ixN_pos {n : Nat} {i : Nat} (h : i < n) : ixN n (i : Int) = some i := by
  unfold ixN
  simp
  try omega
theorem ixN_neg1 {n : Nat} (h : 0 < n) : ixN n (-1) = some (n - 1) := by
  unfold ixN
  simp
  try omega
theorem atI_last {α : Type} (xs : List α) (x : α) : atI (xs ++ [x]) (-1) = some x := by
  unfold atI
  rw [ixN_neg1 (by simp)]
  simp
theorem atI_nat {α : Type} {xs : List α} {i : Nat} {x : α} (h : xs[i]? = some x) : atI xs (i : Int) = some x := by
  unfold atI
  rw [ixN_pos (List.getElem?_eq_some_iff.mp h).1]
  exact h
/-! ### readings as rows for simp -/
section
variable {env : DEnv} {μ : Store} {g : DG} {h : DGs} {x : T} {r : List T} {Q : DEnv → Prop} {n : Nat}
theorem gNil_n : gNil' [] env Q ↔ Q env := ⟨fun h => h.2, fun h => ⟨rfl, h⟩⟩
theorem gCons_c : gCons' g h (x :: r) env Q ↔ g (.t x) env fun env' => h r env' Q :=
  ⟨fun ⟨y, s, e, q⟩ => by cases e; exact q, fun q => ⟨x, r, rfl, q⟩⟩
theorem gTp_t : gTp n h (.t (.tup r)) env Q ↔ r.length = n ∧ h r env Q := ⟨fun ⟨y, e, q⟩ => by cases e; exact q, fun q => ⟨r, rfl, q⟩⟩
end
theorem atI_0 {α : Type} (x : α) (xs : List α) : atI (x :: xs) 0 = some x := atI_nat (i := 0) rfl
theorem atI_1 {α : Type} (x y : α) (xs : List α) : atI (x :: y :: xs) 1 = some y := atI_nat (i := 1) rfl
theorem sz0 : (0 ≤ sizeLine) = True := by rw [sizeLine_eq]; simp
theorem sz1 : (1 ≤ sizeLine) = True := by rw [sizeLine_eq]; simp
theorem sz2 : (2 ≤ sizeLine) = True := by rw [sizeLine_eq]; simp
theorem sz3 : (3 ≤ sizeLine) = True := by rw [sizeLine_eq]; simp
theorem sz4 : (4 ≤ sizeLine) = True := by rw [sizeLine_eq]; simp
theorem snocP (a : List (Int × Int)) (i j : Int) : (a.map eP).map D.t ++ [D.t (.tup [.int i, .int j])] = ((a ++ [(i, j)]).map eP).map D.t := by simp [eP]
theorem snocI (a : List Int) (i : Int) : (a.map T.int).map D.t ++ [D.t (.int i)] = ((a ++ [i]).map T.int).map D.t := by simp
end Gw
/-! Gw, part R: rows by which simp runs a reading, head first; printed by rows.py. -/
namespace Gw
open PySem PySem.Spec PyProof.Rows L2 RZ
theorem r_sNil {env : DEnv} {μ : Store} {nx bk ct : DEnv → Store → Prop} {xc : XD → DEnv → Store → Prop} {rt : D → Store → Prop} : sNil env μ ⟨nx, rt, bk, ct, xc⟩ = nx env μ := rfl
theorem r_sSeq {env : DEnv} {μ : Store} {nx bk ct : DEnv → Store → Prop} {xc : XD → DEnv → Store → Prop} {rt : D → Store → Prop} {a b : DS} : sSeq a b env μ ⟨nx, rt, bk, ct, xc⟩ = a env μ ⟨fun e m => b e m ⟨nx, rt, bk, ct, xc⟩, rt, bk, ct, xc⟩ := rfl
theorem r_sDrop {env : DEnv} {μ : Store} {nx bk ct : DEnv → Store → Prop} {xc : XD → DEnv → Store → Prop} {rt : D → Store → Prop} {p : DX} : sDrop p env μ ⟨nx, rt, bk, ct, xc⟩ = p env μ fun _ m => nx env m := rfl
theorem r_sRet {env : DEnv} {μ : Store} {nx bk ct : DEnv → Store → Prop} {xc : XD → DEnv → Store → Prop} {rt : D → Store → Prop} {p : DX} : sRet p env μ ⟨nx, rt, bk, ct, xc⟩ = p env μ fun d m => rt d m := rfl
theorem r_sRetN {env : DEnv} {μ : Store} {nx bk ct : DEnv → Store → Prop} {xc : XD → DEnv → Store → Prop} {rt : D → Store → Prop} : sRetN env μ ⟨nx, rt, bk, ct, xc⟩ = rt (.t .non) μ := rfl
theorem r_sBreak {env : DEnv} {μ : Store} {nx bk ct : DEnv → Store → Prop} {xc : XD → DEnv → Store → Prop} {rt : D → Store → Prop} : sBreak env μ ⟨nx, rt, bk, ct, xc⟩ = bk env μ := rfl
theorem r_sCont {env : DEnv} {μ : Store} {nx bk ct : DEnv → Store → Prop} {xc : XD → DEnv → Store → Prop} {rt : D → Store → Prop} : sCont env μ ⟨nx, rt, bk, ct, xc⟩ = ct env μ := rfl
theorem r_sIf {env : DEnv} {μ : Store} {nx bk ct : DEnv → Store → Prop} {xc : XD → DEnv → Store → Prop} {rt : D → Store → Prop} {c : DT} {a b : DS} : sIf c a b env μ ⟨nx, rt, bk, ct, xc⟩ = c env μ fun k => if k = true then a env μ ⟨nx, rt, bk, ct, xc⟩ else b env μ ⟨nx, rt, bk, ct, xc⟩ := rfl
theorem r_sAsg {env : DEnv} {μ : Store} {nx bk ct : DEnv → Store → Prop} {xc : XD → DEnv → Store → Prop} {rt : D → Store → Prop} {p : DX} {g : DG} : sAsg p g env μ ⟨nx, rt, bk, ct, xc⟩ = p env μ fun d m => g d env fun e => nx e m := rfl
theorem r_sSetIx {env : DEnv} {μ : Store} {nx bk ct : DEnv → Store → Prop} {xc : XD → DEnv → Store → Prop} {rt : D → Store → Prop} {v : DX} {o i : DP} : sSetIx v o i env μ ⟨nx, rt, bk, ct, xc⟩ = v env μ fun x m => o env m fun d => i env m fun e => setW m d e x fun m2 => nx env m2 := rfl
theorem r_sFor {env : DEnv} {μ : Store} {nx bk ct : DEnv → Store → Prop} {xc : XD → DEnv → Store → Prop} {rt : D → Store → Prop} {it : DI} {g : DG} {b : DS} : sFor it g b env μ ⟨nx, rt, bk, ct, xc⟩ = it env μ fun j => forD j.keep g b ⟨nx, rt, bk, ct, xc⟩ j.items env μ := rfl
theorem r_dC {env : DEnv} {μ : Store} {Q : D → Prop} {x : T} : dC x env μ Q = Q (.t x) := rfl
theorem r_xP {env : DEnv} {μ : Store} {Q : D → Store → Prop} {p : DP} : xP p env μ Q = p env μ fun d => Q d μ := rfl
theorem r_dF {env : DEnv} {μ : Store} {Q : D → Prop} {p : DF} : dF p env μ Q = p env μ fun xs => Q (.t (.lst xs)) := rfl
def pushK (μ : Store) (m : MO) (Q : D → Store → Prop) : Prop := Q (.loc μ.length) (μ ++ [m])
theorem r_xF {env : DEnv} {μ : Store} {Q : D → Store → Prop} {p : DF} : xF p env μ Q = p env μ fun xs => pushK μ (.lst (xs.map D.t)) Q := rfl
theorem r_xDic {env : DEnv} {μ : Store} {Q : D → Store → Prop} : xDic env μ Q = pushK μ (.dic []) Q := rfl
theorem r_xLst {env : DEnv} {μ : Store} {Q : D → Store → Prop} {a : DAX} : xLst a env μ Q = a env μ fun ds m => ds.length ≤ sizeLine ∧ pushK m (.lst ds) Q := rfl
theorem r_axNil {env : DEnv} {μ : Store} {Q : List D → Store → Prop} : axNil env μ Q = Q [] μ := rfl
theorem r_axCons {env : DEnv} {μ : Store} {Q : List D → Store → Prop} {p : DX} {q : DAX} : axCons p q env μ Q = p env μ fun d m => q env m fun ds m2 => Q (d :: ds) m2 := rfl
theorem r_aNil {env : DEnv} {μ : Store} {Q : List D → Prop} : aNil env μ Q = Q [] := rfl
theorem r_aCons {env : DEnv} {μ : Store} {Q : List D → Prop} {p : DP} {q : DA} : aCons p q env μ Q = p env μ fun d => q env μ fun ds => Q (d :: ds) := rfl
theorem r_allT0 {Q : List T → Prop} : allT [] Q = Q [] := rfl
theorem r_allT1 {Q : List T → Prop} {x : T} {ds : List D} : allT (.t x :: ds) Q = allT ds fun xs => Q (x :: xs) := rfl
theorem r_dTup {env : DEnv} {μ : Store} {Q : D → Prop} {a : DA} : dTup a env μ Q = a env μ fun ds => allT ds fun xs => xs.length ≤ sizeLine ∧ Q (.t (.tup xs)) := rfl
theorem r_dLst {env : DEnv} {μ : Store} {Q : D → Prop} {a : DA} : dLst a env μ Q = a env μ fun ds => allT ds fun xs => xs.length ≤ sizeLine ∧ Q (.t (.lst xs)) := rfl
def blK (d : D) (Q : Bool → Prop) : Prop := ∃ b, d = .t (.bl b) ∧ Q b
theorem r_blK {b : Bool} {Q : Bool → Prop} : blK (.t (.bl b)) Q ↔ Q b := ⟨fun ⟨_, e, q⟩ => by cases e; exact q, fun q => ⟨b, rfl, q⟩⟩
theorem r_dTest {env : DEnv} {μ : Store} {Q : Bool → Prop} {p : DP} : dTest p env μ Q = p env μ fun d => blK d Q := rfl
theorem r_dAnd {env : DEnv} {μ : Store} {Q : Bool → Prop} {p q : DT} : dAnd p q env μ Q = p env μ fun b => if b = true then q env μ Q else Q false := rfl
theorem r_dOr {env : DEnv} {μ : Store} {Q : Bool → Prop} {p q : DT} : dOr p q env μ Q = p env μ fun b => if b = true then Q true else q env μ Q := rfl
theorem r_dNot {env : DEnv} {μ : Store} {Q : Bool → Prop} {p : DT} : dNot p env μ Q = p env μ fun b => Q (!b) := rfl
theorem r_tYesD {env : DEnv} {μ : Store} {Q : Bool → Prop} : tYesD env μ Q = Q true := rfl
theorem r_dAndV {env : DEnv} {μ : Store} {Q : D → Prop} {p q : DP} : dAndV p q env μ Q = p env μ fun d => blK d fun b => if b = true then q env μ Q else Q (.t (.bl false)) := rfl
theorem r_dOrV {env : DEnv} {μ : Store} {Q : D → Prop} {p q : DP} : dOrV p q env μ Q = p env μ fun d => blK d fun b => if b = true then Q (.t (.bl true)) else q env μ Q := rfl
theorem r_dNotV {env : DEnv} {μ : Store} {Q : D → Prop} {p : DP} : dNotV p env μ Q = p env μ fun d => blK d fun b => Q (.t (.bl (!b))) := rfl
theorem r_dIf {env : DEnv} {μ : Store} {Q : D → Prop} {c : DT} {p q : DP} : dIf c p q env μ Q = c env μ fun b => if b = true then p env μ Q else q env μ Q := rfl
theorem r_d2 {env : DEnv} {μ : Store} {Q : D → Prop} {p q : DP} {F : Store → D → D → (D → Prop) → Prop} : d2 p q F env μ Q = p env μ fun x => q env μ fun y => F μ x y Q := rfl
theorem r_dSub {p q : DP} : dSub p q = d2 p q (ii fun i j Q => Q (.int (i - j))) := rfl
theorem r_dMul {p q : DP} : dMul p q = d2 p q (ii fun i j Q => MulOk i j ∧ Q (.int (i * j))) := rfl
theorem r_dMod {p q : DP} : dMod p q = d2 p q (ii fun i j Q => 0 < j ∧ Q (.int (i % j))) := rfl
theorem r_dDiv {p q : DP} : dDiv p q = d2 p q (ii fun i j Q => DivOk i j ∧ Q (.int (i / j))) := rfl
theorem r_dPow {p q : DP} : dPow p q = d2 p q (ii fun i j Q => CPow i j ∧ Q (.int (i ^ j.toNat))) := rfl
theorem r_dShl {p q : DP} : dShl p q = d2 p q (ii fun i j Q => CPow i j ∧ Q (.int (i * 2 ^ j.toNat))) := rfl
theorem r_dShr {p q : DP} : dShr p q = d2 p q (ii fun i j Q => 0 ≤ j ∧ Q (.int (i / 2 ^ j.toNat))) := rfl
theorem r_dBand {p q : DP} : dBand p q = d2 p q (ii fun i j Q => Q (.int (Builtin.bitAnd i j))) := rfl
theorem r_dBor {p q : DP} : dBor p q = d2 p q (ii fun i j Q => Q (.int (Builtin.bitOr i j))) := rfl
theorem r_dLt {p q : DP} : dLt p q = d2 p q (ii fun i j Q => Q (.bl (decide (i < j)))) := rfl
theorem r_dLe {p q : DP} : dLe p q = d2 p q (ii fun i j Q => Q (.bl (decide (i ≤ j)))) := rfl
theorem r_dGt {p q : DP} : dGt p q = d2 p q (ii fun i j Q => Q (.bl (decide (j < i)))) := rfl
theorem r_dGe {p q : DP} : dGe p q = d2 p q (ii fun i j Q => Q (.bl (decide (j ≤ i)))) := rfl
theorem r_ii {f : Int → Int → (T → Prop) → Prop} {μ : Store} {i j : Int} {Q : D → Prop} : ii f μ (.t (.int i)) (.t (.int j)) Q = f i j fun x => Q (.t x) := rfl
def negK (d : D) (Q : D → Prop) : Prop := match d with | .t (.int i) => Q (.t (.int (-i))) | _ => False
theorem r_dNeg {env : DEnv} {μ : Store} {Q : D → Prop} {p : DP} : dNeg p env μ Q = p env μ fun d => negK d Q := rfl
theorem r_negK {i : Int} {Q : D → Prop} : negK (.t (.int i)) Q = Q (.t (.int (-i))) := rfl
def eqW (a b : T) (Q : T → Prop) : Prop := okT a = true ∧ okT b = true ∧ Q (.bl (eqT a b))
def neW (a b : T) (Q : T → Prop) : Prop := okT a = true ∧ okT b = true ∧ Q (.bl (!eqT a b))
theorem r_dEq {p q : DP} : dEq p q = d2 p q (tw eqW) := rfl
theorem r_dNe {p q : DP} : dNe p q = d2 p q (tw neW) := rfl
theorem r_eqW {a b : T} {Q : T → Prop} : eqW a b Q = (okT a = true ∧ okT b = true ∧ Q (.bl (eqT a b))) := rfl
theorem r_neW {a b : T} {Q : T → Prop} : neW a b Q = (okT a = true ∧ okT b = true ∧ Q (.bl (!eqT a b))) := rfl
theorem r_tw {f : T → T → (T → Prop) → Prop} {μ : Store} {x y : D} {Q : D → Prop} : tw f μ x y Q = vw μ x fun a => vw μ y fun b => f a b fun c => Q (.t c) := rfl
theorem r_addI {μ : Store} {i j : Int} {Q : D → Prop} : addD μ (.t (.int i)) (.t (.int j)) Q = Q (.t (.int (i + j))) := rfl
theorem r_addT {μ : Store} {i j : List T} {Q : D → Prop} : addD μ (.t (.tup i)) (.t (.tup j)) Q = (i.length + j.length ≤ sizeLine ∧ Q (.t (.tup (i ++ j)))) := rfl
theorem r_addLL {μ : Store} {i j : List T} {Q : D → Prop} : addD μ (.t (.lst i)) (.t (.lst j)) Q = (i.length + j.length ≤ sizeLine ∧ Q (.t (.lst (i ++ j)))) := rfl
theorem r_addRL {μ : Store} {i j : List T} {Q : D → Prop} : addD μ (.t (.ro i)) (.t (.lst j)) Q = (i.length + j.length ≤ sizeLine ∧ Q (.t (.lst (i ++ j)))) := rfl
theorem r_addLR {μ : Store} {i j : List T} {Q : D → Prop} : addD μ (.t (.lst i)) (.t (.ro j)) Q = (i.length + j.length ≤ sizeLine ∧ Q (.t (.lst (i ++ j)))) := rfl
theorem r_addRR {μ : Store} {i j : List T} {Q : D → Prop} : addD μ (.t (.ro i)) (.t (.ro j)) Q = (i.length + j.length ≤ sizeLine ∧ Q (.t (.lst (i ++ j)))) := rfl
def ch1 (f : Int → Int → Bool) (d e : D) (Y : Int → Prop) (N : Prop) : Prop := match d, e with | .t (.int i), .t (.int j) => if f i j = true then Y j else N | _, _ => False
def ch2 (g : Int → Int → Bool) (j : Int) (z : D) (Q : D → Prop) : Prop := match z with | .t (.int k) => Q (.t (.bl (g j k))) | _ => False
theorem r_dChain {env : DEnv} {μ : Store} {Q : D → Prop} {f g : Int → Int → Bool} {p q r : DP} : dChain f g p q r env μ Q ↔ p env μ fun d => q env μ fun e => ch1 f d e (fun j => r env μ fun z => ch2 g j z Q) (Q (.t (.bl false))) := by
  unfold dChain
  exact Iff.of_eq (congrArg (p env μ) (funext fun d => congrArg (q env μ) (funext fun e => by unfold ch1 ch2; cases d with | loc _ => rfl | tp _ => rfl | t x => cases e with | loc _ => cases x <;> rfl | tp _ => cases x <;> rfl | t y => cases x <;> cases y <;> rfl)))
theorem r_ch1 {f : Int → Int → Bool} {i j : Int} {Y : Int → Prop} {N : Prop} : ch1 f (.t (.int i)) (.t (.int j)) Y N = if f i j = true then Y j else N := rfl
theorem r_ch2 {g : Int → Int → Bool} {j k : Int} {Q : D → Prop} : ch2 g j (.t (.int k)) Q = Q (.t (.bl (g j k))) := rfl
def atK (xs : List T) (i : Int) (Q : D → Prop) : Prop := ∃ x, atI xs i = some x ∧ Q (.t x)
def atD (xs : List D) (i : Int) (Q : D → Prop) : Prop := ∃ x, atI xs i = some x ∧ Q x
theorem r_dIx {p q : DP} : dIx p q = d2 p q ixW := rfl
theorem r_ixT {μ : Store} {xs : List T} {i : Int} {Q : D → Prop} : ixW μ (.t (.tup xs)) (.t (.int i)) Q = atK xs i Q := rfl
theorem r_ixL {μ : Store} {xs : List T} {i : Int} {Q : D → Prop} : ixW μ (.t (.lst xs)) (.t (.int i)) Q = atK xs i Q := rfl
theorem r_ixR {μ : Store} {xs : List T} {i : Int} {Q : D → Prop} : ixW μ (.t (.ro xs)) (.t (.int i)) Q = atK xs i Q := rfl
theorem r_atDm {xs : List T} {i : Int} {Q : D → Prop} : atD (xs.map D.t) i Q ↔ atK xs i Q := by
  unfold atD atK
  rw [atI_map]
  constructor
  · rintro ⟨y, h, q⟩
    obtain ⟨x, h1, rfl⟩ := Option.map_eq_some_iff.mp h
    exact ⟨x, h1, q⟩
  · rintro ⟨x, h, q⟩
    exact ⟨.t x, by rw [h]; rfl, q⟩
theorem r_eP {i j : Int} : eP (i, j) = .tup [.int i, .int j] := rfl
theorem r_atKeP {p : Int × Int} {i : Int} {μ : Store} {Q : D → Prop} : ixW μ (.t (eP p)) (.t (.int i)) Q = atK [.int p.1, .int p.2] i Q := rfl
theorem r_atKlast {ps : List (Int × Int)} {l : Int × Int} {Q : D → Prop} : atK ((ps ++ [l]).map eP) (-1) Q ↔ Q (.t (eP l)) := by
  unfold atK
  rw [atI_map, atI_last]
  exact ⟨fun ⟨x, e, q⟩ => by cases e; exact q, fun q => ⟨_, rfl, q⟩⟩
theorem r_atK0 {x0 : T} {r : List T} {Q : D → Prop} : atK (x0 :: r) 0 Q ↔ Q (.t x0) := ⟨fun ⟨y, e, q⟩ => by rw [show atI (x0 :: r) 0 = some x0 from atI_nat (i := 0) rfl] at e; cases e; exact q, fun q => ⟨_, atI_nat (i := 0) rfl, q⟩⟩
theorem r_atD0 {x0 : D} {r : List D} {Q : D → Prop} : atD (x0 :: r) 0 Q ↔ Q x0 := ⟨fun ⟨y, e, q⟩ => by rw [show atI (x0 :: r) 0 = some x0 from atI_nat (i := 0) rfl] at e; cases e; exact q, fun q => ⟨_, atI_nat (i := 0) rfl, q⟩⟩
theorem r_atK1 {x0 x1 : T} {r : List T} {Q : D → Prop} : atK (x0 :: x1 :: r) 1 Q ↔ Q (.t x1) := ⟨fun ⟨y, e, q⟩ => by rw [show atI (x0 :: x1 :: r) 1 = some x1 from atI_nat (i := 1) rfl] at e; cases e; exact q, fun q => ⟨_, atI_nat (i := 1) rfl, q⟩⟩
theorem r_atD1 {x0 x1 : D} {r : List D} {Q : D → Prop} : atD (x0 :: x1 :: r) 1 Q ↔ Q x1 := ⟨fun ⟨y, e, q⟩ => by rw [show atI (x0 :: x1 :: r) 1 = some x1 from atI_nat (i := 1) rfl] at e; cases e; exact q, fun q => ⟨_, atI_nat (i := 1) rfl, q⟩⟩
theorem r_atK2 {x0 x1 x2 : T} {r : List T} {Q : D → Prop} : atK (x0 :: x1 :: x2 :: r) 2 Q ↔ Q (.t x2) := ⟨fun ⟨y, e, q⟩ => by rw [show atI (x0 :: x1 :: x2 :: r) 2 = some x2 from atI_nat (i := 2) rfl] at e; cases e; exact q, fun q => ⟨_, atI_nat (i := 2) rfl, q⟩⟩
theorem r_atD2 {x0 x1 x2 : D} {r : List D} {Q : D → Prop} : atD (x0 :: x1 :: x2 :: r) 2 Q ↔ Q x2 := ⟨fun ⟨y, e, q⟩ => by rw [show atI (x0 :: x1 :: x2 :: r) 2 = some x2 from atI_nat (i := 2) rfl] at e; cases e; exact q, fun q => ⟨_, atI_nat (i := 2) rfl, q⟩⟩
theorem r_atK3 {x0 x1 x2 x3 : T} {r : List T} {Q : D → Prop} : atK (x0 :: x1 :: x2 :: x3 :: r) 3 Q ↔ Q (.t x3) := ⟨fun ⟨y, e, q⟩ => by rw [show atI (x0 :: x1 :: x2 :: x3 :: r) 3 = some x3 from atI_nat (i := 3) rfl] at e; cases e; exact q, fun q => ⟨_, atI_nat (i := 3) rfl, q⟩⟩
theorem r_atD3 {x0 x1 x2 x3 : D} {r : List D} {Q : D → Prop} : atD (x0 :: x1 :: x2 :: x3 :: r) 3 Q ↔ Q x3 := ⟨fun ⟨y, e, q⟩ => by rw [show atI (x0 :: x1 :: x2 :: x3 :: r) 3 = some x3 from atI_nat (i := 3) rfl] at e; cases e; exact q, fun q => ⟨_, atI_nat (i := 3) rfl, q⟩⟩
theorem r_atK4 {x0 x1 x2 x3 x4 : T} {r : List T} {Q : D → Prop} : atK (x0 :: x1 :: x2 :: x3 :: x4 :: r) 4 Q ↔ Q (.t x4) := ⟨fun ⟨y, e, q⟩ => by rw [show atI (x0 :: x1 :: x2 :: x3 :: x4 :: r) 4 = some x4 from atI_nat (i := 4) rfl] at e; cases e; exact q, fun q => ⟨_, atI_nat (i := 4) rfl, q⟩⟩
theorem r_atD4 {x0 x1 x2 x3 x4 : D} {r : List D} {Q : D → Prop} : atD (x0 :: x1 :: x2 :: x3 :: x4 :: r) 4 Q ↔ Q x4 := ⟨fun ⟨y, e, q⟩ => by rw [show atI (x0 :: x1 :: x2 :: x3 :: x4 :: r) 4 = some x4 from atI_nat (i := 4) rfl] at e; cases e; exact q, fun q => ⟨_, atI_nat (i := 4) rfl, q⟩⟩
theorem r_atK5 {x0 x1 x2 x3 x4 x5 : T} {r : List T} {Q : D → Prop} : atK (x0 :: x1 :: x2 :: x3 :: x4 :: x5 :: r) 5 Q ↔ Q (.t x5) := ⟨fun ⟨y, e, q⟩ => by rw [show atI (x0 :: x1 :: x2 :: x3 :: x4 :: x5 :: r) 5 = some x5 from atI_nat (i := 5) rfl] at e; cases e; exact q, fun q => ⟨_, atI_nat (i := 5) rfl, q⟩⟩
theorem r_atD5 {x0 x1 x2 x3 x4 x5 : D} {r : List D} {Q : D → Prop} : atD (x0 :: x1 :: x2 :: x3 :: x4 :: x5 :: r) 5 Q ↔ Q x5 := ⟨fun ⟨y, e, q⟩ => by rw [show atI (x0 :: x1 :: x2 :: x3 :: x4 :: x5 :: r) 5 = some x5 from atI_nat (i := 5) rfl] at e; cases e; exact q, fun q => ⟨_, atI_nat (i := 5) rfl, q⟩⟩
theorem r_atK6 {x0 x1 x2 x3 x4 x5 x6 : T} {r : List T} {Q : D → Prop} : atK (x0 :: x1 :: x2 :: x3 :: x4 :: x5 :: x6 :: r) 6 Q ↔ Q (.t x6) := ⟨fun ⟨y, e, q⟩ => by rw [show atI (x0 :: x1 :: x2 :: x3 :: x4 :: x5 :: x6 :: r) 6 = some x6 from atI_nat (i := 6) rfl] at e; cases e; exact q, fun q => ⟨_, atI_nat (i := 6) rfl, q⟩⟩
theorem r_atK7 {x0 x1 x2 x3 x4 x5 x6 x7 : T} {r : List T} {Q : D → Prop} : atK (x0 :: x1 :: x2 :: x3 :: x4 :: x5 :: x6 :: x7 :: r) 7 Q ↔ Q (.t x7) := ⟨fun ⟨y, e, q⟩ => by rw [show atI (x0 :: x1 :: x2 :: x3 :: x4 :: x5 :: x6 :: x7 :: r) 7 = some x7 from atI_nat (i := 7) rfl] at e; cases e; exact q, fun q => ⟨_, atI_nat (i := 7) rfl, q⟩⟩
theorem r_atK8 {x0 x1 x2 x3 x4 x5 x6 x7 x8 : T} {r : List T} {Q : D → Prop} : atK (x0 :: x1 :: x2 :: x3 :: x4 :: x5 :: x6 :: x7 :: x8 :: r) 8 Q ↔ Q (.t x8) := ⟨fun ⟨y, e, q⟩ => by rw [show atI (x0 :: x1 :: x2 :: x3 :: x4 :: x5 :: x6 :: x7 :: x8 :: r) 8 = some x8 from atI_nat (i := 8) rfl] at e; cases e; exact q, fun q => ⟨_, atI_nat (i := 8) rfl, q⟩⟩
theorem r_atK9 {x0 x1 x2 x3 x4 x5 x6 x7 x8 x9 : T} {r : List T} {Q : D → Prop} : atK (x0 :: x1 :: x2 :: x3 :: x4 :: x5 :: x6 :: x7 :: x8 :: x9 :: r) 9 Q ↔ Q (.t x9) := ⟨fun ⟨y, e, q⟩ => by rw [show atI (x0 :: x1 :: x2 :: x3 :: x4 :: x5 :: x6 :: x7 :: x8 :: x9 :: r) 9 = some x9 from atI_nat (i := 9) rfl] at e; cases e; exact q, fun q => ⟨_, atI_nat (i := 9) rfl, q⟩⟩
theorem r_atK10 {x0 x1 x2 x3 x4 x5 x6 x7 x8 x9 x10 : T} {r : List T} {Q : D → Prop} : atK (x0 :: x1 :: x2 :: x3 :: x4 :: x5 :: x6 :: x7 :: x8 :: x9 :: x10 :: r) 10 Q ↔ Q (.t x10) := ⟨fun ⟨y, e, q⟩ => by rw [show atI (x0 :: x1 :: x2 :: x3 :: x4 :: x5 :: x6 :: x7 :: x8 :: x9 :: x10 :: r) 10 = some x10 from atI_nat (i := 10) rfl] at e; cases e; exact q, fun q => ⟨_, atI_nat (i := 10) rfl, q⟩⟩
theorem r_atK11 {x0 x1 x2 x3 x4 x5 x6 x7 x8 x9 x10 x11 : T} {r : List T} {Q : D → Prop} : atK (x0 :: x1 :: x2 :: x3 :: x4 :: x5 :: x6 :: x7 :: x8 :: x9 :: x10 :: x11 :: r) 11 Q ↔ Q (.t x11) := ⟨fun ⟨y, e, q⟩ => by rw [show atI (x0 :: x1 :: x2 :: x3 :: x4 :: x5 :: x6 :: x7 :: x8 :: x9 :: x10 :: x11 :: r) 11 = some x11 from atI_nat (i := 11) rfl] at e; cases e; exact q, fun q => ⟨_, atI_nat (i := 11) rfl, q⟩⟩
theorem r_v0 {d : D} {r : DEnv} {μ : Store} {Q : D → Prop} : dVar 0 (some d :: r) μ Q ↔ Q d := ⟨fun ⟨_, e, q⟩ => by cases e; exact q, fun q => ⟨d, rfl, q⟩⟩
theorem r_g0 {o0 : Option D} {d : D} {r : DEnv} {Q : DEnv → Prop} : gNm 0 d (o0 :: r) Q = Q (some d :: r) := rfl
theorem r_a0 {d : D} {r : DEnv} {μ : Store} {p : DP} {A : Store → D → D → (D → Prop) → Prop} {nx bk ct : DEnv → Store → Prop} {xc : XD → DEnv → Store → Prop} {rt : D → Store → Prop} : sAug 0 p A (some d :: r) μ ⟨nx, rt, bk, ct, xc⟩ ↔ p (some d :: r) μ fun e => A μ d e fun z => nx (some z :: r) μ := ⟨fun ⟨_, e, q⟩ => by cases e; exact q, fun q => ⟨d, rfl, q⟩⟩
theorem r_v1 {o0 : Option D} {d : D} {r : DEnv} {μ : Store} {Q : D → Prop} : dVar 1 (o0 :: some d :: r) μ Q ↔ Q d := ⟨fun ⟨_, e, q⟩ => by cases e; exact q, fun q => ⟨d, rfl, q⟩⟩
theorem r_g1 {o0 o1 : Option D} {d : D} {r : DEnv} {Q : DEnv → Prop} : gNm 1 d (o0 :: o1 :: r) Q = Q (o0 :: some d :: r) := rfl
theorem r_a1 {o0 : Option D} {d : D} {r : DEnv} {μ : Store} {p : DP} {A : Store → D → D → (D → Prop) → Prop} {nx bk ct : DEnv → Store → Prop} {xc : XD → DEnv → Store → Prop} {rt : D → Store → Prop} : sAug 1 p A (o0 :: some d :: r) μ ⟨nx, rt, bk, ct, xc⟩ ↔ p (o0 :: some d :: r) μ fun e => A μ d e fun z => nx (o0 :: some z :: r) μ := ⟨fun ⟨_, e, q⟩ => by cases e; exact q, fun q => ⟨d, rfl, q⟩⟩
theorem r_v2 {o0 o1 : Option D} {d : D} {r : DEnv} {μ : Store} {Q : D → Prop} : dVar 2 (o0 :: o1 :: some d :: r) μ Q ↔ Q d := ⟨fun ⟨_, e, q⟩ => by cases e; exact q, fun q => ⟨d, rfl, q⟩⟩
theorem r_g2 {o0 o1 o2 : Option D} {d : D} {r : DEnv} {Q : DEnv → Prop} : gNm 2 d (o0 :: o1 :: o2 :: r) Q = Q (o0 :: o1 :: some d :: r) := rfl
theorem r_a2 {o0 o1 : Option D} {d : D} {r : DEnv} {μ : Store} {p : DP} {A : Store → D → D → (D → Prop) → Prop} {nx bk ct : DEnv → Store → Prop} {xc : XD → DEnv → Store → Prop} {rt : D → Store → Prop} : sAug 2 p A (o0 :: o1 :: some d :: r) μ ⟨nx, rt, bk, ct, xc⟩ ↔ p (o0 :: o1 :: some d :: r) μ fun e => A μ d e fun z => nx (o0 :: o1 :: some z :: r) μ := ⟨fun ⟨_, e, q⟩ => by cases e; exact q, fun q => ⟨d, rfl, q⟩⟩
theorem r_v3 {o0 o1 o2 : Option D} {d : D} {r : DEnv} {μ : Store} {Q : D → Prop} : dVar 3 (o0 :: o1 :: o2 :: some d :: r) μ Q ↔ Q d := ⟨fun ⟨_, e, q⟩ => by cases e; exact q, fun q => ⟨d, rfl, q⟩⟩
theorem r_g3 {o0 o1 o2 o3 : Option D} {d : D} {r : DEnv} {Q : DEnv → Prop} : gNm 3 d (o0 :: o1 :: o2 :: o3 :: r) Q = Q (o0 :: o1 :: o2 :: some d :: r) := rfl
theorem r_a3 {o0 o1 o2 : Option D} {d : D} {r : DEnv} {μ : Store} {p : DP} {A : Store → D → D → (D → Prop) → Prop} {nx bk ct : DEnv → Store → Prop} {xc : XD → DEnv → Store → Prop} {rt : D → Store → Prop} : sAug 3 p A (o0 :: o1 :: o2 :: some d :: r) μ ⟨nx, rt, bk, ct, xc⟩ ↔ p (o0 :: o1 :: o2 :: some d :: r) μ fun e => A μ d e fun z => nx (o0 :: o1 :: o2 :: some z :: r) μ := ⟨fun ⟨_, e, q⟩ => by cases e; exact q, fun q => ⟨d, rfl, q⟩⟩
theorem r_v4 {o0 o1 o2 o3 : Option D} {d : D} {r : DEnv} {μ : Store} {Q : D → Prop} : dVar 4 (o0 :: o1 :: o2 :: o3 :: some d :: r) μ Q ↔ Q d := ⟨fun ⟨_, e, q⟩ => by cases e; exact q, fun q => ⟨d, rfl, q⟩⟩
theorem r_g4 {o0 o1 o2 o3 o4 : Option D} {d : D} {r : DEnv} {Q : DEnv → Prop} : gNm 4 d (o0 :: o1 :: o2 :: o3 :: o4 :: r) Q = Q (o0 :: o1 :: o2 :: o3 :: some d :: r) := rfl
theorem r_a4 {o0 o1 o2 o3 : Option D} {d : D} {r : DEnv} {μ : Store} {p : DP} {A : Store → D → D → (D → Prop) → Prop} {nx bk ct : DEnv → Store → Prop} {xc : XD → DEnv → Store → Prop} {rt : D → Store → Prop} : sAug 4 p A (o0 :: o1 :: o2 :: o3 :: some d :: r) μ ⟨nx, rt, bk, ct, xc⟩ ↔ p (o0 :: o1 :: o2 :: o3 :: some d :: r) μ fun e => A μ d e fun z => nx (o0 :: o1 :: o2 :: o3 :: some z :: r) μ := ⟨fun ⟨_, e, q⟩ => by cases e; exact q, fun q => ⟨d, rfl, q⟩⟩
theorem r_v5 {o0 o1 o2 o3 o4 : Option D} {d : D} {r : DEnv} {μ : Store} {Q : D → Prop} : dVar 5 (o0 :: o1 :: o2 :: o3 :: o4 :: some d :: r) μ Q ↔ Q d := ⟨fun ⟨_, e, q⟩ => by cases e; exact q, fun q => ⟨d, rfl, q⟩⟩
theorem r_g5 {o0 o1 o2 o3 o4 o5 : Option D} {d : D} {r : DEnv} {Q : DEnv → Prop} : gNm 5 d (o0 :: o1 :: o2 :: o3 :: o4 :: o5 :: r) Q = Q (o0 :: o1 :: o2 :: o3 :: o4 :: some d :: r) := rfl
theorem r_a5 {o0 o1 o2 o3 o4 : Option D} {d : D} {r : DEnv} {μ : Store} {p : DP} {A : Store → D → D → (D → Prop) → Prop} {nx bk ct : DEnv → Store → Prop} {xc : XD → DEnv → Store → Prop} {rt : D → Store → Prop} : sAug 5 p A (o0 :: o1 :: o2 :: o3 :: o4 :: some d :: r) μ ⟨nx, rt, bk, ct, xc⟩ ↔ p (o0 :: o1 :: o2 :: o3 :: o4 :: some d :: r) μ fun e => A μ d e fun z => nx (o0 :: o1 :: o2 :: o3 :: o4 :: some z :: r) μ := ⟨fun ⟨_, e, q⟩ => by cases e; exact q, fun q => ⟨d, rfl, q⟩⟩
theorem r_v6 {o0 o1 o2 o3 o4 o5 : Option D} {d : D} {r : DEnv} {μ : Store} {Q : D → Prop} : dVar 6 (o0 :: o1 :: o2 :: o3 :: o4 :: o5 :: some d :: r) μ Q ↔ Q d := ⟨fun ⟨_, e, q⟩ => by cases e; exact q, fun q => ⟨d, rfl, q⟩⟩
theorem r_g6 {o0 o1 o2 o3 o4 o5 o6 : Option D} {d : D} {r : DEnv} {Q : DEnv → Prop} : gNm 6 d (o0 :: o1 :: o2 :: o3 :: o4 :: o5 :: o6 :: r) Q = Q (o0 :: o1 :: o2 :: o3 :: o4 :: o5 :: some d :: r) := rfl
theorem r_a6 {o0 o1 o2 o3 o4 o5 : Option D} {d : D} {r : DEnv} {μ : Store} {p : DP} {A : Store → D → D → (D → Prop) → Prop} {nx bk ct : DEnv → Store → Prop} {xc : XD → DEnv → Store → Prop} {rt : D → Store → Prop} : sAug 6 p A (o0 :: o1 :: o2 :: o3 :: o4 :: o5 :: some d :: r) μ ⟨nx, rt, bk, ct, xc⟩ ↔ p (o0 :: o1 :: o2 :: o3 :: o4 :: o5 :: some d :: r) μ fun e => A μ d e fun z => nx (o0 :: o1 :: o2 :: o3 :: o4 :: o5 :: some z :: r) μ := ⟨fun ⟨_, e, q⟩ => by cases e; exact q, fun q => ⟨d, rfl, q⟩⟩
theorem r_v7 {o0 o1 o2 o3 o4 o5 o6 : Option D} {d : D} {r : DEnv} {μ : Store} {Q : D → Prop} : dVar 7 (o0 :: o1 :: o2 :: o3 :: o4 :: o5 :: o6 :: some d :: r) μ Q ↔ Q d := ⟨fun ⟨_, e, q⟩ => by cases e; exact q, fun q => ⟨d, rfl, q⟩⟩
theorem r_g7 {o0 o1 o2 o3 o4 o5 o6 o7 : Option D} {d : D} {r : DEnv} {Q : DEnv → Prop} : gNm 7 d (o0 :: o1 :: o2 :: o3 :: o4 :: o5 :: o6 :: o7 :: r) Q = Q (o0 :: o1 :: o2 :: o3 :: o4 :: o5 :: o6 :: some d :: r) := rfl
theorem r_a7 {o0 o1 o2 o3 o4 o5 o6 : Option D} {d : D} {r : DEnv} {μ : Store} {p : DP} {A : Store → D → D → (D → Prop) → Prop} {nx bk ct : DEnv → Store → Prop} {xc : XD → DEnv → Store → Prop} {rt : D → Store → Prop} : sAug 7 p A (o0 :: o1 :: o2 :: o3 :: o4 :: o5 :: o6 :: some d :: r) μ ⟨nx, rt, bk, ct, xc⟩ ↔ p (o0 :: o1 :: o2 :: o3 :: o4 :: o5 :: o6 :: some d :: r) μ fun e => A μ d e fun z => nx (o0 :: o1 :: o2 :: o3 :: o4 :: o5 :: o6 :: some z :: r) μ := ⟨fun ⟨_, e, q⟩ => by cases e; exact q, fun q => ⟨d, rfl, q⟩⟩
theorem r_v8 {o0 o1 o2 o3 o4 o5 o6 o7 : Option D} {d : D} {r : DEnv} {μ : Store} {Q : D → Prop} : dVar 8 (o0 :: o1 :: o2 :: o3 :: o4 :: o5 :: o6 :: o7 :: some d :: r) μ Q ↔ Q d := ⟨fun ⟨_, e, q⟩ => by cases e; exact q, fun q => ⟨d, rfl, q⟩⟩
theorem r_g8 {o0 o1 o2 o3 o4 o5 o6 o7 o8 : Option D} {d : D} {r : DEnv} {Q : DEnv → Prop} : gNm 8 d (o0 :: o1 :: o2 :: o3 :: o4 :: o5 :: o6 :: o7 :: o8 :: r) Q = Q (o0 :: o1 :: o2 :: o3 :: o4 :: o5 :: o6 :: o7 :: some d :: r) := rfl
theorem r_a8 {o0 o1 o2 o3 o4 o5 o6 o7 : Option D} {d : D} {r : DEnv} {μ : Store} {p : DP} {A : Store → D → D → (D → Prop) → Prop} {nx bk ct : DEnv → Store → Prop} {xc : XD → DEnv → Store → Prop} {rt : D → Store → Prop} : sAug 8 p A (o0 :: o1 :: o2 :: o3 :: o4 :: o5 :: o6 :: o7 :: some d :: r) μ ⟨nx, rt, bk, ct, xc⟩ ↔ p (o0 :: o1 :: o2 :: o3 :: o4 :: o5 :: o6 :: o7 :: some d :: r) μ fun e => A μ d e fun z => nx (o0 :: o1 :: o2 :: o3 :: o4 :: o5 :: o6 :: o7 :: some z :: r) μ := ⟨fun ⟨_, e, q⟩ => by cases e; exact q, fun q => ⟨d, rfl, q⟩⟩
theorem r_v9 {o0 o1 o2 o3 o4 o5 o6 o7 o8 : Option D} {d : D} {r : DEnv} {μ : Store} {Q : D → Prop} : dVar 9 (o0 :: o1 :: o2 :: o3 :: o4 :: o5 :: o6 :: o7 :: o8 :: some d :: r) μ Q ↔ Q d := ⟨fun ⟨_, e, q⟩ => by cases e; exact q, fun q => ⟨d, rfl, q⟩⟩
theorem r_g9 {o0 o1 o2 o3 o4 o5 o6 o7 o8 o9 : Option D} {d : D} {r : DEnv} {Q : DEnv → Prop} : gNm 9 d (o0 :: o1 :: o2 :: o3 :: o4 :: o5 :: o6 :: o7 :: o8 :: o9 :: r) Q = Q (o0 :: o1 :: o2 :: o3 :: o4 :: o5 :: o6 :: o7 :: o8 :: some d :: r) := rfl
theorem r_a9 {o0 o1 o2 o3 o4 o5 o6 o7 o8 : Option D} {d : D} {r : DEnv} {μ : Store} {p : DP} {A : Store → D → D → (D → Prop) → Prop} {nx bk ct : DEnv → Store → Prop} {xc : XD → DEnv → Store → Prop} {rt : D → Store → Prop} : sAug 9 p A (o0 :: o1 :: o2 :: o3 :: o4 :: o5 :: o6 :: o7 :: o8 :: some d :: r) μ ⟨nx, rt, bk, ct, xc⟩ ↔ p (o0 :: o1 :: o2 :: o3 :: o4 :: o5 :: o6 :: o7 :: o8 :: some d :: r) μ fun e => A μ d e fun z => nx (o0 :: o1 :: o2 :: o3 :: o4 :: o5 :: o6 :: o7 :: o8 :: some z :: r) μ := ⟨fun ⟨_, e, q⟩ => by cases e; exact q, fun q => ⟨d, rfl, q⟩⟩
theorem r_v10 {o0 o1 o2 o3 o4 o5 o6 o7 o8 o9 : Option D} {d : D} {r : DEnv} {μ : Store} {Q : D → Prop} : dVar 10 (o0 :: o1 :: o2 :: o3 :: o4 :: o5 :: o6 :: o7 :: o8 :: o9 :: some d :: r) μ Q ↔ Q d := ⟨fun ⟨_, e, q⟩ => by cases e; exact q, fun q => ⟨d, rfl, q⟩⟩
theorem r_g10 {o0 o1 o2 o3 o4 o5 o6 o7 o8 o9 o10 : Option D} {d : D} {r : DEnv} {Q : DEnv → Prop} : gNm 10 d (o0 :: o1 :: o2 :: o3 :: o4 :: o5 :: o6 :: o7 :: o8 :: o9 :: o10 :: r) Q = Q (o0 :: o1 :: o2 :: o3 :: o4 :: o5 :: o6 :: o7 :: o8 :: o9 :: some d :: r) := rfl
theorem r_a10 {o0 o1 o2 o3 o4 o5 o6 o7 o8 o9 : Option D} {d : D} {r : DEnv} {μ : Store} {p : DP} {A : Store → D → D → (D → Prop) → Prop} {nx bk ct : DEnv → Store → Prop} {xc : XD → DEnv → Store → Prop} {rt : D → Store → Prop} : sAug 10 p A (o0 :: o1 :: o2 :: o3 :: o4 :: o5 :: o6 :: o7 :: o8 :: o9 :: some d :: r) μ ⟨nx, rt, bk, ct, xc⟩ ↔ p (o0 :: o1 :: o2 :: o3 :: o4 :: o5 :: o6 :: o7 :: o8 :: o9 :: some d :: r) μ fun e => A μ d e fun z => nx (o0 :: o1 :: o2 :: o3 :: o4 :: o5 :: o6 :: o7 :: o8 :: o9 :: some z :: r) μ := ⟨fun ⟨_, e, q⟩ => by cases e; exact q, fun q => ⟨d, rfl, q⟩⟩
theorem r_v11 {o0 o1 o2 o3 o4 o5 o6 o7 o8 o9 o10 : Option D} {d : D} {r : DEnv} {μ : Store} {Q : D → Prop} : dVar 11 (o0 :: o1 :: o2 :: o3 :: o4 :: o5 :: o6 :: o7 :: o8 :: o9 :: o10 :: some d :: r) μ Q ↔ Q d := ⟨fun ⟨_, e, q⟩ => by cases e; exact q, fun q => ⟨d, rfl, q⟩⟩
theorem r_g11 {o0 o1 o2 o3 o4 o5 o6 o7 o8 o9 o10 o11 : Option D} {d : D} {r : DEnv} {Q : DEnv → Prop} : gNm 11 d (o0 :: o1 :: o2 :: o3 :: o4 :: o5 :: o6 :: o7 :: o8 :: o9 :: o10 :: o11 :: r) Q = Q (o0 :: o1 :: o2 :: o3 :: o4 :: o5 :: o6 :: o7 :: o8 :: o9 :: o10 :: some d :: r) := rfl
theorem r_a11 {o0 o1 o2 o3 o4 o5 o6 o7 o8 o9 o10 : Option D} {d : D} {r : DEnv} {μ : Store} {p : DP} {A : Store → D → D → (D → Prop) → Prop} {nx bk ct : DEnv → Store → Prop} {xc : XD → DEnv → Store → Prop} {rt : D → Store → Prop} : sAug 11 p A (o0 :: o1 :: o2 :: o3 :: o4 :: o5 :: o6 :: o7 :: o8 :: o9 :: o10 :: some d :: r) μ ⟨nx, rt, bk, ct, xc⟩ ↔ p (o0 :: o1 :: o2 :: o3 :: o4 :: o5 :: o6 :: o7 :: o8 :: o9 :: o10 :: some d :: r) μ fun e => A μ d e fun z => nx (o0 :: o1 :: o2 :: o3 :: o4 :: o5 :: o6 :: o7 :: o8 :: o9 :: o10 :: some z :: r) μ := ⟨fun ⟨_, e, q⟩ => by cases e; exact q, fun q => ⟨d, rfl, q⟩⟩
theorem r_v12 {o0 o1 o2 o3 o4 o5 o6 o7 o8 o9 o10 o11 : Option D} {d : D} {r : DEnv} {μ : Store} {Q : D → Prop} : dVar 12 (o0 :: o1 :: o2 :: o3 :: o4 :: o5 :: o6 :: o7 :: o8 :: o9 :: o10 :: o11 :: some d :: r) μ Q ↔ Q d := ⟨fun ⟨_, e, q⟩ => by cases e; exact q, fun q => ⟨d, rfl, q⟩⟩
theorem r_g12 {o0 o1 o2 o3 o4 o5 o6 o7 o8 o9 o10 o11 o12 : Option D} {d : D} {r : DEnv} {Q : DEnv → Prop} : gNm 12 d (o0 :: o1 :: o2 :: o3 :: o4 :: o5 :: o6 :: o7 :: o8 :: o9 :: o10 :: o11 :: o12 :: r) Q = Q (o0 :: o1 :: o2 :: o3 :: o4 :: o5 :: o6 :: o7 :: o8 :: o9 :: o10 :: o11 :: some d :: r) := rfl
theorem r_a12 {o0 o1 o2 o3 o4 o5 o6 o7 o8 o9 o10 o11 : Option D} {d : D} {r : DEnv} {μ : Store} {p : DP} {A : Store → D → D → (D → Prop) → Prop} {nx bk ct : DEnv → Store → Prop} {xc : XD → DEnv → Store → Prop} {rt : D → Store → Prop} : sAug 12 p A (o0 :: o1 :: o2 :: o3 :: o4 :: o5 :: o6 :: o7 :: o8 :: o9 :: o10 :: o11 :: some d :: r) μ ⟨nx, rt, bk, ct, xc⟩ ↔ p (o0 :: o1 :: o2 :: o3 :: o4 :: o5 :: o6 :: o7 :: o8 :: o9 :: o10 :: o11 :: some d :: r) μ fun e => A μ d e fun z => nx (o0 :: o1 :: o2 :: o3 :: o4 :: o5 :: o6 :: o7 :: o8 :: o9 :: o10 :: o11 :: some z :: r) μ := ⟨fun ⟨_, e, q⟩ => by cases e; exact q, fun q => ⟨d, rfl, q⟩⟩
theorem r_v13 {o0 o1 o2 o3 o4 o5 o6 o7 o8 o9 o10 o11 o12 : Option D} {d : D} {r : DEnv} {μ : Store} {Q : D → Prop} : dVar 13 (o0 :: o1 :: o2 :: o3 :: o4 :: o5 :: o6 :: o7 :: o8 :: o9 :: o10 :: o11 :: o12 :: some d :: r) μ Q ↔ Q d := ⟨fun ⟨_, e, q⟩ => by cases e; exact q, fun q => ⟨d, rfl, q⟩⟩
theorem r_g13 {o0 o1 o2 o3 o4 o5 o6 o7 o8 o9 o10 o11 o12 o13 : Option D} {d : D} {r : DEnv} {Q : DEnv → Prop} : gNm 13 d (o0 :: o1 :: o2 :: o3 :: o4 :: o5 :: o6 :: o7 :: o8 :: o9 :: o10 :: o11 :: o12 :: o13 :: r) Q = Q (o0 :: o1 :: o2 :: o3 :: o4 :: o5 :: o6 :: o7 :: o8 :: o9 :: o10 :: o11 :: o12 :: some d :: r) := rfl
theorem r_a13 {o0 o1 o2 o3 o4 o5 o6 o7 o8 o9 o10 o11 o12 : Option D} {d : D} {r : DEnv} {μ : Store} {p : DP} {A : Store → D → D → (D → Prop) → Prop} {nx bk ct : DEnv → Store → Prop} {xc : XD → DEnv → Store → Prop} {rt : D → Store → Prop} : sAug 13 p A (o0 :: o1 :: o2 :: o3 :: o4 :: o5 :: o6 :: o7 :: o8 :: o9 :: o10 :: o11 :: o12 :: some d :: r) μ ⟨nx, rt, bk, ct, xc⟩ ↔ p (o0 :: o1 :: o2 :: o3 :: o4 :: o5 :: o6 :: o7 :: o8 :: o9 :: o10 :: o11 :: o12 :: some d :: r) μ fun e => A μ d e fun z => nx (o0 :: o1 :: o2 :: o3 :: o4 :: o5 :: o6 :: o7 :: o8 :: o9 :: o10 :: o11 :: o12 :: some z :: r) μ := ⟨fun ⟨_, e, q⟩ => by cases e; exact q, fun q => ⟨d, rfl, q⟩⟩
theorem r_v14 {o0 o1 o2 o3 o4 o5 o6 o7 o8 o9 o10 o11 o12 o13 : Option D} {d : D} {r : DEnv} {μ : Store} {Q : D → Prop} : dVar 14 (o0 :: o1 :: o2 :: o3 :: o4 :: o5 :: o6 :: o7 :: o8 :: o9 :: o10 :: o11 :: o12 :: o13 :: some d :: r) μ Q ↔ Q d := ⟨fun ⟨_, e, q⟩ => by cases e; exact q, fun q => ⟨d, rfl, q⟩⟩
theorem r_g14 {o0 o1 o2 o3 o4 o5 o6 o7 o8 o9 o10 o11 o12 o13 o14 : Option D} {d : D} {r : DEnv} {Q : DEnv → Prop} : gNm 14 d (o0 :: o1 :: o2 :: o3 :: o4 :: o5 :: o6 :: o7 :: o8 :: o9 :: o10 :: o11 :: o12 :: o13 :: o14 :: r) Q = Q (o0 :: o1 :: o2 :: o3 :: o4 :: o5 :: o6 :: o7 :: o8 :: o9 :: o10 :: o11 :: o12 :: o13 :: some d :: r) := rfl
theorem r_a14 {o0 o1 o2 o3 o4 o5 o6 o7 o8 o9 o10 o11 o12 o13 : Option D} {d : D} {r : DEnv} {μ : Store} {p : DP} {A : Store → D → D → (D → Prop) → Prop} {nx bk ct : DEnv → Store → Prop} {xc : XD → DEnv → Store → Prop} {rt : D → Store → Prop} : sAug 14 p A (o0 :: o1 :: o2 :: o3 :: o4 :: o5 :: o6 :: o7 :: o8 :: o9 :: o10 :: o11 :: o12 :: o13 :: some d :: r) μ ⟨nx, rt, bk, ct, xc⟩ ↔ p (o0 :: o1 :: o2 :: o3 :: o4 :: o5 :: o6 :: o7 :: o8 :: o9 :: o10 :: o11 :: o12 :: o13 :: some d :: r) μ fun e => A μ d e fun z => nx (o0 :: o1 :: o2 :: o3 :: o4 :: o5 :: o6 :: o7 :: o8 :: o9 :: o10 :: o11 :: o12 :: o13 :: some z :: r) μ := ⟨fun ⟨_, e, q⟩ => by cases e; exact q, fun q => ⟨d, rfl, q⟩⟩
theorem r_v15 {o0 o1 o2 o3 o4 o5 o6 o7 o8 o9 o10 o11 o12 o13 o14 : Option D} {d : D} {r : DEnv} {μ : Store} {Q : D → Prop} : dVar 15 (o0 :: o1 :: o2 :: o3 :: o4 :: o5 :: o6 :: o7 :: o8 :: o9 :: o10 :: o11 :: o12 :: o13 :: o14 :: some d :: r) μ Q ↔ Q d := ⟨fun ⟨_, e, q⟩ => by cases e; exact q, fun q => ⟨d, rfl, q⟩⟩
theorem r_g15 {o0 o1 o2 o3 o4 o5 o6 o7 o8 o9 o10 o11 o12 o13 o14 o15 : Option D} {d : D} {r : DEnv} {Q : DEnv → Prop} : gNm 15 d (o0 :: o1 :: o2 :: o3 :: o4 :: o5 :: o6 :: o7 :: o8 :: o9 :: o10 :: o11 :: o12 :: o13 :: o14 :: o15 :: r) Q = Q (o0 :: o1 :: o2 :: o3 :: o4 :: o5 :: o6 :: o7 :: o8 :: o9 :: o10 :: o11 :: o12 :: o13 :: o14 :: some d :: r) := rfl
theorem r_a15 {o0 o1 o2 o3 o4 o5 o6 o7 o8 o9 o10 o11 o12 o13 o14 : Option D} {d : D} {r : DEnv} {μ : Store} {p : DP} {A : Store → D → D → (D → Prop) → Prop} {nx bk ct : DEnv → Store → Prop} {xc : XD → DEnv → Store → Prop} {rt : D → Store → Prop} : sAug 15 p A (o0 :: o1 :: o2 :: o3 :: o4 :: o5 :: o6 :: o7 :: o8 :: o9 :: o10 :: o11 :: o12 :: o13 :: o14 :: some d :: r) μ ⟨nx, rt, bk, ct, xc⟩ ↔ p (o0 :: o1 :: o2 :: o3 :: o4 :: o5 :: o6 :: o7 :: o8 :: o9 :: o10 :: o11 :: o12 :: o13 :: o14 :: some d :: r) μ fun e => A μ d e fun z => nx (o0 :: o1 :: o2 :: o3 :: o4 :: o5 :: o6 :: o7 :: o8 :: o9 :: o10 :: o11 :: o12 :: o13 :: o14 :: some z :: r) μ := ⟨fun ⟨_, e, q⟩ => by cases e; exact q, fun q => ⟨d, rfl, q⟩⟩
theorem r_v16 {o0 o1 o2 o3 o4 o5 o6 o7 o8 o9 o10 o11 o12 o13 o14 o15 : Option D} {d : D} {r : DEnv} {μ : Store} {Q : D → Prop} : dVar 16 (o0 :: o1 :: o2 :: o3 :: o4 :: o5 :: o6 :: o7 :: o8 :: o9 :: o10 :: o11 :: o12 :: o13 :: o14 :: o15 :: some d :: r) μ Q ↔ Q d := ⟨fun ⟨_, e, q⟩ => by cases e; exact q, fun q => ⟨d, rfl, q⟩⟩
theorem r_g16 {o0 o1 o2 o3 o4 o5 o6 o7 o8 o9 o10 o11 o12 o13 o14 o15 o16 : Option D} {d : D} {r : DEnv} {Q : DEnv → Prop} : gNm 16 d (o0 :: o1 :: o2 :: o3 :: o4 :: o5 :: o6 :: o7 :: o8 :: o9 :: o10 :: o11 :: o12 :: o13 :: o14 :: o15 :: o16 :: r) Q = Q (o0 :: o1 :: o2 :: o3 :: o4 :: o5 :: o6 :: o7 :: o8 :: o9 :: o10 :: o11 :: o12 :: o13 :: o14 :: o15 :: some d :: r) := rfl
theorem r_a16 {o0 o1 o2 o3 o4 o5 o6 o7 o8 o9 o10 o11 o12 o13 o14 o15 : Option D} {d : D} {r : DEnv} {μ : Store} {p : DP} {A : Store → D → D → (D → Prop) → Prop} {nx bk ct : DEnv → Store → Prop} {xc : XD → DEnv → Store → Prop} {rt : D → Store → Prop} : sAug 16 p A (o0 :: o1 :: o2 :: o3 :: o4 :: o5 :: o6 :: o7 :: o8 :: o9 :: o10 :: o11 :: o12 :: o13 :: o14 :: o15 :: some d :: r) μ ⟨nx, rt, bk, ct, xc⟩ ↔ p (o0 :: o1 :: o2 :: o3 :: o4 :: o5 :: o6 :: o7 :: o8 :: o9 :: o10 :: o11 :: o12 :: o13 :: o14 :: o15 :: some d :: r) μ fun e => A μ d e fun z => nx (o0 :: o1 :: o2 :: o3 :: o4 :: o5 :: o6 :: o7 :: o8 :: o9 :: o10 :: o11 :: o12 :: o13 :: o14 :: o15 :: some z :: r) μ := ⟨fun ⟨_, e, q⟩ => by cases e; exact q, fun q => ⟨d, rfl, q⟩⟩
theorem r_v17 {o0 o1 o2 o3 o4 o5 o6 o7 o8 o9 o10 o11 o12 o13 o14 o15 o16 : Option D} {d : D} {r : DEnv} {μ : Store} {Q : D → Prop} : dVar 17 (o0 :: o1 :: o2 :: o3 :: o4 :: o5 :: o6 :: o7 :: o8 :: o9 :: o10 :: o11 :: o12 :: o13 :: o14 :: o15 :: o16 :: some d :: r) μ Q ↔ Q d := ⟨fun ⟨_, e, q⟩ => by cases e; exact q, fun q => ⟨d, rfl, q⟩⟩
theorem r_g17 {o0 o1 o2 o3 o4 o5 o6 o7 o8 o9 o10 o11 o12 o13 o14 o15 o16 o17 : Option D} {d : D} {r : DEnv} {Q : DEnv → Prop} : gNm 17 d (o0 :: o1 :: o2 :: o3 :: o4 :: o5 :: o6 :: o7 :: o8 :: o9 :: o10 :: o11 :: o12 :: o13 :: o14 :: o15 :: o16 :: o17 :: r) Q = Q (o0 :: o1 :: o2 :: o3 :: o4 :: o5 :: o6 :: o7 :: o8 :: o9 :: o10 :: o11 :: o12 :: o13 :: o14 :: o15 :: o16 :: some d :: r) := rfl
theorem r_a17 {o0 o1 o2 o3 o4 o5 o6 o7 o8 o9 o10 o11 o12 o13 o14 o15 o16 : Option D} {d : D} {r : DEnv} {μ : Store} {p : DP} {A : Store → D → D → (D → Prop) → Prop} {nx bk ct : DEnv → Store → Prop} {xc : XD → DEnv → Store → Prop} {rt : D → Store → Prop} : sAug 17 p A (o0 :: o1 :: o2 :: o3 :: o4 :: o5 :: o6 :: o7 :: o8 :: o9 :: o10 :: o11 :: o12 :: o13 :: o14 :: o15 :: o16 :: some d :: r) μ ⟨nx, rt, bk, ct, xc⟩ ↔ p (o0 :: o1 :: o2 :: o3 :: o4 :: o5 :: o6 :: o7 :: o8 :: o9 :: o10 :: o11 :: o12 :: o13 :: o14 :: o15 :: o16 :: some d :: r) μ fun e => A μ d e fun z => nx (o0 :: o1 :: o2 :: o3 :: o4 :: o5 :: o6 :: o7 :: o8 :: o9 :: o10 :: o11 :: o12 :: o13 :: o14 :: o15 :: o16 :: some z :: r) μ := ⟨fun ⟨_, e, q⟩ => by cases e; exact q, fun q => ⟨d, rfl, q⟩⟩
theorem r_v18 {o0 o1 o2 o3 o4 o5 o6 o7 o8 o9 o10 o11 o12 o13 o14 o15 o16 o17 : Option D} {d : D} {r : DEnv} {μ : Store} {Q : D → Prop} : dVar 18 (o0 :: o1 :: o2 :: o3 :: o4 :: o5 :: o6 :: o7 :: o8 :: o9 :: o10 :: o11 :: o12 :: o13 :: o14 :: o15 :: o16 :: o17 :: some d :: r) μ Q ↔ Q d := ⟨fun ⟨_, e, q⟩ => by cases e; exact q, fun q => ⟨d, rfl, q⟩⟩
theorem r_g18 {o0 o1 o2 o3 o4 o5 o6 o7 o8 o9 o10 o11 o12 o13 o14 o15 o16 o17 o18 : Option D} {d : D} {r : DEnv} {Q : DEnv → Prop} : gNm 18 d (o0 :: o1 :: o2 :: o3 :: o4 :: o5 :: o6 :: o7 :: o8 :: o9 :: o10 :: o11 :: o12 :: o13 :: o14 :: o15 :: o16 :: o17 :: o18 :: r) Q = Q (o0 :: o1 :: o2 :: o3 :: o4 :: o5 :: o6 :: o7 :: o8 :: o9 :: o10 :: o11 :: o12 :: o13 :: o14 :: o15 :: o16 :: o17 :: some d :: r) := rfl
theorem r_a18 {o0 o1 o2 o3 o4 o5 o6 o7 o8 o9 o10 o11 o12 o13 o14 o15 o16 o17 : Option D} {d : D} {r : DEnv} {μ : Store} {p : DP} {A : Store → D → D → (D → Prop) → Prop} {nx bk ct : DEnv → Store → Prop} {xc : XD → DEnv → Store → Prop} {rt : D → Store → Prop} : sAug 18 p A (o0 :: o1 :: o2 :: o3 :: o4 :: o5 :: o6 :: o7 :: o8 :: o9 :: o10 :: o11 :: o12 :: o13 :: o14 :: o15 :: o16 :: o17 :: some d :: r) μ ⟨nx, rt, bk, ct, xc⟩ ↔ p (o0 :: o1 :: o2 :: o3 :: o4 :: o5 :: o6 :: o7 :: o8 :: o9 :: o10 :: o11 :: o12 :: o13 :: o14 :: o15 :: o16 :: o17 :: some d :: r) μ fun e => A μ d e fun z => nx (o0 :: o1 :: o2 :: o3 :: o4 :: o5 :: o6 :: o7 :: o8 :: o9 :: o10 :: o11 :: o12 :: o13 :: o14 :: o15 :: o16 :: o17 :: some z :: r) μ := ⟨fun ⟨_, e, q⟩ => by cases e; exact q, fun q => ⟨d, rfl, q⟩⟩
theorem r_v19 {o0 o1 o2 o3 o4 o5 o6 o7 o8 o9 o10 o11 o12 o13 o14 o15 o16 o17 o18 : Option D} {d : D} {r : DEnv} {μ : Store} {Q : D → Prop} : dVar 19 (o0 :: o1 :: o2 :: o3 :: o4 :: o5 :: o6 :: o7 :: o8 :: o9 :: o10 :: o11 :: o12 :: o13 :: o14 :: o15 :: o16 :: o17 :: o18 :: some d :: r) μ Q ↔ Q d := ⟨fun ⟨_, e, q⟩ => by cases e; exact q, fun q => ⟨d, rfl, q⟩⟩
theorem r_g19 {o0 o1 o2 o3 o4 o5 o6 o7 o8 o9 o10 o11 o12 o13 o14 o15 o16 o17 o18 o19 : Option D} {d : D} {r : DEnv} {Q : DEnv → Prop} : gNm 19 d (o0 :: o1 :: o2 :: o3 :: o4 :: o5 :: o6 :: o7 :: o8 :: o9 :: o10 :: o11 :: o12 :: o13 :: o14 :: o15 :: o16 :: o17 :: o18 :: o19 :: r) Q = Q (o0 :: o1 :: o2 :: o3 :: o4 :: o5 :: o6 :: o7 :: o8 :: o9 :: o10 :: o11 :: o12 :: o13 :: o14 :: o15 :: o16 :: o17 :: o18 :: some d :: r) := rfl
theorem r_a19 {o0 o1 o2 o3 o4 o5 o6 o7 o8 o9 o10 o11 o12 o13 o14 o15 o16 o17 o18 : Option D} {d : D} {r : DEnv} {μ : Store} {p : DP} {A : Store → D → D → (D → Prop) → Prop} {nx bk ct : DEnv → Store → Prop} {xc : XD → DEnv → Store → Prop} {rt : D → Store → Prop} : sAug 19 p A (o0 :: o1 :: o2 :: o3 :: o4 :: o5 :: o6 :: o7 :: o8 :: o9 :: o10 :: o11 :: o12 :: o13 :: o14 :: o15 :: o16 :: o17 :: o18 :: some d :: r) μ ⟨nx, rt, bk, ct, xc⟩ ↔ p (o0 :: o1 :: o2 :: o3 :: o4 :: o5 :: o6 :: o7 :: o8 :: o9 :: o10 :: o11 :: o12 :: o13 :: o14 :: o15 :: o16 :: o17 :: o18 :: some d :: r) μ fun e => A μ d e fun z => nx (o0 :: o1 :: o2 :: o3 :: o4 :: o5 :: o6 :: o7 :: o8 :: o9 :: o10 :: o11 :: o12 :: o13 :: o14 :: o15 :: o16 :: o17 :: o18 :: some z :: r) μ := ⟨fun ⟨_, e, q⟩ => by cases e; exact q, fun q => ⟨d, rfl, q⟩⟩
theorem r_IAdd {μ : Store} {i j : Int} {Q : D → Prop} : wIAdd μ (.t (.int i)) (.t (.int j)) Q = Q (.t (.int (i + j))) := rfl
theorem r_ISub {μ : Store} {i j : Int} {Q : D → Prop} : wISub μ (.t (.int i)) (.t (.int j)) Q = Q (.t (.int (i - j))) := rfl
theorem r_vwt {μ : Store} {x : T} {Q : T → Prop} : vw μ (.t x) Q = Q x := rfl
theorem r_srcLl {μ : Store} {xs : List T} {Q : List T → (Store → Prop) → Prop} : srcL μ (.t (.lst xs)) Q = Q xs fun _ => True := rfl
theorem r_srcLr {μ : Store} {xs : List T} {Q : List T → (Store → Prop) → Prop} : srcL μ (.t (.ro xs)) Q = Q xs fun _ => True := rfl
theorem r_srcAl {μ : Store} {xs : List T} {Q : List T → (Store → Prop) → Prop} : srcA μ (.t (.lst xs)) Q = Q xs fun _ => True := rfl
theorem r_srcAr {μ : Store} {xs : List T} {Q : List T → (Store → Prop) → Prop} : srcA μ (.t (.ro xs)) Q = Q xs fun _ => True := rfl
theorem r_srcAt {μ : Store} {xs : List T} {Q : List T → (Store → Prop) → Prop} : srcA μ (.t (.tup xs)) Q = Q xs fun _ => True := rfl
theorem r_srcDl {μ : Store} {xs : List T} {Q : List D → (Store → Prop) → Prop} : srcD μ (.t (.lst xs)) Q = Q (xs.map D.t) fun _ => True := rfl
theorem r_srcDr {μ : Store} {xs : List T} {Q : List D → (Store → Prop) → Prop} : srcD μ (.t (.ro xs)) Q = Q (xs.map D.t) fun _ => True := rfl
theorem r_srcDt {μ : Store} {xs : List T} {Q : List D → (Store → Prop) → Prop} : srcD μ (.t (.tup xs)) Q = Q (xs.map D.t) fun _ => True := rfl
def xMk (d : D) (a : DAX) (A : Nat → MO → List D → (D → MO → Prop) → Prop) (env : DEnv) (μ : Store) (Q : D → Store → Prop) : Prop := match d with | .loc n => (∃ ds, μ[n]? = some (.lst ds)) ∧ a env μ fun xs m1 => ∃ m, m1[n]? = some m ∧ A n m xs fun y m2 => Q y (m1.set n m2) | _ => False
def apK (k : Nat) (μ : Store) (xs : List D) (A : Nat → MO → List D → (D → MO → Prop) → Prop) (Q : D → Store → Prop) : Prop := ∃ m, μ[k]? = some m ∧ A k m xs fun y m2 => Q y (μ.set k m2)
theorem r_xM {env : DEnv} {μ : Store} {Q : D → Store → Prop} {o : DP} {a : DAX} {A : Nat → MO → List D → (D → MO → Prop) → Prop} : xM o a A env μ Q ↔ o env μ fun d => xMk d a A env μ Q := Iff.of_eq (congrArg (o env μ) (funext fun d => by unfold xMk; cases d <;> rfl))
theorem r_append {k : Nat} {ds : List D} {x : D} {Q : D → MO → Prop} : wAppend k (.lst ds) [x] Q = (ds.length < sizeLine ∧ Q (.t .non) (.lst (ds ++ [x]))) := rfl
theorem r_reverse {k : Nat} {ds : List D} {Q : D → MO → Prop} : wReverse k (.lst ds) [] Q = Q (.t .non) (.lst ds.reverse) := rfl
theorem r_clear {k : Nat} {ds : List D} {Q : D → MO → Prop} : wClear k (.lst ds) [] Q = Q (.t .non) (.lst []) := rfl
theorem r_push0 {m : MO} {Q : D → Store → Prop} : pushK [] m Q = Q (.loc 0) [m] := rfl
theorem r_vw0 {xs : List T} {r : Store} {Q : T → Prop} : vw (.lst (xs.map D.t) :: r) (.loc 0) Q ↔ Q (.lst xs) := ⟨fun ⟨_, e, q⟩ => by rw [dt_inj.mp (MO.lst.inj (Option.some.inj e))]; exact q, fun q => ⟨xs, rfl, q⟩⟩
theorem r_srcL0 {xs : List T} {r : Store} {Q : List T → (Store → Prop) → Prop} : srcL (.lst (xs.map D.t) :: r) (.loc 0) Q ↔ Q xs fun μ => μ[0]? = some (.lst (xs.map D.t)) := ⟨fun ⟨ys, e, q⟩ => by have e2 : xs = ys := dt_inj.mp (MO.lst.inj (Option.some.inj e)); subst e2; exact q, fun q => ⟨xs, rfl, q⟩⟩
theorem r_srcA0 {xs : List T} {r : Store} {Q : List T → (Store → Prop) → Prop} : srcA (.lst (xs.map D.t) :: r) (.loc 0) Q ↔ Q xs fun μ => μ[0]? = some (.lst (xs.map D.t)) := ⟨fun ⟨ys, e, q⟩ => by have e2 : xs = ys := dt_inj.mp (MO.lst.inj (Option.some.inj e)); subst e2; exact q, fun q => ⟨xs, rfl, q⟩⟩
theorem r_vwn0 {r : Store} {Q : T → Prop} : vw (.lst [] :: r) (.loc 0) Q ↔ Q (.lst []) := r_vw0 (xs := [])
theorem r_srcLn0 {r : Store} {Q : List T → (Store → Prop) → Prop} : srcL (.lst [] :: r) (.loc 0) Q ↔ Q [] fun μ => μ[0]? = some (.lst []) := r_srcL0 (xs := [])
theorem r_srcD0 {ds : List D} {r : Store} {Q : List D → (Store → Prop) → Prop} : srcD (.lst ds :: r) (.loc 0) Q ↔ Q ds fun μ => μ[0]? = some (.lst ds) := ⟨fun ⟨ys, e, q⟩ => by cases e; exact q, fun q => ⟨ds, rfl, q⟩⟩
theorem r_ixM0 {ds : List D} {r : Store} {i : Int} {Q : D → Prop} : ixW (.lst ds :: r) (.loc 0) (.t (.int i)) Q ↔ atD ds i Q := ⟨fun h => h.elim (fun ⟨_, _, y, e, e2, h, q⟩ => by cases e; cases e2; exact ⟨y, h, q⟩) (fun h => h.elim (fun ⟨_, _, _, e, _⟩ => by cases e) (fun ⟨_, _, _, _, e, _⟩ => by cases e)), fun ⟨y, h, q⟩ => .inl ⟨_, _, y, rfl, rfl, h, q⟩⟩
theorem r_xMk0 {ds : List D} {r : Store} {a : DAX} {A : Nat → MO → List D → (D → MO → Prop) → Prop} {env : DEnv} {Q : D → Store → Prop} : xMk (.loc 0) a A env (.lst ds :: r) Q ↔ a env (.lst ds :: r) fun xs m => apK 0 m xs A Q := ⟨fun h => h.2, fun h => ⟨⟨ds, rfl⟩, h⟩⟩
theorem r_apK0 {m : MO} {r : Store} {xs : List D} {A : Nat → MO → List D → (D → MO → Prop) → Prop} {Q : D → Store → Prop} : apK 0 (m :: r) xs A Q ↔ A 0 m xs fun y mz => Q y (mz :: r) := ⟨fun ⟨_, e, q⟩ => by cases e; exact q, fun q => ⟨m, rfl, q⟩⟩
theorem r_push1 {m0 : MO} {m : MO} {Q : D → Store → Prop} : pushK [m0] m Q = Q (.loc 1) [m0, m] := rfl
theorem r_vw1 {m0 : MO} {xs : List T} {r : Store} {Q : T → Prop} : vw (m0 :: .lst (xs.map D.t) :: r) (.loc 1) Q ↔ Q (.lst xs) := ⟨fun ⟨_, e, q⟩ => by rw [dt_inj.mp (MO.lst.inj (Option.some.inj e))]; exact q, fun q => ⟨xs, rfl, q⟩⟩
theorem r_srcL1 {m0 : MO} {xs : List T} {r : Store} {Q : List T → (Store → Prop) → Prop} : srcL (m0 :: .lst (xs.map D.t) :: r) (.loc 1) Q ↔ Q xs fun μ => μ[1]? = some (.lst (xs.map D.t)) := ⟨fun ⟨ys, e, q⟩ => by have e2 : xs = ys := dt_inj.mp (MO.lst.inj (Option.some.inj e)); subst e2; exact q, fun q => ⟨xs, rfl, q⟩⟩
theorem r_srcA1 {m0 : MO} {xs : List T} {r : Store} {Q : List T → (Store → Prop) → Prop} : srcA (m0 :: .lst (xs.map D.t) :: r) (.loc 1) Q ↔ Q xs fun μ => μ[1]? = some (.lst (xs.map D.t)) := ⟨fun ⟨ys, e, q⟩ => by have e2 : xs = ys := dt_inj.mp (MO.lst.inj (Option.some.inj e)); subst e2; exact q, fun q => ⟨xs, rfl, q⟩⟩
theorem r_vwn1 {m0 : MO} {r : Store} {Q : T → Prop} : vw (m0 :: .lst [] :: r) (.loc 1) Q ↔ Q (.lst []) := r_vw1 (xs := [])
theorem r_srcLn1 {m0 : MO} {r : Store} {Q : List T → (Store → Prop) → Prop} : srcL (m0 :: .lst [] :: r) (.loc 1) Q ↔ Q [] fun μ => μ[1]? = some (.lst []) := r_srcL1 (xs := [])
theorem r_srcD1 {m0 : MO} {ds : List D} {r : Store} {Q : List D → (Store → Prop) → Prop} : srcD (m0 :: .lst ds :: r) (.loc 1) Q ↔ Q ds fun μ => μ[1]? = some (.lst ds) := ⟨fun ⟨ys, e, q⟩ => by cases e; exact q, fun q => ⟨ds, rfl, q⟩⟩
theorem r_ixM1 {m0 : MO} {ds : List D} {r : Store} {i : Int} {Q : D → Prop} : ixW (m0 :: .lst ds :: r) (.loc 1) (.t (.int i)) Q ↔ atD ds i Q := ⟨fun h => h.elim (fun ⟨_, _, y, e, e2, h, q⟩ => by cases e; cases e2; exact ⟨y, h, q⟩) (fun h => h.elim (fun ⟨_, _, _, e, _⟩ => by cases e) (fun ⟨_, _, _, _, e, _⟩ => by cases e)), fun ⟨y, h, q⟩ => .inl ⟨_, _, y, rfl, rfl, h, q⟩⟩
theorem r_xMk1 {m0 : MO} {ds : List D} {r : Store} {a : DAX} {A : Nat → MO → List D → (D → MO → Prop) → Prop} {env : DEnv} {Q : D → Store → Prop} : xMk (.loc 1) a A env (m0 :: .lst ds :: r) Q ↔ a env (m0 :: .lst ds :: r) fun xs m => apK 1 m xs A Q := ⟨fun h => h.2, fun h => ⟨⟨ds, rfl⟩, h⟩⟩
theorem r_apK1 {m0 : MO} {m : MO} {r : Store} {xs : List D} {A : Nat → MO → List D → (D → MO → Prop) → Prop} {Q : D → Store → Prop} : apK 1 (m0 :: m :: r) xs A Q ↔ A 1 m xs fun y mz => Q y (m0 :: mz :: r) := ⟨fun ⟨_, e, q⟩ => by cases e; exact q, fun q => ⟨m, rfl, q⟩⟩
theorem r_push2 {m0 m1 : MO} {m : MO} {Q : D → Store → Prop} : pushK [m0, m1] m Q = Q (.loc 2) [m0, m1, m] := rfl
theorem r_vw2 {m0 m1 : MO} {xs : List T} {r : Store} {Q : T → Prop} : vw (m0 :: m1 :: .lst (xs.map D.t) :: r) (.loc 2) Q ↔ Q (.lst xs) := ⟨fun ⟨_, e, q⟩ => by rw [dt_inj.mp (MO.lst.inj (Option.some.inj e))]; exact q, fun q => ⟨xs, rfl, q⟩⟩
theorem r_srcL2 {m0 m1 : MO} {xs : List T} {r : Store} {Q : List T → (Store → Prop) → Prop} : srcL (m0 :: m1 :: .lst (xs.map D.t) :: r) (.loc 2) Q ↔ Q xs fun μ => μ[2]? = some (.lst (xs.map D.t)) := ⟨fun ⟨ys, e, q⟩ => by have e2 : xs = ys := dt_inj.mp (MO.lst.inj (Option.some.inj e)); subst e2; exact q, fun q => ⟨xs, rfl, q⟩⟩
theorem r_srcA2 {m0 m1 : MO} {xs : List T} {r : Store} {Q : List T → (Store → Prop) → Prop} : srcA (m0 :: m1 :: .lst (xs.map D.t) :: r) (.loc 2) Q ↔ Q xs fun μ => μ[2]? = some (.lst (xs.map D.t)) := ⟨fun ⟨ys, e, q⟩ => by have e2 : xs = ys := dt_inj.mp (MO.lst.inj (Option.some.inj e)); subst e2; exact q, fun q => ⟨xs, rfl, q⟩⟩
theorem r_vwn2 {m0 m1 : MO} {r : Store} {Q : T → Prop} : vw (m0 :: m1 :: .lst [] :: r) (.loc 2) Q ↔ Q (.lst []) := r_vw2 (xs := [])
theorem r_srcLn2 {m0 m1 : MO} {r : Store} {Q : List T → (Store → Prop) → Prop} : srcL (m0 :: m1 :: .lst [] :: r) (.loc 2) Q ↔ Q [] fun μ => μ[2]? = some (.lst []) := r_srcL2 (xs := [])
theorem r_srcD2 {m0 m1 : MO} {ds : List D} {r : Store} {Q : List D → (Store → Prop) → Prop} : srcD (m0 :: m1 :: .lst ds :: r) (.loc 2) Q ↔ Q ds fun μ => μ[2]? = some (.lst ds) := ⟨fun ⟨ys, e, q⟩ => by cases e; exact q, fun q => ⟨ds, rfl, q⟩⟩
theorem r_ixM2 {m0 m1 : MO} {ds : List D} {r : Store} {i : Int} {Q : D → Prop} : ixW (m0 :: m1 :: .lst ds :: r) (.loc 2) (.t (.int i)) Q ↔ atD ds i Q := ⟨fun h => h.elim (fun ⟨_, _, y, e, e2, h, q⟩ => by cases e; cases e2; exact ⟨y, h, q⟩) (fun h => h.elim (fun ⟨_, _, _, e, _⟩ => by cases e) (fun ⟨_, _, _, _, e, _⟩ => by cases e)), fun ⟨y, h, q⟩ => .inl ⟨_, _, y, rfl, rfl, h, q⟩⟩
theorem r_xMk2 {m0 m1 : MO} {ds : List D} {r : Store} {a : DAX} {A : Nat → MO → List D → (D → MO → Prop) → Prop} {env : DEnv} {Q : D → Store → Prop} : xMk (.loc 2) a A env (m0 :: m1 :: .lst ds :: r) Q ↔ a env (m0 :: m1 :: .lst ds :: r) fun xs m => apK 2 m xs A Q := ⟨fun h => h.2, fun h => ⟨⟨ds, rfl⟩, h⟩⟩
theorem r_apK2 {m0 m1 : MO} {m : MO} {r : Store} {xs : List D} {A : Nat → MO → List D → (D → MO → Prop) → Prop} {Q : D → Store → Prop} : apK 2 (m0 :: m1 :: m :: r) xs A Q ↔ A 2 m xs fun y mz => Q y (m0 :: m1 :: mz :: r) := ⟨fun ⟨_, e, q⟩ => by cases e; exact q, fun q => ⟨m, rfl, q⟩⟩
theorem r_push3 {m0 m1 m2 : MO} {m : MO} {Q : D → Store → Prop} : pushK [m0, m1, m2] m Q = Q (.loc 3) [m0, m1, m2, m] := rfl
theorem r_vw3 {m0 m1 m2 : MO} {xs : List T} {r : Store} {Q : T → Prop} : vw (m0 :: m1 :: m2 :: .lst (xs.map D.t) :: r) (.loc 3) Q ↔ Q (.lst xs) := ⟨fun ⟨_, e, q⟩ => by rw [dt_inj.mp (MO.lst.inj (Option.some.inj e))]; exact q, fun q => ⟨xs, rfl, q⟩⟩
theorem r_srcL3 {m0 m1 m2 : MO} {xs : List T} {r : Store} {Q : List T → (Store → Prop) → Prop} : srcL (m0 :: m1 :: m2 :: .lst (xs.map D.t) :: r) (.loc 3) Q ↔ Q xs fun μ => μ[3]? = some (.lst (xs.map D.t)) := ⟨fun ⟨ys, e, q⟩ => by have e2 : xs = ys := dt_inj.mp (MO.lst.inj (Option.some.inj e)); subst e2; exact q, fun q => ⟨xs, rfl, q⟩⟩
theorem r_srcA3 {m0 m1 m2 : MO} {xs : List T} {r : Store} {Q : List T → (Store → Prop) → Prop} : srcA (m0 :: m1 :: m2 :: .lst (xs.map D.t) :: r) (.loc 3) Q ↔ Q xs fun μ => μ[3]? = some (.lst (xs.map D.t)) := ⟨fun ⟨ys, e, q⟩ => by have e2 : xs = ys := dt_inj.mp (MO.lst.inj (Option.some.inj e)); subst e2; exact q, fun q => ⟨xs, rfl, q⟩⟩
theorem r_vwn3 {m0 m1 m2 : MO} {r : Store} {Q : T → Prop} : vw (m0 :: m1 :: m2 :: .lst [] :: r) (.loc 3) Q ↔ Q (.lst []) := r_vw3 (xs := [])
theorem r_srcLn3 {m0 m1 m2 : MO} {r : Store} {Q : List T → (Store → Prop) → Prop} : srcL (m0 :: m1 :: m2 :: .lst [] :: r) (.loc 3) Q ↔ Q [] fun μ => μ[3]? = some (.lst []) := r_srcL3 (xs := [])
theorem r_srcD3 {m0 m1 m2 : MO} {ds : List D} {r : Store} {Q : List D → (Store → Prop) → Prop} : srcD (m0 :: m1 :: m2 :: .lst ds :: r) (.loc 3) Q ↔ Q ds fun μ => μ[3]? = some (.lst ds) := ⟨fun ⟨ys, e, q⟩ => by cases e; exact q, fun q => ⟨ds, rfl, q⟩⟩
theorem r_ixM3 {m0 m1 m2 : MO} {ds : List D} {r : Store} {i : Int} {Q : D → Prop} : ixW (m0 :: m1 :: m2 :: .lst ds :: r) (.loc 3) (.t (.int i)) Q ↔ atD ds i Q := ⟨fun h => h.elim (fun ⟨_, _, y, e, e2, h, q⟩ => by cases e; cases e2; exact ⟨y, h, q⟩) (fun h => h.elim (fun ⟨_, _, _, e, _⟩ => by cases e) (fun ⟨_, _, _, _, e, _⟩ => by cases e)), fun ⟨y, h, q⟩ => .inl ⟨_, _, y, rfl, rfl, h, q⟩⟩
theorem r_xMk3 {m0 m1 m2 : MO} {ds : List D} {r : Store} {a : DAX} {A : Nat → MO → List D → (D → MO → Prop) → Prop} {env : DEnv} {Q : D → Store → Prop} : xMk (.loc 3) a A env (m0 :: m1 :: m2 :: .lst ds :: r) Q ↔ a env (m0 :: m1 :: m2 :: .lst ds :: r) fun xs m => apK 3 m xs A Q := ⟨fun h => h.2, fun h => ⟨⟨ds, rfl⟩, h⟩⟩
theorem r_apK3 {m0 m1 m2 : MO} {m : MO} {r : Store} {xs : List D} {A : Nat → MO → List D → (D → MO → Prop) → Prop} {Q : D → Store → Prop} : apK 3 (m0 :: m1 :: m2 :: m :: r) xs A Q ↔ A 3 m xs fun y mz => Q y (m0 :: m1 :: m2 :: mz :: r) := ⟨fun ⟨_, e, q⟩ => by cases e; exact q, fun q => ⟨m, rfl, q⟩⟩
theorem r_push4 {m0 m1 m2 m3 : MO} {m : MO} {Q : D → Store → Prop} : pushK [m0, m1, m2, m3] m Q = Q (.loc 4) [m0, m1, m2, m3, m] := rfl
theorem r_vw4 {m0 m1 m2 m3 : MO} {xs : List T} {r : Store} {Q : T → Prop} : vw (m0 :: m1 :: m2 :: m3 :: .lst (xs.map D.t) :: r) (.loc 4) Q ↔ Q (.lst xs) := ⟨fun ⟨_, e, q⟩ => by rw [dt_inj.mp (MO.lst.inj (Option.some.inj e))]; exact q, fun q => ⟨xs, rfl, q⟩⟩
theorem r_srcL4 {m0 m1 m2 m3 : MO} {xs : List T} {r : Store} {Q : List T → (Store → Prop) → Prop} : srcL (m0 :: m1 :: m2 :: m3 :: .lst (xs.map D.t) :: r) (.loc 4) Q ↔ Q xs fun μ => μ[4]? = some (.lst (xs.map D.t)) := ⟨fun ⟨ys, e, q⟩ => by have e2 : xs = ys := dt_inj.mp (MO.lst.inj (Option.some.inj e)); subst e2; exact q, fun q => ⟨xs, rfl, q⟩⟩
theorem r_srcA4 {m0 m1 m2 m3 : MO} {xs : List T} {r : Store} {Q : List T → (Store → Prop) → Prop} : srcA (m0 :: m1 :: m2 :: m3 :: .lst (xs.map D.t) :: r) (.loc 4) Q ↔ Q xs fun μ => μ[4]? = some (.lst (xs.map D.t)) := ⟨fun ⟨ys, e, q⟩ => by have e2 : xs = ys := dt_inj.mp (MO.lst.inj (Option.some.inj e)); subst e2; exact q, fun q => ⟨xs, rfl, q⟩⟩
theorem r_vwn4 {m0 m1 m2 m3 : MO} {r : Store} {Q : T → Prop} : vw (m0 :: m1 :: m2 :: m3 :: .lst [] :: r) (.loc 4) Q ↔ Q (.lst []) := r_vw4 (xs := [])
theorem r_srcLn4 {m0 m1 m2 m3 : MO} {r : Store} {Q : List T → (Store → Prop) → Prop} : srcL (m0 :: m1 :: m2 :: m3 :: .lst [] :: r) (.loc 4) Q ↔ Q [] fun μ => μ[4]? = some (.lst []) := r_srcL4 (xs := [])
theorem r_srcD4 {m0 m1 m2 m3 : MO} {ds : List D} {r : Store} {Q : List D → (Store → Prop) → Prop} : srcD (m0 :: m1 :: m2 :: m3 :: .lst ds :: r) (.loc 4) Q ↔ Q ds fun μ => μ[4]? = some (.lst ds) := ⟨fun ⟨ys, e, q⟩ => by cases e; exact q, fun q => ⟨ds, rfl, q⟩⟩
theorem r_ixM4 {m0 m1 m2 m3 : MO} {ds : List D} {r : Store} {i : Int} {Q : D → Prop} : ixW (m0 :: m1 :: m2 :: m3 :: .lst ds :: r) (.loc 4) (.t (.int i)) Q ↔ atD ds i Q := ⟨fun h => h.elim (fun ⟨_, _, y, e, e2, h, q⟩ => by cases e; cases e2; exact ⟨y, h, q⟩) (fun h => h.elim (fun ⟨_, _, _, e, _⟩ => by cases e) (fun ⟨_, _, _, _, e, _⟩ => by cases e)), fun ⟨y, h, q⟩ => .inl ⟨_, _, y, rfl, rfl, h, q⟩⟩
theorem r_xMk4 {m0 m1 m2 m3 : MO} {ds : List D} {r : Store} {a : DAX} {A : Nat → MO → List D → (D → MO → Prop) → Prop} {env : DEnv} {Q : D → Store → Prop} : xMk (.loc 4) a A env (m0 :: m1 :: m2 :: m3 :: .lst ds :: r) Q ↔ a env (m0 :: m1 :: m2 :: m3 :: .lst ds :: r) fun xs m => apK 4 m xs A Q := ⟨fun h => h.2, fun h => ⟨⟨ds, rfl⟩, h⟩⟩
theorem r_apK4 {m0 m1 m2 m3 : MO} {m : MO} {r : Store} {xs : List D} {A : Nat → MO → List D → (D → MO → Prop) → Prop} {Q : D → Store → Prop} : apK 4 (m0 :: m1 :: m2 :: m3 :: m :: r) xs A Q ↔ A 4 m xs fun y mz => Q y (m0 :: m1 :: m2 :: m3 :: mz :: r) := ⟨fun ⟨_, e, q⟩ => by cases e; exact q, fun q => ⟨m, rfl, q⟩⟩
theorem r_push5 {m0 m1 m2 m3 m4 : MO} {m : MO} {Q : D → Store → Prop} : pushK [m0, m1, m2, m3, m4] m Q = Q (.loc 5) [m0, m1, m2, m3, m4, m] := rfl
theorem r_vw5 {m0 m1 m2 m3 m4 : MO} {xs : List T} {r : Store} {Q : T → Prop} : vw (m0 :: m1 :: m2 :: m3 :: m4 :: .lst (xs.map D.t) :: r) (.loc 5) Q ↔ Q (.lst xs) := ⟨fun ⟨_, e, q⟩ => by rw [dt_inj.mp (MO.lst.inj (Option.some.inj e))]; exact q, fun q => ⟨xs, rfl, q⟩⟩
theorem r_srcL5 {m0 m1 m2 m3 m4 : MO} {xs : List T} {r : Store} {Q : List T → (Store → Prop) → Prop} : srcL (m0 :: m1 :: m2 :: m3 :: m4 :: .lst (xs.map D.t) :: r) (.loc 5) Q ↔ Q xs fun μ => μ[5]? = some (.lst (xs.map D.t)) := ⟨fun ⟨ys, e, q⟩ => by have e2 : xs = ys := dt_inj.mp (MO.lst.inj (Option.some.inj e)); subst e2; exact q, fun q => ⟨xs, rfl, q⟩⟩
theorem r_srcA5 {m0 m1 m2 m3 m4 : MO} {xs : List T} {r : Store} {Q : List T → (Store → Prop) → Prop} : srcA (m0 :: m1 :: m2 :: m3 :: m4 :: .lst (xs.map D.t) :: r) (.loc 5) Q ↔ Q xs fun μ => μ[5]? = some (.lst (xs.map D.t)) := ⟨fun ⟨ys, e, q⟩ => by have e2 : xs = ys := dt_inj.mp (MO.lst.inj (Option.some.inj e)); subst e2; exact q, fun q => ⟨xs, rfl, q⟩⟩
theorem r_vwn5 {m0 m1 m2 m3 m4 : MO} {r : Store} {Q : T → Prop} : vw (m0 :: m1 :: m2 :: m3 :: m4 :: .lst [] :: r) (.loc 5) Q ↔ Q (.lst []) := r_vw5 (xs := [])
theorem r_srcLn5 {m0 m1 m2 m3 m4 : MO} {r : Store} {Q : List T → (Store → Prop) → Prop} : srcL (m0 :: m1 :: m2 :: m3 :: m4 :: .lst [] :: r) (.loc 5) Q ↔ Q [] fun μ => μ[5]? = some (.lst []) := r_srcL5 (xs := [])
theorem r_srcD5 {m0 m1 m2 m3 m4 : MO} {ds : List D} {r : Store} {Q : List D → (Store → Prop) → Prop} : srcD (m0 :: m1 :: m2 :: m3 :: m4 :: .lst ds :: r) (.loc 5) Q ↔ Q ds fun μ => μ[5]? = some (.lst ds) := ⟨fun ⟨ys, e, q⟩ => by cases e; exact q, fun q => ⟨ds, rfl, q⟩⟩
theorem r_ixM5 {m0 m1 m2 m3 m4 : MO} {ds : List D} {r : Store} {i : Int} {Q : D → Prop} : ixW (m0 :: m1 :: m2 :: m3 :: m4 :: .lst ds :: r) (.loc 5) (.t (.int i)) Q ↔ atD ds i Q := ⟨fun h => h.elim (fun ⟨_, _, y, e, e2, h, q⟩ => by cases e; cases e2; exact ⟨y, h, q⟩) (fun h => h.elim (fun ⟨_, _, _, e, _⟩ => by cases e) (fun ⟨_, _, _, _, e, _⟩ => by cases e)), fun ⟨y, h, q⟩ => .inl ⟨_, _, y, rfl, rfl, h, q⟩⟩
theorem r_xMk5 {m0 m1 m2 m3 m4 : MO} {ds : List D} {r : Store} {a : DAX} {A : Nat → MO → List D → (D → MO → Prop) → Prop} {env : DEnv} {Q : D → Store → Prop} : xMk (.loc 5) a A env (m0 :: m1 :: m2 :: m3 :: m4 :: .lst ds :: r) Q ↔ a env (m0 :: m1 :: m2 :: m3 :: m4 :: .lst ds :: r) fun xs m => apK 5 m xs A Q := ⟨fun h => h.2, fun h => ⟨⟨ds, rfl⟩, h⟩⟩
theorem r_apK5 {m0 m1 m2 m3 m4 : MO} {m : MO} {r : Store} {xs : List D} {A : Nat → MO → List D → (D → MO → Prop) → Prop} {Q : D → Store → Prop} : apK 5 (m0 :: m1 :: m2 :: m3 :: m4 :: m :: r) xs A Q ↔ A 5 m xs fun y mz => Q y (m0 :: m1 :: m2 :: m3 :: m4 :: mz :: r) := ⟨fun ⟨_, e, q⟩ => by cases e; exact q, fun q => ⟨m, rfl, q⟩⟩
theorem r_extend {k : Nat} {ds : List D} {ys : List T} {Q : D → MO → Prop} : wExtend k (.lst ds) [.t (.lst ys)] Q = (ds.length + ys.length ≤ sizeLine ∧ Q (.t .non) (.lst (ds ++ ys.map D.t))) := rfl
def isiK (T' : String) (μ : Store) (d : D) (Q : D → Prop) : Prop := ∃ n b, tyD μ d = some n ∧ kitB n T' = some b ∧ Q (.t (.bl b))
theorem r_dIsi {env : DEnv} {μ : Store} {Q : D → Prop} {T' : String} {p : DP} : dIsi T' p env μ Q = p env μ fun d => isiK T' μ d Q := rfl
theorem r_isi_int_int {x : Int} {μ : Store} {Q : D → Prop} : isiK "int" μ (.t (.int x)) Q ↔ Q (.t (.bl true)) := ⟨fun ⟨n, b, e, k, q⟩ => by cases e; have k : kitB "int" "int" = some b := k; rw [show kitB "int" "int" = some true by decide +kernel] at k; cases k; exact q, fun q => ⟨"int", true, rfl, show kitB "int" "int" = some true by decide +kernel, q⟩⟩
theorem r_isi_int_bool {x : Int} {μ : Store} {Q : D → Prop} : isiK "bool" μ (.t (.int x)) Q ↔ Q (.t (.bl false)) := ⟨fun ⟨n, b, e, k, q⟩ => by cases e; have k : kitB "int" "bool" = some b := k; rw [show kitB "int" "bool" = some false by decide +kernel] at k; cases k; exact q, fun q => ⟨"int", false, rfl, show kitB "int" "bool" = some false by decide +kernel, q⟩⟩
theorem r_isi_int_str {x : Int} {μ : Store} {Q : D → Prop} : isiK "str" μ (.t (.int x)) Q ↔ Q (.t (.bl false)) := ⟨fun ⟨n, b, e, k, q⟩ => by cases e; have k : kitB "int" "str" = some b := k; rw [show kitB "int" "str" = some false by decide +kernel] at k; cases k; exact q, fun q => ⟨"int", false, rfl, show kitB "int" "str" = some false by decide +kernel, q⟩⟩
theorem r_isi_int_list {x : Int} {μ : Store} {Q : D → Prop} : isiK "list" μ (.t (.int x)) Q ↔ Q (.t (.bl false)) := ⟨fun ⟨n, b, e, k, q⟩ => by cases e; have k : kitB "int" "list" = some b := k; rw [show kitB "int" "list" = some false by decide +kernel] at k; cases k; exact q, fun q => ⟨"int", false, rfl, show kitB "int" "list" = some false by decide +kernel, q⟩⟩
theorem r_isi_int_tuple {x : Int} {μ : Store} {Q : D → Prop} : isiK "tuple" μ (.t (.int x)) Q ↔ Q (.t (.bl false)) := ⟨fun ⟨n, b, e, k, q⟩ => by cases e; have k : kitB "int" "tuple" = some b := k; rw [show kitB "int" "tuple" = some false by decide +kernel] at k; cases k; exact q, fun q => ⟨"int", false, rfl, show kitB "int" "tuple" = some false by decide +kernel, q⟩⟩
theorem r_isi_int_dict {x : Int} {μ : Store} {Q : D → Prop} : isiK "dict" μ (.t (.int x)) Q ↔ Q (.t (.bl false)) := ⟨fun ⟨n, b, e, k, q⟩ => by cases e; have k : kitB "int" "dict" = some b := k; rw [show kitB "int" "dict" = some false by decide +kernel] at k; cases k; exact q, fun q => ⟨"int", false, rfl, show kitB "int" "dict" = some false by decide +kernel, q⟩⟩
theorem r_isi_bl_int {x : Bool} {μ : Store} {Q : D → Prop} : isiK "int" μ (.t (.bl x)) Q ↔ Q (.t (.bl true)) := ⟨fun ⟨n, b, e, k, q⟩ => by cases e; have k : kitB "bool" "int" = some b := k; rw [show kitB "bool" "int" = some true by decide +kernel] at k; cases k; exact q, fun q => ⟨"bool", true, rfl, show kitB "bool" "int" = some true by decide +kernel, q⟩⟩
theorem r_isi_bl_bool {x : Bool} {μ : Store} {Q : D → Prop} : isiK "bool" μ (.t (.bl x)) Q ↔ Q (.t (.bl true)) := ⟨fun ⟨n, b, e, k, q⟩ => by cases e; have k : kitB "bool" "bool" = some b := k; rw [show kitB "bool" "bool" = some true by decide +kernel] at k; cases k; exact q, fun q => ⟨"bool", true, rfl, show kitB "bool" "bool" = some true by decide +kernel, q⟩⟩
theorem r_isi_bl_str {x : Bool} {μ : Store} {Q : D → Prop} : isiK "str" μ (.t (.bl x)) Q ↔ Q (.t (.bl false)) := ⟨fun ⟨n, b, e, k, q⟩ => by cases e; have k : kitB "bool" "str" = some b := k; rw [show kitB "bool" "str" = some false by decide +kernel] at k; cases k; exact q, fun q => ⟨"bool", false, rfl, show kitB "bool" "str" = some false by decide +kernel, q⟩⟩
theorem r_isi_bl_list {x : Bool} {μ : Store} {Q : D → Prop} : isiK "list" μ (.t (.bl x)) Q ↔ Q (.t (.bl false)) := ⟨fun ⟨n, b, e, k, q⟩ => by cases e; have k : kitB "bool" "list" = some b := k; rw [show kitB "bool" "list" = some false by decide +kernel] at k; cases k; exact q, fun q => ⟨"bool", false, rfl, show kitB "bool" "list" = some false by decide +kernel, q⟩⟩
theorem r_isi_bl_tuple {x : Bool} {μ : Store} {Q : D → Prop} : isiK "tuple" μ (.t (.bl x)) Q ↔ Q (.t (.bl false)) := ⟨fun ⟨n, b, e, k, q⟩ => by cases e; have k : kitB "bool" "tuple" = some b := k; rw [show kitB "bool" "tuple" = some false by decide +kernel] at k; cases k; exact q, fun q => ⟨"bool", false, rfl, show kitB "bool" "tuple" = some false by decide +kernel, q⟩⟩
theorem r_isi_bl_dict {x : Bool} {μ : Store} {Q : D → Prop} : isiK "dict" μ (.t (.bl x)) Q ↔ Q (.t (.bl false)) := ⟨fun ⟨n, b, e, k, q⟩ => by cases e; have k : kitB "bool" "dict" = some b := k; rw [show kitB "bool" "dict" = some false by decide +kernel] at k; cases k; exact q, fun q => ⟨"bool", false, rfl, show kitB "bool" "dict" = some false by decide +kernel, q⟩⟩
theorem r_isi_str_int {x : Str} {μ : Store} {Q : D → Prop} : isiK "int" μ (.t (.str x)) Q ↔ Q (.t (.bl false)) := ⟨fun ⟨n, b, e, k, q⟩ => by cases e; have k : kitB "str" "int" = some b := k; rw [show kitB "str" "int" = some false by decide +kernel] at k; cases k; exact q, fun q => ⟨"str", false, rfl, show kitB "str" "int" = some false by decide +kernel, q⟩⟩
theorem r_isi_str_bool {x : Str} {μ : Store} {Q : D → Prop} : isiK "bool" μ (.t (.str x)) Q ↔ Q (.t (.bl false)) := ⟨fun ⟨n, b, e, k, q⟩ => by cases e; have k : kitB "str" "bool" = some b := k; rw [show kitB "str" "bool" = some false by decide +kernel] at k; cases k; exact q, fun q => ⟨"str", false, rfl, show kitB "str" "bool" = some false by decide +kernel, q⟩⟩
theorem r_isi_str_str {x : Str} {μ : Store} {Q : D → Prop} : isiK "str" μ (.t (.str x)) Q ↔ Q (.t (.bl true)) := ⟨fun ⟨n, b, e, k, q⟩ => by cases e; have k : kitB "str" "str" = some b := k; rw [show kitB "str" "str" = some true by decide +kernel] at k; cases k; exact q, fun q => ⟨"str", true, rfl, show kitB "str" "str" = some true by decide +kernel, q⟩⟩
theorem r_isi_str_list {x : Str} {μ : Store} {Q : D → Prop} : isiK "list" μ (.t (.str x)) Q ↔ Q (.t (.bl false)) := ⟨fun ⟨n, b, e, k, q⟩ => by cases e; have k : kitB "str" "list" = some b := k; rw [show kitB "str" "list" = some false by decide +kernel] at k; cases k; exact q, fun q => ⟨"str", false, rfl, show kitB "str" "list" = some false by decide +kernel, q⟩⟩
theorem r_isi_str_tuple {x : Str} {μ : Store} {Q : D → Prop} : isiK "tuple" μ (.t (.str x)) Q ↔ Q (.t (.bl false)) := ⟨fun ⟨n, b, e, k, q⟩ => by cases e; have k : kitB "str" "tuple" = some b := k; rw [show kitB "str" "tuple" = some false by decide +kernel] at k; cases k; exact q, fun q => ⟨"str", false, rfl, show kitB "str" "tuple" = some false by decide +kernel, q⟩⟩
theorem r_isi_str_dict {x : Str} {μ : Store} {Q : D → Prop} : isiK "dict" μ (.t (.str x)) Q ↔ Q (.t (.bl false)) := ⟨fun ⟨n, b, e, k, q⟩ => by cases e; have k : kitB "str" "dict" = some b := k; rw [show kitB "str" "dict" = some false by decide +kernel] at k; cases k; exact q, fun q => ⟨"str", false, rfl, show kitB "str" "dict" = some false by decide +kernel, q⟩⟩
theorem r_isi_tup_int {x : List T} {μ : Store} {Q : D → Prop} : isiK "int" μ (.t (.tup x)) Q ↔ Q (.t (.bl false)) := ⟨fun ⟨n, b, e, k, q⟩ => by cases e; have k : kitB "tuple" "int" = some b := k; rw [show kitB "tuple" "int" = some false by decide +kernel] at k; cases k; exact q, fun q => ⟨"tuple", false, rfl, show kitB "tuple" "int" = some false by decide +kernel, q⟩⟩
theorem r_isi_tup_bool {x : List T} {μ : Store} {Q : D → Prop} : isiK "bool" μ (.t (.tup x)) Q ↔ Q (.t (.bl false)) := ⟨fun ⟨n, b, e, k, q⟩ => by cases e; have k : kitB "tuple" "bool" = some b := k; rw [show kitB "tuple" "bool" = some false by decide +kernel] at k; cases k; exact q, fun q => ⟨"tuple", false, rfl, show kitB "tuple" "bool" = some false by decide +kernel, q⟩⟩
theorem r_isi_tup_str {x : List T} {μ : Store} {Q : D → Prop} : isiK "str" μ (.t (.tup x)) Q ↔ Q (.t (.bl false)) := ⟨fun ⟨n, b, e, k, q⟩ => by cases e; have k : kitB "tuple" "str" = some b := k; rw [show kitB "tuple" "str" = some false by decide +kernel] at k; cases k; exact q, fun q => ⟨"tuple", false, rfl, show kitB "tuple" "str" = some false by decide +kernel, q⟩⟩
theorem r_isi_tup_list {x : List T} {μ : Store} {Q : D → Prop} : isiK "list" μ (.t (.tup x)) Q ↔ Q (.t (.bl false)) := ⟨fun ⟨n, b, e, k, q⟩ => by cases e; have k : kitB "tuple" "list" = some b := k; rw [show kitB "tuple" "list" = some false by decide +kernel] at k; cases k; exact q, fun q => ⟨"tuple", false, rfl, show kitB "tuple" "list" = some false by decide +kernel, q⟩⟩
theorem r_isi_tup_tuple {x : List T} {μ : Store} {Q : D → Prop} : isiK "tuple" μ (.t (.tup x)) Q ↔ Q (.t (.bl true)) := ⟨fun ⟨n, b, e, k, q⟩ => by cases e; have k : kitB "tuple" "tuple" = some b := k; rw [show kitB "tuple" "tuple" = some true by decide +kernel] at k; cases k; exact q, fun q => ⟨"tuple", true, rfl, show kitB "tuple" "tuple" = some true by decide +kernel, q⟩⟩
theorem r_isi_tup_dict {x : List T} {μ : Store} {Q : D → Prop} : isiK "dict" μ (.t (.tup x)) Q ↔ Q (.t (.bl false)) := ⟨fun ⟨n, b, e, k, q⟩ => by cases e; have k : kitB "tuple" "dict" = some b := k; rw [show kitB "tuple" "dict" = some false by decide +kernel] at k; cases k; exact q, fun q => ⟨"tuple", false, rfl, show kitB "tuple" "dict" = some false by decide +kernel, q⟩⟩
theorem r_isi_lst_int {x : List T} {μ : Store} {Q : D → Prop} : isiK "int" μ (.t (.lst x)) Q ↔ Q (.t (.bl false)) := ⟨fun ⟨n, b, e, k, q⟩ => by cases e; have k : kitB "list" "int" = some b := k; rw [show kitB "list" "int" = some false by decide +kernel] at k; cases k; exact q, fun q => ⟨"list", false, rfl, show kitB "list" "int" = some false by decide +kernel, q⟩⟩
theorem r_isi_lst_bool {x : List T} {μ : Store} {Q : D → Prop} : isiK "bool" μ (.t (.lst x)) Q ↔ Q (.t (.bl false)) := ⟨fun ⟨n, b, e, k, q⟩ => by cases e; have k : kitB "list" "bool" = some b := k; rw [show kitB "list" "bool" = some false by decide +kernel] at k; cases k; exact q, fun q => ⟨"list", false, rfl, show kitB "list" "bool" = some false by decide +kernel, q⟩⟩
theorem r_isi_lst_str {x : List T} {μ : Store} {Q : D → Prop} : isiK "str" μ (.t (.lst x)) Q ↔ Q (.t (.bl false)) := ⟨fun ⟨n, b, e, k, q⟩ => by cases e; have k : kitB "list" "str" = some b := k; rw [show kitB "list" "str" = some false by decide +kernel] at k; cases k; exact q, fun q => ⟨"list", false, rfl, show kitB "list" "str" = some false by decide +kernel, q⟩⟩
theorem r_isi_lst_list {x : List T} {μ : Store} {Q : D → Prop} : isiK "list" μ (.t (.lst x)) Q ↔ Q (.t (.bl true)) := ⟨fun ⟨n, b, e, k, q⟩ => by cases e; have k : kitB "list" "list" = some b := k; rw [show kitB "list" "list" = some true by decide +kernel] at k; cases k; exact q, fun q => ⟨"list", true, rfl, show kitB "list" "list" = some true by decide +kernel, q⟩⟩
theorem r_isi_lst_tuple {x : List T} {μ : Store} {Q : D → Prop} : isiK "tuple" μ (.t (.lst x)) Q ↔ Q (.t (.bl false)) := ⟨fun ⟨n, b, e, k, q⟩ => by cases e; have k : kitB "list" "tuple" = some b := k; rw [show kitB "list" "tuple" = some false by decide +kernel] at k; cases k; exact q, fun q => ⟨"list", false, rfl, show kitB "list" "tuple" = some false by decide +kernel, q⟩⟩
theorem r_isi_lst_dict {x : List T} {μ : Store} {Q : D → Prop} : isiK "dict" μ (.t (.lst x)) Q ↔ Q (.t (.bl false)) := ⟨fun ⟨n, b, e, k, q⟩ => by cases e; have k : kitB "list" "dict" = some b := k; rw [show kitB "list" "dict" = some false by decide +kernel] at k; cases k; exact q, fun q => ⟨"list", false, rfl, show kitB "list" "dict" = some false by decide +kernel, q⟩⟩
theorem r_isi_ro_int {x : List T} {μ : Store} {Q : D → Prop} : isiK "int" μ (.t (.ro x)) Q ↔ Q (.t (.bl false)) := ⟨fun ⟨n, b, e, k, q⟩ => by cases e; have k : kitB "list" "int" = some b := k; rw [show kitB "list" "int" = some false by decide +kernel] at k; cases k; exact q, fun q => ⟨"list", false, rfl, show kitB "list" "int" = some false by decide +kernel, q⟩⟩
theorem r_isi_ro_bool {x : List T} {μ : Store} {Q : D → Prop} : isiK "bool" μ (.t (.ro x)) Q ↔ Q (.t (.bl false)) := ⟨fun ⟨n, b, e, k, q⟩ => by cases e; have k : kitB "list" "bool" = some b := k; rw [show kitB "list" "bool" = some false by decide +kernel] at k; cases k; exact q, fun q => ⟨"list", false, rfl, show kitB "list" "bool" = some false by decide +kernel, q⟩⟩
theorem r_isi_ro_str {x : List T} {μ : Store} {Q : D → Prop} : isiK "str" μ (.t (.ro x)) Q ↔ Q (.t (.bl false)) := ⟨fun ⟨n, b, e, k, q⟩ => by cases e; have k : kitB "list" "str" = some b := k; rw [show kitB "list" "str" = some false by decide +kernel] at k; cases k; exact q, fun q => ⟨"list", false, rfl, show kitB "list" "str" = some false by decide +kernel, q⟩⟩
theorem r_isi_ro_list {x : List T} {μ : Store} {Q : D → Prop} : isiK "list" μ (.t (.ro x)) Q ↔ Q (.t (.bl true)) := ⟨fun ⟨n, b, e, k, q⟩ => by cases e; have k : kitB "list" "list" = some b := k; rw [show kitB "list" "list" = some true by decide +kernel] at k; cases k; exact q, fun q => ⟨"list", true, rfl, show kitB "list" "list" = some true by decide +kernel, q⟩⟩
theorem r_isi_ro_tuple {x : List T} {μ : Store} {Q : D → Prop} : isiK "tuple" μ (.t (.ro x)) Q ↔ Q (.t (.bl false)) := ⟨fun ⟨n, b, e, k, q⟩ => by cases e; have k : kitB "list" "tuple" = some b := k; rw [show kitB "list" "tuple" = some false by decide +kernel] at k; cases k; exact q, fun q => ⟨"list", false, rfl, show kitB "list" "tuple" = some false by decide +kernel, q⟩⟩
theorem r_isi_ro_dict {x : List T} {μ : Store} {Q : D → Prop} : isiK "dict" μ (.t (.ro x)) Q ↔ Q (.t (.bl false)) := ⟨fun ⟨n, b, e, k, q⟩ => by cases e; have k : kitB "list" "dict" = some b := k; rw [show kitB "list" "dict" = some false by decide +kernel] at k; cases k; exact q, fun q => ⟨"list", false, rfl, show kitB "list" "dict" = some false by decide +kernel, q⟩⟩
theorem r_isi_non_int  {μ : Store} {Q : D → Prop} : isiK "int" μ (.t (.non)) Q ↔ Q (.t (.bl false)) := ⟨fun ⟨n, b, e, k, q⟩ => by cases e; have k : kitB "NoneType" "int" = some b := k; rw [show kitB "NoneType" "int" = some false by decide +kernel] at k; cases k; exact q, fun q => ⟨"NoneType", false, rfl, show kitB "NoneType" "int" = some false by decide +kernel, q⟩⟩
theorem r_isi_non_bool  {μ : Store} {Q : D → Prop} : isiK "bool" μ (.t (.non)) Q ↔ Q (.t (.bl false)) := ⟨fun ⟨n, b, e, k, q⟩ => by cases e; have k : kitB "NoneType" "bool" = some b := k; rw [show kitB "NoneType" "bool" = some false by decide +kernel] at k; cases k; exact q, fun q => ⟨"NoneType", false, rfl, show kitB "NoneType" "bool" = some false by decide +kernel, q⟩⟩
theorem r_isi_non_str  {μ : Store} {Q : D → Prop} : isiK "str" μ (.t (.non)) Q ↔ Q (.t (.bl false)) := ⟨fun ⟨n, b, e, k, q⟩ => by cases e; have k : kitB "NoneType" "str" = some b := k; rw [show kitB "NoneType" "str" = some false by decide +kernel] at k; cases k; exact q, fun q => ⟨"NoneType", false, rfl, show kitB "NoneType" "str" = some false by decide +kernel, q⟩⟩
theorem r_isi_non_list  {μ : Store} {Q : D → Prop} : isiK "list" μ (.t (.non)) Q ↔ Q (.t (.bl false)) := ⟨fun ⟨n, b, e, k, q⟩ => by cases e; have k : kitB "NoneType" "list" = some b := k; rw [show kitB "NoneType" "list" = some false by decide +kernel] at k; cases k; exact q, fun q => ⟨"NoneType", false, rfl, show kitB "NoneType" "list" = some false by decide +kernel, q⟩⟩
theorem r_isi_non_tuple  {μ : Store} {Q : D → Prop} : isiK "tuple" μ (.t (.non)) Q ↔ Q (.t (.bl false)) := ⟨fun ⟨n, b, e, k, q⟩ => by cases e; have k : kitB "NoneType" "tuple" = some b := k; rw [show kitB "NoneType" "tuple" = some false by decide +kernel] at k; cases k; exact q, fun q => ⟨"NoneType", false, rfl, show kitB "NoneType" "tuple" = some false by decide +kernel, q⟩⟩
theorem r_isi_non_dict  {μ : Store} {Q : D → Prop} : isiK "dict" μ (.t (.non)) Q ↔ Q (.t (.bl false)) := ⟨fun ⟨n, b, e, k, q⟩ => by cases e; have k : kitB "NoneType" "dict" = some b := k; rw [show kitB "NoneType" "dict" = some false by decide +kernel] at k; cases k; exact q, fun q => ⟨"NoneType", false, rfl, show kitB "NoneType" "dict" = some false by decide +kernel, q⟩⟩
theorem r_dBi {env : DEnv} {μ : Store} {Q : D → Prop} {a : DA} {A : Store → List D → (D → Prop) → Prop} : dBi a A env μ Q = a env μ fun ds => A μ ds Q := rfl
theorem r_fBi {env : DEnv} {μ : Store} {Q : List T → Prop} {a : DA} {A : Store → List D → (List T → Prop) → Prop} : fBi a A env μ Q = a env μ fun ds => A μ ds Q := rfl
theorem r_wMM {f : Int → Int → Int} {μ : Store} {i j : Int} {Q : D → Prop} : wMM f μ [.t (.int i), .t (.int j)] Q = Q (.t (.int (f i j))) := rfl
theorem r_wTt {μ : Store} {xs : List T} {Q : D → Prop} : wTuple μ [.t (.tup xs)] Q = Q (.t (.tup xs)) := rfl
theorem r_wTl {μ : Store} {n : Nat} {Q : D → Prop} : wTuple μ [.loc n] Q = srcL μ (.loc n) fun xs _ => Q (.t (.tup xs)) := rfl
theorem r_wTs {μ : Store} {xs : List T} {Q : D → Prop} : wTuple μ [.t (.lst xs)] Q = Q (.t (.tup xs)) := rfl
theorem r_wTr {μ : Store} {xs : List T} {Q : D → Prop} : wTuple μ [.t (.ro xs)] Q = Q (.t (.tup xs)) := rfl
theorem r_wLt {μ : Store} {xs : List T} {Q : D → Prop} : wLen μ [.t (.tup xs)] Q = Q (.t (.int xs.length)) := rfl
theorem r_wLl {μ : Store} {xs : List T} {Q : D → Prop} : wLen μ [.t (.lst xs)] Q = Q (.t (.int xs.length)) := rfl
theorem r_wLr {μ : Store} {xs : List T} {Q : D → Prop} : wLen μ [.t (.ro xs)] Q = Q (.t (.int xs.length)) := rfl
theorem r_wL0 {ds : List D} {r : Store} {Q : D → Prop} : wLen (.lst ds :: r) [.loc 0] Q ↔ Q (.t (.int ds.length)) := ⟨fun h => h.elim (fun ⟨_, e, q⟩ => by cases e; exact q) (fun ⟨_, e, _⟩ => by cases e), fun q => .inl ⟨ds, rfl, q⟩⟩
theorem r_wL1 {m0 : MO} {ds : List D} {r : Store} {Q : D → Prop} : wLen (m0 :: .lst ds :: r) [.loc 1] Q ↔ Q (.t (.int ds.length)) := ⟨fun h => h.elim (fun ⟨_, e, q⟩ => by cases e; exact q) (fun ⟨_, e, _⟩ => by cases e), fun q => .inl ⟨ds, rfl, q⟩⟩
theorem r_wL2 {m0 m1 : MO} {ds : List D} {r : Store} {Q : D → Prop} : wLen (m0 :: m1 :: .lst ds :: r) [.loc 2] Q ↔ Q (.t (.int ds.length)) := ⟨fun h => h.elim (fun ⟨_, e, q⟩ => by cases e; exact q) (fun ⟨_, e, _⟩ => by cases e), fun q => .inl ⟨ds, rfl, q⟩⟩
theorem r_wL3 {m0 m1 m2 : MO} {ds : List D} {r : Store} {Q : D → Prop} : wLen (m0 :: m1 :: m2 :: .lst ds :: r) [.loc 3] Q ↔ Q (.t (.int ds.length)) := ⟨fun h => h.elim (fun ⟨_, e, q⟩ => by cases e; exact q) (fun ⟨_, e, _⟩ => by cases e), fun q => .inl ⟨ds, rfl, q⟩⟩
theorem r_wL4 {m0 m1 m2 m3 : MO} {ds : List D} {r : Store} {Q : D → Prop} : wLen (m0 :: m1 :: m2 :: m3 :: .lst ds :: r) [.loc 4] Q ↔ Q (.t (.int ds.length)) := ⟨fun h => h.elim (fun ⟨_, e, q⟩ => by cases e; exact q) (fun ⟨_, e, _⟩ => by cases e), fun q => .inl ⟨ds, rfl, q⟩⟩
theorem r_wL5 {m0 m1 m2 m3 m4 : MO} {ds : List D} {r : Store} {Q : D → Prop} : wLen (m0 :: m1 :: m2 :: m3 :: m4 :: .lst ds :: r) [.loc 5] Q ↔ Q (.t (.int ds.length)) := ⟨fun h => h.elim (fun ⟨_, e, q⟩ => by cases e; exact q) (fun ⟨_, e, _⟩ => by cases e), fun q => .inl ⟨ds, rfl, q⟩⟩
def bsK (xs : List T) (f : List Bool → Bool) (Q : D → Prop) : Prop := ∃ bs : List Bool, xs = bs.map T.bl ∧ Q (.t (.bl (f bs)))
def sumK (xs : List T) (Q : D → Prop) : Prop := ∃ ns : List Int, xs = ns.map T.int ∧ Q (.t (.int ns.sum))
theorem r_bsK {bs : List Bool} {f : List Bool → Bool} {Q : D → Prop} : bsK (bs.map T.bl) f Q ↔ Q (.t (.bl (f bs))) := ⟨fun ⟨_, e, q⟩ => by rw [bl_inj.mp e]; exact q, fun q => ⟨bs, rfl, q⟩⟩
theorem r_sumK {ns : List Int} {Q : D → Prop} : sumK (ns.map T.int) Q ↔ Q (.t (.int ns.sum)) := ⟨fun ⟨_, e, q⟩ => by rw [int_inj.mp e]; exact q, fun q => ⟨ns, rfl, q⟩⟩
theorem r_wAny {μ : Store} {d : D} {Q : D → Prop} : wAny μ [d] Q = srcL μ d fun xs _ => bsK xs (fun bs => bs.any id) Q := rfl
theorem r_wAll {μ : Store} {d : D} {Q : D → Prop} : wAll μ [d] Q = srcL μ d fun xs _ => bsK xs (fun bs => bs.all id) Q := rfl
theorem r_wSum {μ : Store} {d : D} {Q : D → Prop} : wSum μ [d] Q = srcL μ d fun xs _ => sumK xs Q := rfl
theorem r_dSl {env : DEnv} {μ : Store} {Q : D → Prop} {p : DP} {l h : DO} : dSl p l h env μ Q = p env μ fun d => l env μ fun lo => h env μ fun hi => slW μ d lo hi Q := rfl
theorem r_oNo {env : DEnv} {μ : Store} {Q : Option Int → Prop} : oNo env μ Q = Q none := rfl
def oK (d : D) (Q : Option Int → Prop) : Prop := match d with | .t (.int i) => Q (some i) | _ => False
theorem r_oSo {env : DEnv} {μ : Store} {Q : Option Int → Prop} {p : DP} : oSo p env μ Q ↔ p env μ fun d => oK d Q := Iff.of_eq (congrArg (p env μ) (funext fun d => by unfold oK; cases d with | loc _ => rfl | tp _ => rfl | t x => cases x <;> rfl))
theorem r_oK {i : Int} {Q : Option Int → Prop} : oK (.t (.int i)) Q = Q (some i) := rfl
theorem r_slR {μ : Store} {xs : List T} {lo hi : Option Int} {Q : D → Prop} : slW μ (.t (.ro xs)) lo hi Q = Q (.t (.lst (cutT xs lo hi))) := rfl
theorem r_slL {μ : Store} {xs : List T} {lo hi : Option Int} {Q : D → Prop} : slW μ (.t (.lst xs)) lo hi Q = Q (.t (.lst (cutT xs lo hi))) := rfl
theorem r_fEv {env : DEnv} {μ : Store} {Q : List T → Prop} {p : DP} : fEv p env μ Q = p env μ fun d => srcL μ d fun xs _ => Q (evT xs) := rfl
theorem r_fOd {env : DEnv} {μ : Store} {Q : List T → Prop} {p : DP} : fOd p env μ Q = p env μ fun d => srcL μ d fun xs _ => Q (odT xs) := rfl
theorem r_fAdd {env : DEnv} {μ : Store} {Q : List T → Prop} {p q : DP} : fAdd p q env μ Q = p env μ fun d => q env μ fun e => srcL μ d fun xs _ => srcL μ e fun ys _ => xs.length + ys.length ≤ sizeLine ∧ Q (xs ++ ys) := rfl
theorem r_fLc {env : DEnv} {μ : Store} {Q : List T → Prop} {it : DI} {g : DG} {t : DT} {e : DP} {vs : List Nat} : fLc it g t e vs env μ Q = it env μ fun j => j.items.length ≤ sizeLine ∧ lcD g t e (wipeE env vs) μ j.items Q := rfl
theorem r_iSq {p : DP} {env : DEnv} {μ : Store} {Q : DIt → Prop} : iSq p env μ Q = p env μ fun d => srcD μ d fun ds kp => Q ⟨ds, kp⟩ := rfl
theorem r_iEn {p : DP} {env : DEnv} {μ : Store} {Q : DIt → Prop} : iEn p env μ Q = p env μ fun d => srcL μ d fun xs kp => Q ⟨enumD xs, kp⟩ := rfl
theorem r_iZp2 {p q : DP} {env : DEnv} {μ : Store} {Q : DIt → Prop} : iZp2 p q env μ Q = p env μ fun d => q env μ fun d2 => srcA μ d fun xs kp => srcA μ d2 fun ys kp2 => Q ⟨zipD xs ys, fun m => kp m ∧ kp2 m⟩ := rfl
theorem r_iZp3 {p q s : DP} {env : DEnv} {μ : Store} {Q : DIt → Prop} : iZp3 p q s env μ Q = p env μ fun d => q env μ fun d2 => s env μ fun d3 => srcA μ d fun xs kp => srcA μ d2 fun ys kp2 => srcA μ d3 fun zs kp3 => Q ⟨zip3D xs ys zs, fun m => kp m ∧ kp2 m ∧ kp3 m⟩ := rfl
def callK (Φ : List T → T → Prop) (xs : List T) (Q : D → Prop) : Prop := ∃ y, Φ (ros xs) y ∧ Q (.t y)
def callF (Φ : List T → List T → Prop) (xs : List T) (Q : List T → Prop) : Prop := ∃ y, Φ (ros xs) y ∧ Q y
theorem r_dCall {env : DEnv} {μ : Store} {Q : D → Prop} {Φ : List T → T → Prop} {a : DA} : dCall Φ a env μ Q = a env μ fun ds => vwAll μ ds fun xs => callK Φ xs Q := rfl
theorem r_fCall {env : DEnv} {μ : Store} {Q : List T → Prop} {Φ : List T → List T → Prop} {a : DA} : fCall Φ a env μ Q = a env μ fun ds => vwAll μ ds fun xs => callF Φ xs Q := rfl
theorem r_vwA0 {μ : Store} {Q : List T → Prop} : vwAll μ [] Q = Q [] := rfl
theorem r_vwA1 {μ : Store} {d : D} {ds : List D} {Q : List T → Prop} : vwAll μ (d :: ds) Q = vw μ d fun x => vwAll μ ds fun xs => Q (x :: xs) := rfl
theorem gTp_eP {n : Nat} {h : DGs} {p : Int × Int} {env : DEnv} {Q : DEnv → Prop} : gTp n h (.t (eP p)) env Q ↔ [T.int p.1, T.int p.2].length = n ∧ h [.int p.1, .int p.2] env Q := gTp_t
end Gw
/-! Gw, part L: defs that see and change the store: what they promise, their calls. -/
namespace Gw
open PySem PySem.Spec PyProof.Rows L2 RZ
/-! ### places below a number -/
mutual
def lt (k : Nat) : D → Prop
  | .t _ => True
  | .loc n => n < k
  | .tp ds => ltA k ds
def ltA (k : Nat) : List D → Prop
  | [] => True
  | d :: ds => lt k d ∧ ltA k ds
end
section
variable {K : PySem.W.Frag} {G F F' : Hp} {ρ ρ' : List Addr}
mutual
theorem rl_lt : ∀ {d : D} {v : V}, Rl K G F ρ d v → lt ρ.length d
  | .t x, v, h => trivial
  | .loc n, v, ⟨a, _, h⟩ => (List.getElem?_eq_some_iff.mp h).1
  | .tp ds, v, ⟨a, vs, _, _, r⟩ => rlA_lt r
theorem rlA_lt : ∀ {ds : List D} {vs : List V}, RlA K G F ρ ds vs → ltA ρ.length ds
  | [], _, _ => trivial
  | d :: ds, _, ⟨v, r, _, h1, h2⟩ => ⟨rl_lt h1, rlA_lt h2⟩
end
mutual
theorem rl_cut {k : Nat} (hk : ∀ n, n < k → ρ[n]? = ρ'[n]?) (e : Same F F') : ∀ {d : D} {v : V}, lt k d → Rl K G F ρ d v → Rl K G F' ρ' d v
  | .t x, v, _, h => Rp.mono e h
  | .loc n, v, l, ⟨a, hv, h⟩ => ⟨a, hv, by rw [← hk n l]; exact h⟩
  | .tp ds, v, l, ⟨a, vs, hv, h, r⟩ => ⟨a, vs, hv, e _ _ h, rlA_cut hk e l r⟩
theorem rlA_cut {k : Nat} (hk : ∀ n, n < k → ρ[n]? = ρ'[n]?) (e : Same F F') : ∀ {ds : List D} {vs : List V}, ltA k ds → RlA K G F ρ ds vs → RlA K G F' ρ' ds vs
  | [], _, _, h => h
  | d :: ds, _, l, ⟨v, r, hv, h1, h2⟩ => ⟨v, r, hv, rl_cut hk e l.1 h1, rlA_cut hk e l.2 h2⟩
end
end
def ltL (k : Nat) (ds : List D) : Prop := ∀ d ∈ ds, lt k d
def ltM (k : Nat) : MO → Prop
  | .exc _ => True
  | .lst ds => ltL k ds
  | .dic kvs => ltL k (kvs.map (·.2))
  | .lck _ kvs => ltL k (kvs.map (·.2))
  | .ins _ fs => ltL k (fs.map (·.2))
  | .tab _ _ => True
  | .gen ds _ => ltL k ds
  | .fn _ caps => ∀ ds, caps = some ds → ltL k ds
section
variable {K : PySem.W.Frag} {G F F' : Hp} {ρ ρ' : List Addr} {H H' : Hp} {a : Addr}
theorem pr_lt {α β : Type} {P : α → β → Prop} {f : α → D} (h : ∀ x y, P x y → lt ρ.length (f x)) : ∀ {l : List α} {m : List β}, Paired P l m → ltL ρ.length (l.map f)
  | _, _, .nil => fun _ z => nomatch z
  | _, _, .cons r t => fun d z => by
    rw [List.map_cons] at z
    rcases List.mem_cons.mp z with rfl | z
    · exact h _ _ r
    · exact pr_lt h t d z
theorem pr_cut {α β : Type} {P P' : α → β → Prop} {f : α → D} {k : Nat} (h : ∀ x y, lt k (f x) → P x y → P' x y) : ∀ {l : List α} {m : List β}, ltL k (l.map f) → Paired P l m → Paired P' l m
  | _, _, _, .nil => .nil
  | _, _, z, .cons r t => .cons (h _ _ (z _ (by rw [List.map_cons]; exact List.mem_cons_self)) r) (pr_cut h (fun d hd => z d (by rw [List.map_cons]; exact List.mem_cons_of_mem _ hd)) t)
theorem mok_lt : ∀ {o : MO}, MOk K G F ρ H a o → ltM ρ.length o
  | .exc _, _ => trivial
  | .lst ds, ⟨vs, _, r⟩ => by
    have := pr_lt (f := id) (fun x y h => rl_lt h) r
    rw [List.map_id] at this
    exact this
  | .dic kvs, ⟨vs, _, r⟩ => pr_lt (f := fun z : Key × D => z.2) (fun x y h => rl_lt h.2) r
  | .lck _ kvs, ⟨_, r⟩ => pr_lt (f := fun z : Key × D => z.2) (fun x y h => rl_lt h.2) r
  | .ins _ fs, ⟨_, _, _, _, _, r⟩ => pr_lt (f := fun z : Str × D => z.2) (fun x y h => rl_lt h.2) r
  | .tab _ _, _ => trivial
  | .gen ds _, ⟨vs, _, _, r⟩ => by
    have := pr_lt (f := id) (fun x y h => rl_lt h) r
    rw [List.map_id] at this
    exact this
  | .fn nf caps, ⟨_, _, _, q⟩ => fun ds hd => by
    obtain ⟨vs, r, _⟩ := q ds hd
    have := pr_lt (f := id) (fun x y h => rl_lt h) r
    rw [List.map_id] at this
    exact this
theorem mok_cut {k : Nat} (hk : ∀ n, n < k → ρ[n]? = ρ'[n]?) (e : Same F F') : ∀ {o : MO}, ltM k o → MOk K G F ρ H a o → MOk K G F' ρ' H a o
  | .exc x, _, ⟨cls, d, h1, h2⟩ => ⟨cls, d, h1.mono e, h2⟩
  | .lst ds, l, ⟨vs, h, r⟩ => ⟨vs, h, pr_cut (f := id) (k := k) (fun x y l h => rl_cut hk e l h) (by rw [List.map_id]; exact l) r⟩
  | .dic kvs, l, ⟨vs, h, r⟩ => ⟨vs, h, pr_cut (f := fun z : Key × D => z.2) (k := k) (fun x y l h => ⟨h.1, rl_cut hk e l h.2⟩) l r⟩
  | .lck z kvs, l, ⟨h, r⟩ => ⟨h, pr_cut (f := fun z : Key × D => z.2) (k := k) (fun x y l h => ⟨h.1, rl_cut hk e l h.2⟩) l r⟩
  | .ins c fs, l, ⟨C, dx, ws, h0, h, r⟩ => ⟨C, dx, ws, h0, h, pr_cut (f := fun z : Str × D => z.2) (k := k) (fun x y l h => ⟨h.1, rl_cut hk e l h.2⟩) l r⟩
  | .tab d q, _, ⟨h0, ps, h1, h2⟩ => ⟨h0, ps, h1, h2.mono e⟩
  | .gen ds o, l, ⟨vs, h, h0, r⟩ => ⟨vs, h, h0, pr_cut (f := id) (k := k) (fun x y l h => rl_cut hk e l h) (by rw [List.map_id]; exact l) r⟩
  | .fn nf caps, l, ⟨h, h0, h1, q⟩ => ⟨h, e _ _ h0, h1, fun ds hd => let ⟨vs, r, z⟩ := q ds hd
    ⟨vs, pr_cut (f := id) (k := k) (fun x y l h => rl_cut hk e l h) (by rw [List.map_id]; exact l ds hd) r, Paired.imp (fun _ _ ⟨o, y⟩ => ⟨o, e _ _ y⟩) z⟩⟩
end
theorem frz_sub {B H : Hp} {ρ ρ' : List Addr} (h : ∀ x ∈ ρ', x ∈ ρ) : Same (frz B H ρ) (frz B H ρ') := fun b o e => by
  unfold frz at e ⊢
  split at e
  · cases e
  · rename_i hm
    rw [if_neg (fun z => hm (h _ z))]
    exact e
/-! ### what a callee laid is forgotten -/
section
variable {K : PySem.W.Frag} {G B H H' : Hp} {ρ0 ρ δ : List Addr} {μ ex : Store}
/-- all that is new -/
theorem SH.drop (s : SH K G B ρ0 μ ρ H) (s' : SH K G B ρ0 (μ ++ ex) (ρ ++ δ) H') : SH K G B ρ0 μ ρ H' := by
  refine ⟨s'.same, s'.sameG, s.out, s.outG, s.nd, s.pre, s.len, fun n o a h1 h2 => ?_⟩
  have hn := (List.getElem?_eq_some_iff.mp h1).1
  have hn2 := (List.getElem?_eq_some_iff.mp h2).1
  have m := s'.sto n o a (by rw [List.getElem?_append_left hn]; exact h1) (by rw [List.getElem?_append_left hn2]; exact h2)
  exact mok_cut (fun i hi => List.getElem?_append_left hi) (frz_sub fun x hx => List.mem_append_left _ hx) (mok_lt (s.sto n o a h1 h2)) m
/-- all but one -/
theorem SH.keep1 (s : SH K G B ρ0 μ ρ H) (s' : SH K G B ρ0 (μ ++ ex) (ρ ++ δ) H') {a : Addr} {m : MO} (hd : a ∈ δ) (hm : MOk K G (frz B H' (ρ ++ [a])) (ρ ++ [a]) H' a m) : SH K G B ρ0 (μ ++ [m]) (ρ ++ [a]) H' := by
  have nd := List.nodup_append.mp s'.nd
  have ha : a ∉ ρ := fun z => nd.2.2 a z a hd rfl
  have hin : a ∈ ρ ++ δ := List.mem_append_right _ hd
  refine ⟨s'.same, s'.sameG, fun b hb => ?_, fun b hb => ?_, ?_, s.pre.trans (List.prefix_append _ _), by rw [List.length_append, List.length_append, s.len]; rfl, fun i o b h1 h2 => ?_⟩
  · rcases List.mem_append.mp hb with hb | hb
    · exact s.out b hb
    · rw [List.mem_singleton.mp hb]
      exact s'.out a hin
  · rcases List.mem_append.mp hb with hb | hb
    · exact s.outG b hb
    · rw [List.mem_singleton.mp hb]
      exact s'.outG a hin
  · rw [List.nodup_append]
    refine ⟨s.nd, by simp, fun x hx y hy hxy => ?_⟩
    rw [hxy, List.mem_singleton.mp hy] at hx
    exact ha hx
  · by_cases hi : i < μ.length
    · rw [List.getElem?_append_left hi] at h1
      have hi2 : i < ρ.length := by rw [← s.len]; exact hi
      rw [List.getElem?_append_left hi2] at h2
      have q := s'.sto i o b (by rw [List.getElem?_append_left hi]; exact h1) (by rw [List.getElem?_append_left hi2]; exact h2)
      refine mok_cut (k := ρ.length) (fun j hj => by rw [List.getElem?_append_left hj, List.getElem?_append_left hj]) (frz_sub fun x hx => ?_) (mok_lt (s.sto i o b h1 h2)) q
      rcases List.mem_append.mp hx with hx | hx
      · exact List.mem_append_left _ hx
      · rw [List.mem_singleton.mp hx]
        exact hin
    · have hl := (List.getElem?_eq_some_iff.mp h1).1
      rw [List.length_append] at hl
      have : i = μ.length := by
        simp at hl
        omega
      subst this
      rw [List.getElem?_append_right (Nat.le_refl _), Nat.sub_self] at h1
      rw [s.len, List.getElem?_append_right (Nat.le_refl _), Nat.sub_self] at h2
      have e1 : m = o := by simpa using h1
      have e2 : a = b := by simpa using h2
      rw [← e1, ← e2]
      exact hm
end
/-- what a call leaves, seen by the caller: as it is, or without what it laid; a new list as a tree or as the one new object -/
def Gc (μ : Store) (Q : D → Store → Prop) (d : D) (μ' : Store) : Prop := Q d μ' ∨ (∃ x ex, d = .t x ∧ μ' = μ ++ ex ∧ Q (.t x) μ) ∨
  ∃ n xs ex, d = .loc n ∧ μ.length ≤ n ∧ μ' = μ ++ ex ∧ μ'[n]? = some (.lst (xs.map D.t)) ∧ (Q (.t (.lst xs)) μ ∨ Q (.loc μ.length) (μ ++ [.lst (xs.map D.t)]))
theorem gc_ok {K : PySem.W.Frag} {G B H H' : Hp} {ρ0 ρ ρ' : List Addr} {μ μ' : Store} {d : D} {v : V} {Q : D → Store → Prop} {R : Prop} (s : SH K G B ρ0 μ ρ H) (s' : SH K G B ρ0 μ' ρ' H') (p : ρ <+: ρ') (e : Same (frz B H ρ) (frz B H' ρ')) (r : Rl K G (frz B H' ρ') ρ' d v)
    (g : Gc μ Q d μ') (k : ∀ d μ2 ρ2, Q d μ2 → SH K G B ρ0 μ2 ρ2 H' → ρ <+: ρ2 → Same (frz B H ρ) (frz B H' ρ2) → Rl K G (frz B H' ρ2) ρ2 d v → R) : R := by
  obtain ⟨δ, rfl⟩ := p
  rcases g with g | ⟨x, ex, rfl, rfl, g⟩ | ⟨n, xs, ex, rfl, hn, rfl, hx, g⟩
  · exact k d μ' _ g s' (List.prefix_append _ _) e r
  · have sub : Same (frz B H' (ρ ++ δ)) (frz B H' ρ) := frz_sub fun x hx => List.mem_append_left _ hx
    exact k (.t x) μ ρ g (s.drop s') (List.prefix_refl _) (e.trans sub) (Rp.mono sub r)
  · obtain ⟨a, rfl, ha⟩ := r
    have m := s'.sto n _ a hx ha
    obtain ⟨vs, h1, h2⟩ := m
    have had : a ∈ δ := by
      rw [s.len] at hn
      rw [List.getElem?_append_right hn] at ha
      exact List.mem_of_getElem? ha
    have hin : a ∈ ρ ++ δ := List.mem_append_right _ had
    have nd := List.nodup_append.mp s'.nd
    have hna : a ∉ ρ := fun z => nd.2.2 a z a had rfl
    have sub : Same (frz B H' (ρ ++ δ)) (frz B H' ρ) := frz_sub fun x hx => List.mem_append_left _ hx
    have sub1 : Same (frz B H' (ρ ++ δ)) (frz B H' (ρ ++ [a])) := frz_sub fun x hx => by
      rcases List.mem_append.mp hx with hx | hx
      · exact List.mem_append_left _ hx
      · rw [List.mem_singleton.mp hx]
        exact hin
    rcases g with g | g
    · exact k _ μ ρ g (s.drop s') (List.prefix_refl _) (e.trans sub) ⟨a, vs, rfl, frz_of h1 hna (s'.out a hin), (rls_t h2).mono sub⟩
    · refine k _ _ (ρ ++ [a]) g (s.keep1 s' had ⟨vs, h1, t_rls ((rls_t h2).mono sub1)⟩) (List.prefix_append _ _) (e.trans sub1) ⟨a, rfl, ?_⟩
      rw [s.len, List.getElem?_append_right (Nat.le_refl _), Nat.sub_self]
      rfl
/-! ### what a def promises -/
abbrev DFn := List D → Store → (D → Store → Prop) → Prop
def spG (K : PySem.W.Frag) (Φ : DFn) : Sp := fun vs H Q _ => ∃ G B ρ0 μ ρ ds P, SH K G B ρ0 μ ρ H ∧ Rls K G (frz B H ρ) ρ ds vs ∧ Φ ds μ P ∧
  ∀ d v μ' ρ' H', P d μ' → SH K G B ρ0 μ' ρ' H' → ρ <+: ρ' → Same (frz B H ρ) (frz B H' ρ') → Rl K G (frz B H' ρ') ρ' d v → Q v H'
def startE (n : Nat) (ds : List D) : DEnv := ds.map some ++ List.replicate (n - ds.length) none
/-- a def by its body: m parameters, n names -/
def bodyG (m n : Nat) (b : DS) : DFn := fun ds μ Q => ds.length = m ∧ b (startE n ds) μ ⟨fun _ μ' => Gc μ Q (.t .non) μ', Gc μ Q, fun _ _ => False, fun _ _ => False, fun _ _ _ => False⟩
theorem rls_get {K : PySem.W.Frag} {G F : Hp} {ρ : List Addr} {ds : List D} {vs : List V} (r : Rls K G F ρ ds vs) {i : Nat} {d : D} (h : ds[i]? = some d) : ∃ v, vs[i]? = some v ∧ Rl K G F ρ d v := Paired.at r h
theorem entryG {K : PySem.W.Frag} {G B H : Hp} {ρ0 ρ : List Addr} {μ : Store} {N : List Str} {ds : List D} {vs : List V} (s : SH K G B ρ0 μ ρ H) (r : Rls K G (frz B H ρ) ρ ds vs) : SR K G B ρ0 (startE N.length ds) μ ρ (L2.start N vs) H := by
  refine ⟨s, ?_, fun i d h => ?_⟩
  · unfold L2.start startE
    simp [Paired.len r]
  · unfold startE at h
    unfold L2.start
    by_cases hi : i < ds.length
    · rw [List.getElem?_append_left (by simpa using hi), List.getElem?_map, List.getElem?_eq_getElem hi] at h
      obtain ⟨v, h1, h2⟩ := rls_get r (List.getElem?_eq_getElem hi)
      have e : ds[i] = d := by simpa using h
      subst e
      exact ⟨v, by rw [List.getElem?_append_left (by rw [List.length_map, ← Paired.len r]; exact hi), List.getElem?_map, h1]; rfl, h2⟩
    · rw [List.getElem?_append_right (by simp; omega)] at h
      rw [List.getElem?_replicate] at h
      split at h <;> simp at h
section
variable {P : Program} {w : World} {K : PySem.W.Frag} {mg : Str → Option Value} {base : Heap}
theorem fn_G {x qual : Str} {st : Stmt} {f : Addr} {fd : FuncData} {N ps : List Str} {k : Nat} {s : DS} (F : Fun K x qual st f fd) (S : FnScope N ps (defScope st))
    (hb : ∀ (cdv : Value) (A : Around) (outer : List Env) (sh : Shared) (H : Hp) (E : XK), Room k (A.deeper (envOfC qual (defScope st) sh.heap.objs.size f cdv)) → SsX (cxOf CX0 P w K mg base N qual (defScope st) f cdv A outer sh H E).nox (defBody st) s) :
    FnOk P w K mg base CX0 (k + 1) f fd ps (spG K (bodyG ps.length N.length s)) := by
  refine fun_ok F S (fun vs H Q E ⟨G, B, ρ0, μ, ρ, ds, P, _, r, hl, _⟩ => (Paired.len r).symm.trans hl.1) fun cdv A outer sh H vs Q E hr ⟨G, B, ρ0, μ, ρ, ds, P, sh0, r, hy, q⟩ => ⟨_, hb cdv A outer sh H E hr, ?_⟩
  refine ⟨G, B, ρ0, startE N.length ds, μ, ρ, _, entryG sh0 r, hy.2, ?_, ?_, fun _ _ _ _ _ h => h.elim, fun _ _ _ _ _ h => h.elim, xnx_no⟩
  · intro env' μ' ρ' σ' H' h s' p' e'
    exact gc_ok (d := .t .non) (v := .non) sh0 s'.sh p' e' rfl h fun d μ2 ρ2 hq s2 p2 e2 r2 => q d _ μ2 ρ2 H' hq s2 p2 e2 r2
  · intro d v μ' ρ' H' h s' p' e' r'
    exact gc_ok sh0 s' p' e' r' h fun d μ2 ρ2 hq s2 p2 e2 r2 => q d _ μ2 ρ2 H' hq s2 p2 e2 r2
end
/-- calls -/
def xCall (Φ : DFn) (a : DAX) : DX := fun env μ Q => a env μ fun ds μ1 => Φ ds μ1 Q
section
variable {X : Cx} {k : Nat} {f : Addr} {fd : FuncData} {ps : List Str} {x : Str} {p pos : Pos} {e : Expr} {es : List Expr} {a : DAX} {E : XK} {Φ : DFn}
theorem spG_call {K : PySem.W.Frag} {Φ : DFn} {G B : Hp} {ρ0 : List Addr} {env : DEnv} {σ : L2.St} {H : Hp} {ρ : List Addr} {R : VK} {E : XK} {Q : D → Store → Prop} {ds : List D} {vs : List V} {μ1 : Store} {ρ1 : List Addr} {H1 : Hp} (q : Φ ds μ1 Q) (s1 : SR K G B ρ0 env μ1 ρ1 σ H1) (p1 : ρ <+: ρ1) (e1 : Same (frz B H ρ) (frz B H1 ρ1)) (r1 : Rls K G (frz B H1 ρ1) ρ1 ds vs)
    (k : ∀ d v μ' ρ' H', Q d μ' → SR K G B ρ0 env μ' ρ' σ H' → ρ <+: ρ' → Same (frz B H ρ) (frz B H' ρ') → Rl K G (frz B H' ρ') ρ' d v → R v H') : spG K Φ vs H1 R E := by
  refine ⟨G, B, ρ0, μ1, ρ1, ds, Q, s1.sh, r1, q, fun d v μ' ρ' H' hq s' p' e' r' => ?_⟩
  exact k d v μ' ρ' H' hq ⟨s', s1.slen, fun i d h => let ⟨v, h1, h2⟩ := s1.slot i d h; ⟨v, h1, h2.mono e' p'⟩⟩ (p1.trans p') (e1.trans e') r'
theorem xx_call {CX : CXT} (F : FnOk X.prog X.w X.K X.mg X.base CX k f fd ps (spG X.K Φ)) (hr : Room k X.A) (hm : X.mg x = some (.ref f)) (hk : PySem.W.keepIn X.K (.ref f) = true) (hb : Binds X.K fd ps []) (hx : Passes CX X E) (ha : AXX X (e :: es) a) (hg : Gl X x := by rfl)
    (hdb : (x == ("__debug__" : Str)) = false := by decide) (he : starEach (e :: es) X.env = (false, eval e X.env) :: starEach es X.env := by rfl) (hpl : (backTo pos (starEach es X.env)).any (·.1) = false := by rfl) : XX X (.Call (.Name x p) (e :: es) [] pos) (xCall Φ a) :=
  PE.imp (pe_call F hr hg hm hk hb .nil hx ha hdb he hpl) fun σ H R ⟨G, B, ρ0, env, μ, ρ, Q, s, q, k⟩ => by
    refine ⟨G, B, ρ0, env, μ, ρ, _, s, q, fun ds vs μ1 ρ1 H1 q1 s1 p1 e1 r1 => ?_⟩
    show spG X.K Φ (vs ++ []) H1 R E
    rw [List.append_nil]
    exact spG_call q1 s1 p1 e1 r1 k
end
end Gw
/-! Gw, part M: expressions, tests, loops and comprehensions whose parts may change the store. -/
namespace Gw
open PySem PySem.Spec PyProof.Rows L2 RZ
/-! ### two in a row -/
def x2 (p q : DX) (W : Store → D → D → (D → Prop) → Prop) : DX := fun env μ Q => p env μ fun x μ1 => q env μ1 fun y μ2 => W μ2 x y fun d => Q d μ2
theorem two_x {K : PySem.W.Frag} {p q : DX} {r : R2} {W : Store → D → D → (D → Prop) → Prop} (hw : W2 K r W) {σ : L2.St} {H : Hp} {R : VK} (h : txOf K (x2 p q W) σ H R) : tOp r (txOf K p) (txOf K q) σ H R := by
  obtain ⟨G, B, ρ0, env, μ, ρ, Q, s, q1, k⟩ := h
  refine ⟨G, B, ρ0, env, μ, ρ, _, s, q1, fun d v μ1 ρ1 H1 q2 s1 p1 e1 r1 => ?_⟩
  refine ⟨G, B, ρ0, env, μ1, ρ1, _, s1, q2, fun d2 v2 μ2 ρ2 H2 q3 s2 p2 e2 r2 => ?_⟩
  exact hw G B ρ0 μ2 ρ2 H2 d d2 v v2 _ R s2.sh (r1.mono e2 p2) r2 q3 fun d' z H' a b c => k d' z μ2 ρ2 H' a (s2.mono b) (p1.trans p2) ((e1.trans e2).trans (frz_mono b)) c
section
variable {X : Cx} {a b : Expr} {p q : DX} {pos : Pos}
theorem xx_cmp {op : CmpOp} {r : R2} {W : Store → D → D → (D → Prop) → Prop} (ho : OpR X (compareOp op) r) (hw : W2 X.K r W) (ha : XX X a p) (hb : XX X b q) (hm : behindInMarks op b = false) : XX X (.Compare a [op] [b] pos) (x2 p q W) :=
  PE.imp (pe_cmpR ho ha hb hm) fun σ H R h => two_x hw h
end
/-! ### tests -/
abbrev DTX := DEnv → Store → (Bool → Store → Prop) → Prop
def ttxOf (K : PySem.W.Frag) (p : DTX) : TT := fun σ H R => ∃ G B ρ0 env μ ρ Q, SR K G B ρ0 env μ ρ σ H ∧ p env μ Q ∧
  ∀ b μ' ρ' H', Q b μ' → SR K G B ρ0 env μ' ρ' σ H' → ρ <+: ρ' → Same (frz B H ρ) (frz B H' ρ') → R b H'
def TXX (X : Cx) (e : Expr) (p : DTX) : Prop := PT X e (ttxOf X.K p)
def tP (p : DT) : DTX := fun env μ Q => p env μ fun b => Q b μ
def xTest (p : DX) : DTX := fun env μ Q => p env μ fun d μ' => ∃ b, d = .t (.bl b) ∧ Q b μ'
section
variable {X : Cx} {a b e : Expr} {p q : DX} {pos : Pos} {t u : DTX}
theorem ttx_of {p : DX} {K : PySem.W.Frag} {σ : L2.St} {H : Hp} {R : Bool → Hp → Prop} (h : ttxOf K (xTest p) σ H R) : tTest (txOf K p) σ H R := by
  obtain ⟨G, B, ρ0, env, μ, ρ, Q, s, q1, k⟩ := h
  refine ⟨G, B, ρ0, env, μ, ρ, _, s, q1, fun d v μ1 ρ1 H1 q2 s1 p1 e1 r1 => ?_⟩
  obtain ⟨b, rfl, q2⟩ := q2
  exact ⟨b, r1, k b μ1 ρ1 H1 q2 s1 p1 e1⟩
theorem txx_val (h : XX X e p) (he : ∀ whole, isTrue e X.env whole = (do let v ← whole; standAt e.pos; holding [v] (truthy v)) := by intro _; rfl) : TXX X e (xTest p) :=
  PT.imp (pt_val h he) fun σ H R q => ttx_of q
def txAnd (p q : DTX) : DTX := fun env μ Q => p env μ fun b μ1 => if b = true then q env μ1 Q else Q false μ1
def txOr (p q : DTX) : DTX := fun env μ Q => p env μ fun b μ1 => if b = true then Q true μ1 else q env μ1 Q
def txNot (p : DTX) : DTX := fun env μ Q => p env μ fun b μ1 => Q (!b) μ1
theorem txx_not (h : TXX X a t) : TXX X (.UnaryOp .Not a pos) (txNot t) :=
  PT.imp (pt_not h) fun σ H R ⟨G, B, ρ0, env, μ, ρ, Q, s, q1, k⟩ => ⟨G, B, ρ0, env, μ, ρ, _, s, q1, fun b μ1 ρ1 H1 q2 s1 p1 e1 => k (!b) μ1 ρ1 H1 q2 s1 p1 e1⟩
/-- .. as values of bools -/
def xAndV (p q : DX) : DX := fun env μ Q => p env μ fun d μ1 => ∃ b, d = .t (.bl b) ∧ if b = true then q env μ1 Q else Q (.t (.bl false)) μ1
def xOrV (p q : DX) : DX := fun env μ Q => p env μ fun d μ1 => ∃ b, d = .t (.bl b) ∧ if b = true then Q (.t (.bl true)) μ1 else q env μ1 Q
def xNotV (p : DX) : DX := fun env μ Q => p env μ fun d μ1 => ∃ b, d = .t (.bl b) ∧ Q (.t (.bl (!b))) μ1
def xIf (c : DTX) (p q : DX) : DX := fun env μ Q => c env μ fun b μ1 => if b = true then p env μ1 Q else q env μ1 Q
end
/-! ### displays, subscripts, built-ins -/
def asT : List D → Option (List T)
  | [] => some []
  | .t x :: ds => (asT ds).map (x :: ·)
  | _ :: _ => none
theorem asT_some : ∀ {ds : List D} {xs : List T}, asT ds = some xs → ds = xs.map D.t
  | [], xs, h => by
    cases h
    rfl
  | .t x :: ds, xs, h => by
    cases e : asT ds with
    | none => rw [asT, e] at h; cases h
    | some ys =>
      rw [asT, e] at h
      cases h
      rw [asT_some e]
      rfl
  | .loc _ :: _, xs, h => by cases h
  | .tp _ :: _, xs, h => by cases h
/-- a tuple of data -/
def tupD (ds : List D) : D := match asT ds with
  | some xs => .t (.tup xs)
  | none => .tp ds
def xTup (a : DAX) : DX := fun env μ Q => a env μ fun ds μ1 => ds.length ≤ sizeLine ∧ Q (tupD ds) μ1
section
variable {X : Cx} {e : Expr} {es : List Expr} {a : DAX} {p q : DX} {pos : Pos}
theorem xx_tup {k : Nat} (h : AXX X es a) : XX X (.Tuple es k pos) (xTup a) :=
  PE.imp (pe_tup h) fun σ H R ⟨G, B, ρ0, env, μ, ρ, Q, s, q1, k⟩ => by
    refine ⟨G, B, ρ0, env, μ, ρ, _, s, q1, fun ds vs μ1 ρ1 H1 q2 s1 p1 e1 r1 => ?_⟩
    refine ⟨by rw [← Paired.len r1]; exact q2.1, fun p hp => ?_⟩
    have n := s1.sh.new (o := .tup vs) hp
    refine k _ _ μ1 ρ1 _ q2.2 (s1.mono n.1) p1 (e1.trans (frz_mono n.1)) ?_
    have r2 : Rls X.K G (frz B (upd H1 p (.tup vs)) ρ1) ρ1 ds vs := Paired.imp (fun _ _ r => r.mono (frz_mono n.1) (List.prefix_refl _)) r1
    unfold tupD
    cases he : asT ds with
    | none => exact ⟨p, vs, rfl, n.2, p_rlA r2⟩
    | some xs =>
      rw [asT_some he] at r2
      exact ⟨p, vs, rfl, n.2, rls_t r2⟩
def xBi (a : DAX) (W : Store → List D → (D → Prop) → Prop) : DX := fun env μ Q => a env μ fun ds μ1 => W μ1 ds fun d => Q d μ1
def xBf (a : DAX) (W : Store → List D → (List T → Prop) → Prop) : DX := fun env μ Q => a env μ fun ds μ1 => W μ1 ds fun xs => Q (.t (.lst xs)) μ1 ∨ Q (.loc μ1.length) (μ1 ++ [.lst (xs.map D.t)])
theorem xbi_rd {K : PySem.W.Frag} {r : List V → Hp → VK → Prop} {W : Store → List D → (D → Prop) → Prop} (hw : WC K r W) {σ : L2.St} {H : Hp} {R : VK} (h : txOf K (xBi a W) σ H R) : taxOf K a σ H fun vs H1 => r vs H1 R := by
  obtain ⟨G, B, ρ0, env, μ, ρ, Q, s, q1, k⟩ := h
  refine ⟨G, B, ρ0, env, μ, ρ, _, s, q1, fun ds vs μ1 ρ1 H1 q2 s1 p1 e1 r1 => ?_⟩
  exact hw G B ρ0 μ1 ρ1 H1 ds vs _ R s1.sh r1 q2 fun d z H' q3 e2 r2 => k d z μ1 ρ1 H' q3 (s1.mono e2) p1 (e1.trans (frz_mono e2)) r2
variable {x : Str} {id : String} {p0 : Pos}
theorem xx_ty {r : List V → Hp → VK → Prop} {W : Store → List D → (D → Prop) → Prop} (hc : CallR X (.type id) r) (hw : WC X.K r W) (hv : bootBuiltins x = some (.type id)) (hm : X.mg x = none) (ha : AXX X (e :: es) a) (hg : Gl X x := by rfl) (hn : x ≠ "__name__" := by decide) (hdb : (x == ("__debug__" : Str)) = false := by decide)
    (he : starEach (e :: es) X.env = (false, eval e X.env) :: starEach es X.env := by rfl) (hpl : (backTo pos (starEach es X.env)).any (·.1) = false := by rfl) : XX X (.Call (.Name x p0) (e :: es) [] pos) (xBi a W) :=
  PE.imp (pe_callTy hc hg hm hv ha hn hdb he hpl) fun σ H R h => xbi_rd hw h
end
/-! ### statements -/
def sIfX (c : DTX) (a b : DS) : DS := fun env μ P => c env μ fun k μ' => if k = true then a env μ' P else b env μ' P
section
variable {X : Cx} {a b : DS} {pos : Pos}
theorem sx_ifX {c : Expr} {x y : List Stmt} {t : DTX} (hc : TXX X c t) (ha : SsX X x a) (hb : SsX X y b) : SX X (.If c x y pos) (sIfX t a b) :=
  PS.imp (ps_if hc ha hb) fun E σ H ⟨G, B, ρ0, env, μ, ρ, P, s, q, k⟩ => ⟨G, B, ρ0, env, μ, ρ, _, s, q, fun c μ' ρ' H' q' s' p' e' => by
    cases c with
    | true => exact ⟨G, B, ρ0, env, μ', ρ', P, s', q', k.on p' e'⟩
    | false => exact ⟨G, B, ρ0, env, μ', ρ', P, s', q', k.on p' e'⟩⟩
end
/-! ### what is walked -/
abbrev DIX := DEnv → Store → (DIt → Store → Prop) → Prop
def tixOf (K : PySem.W.Frag) (p : DIX) : TI := fun σ H R => ∃ G B ρ0 env μ ρ Q, SR K G B ρ0 env μ ρ σ H ∧ p env μ Q ∧
  ∀ j J μ1 ρ1 H1, Q j μ1 → SR K G B ρ0 env μ1 ρ1 σ H1 → ρ <+: ρ1 → Same (frz B H ρ) (frz B H1 ρ1) → j.keep μ1 → Wk K G ρ0 ρ1 (frz B H1 ρ1) J j → R J H1
def IXX (X : Cx) (tg e : Expr) (p : DIX) : Prop := PI X tg e (tixOf X.K p)
def iP (p : DI) : DIX := fun env μ Q => p env μ fun j => Q j μ
theorem ixx_p {X : Cx} {tg e : Expr} {p : DI} (h : IX X tg e p) : IXX X tg e (iP p) := PI.imp h fun σ H R ⟨G, B, ρ0, env, μ, ρ, Q, s, q, k⟩ =>
  ⟨G, B, ρ0, env, μ, ρ, _, s, q, fun j J H1 q1 e1 k1 w => k j J μ ρ H1 q1 (s.mono e1) (List.prefix_refl _) (frz_mono e1) k1 w⟩
def iSqX (p : DX) : DIX := fun env μ Q => p env μ fun d μ1 => srcD μ1 d fun ds kp => Q ⟨ds, kp⟩ μ1
/-! ### for -/
def sForX (it : DIX) (g : DG) (b : DS) : DS := fun env μ P => it env μ fun j μ1 => forD j.keep g b P j.items env μ1
/-! ### comprehensions -/
def lcX (kp : Store → Prop) (g : DG) (t : DTX) (e : DX) (env : DEnv) (P : List D → Store → Prop) : List D → List D → Store → Prop
  | [], acc, μ => kp μ ∧ P acc μ
  | d :: r, acc, μ => kp μ ∧ g d env fun env' => t env' μ fun b μ1 => if b = true then e env' μ1 fun y μ2 => lcX kp g t e env P r (acc ++ [y]) μ2 else lcX kp g t e env P r acc μ1
/-- the new list: as an object of the store, or as a tree -/
def endL (Q : D → Store → Prop) (ds : List D) (μ : Store) : Prop := Q (.loc μ.length) (μ ++ [.lst ds]) ∨ ∃ xs, ds = xs.map D.t ∧ Q (.t (.lst xs)) μ
def xLc (it : DIX) (g : DG) (t : DTX) (e : DX) (vs : List Nat) : DX := fun env μ Q => it env μ fun j μ1 => j.items.length ≤ sizeLine ∧ lcX j.keep g t e (wipeE env vs) (endL Q) j.items [] μ1
theorem frz_re {B H : Hp} {ρ : List Addr} {a : Addr} {x y : List V} : frz (upd B a (.lst y)) (upd H a (.lst y)) ρ = frz (upd B a (.lst x)) H ρ := by
  funext b
  unfold frz
  by_cases hb : b ∈ ρ
  · rw [if_pos hb, if_pos hb]
  · rw [if_neg hb, if_neg hb]
    by_cases e : b = a
    · subst e
      rw [show L2.upd B b (HO.lst x) b = some (.lst x) from upd_same, upd_same, upd_same]
      rfl
    · rw [upd_ne e, upd_ne e, upd_ne e]
section
variable {K : PySem.W.Frag} {G B H : Hp} {ρ0 ρ : List Addr} {env : DEnv} {μ : Store} {σ : L2.St} {a : Addr}
/-- the hidden list grows -/
theorem SR.rehide {x : List V} (y : List V) (s : SR K G (L2.upd B a (.lst x)) ρ0 env μ ρ σ H) (hG : G a = none) : SR K G (L2.upd B a (.lst y)) ρ0 env μ ρ σ (L2.upd H a (.lst y)) := by
  have hna : a ∉ ρ := fun z => by
    have := s.sh.out a z
    rw [upd_same] at this
    cases this
  refine ⟨⟨fun b o e => ?_, fun b o e => ?_, fun b hb => ?_, s.sh.outG, s.sh.nd, s.sh.pre, s.sh.len, fun i o b h1 h2 => ?_⟩, s.slen, fun i d h => ?_⟩
  · by_cases hb : b = a
    · subst hb
      rw [upd_same] at e ⊢
      exact e
    · rw [upd_ne hb] at e ⊢
      exact s.sh.same b o (by rw [upd_ne hb]; exact e)
  · rw [upd_ne (ne_of_none e hG)]
    exact s.sh.sameG b o e
  · have hne : b ≠ a := fun z => hna (by rw [← z]; exact hb)
    have := s.sh.out b hb
    rw [upd_ne hne] at this ⊢
    exact this
  · rw [frz_re (x := x)]
    have hne : b ≠ a := fun z => hna (by rw [← z]; exact List.mem_of_getElem? h2)
    exact (s.sh.sto i o b h1 h2).mono (Same.refl _) (List.prefix_refl _) (upd_ne hne)
  · rw [frz_re (x := x)]
    exact s.slot i d h
/-- the hidden list shows: forgotten -/
theorem SR.unhide {x : List V} (s : SR K G (L2.upd B a (.lst x)) ρ0 env μ ρ σ H) (hB : B a = none) : SR K G B ρ0 env μ ρ σ H := by
  have sm : Same (frz (L2.upd B a (.lst x)) H ρ) (frz B H ρ) := (frz_hide rfl).trans frz_app_le
  refine ⟨⟨fun b o e => s.sh.same b o (by rw [upd_ne (ne_of_none e hB)]; exact e), s.sh.sameG, fun b hb => ?_, s.sh.outG, s.sh.nd, s.sh.pre, s.sh.len, fun i o b h1 h2 => (s.sh.sto i o b h1 h2).mono sm (List.prefix_refl _) rfl⟩, s.slen, fun i d h => let ⟨v, h1, h2⟩ := s.slot i d h; ⟨v, h1, h2.mono sm (List.prefix_refl _)⟩⟩
  have := s.sh.out b hb
  by_cases hba : b = a
  · rw [hba]
    exact hB
  · rw [upd_ne hba] at this
    exact this
/-- the hidden list comes into the store -/
theorem SR.take1 {x : List V} {ds : List D} (s : SR K G (L2.upd B a (.lst x)) ρ0 env μ ρ σ H) (hB : B a = none) (hG : G a = none) (r : Rls K G (frz (L2.upd B a (.lst x)) H ρ) ρ ds x) :
    SR K G B ρ0 env (μ ++ [.lst ds]) (ρ ++ [a]) σ H ∧ Same (frz (L2.upd B a (.lst x)) H ρ) (frz B H (ρ ++ [a])) ∧ Rl K G (frz B H (ρ ++ [a])) (ρ ++ [a]) (.loc μ.length) (.ref a) := by
  have ha : H a = some (.lst x) := s.sh.same a _ upd_same
  have hna : a ∉ ρ := fun z => by
    have := s.sh.out a z
    rw [upd_same] at this
    cases this
  have sm : Same (frz (L2.upd B a (.lst x)) H ρ) (frz B H (ρ ++ [a])) := frz_hide rfl
  have pf : ρ <+: ρ ++ [a] := List.prefix_append _ _
  refine ⟨⟨⟨fun b o e => s.sh.same b o (by rw [upd_ne (ne_of_none e hB)]; exact e), s.sh.sameG, fun b hb => ?_, fun b hb => ?_, ?_, s.sh.pre.trans pf, by rw [List.length_append, List.length_append, s.sh.len]; rfl, fun i o b h1 h2 => ?_⟩, s.slen, fun i d hd => ?_⟩, sm, ⟨a, rfl, ?_⟩⟩
  · rcases List.mem_append.mp hb with hb | hb
    · have := s.sh.out b hb
      rw [upd_ne (fun z => hna (by rw [← z]; exact hb))] at this
      exact this
    · rw [List.mem_singleton.mp hb]
      exact hB
  · rcases List.mem_append.mp hb with hb | hb
    · exact s.sh.outG b hb
    · rw [List.mem_singleton.mp hb]
      exact hG
  · rw [List.nodup_append]
    refine ⟨s.sh.nd, by simp, fun x hx y hy hxy => ?_⟩
    rw [hxy, List.mem_singleton.mp hy] at hx
    exact hna hx
  · by_cases hi : i < μ.length
    · rw [List.getElem?_append_left hi] at h1
      rw [List.getElem?_append_left (by rw [← s.sh.len]; exact hi)] at h2
      exact (s.sh.sto i o b h1 h2).mono sm pf rfl
    · have hl := (List.getElem?_eq_some_iff.mp h1).1
      rw [List.length_append] at hl
      have : i = μ.length := by
        simp at hl
        omega
      subst this
      rw [List.getElem?_append_right (Nat.le_refl _), Nat.sub_self] at h1
      rw [s.sh.len, List.getElem?_append_right (Nat.le_refl _), Nat.sub_self] at h2
      have e1 : MO.lst ds = o := by simpa using h1
      have e2 : a = b := by simpa using h2
      rw [← e1, ← e2]
      exact ⟨x, ha, Paired.imp (fun _ _ r => r.mono sm pf) r⟩
  · obtain ⟨v, h1, h2⟩ := s.slot i d hd
    exact ⟨v, h1, h2.mono sm pf⟩
  · rw [s.sh.len, List.getElem?_append_right (Nat.le_refl _), Nat.sub_self]
    rfl
end
section
variable {X : Cx} {elt tg iter : Expr} {ifs : List Expr} {scope : Scope} {own : List (Str × Nat)} {pos : Pos} {it : DIX} {g : DG} {t : DTX} {e : DX} {ts : List Nat}
theorem lcx_read {σ : L2.St} {H : Hp} {R : VK} (hts : ∀ j ∈ ts, j ∈ own.map (·.2)) (h : txOf X.K (xLc it g t e (own.map (·.2))) σ H R) : tLc (tixOf X.K it) (tgOf X.K ts g) (ttxOf X.K t) (txOf X.K e) (own.map (·.2)) σ H R := by
  obtain ⟨G, B, ρ0, env, μ, ρ, Q, s, q, k⟩ := h
  refine ⟨G, B, ρ0, env, μ, ρ, _, s, q, fun j J μ1 ρ1 H1 q1 s1 p1 e1 k1 w Da hD => ?_⟩
  obtain ⟨hz, q1⟩ := q1
  obtain ⟨Gd, Y, wk, hG, hY⟩ := w.ex
  have hB : B Da = none := s1.sh.freshB hD
  have hGD : G Da = none := s1.sh.sameG.free hD
  have sm0 : Same H1 (L2.upd H1 Da (.lst [])) := same_new hD
  have s0 : SR X.K G (L2.upd B Da (.lst [])) ρ0 env μ1 ρ1 σ (L2.upd H1 Da (.lst [])) := s1.hide sm0 hD upd_same
  have f0 : Same (frz B H1 ρ1) (frz (L2.upd B Da (.lst [])) (L2.upd H1 Da (.lst [])) ρ1) := (frz_app sm0 hD).trans hide_frz
  refine lc_it wk (fun i H' => ∃ acc vs μ' ρ', vs.length ≤ i ∧ SR X.K G (L2.upd B Da (.lst vs)) ρ0 env μ' ρ' σ H' ∧ ρ1 <+: ρ' ∧ Same (frz B H1 ρ1) (frz (L2.upd B Da (.lst vs)) H' ρ') ∧ Rls X.K G (frz (L2.upd B Da (.lst vs)) H' ρ') ρ' acc vs ∧
    lcX j.keep g t e (wipeE env (own.map (·.2))) (endL Q) (j.items.drop i) acc μ') ⟨[], [], μ1, ρ1, Nat.le_refl _, s0, List.prefix_refl _, f0, .nil, q1⟩ ?_ ?_ ?_
  · rintro i H' hi ⟨acc, vs, μ', ρ', h2, s', p', f', r', l'⟩
    refine hG _ μ' ρ' H' ⟨s'.sh, p', f'⟩ ?_
    cases hd : j.items.drop i with
    | nil =>
      rw [hd] at l'
      exact l'.1
    | cons d r =>
      rw [hd] at l'
      exact l'.1
  · rintro i x H' H2 hi ⟨acc, vs, μ', ρ', h2, s', p', f', r', l'⟩ y
    have hd : j.items.drop i = j.items[i] :: j.items.drop (i + 1) := List.drop_eq_getElem_cons hi
    rw [hd] at l'
    obtain ⟨kp, l'⟩ := l'
    obtain ⟨e2, d, hd', r⟩ := hY i _ μ' ρ' H' x H2 hi ⟨s'.sh, p', f'⟩ kp y
    rw [List.getElem?_eq_getElem hi] at hd'
    cases hd'
    have sB := s'.mono e2
    have fB := f'.trans (frz_mono (B := L2.upd B Da (.lst vs)) (ρ := ρ') e2)
    refine ⟨G, L2.upd B Da (.lst vs), ρ0, wipeE env (own.map (·.2)), μ', ρ', _, _, sB.wipe _, r, l', fun env2 σ2 q2 s2 n2 l2 => ⟨wipe_eq (by rw [l2, wipe_length]) hts n2, ?_⟩⟩
    refine ⟨G, L2.upd B Da (.lst vs), ρ0, env2, μ', ρ', _, s2, q2, fun b μ3 ρ3 H3 q3 s3 p3 e3 => ?_⟩
    have r2 : Rls X.K G (frz (L2.upd B Da (.lst vs)) H3 ρ3) ρ3 acc vs := Paired.imp (fun _ _ r => r.mono ((frz_mono e2).trans e3) p3) r'
    cases b with
    | false =>
      exact ⟨acc, vs, μ3, ρ3, by omega, ⟨s3.sh, sB.slen, fun i d h => let ⟨v, h1, h2⟩ := sB.slot i d h; ⟨v, h1, h2.mono e3 p3⟩⟩, p'.trans p3, fB.trans e3, r2, q3⟩
    | true =>
      refine ⟨G, L2.upd B Da (.lst vs), ρ0, env2, μ3, ρ3, _, s3, q3, fun y v μ4 ρ4 H4 q4 s4 p4 e4 r4 => ?_⟩
      refine ⟨vs, s4.sh.same Da _ upd_same, by omega, acc ++ [y], vs ++ [v], μ4, ρ4, by rw [List.length_append, List.length_singleton]; omega, SR.rehide (vs ++ [v]) ⟨s4.sh, sB.slen, fun i d h => let ⟨v, h1, h2⟩ := sB.slot i d h; ⟨v, h1, h2.mono (e3.trans e4) (p3.trans p4)⟩⟩ hGD, (p'.trans p3).trans p4, ?_, ?_, q4⟩
      · rw [frz_re (x := vs)]
        exact (fB.trans e3).trans e4
      · rw [frz_re (x := vs)]
        exact Paired.app (Paired.imp (fun _ _ r => r.mono e4 p4) r2) (.cons r4 .nil)
  · rintro H' ⟨acc, vs, μ', ρ', h2, s', p', f', r', l'⟩
    rw [List.drop_length] at l'
    have ha : H' Da = some (.lst vs) := s'.sh.same Da _ upd_same
    rcases l'.2 with q2 | ⟨xs, rfl, q2⟩
    · obtain ⟨h4, h5, h6⟩ := s'.take1 hB hGD r'
      exact k _ _ _ _ H' q2 h4 ((p1.trans p').trans (List.prefix_append _ _)) ((e1.trans f').trans h5) h6
    · have hna : Da ∉ ρ' := fun z => by
        have := s'.sh.out Da z
        rw [upd_same] at this
        cases this
      have sm : Same (frz (L2.upd B Da (.lst vs)) H' ρ') (frz B H' ρ') := (frz_hide rfl).trans frz_app_le
      exact k _ _ μ' ρ' H' q2 (s'.unhide hB) (p1.trans p') ((e1.trans f').trans sm) ⟨Da, vs, rfl, frz_of ha hna hB, (rls_t r').mono sm⟩
theorem xx_lc (own : List (Str × Nat)) (hc : X.calm = true) (hN : X.N.Nodup) (hi : IXX X tg iter it) (ok : BlkOk X.N X.env.scope scope own) (hts : ∀ j ∈ ts, j ∈ own.map (·.2))
    (hg : ∀ (s : Shared) (H : Hp) (C : Addr) (cl : List (Str × Addr)) (fp : List Addr), GX (X.blk s H scope (compEnvC scope cl C X.env) fp) tg ts g) (ht : ∀ (s : Shared) (H : Hp) (C : Addr) (cl : List (Str × Addr)) (fp : List Addr), PTs (X.blk s H scope (compEnvC scope cl C X.env) fp) ifs (ttxOf X.K t))
    (he : ∀ (s : Shared) (H : Hp) (C : Addr) (cl : List (Str × Addr)) (fp : List Addr), XX (X.blk s H scope (compEnvC scope cl C X.env) fp) elt e) (hs : ∀ x, foldedSetIterable iter X.env x = pure x := by intro _; rfl) :
    XX X (.ListComp elt [⟨tg, iter, ifs, 0⟩] scope pos) (xLc it g t e (own.map (·.2))) :=
  PE.imp (pe_lc (g := tgOf X.K ts g) (tt := ttxOf X.K t) (te := txOf X.K e) hc hN hi ok hg ht he hs) fun σ H R h => lcx_read hts h
def txYes : DTX := fun _ μ Q => Q true μ
theorem tsxx_nil {X : Cx} : PTs X [] (ttxOf X.K txYes) := PTs.imp pts_nil fun σ H R ⟨G, B, ρ0, env, μ, ρ, Q, s, q, k⟩ => k true μ ρ H q s (List.prefix_refl _) (Same.refl _)
end
end Gw
/-! Gw, part N: instances of own classes: made, fields read and stored, methods called; targets in a row of any data. -/
namespace Gw
open PySem PySem.Spec PyProof.Rows L2 RZ
/-! ### targets in a row -/
abbrev DGq := List D → DEnv → (DEnv → Prop) → Prop
def gqNil : DGq := fun ds env Q => ds = [] ∧ Q env
def gqCons (g : DG) (h : DGq) : DGq := fun ds env Q => ∃ d r, ds = d :: r ∧ g d env fun env' => h r env' Q
def itemsD (d : D) (Q : List D → Prop) : Prop := match d with
  | .t (.tup xs) => Q (xs.map D.t)
  | .tp ds => Q ds
  | _ => False
def gTq (n : Nat) (h : DGq) : DG := fun d env Q => itemsD d fun ds => ds.length = n ∧ h ds env Q
/-! ### classes -/
def ClsT (K : PySem.W.Frag) (cs : List Str) (f : Str) : Prop := ∀ c ∈ cs, ∀ C, PySem.W.nsIn K mainGlobals c = some (some (.ref C)) → Cls K C ∧ NoAttr K C f
theorem clsT_nil {K : PySem.W.Frag} {f : Str} : ClsT K [] f := fun _ h => nomatch h
theorem clsT_cons {K : PySem.W.Frag} {cs : List Str} {f c : Str} {C : Addr} (n : PySem.W.nsIn K mainGlobals c = some (some (.ref C))) (cl : Cls K C) (na : NoAttr K C f) (r : ClsT K cs f) : ClsT K (c :: cs) f := fun c' h C' e => by
  rcases List.mem_cons.mp h with rfl | h
  · rw [n] at e
    cases e
    exact ⟨cl, na⟩
  · exact r c' h C' e
def putA {α : Type} (f : Str) (v : α) : List (Str × α) → List (Str × α)
  | [] => [(f, v)]
  | (g, x) :: r => if g = f then (g, v) :: r else (g, x) :: putA f v r
theorem put_pair {K : PySem.W.Frag} {G F : Hp} {ρ : List Addr} {f : Str} {d : D} {v : V} (h : Rl K G F ρ d v) : ∀ {fs : List (Str × D)} {ws : List (Str × V)}, Paired (fun (p : Str × D) (q : Str × V) => p.1 = q.1 ∧ Rl K G F ρ p.2 q.2) fs ws → Paired (fun (p : Str × D) (q : Str × V) => p.1 = q.1 ∧ Rl K G F ρ p.2 q.2) (putA f d fs) (putF f v ws)
  | _, _, .nil => .cons ⟨rfl, h⟩ .nil
  | (a, x) :: r, (b, y) :: s, .cons ⟨e, q⟩ t => by
    have e : a = b := e
    subst e
    unfold putA putF
    by_cases z : a = f
    · rw [if_pos z, if_pos z]
      exact .cons ⟨rfl, h⟩ t
    · rw [if_neg z, if_neg z]
      exact .cons ⟨rfl, q⟩ (put_pair h t)
theorem look_pair {K : PySem.W.Frag} {G F : Hp} {ρ : List Addr} {f : Str} : ∀ {fs : List (Str × D)} {ws : List (Str × V)}, Paired (fun (p : Str × D) (q : Str × V) => p.1 = q.1 ∧ Rl K G F ρ p.2 q.2) fs ws → (fs.lookup f = none → ws.lookup f = none) ∧ ∀ d, fs.lookup f = some d → ∃ v, ws.lookup f = some v ∧ Rl K G F ρ d v
  | _, _, .nil => ⟨fun _ => rfl, fun _ h => by cases h⟩
  | (a, x) :: r, (b, y) :: s, .cons ⟨e, q⟩ t => by
    have e : a = b := e
    subst e
    obtain ⟨h1, h2⟩ := look_pair (f := f) t
    rw [List.lookup_cons, List.lookup_cons]
    cases z : (f == a) with
    | true => exact ⟨fun h => (by cases h), fun d h => (by cases h; exact ⟨y, rfl, q⟩)⟩
    | false => exact ⟨h1, h2⟩
/-- a field of an instance -/
def insK (cs : List Str) (o : Option MO) (Q : List (Str × D) → Prop) : Prop := ∃ c fs, o = some (.ins c fs) ∧ c ∈ cs ∧ Q fs
def fldK (f : Str) (fs : List (Str × D)) (Q : D → Prop) : Prop := ∃ v, fs.lookup f = some v ∧ Q v
def fldD (cs : List Str) (f : Str) (μ : Store) (d : D) (Q : D → Prop) : Prop := ∃ n, d = .loc n ∧ insK cs μ[n]? fun fs => fldK f fs Q
def dFld (cs : List Str) (p : DP) (f : Str) : DP := fun env μ Q => p env μ fun d => fldD cs f μ d Q
def xFld (cs : List Str) (p : DX) (f : Str) : DX := fun env μ Q => p env μ fun d μ1 => fldD cs f μ1 d fun v => Q v μ1
section
variable {K : PySem.W.Frag} {G B H : Hp} {ρ0 ρ : List Addr} {μ : Store}
theorem fld_ok {cs : List Str} {f : Str} (hT : ClsT K cs f) (s : SH K G B ρ0 μ ρ H) {d : D} {v : V} {Q : D → Prop} (r : Rl K G (frz B H ρ) ρ d v) (q : fldD cs f μ d Q) : ∃ a C dx fs y z, v = .ref a ∧ H a = some (.ins C dx fs) ∧ Cls K C ∧ NoAttr K C f ∧ fs.lookup f = some y ∧ Q z ∧ Rl K G (frz B H ρ) ρ z y := by
  obtain ⟨n, rfl, c, fs, h1, hc, z, h2, q⟩ := q
  obtain ⟨a, rfl, ha⟩ := r
  obtain ⟨C, dx, ws, h3, h4, h5⟩ := s.sto n _ a h1 ha
  obtain ⟨cl, na⟩ := hT c hc C h3
  obtain ⟨y, h6, h7⟩ := (look_pair (f := f) h5).2 z h2
  exact ⟨a, C, dx, ws, y, z, rfl, h4, cl, na, h6, q, h7⟩
end
section
variable {X : Cx} {e : Expr} {f : Str} {cs : List Str} {pos pos' : Pos}
theorem ex_fld {p : DP} (hT : ClsT X.K cs f) (h : EX X e p) (hb : attributeBase e f X.env (eval e X.env) = eval e X.env := by rfl) : EX X (.Attribute e f pos) (dFld cs p f) :=
  PE.imp (pe_fld h hb) fun σ H R ⟨G, B, ρ0, env, μ, ρ, Q, s, q, k⟩ => by
    refine ⟨G, B, ρ0, env, μ, ρ, _, s, q, fun d v H1 q1 e1 r1 => ?_⟩
    obtain ⟨a, C, dx, fs, y, z, h1, h2, h3, h4, h5, h6, h7⟩ := fld_ok hT (s.mono e1).sh r1 q1
    exact ⟨a, C, dx, fs, y, h1, h2, h3, h4, h5, k z y H1 h6 e1 h7⟩
/-- a field is stored -/
def putK (cs : List Str) (f : Str) (y : D) (μ : Store) (d : D) (Q : Store → Prop) : Prop := ∃ n c fs, d = .loc n ∧ μ[n]? = some (.ins c fs) ∧ c ∈ cs ∧ fs.length < 1000 ∧ Q (μ.set n (.ins c (putA f y fs)))
def sPut (cs : List Str) (v : DX) (o : DP) (f : Str) : DS := fun env μ P => v env μ fun y μ1 => o env μ1 fun d => putK cs f y μ1 d fun μ2 => P.nx env μ2
theorem sx_put {value : Expr} {v : DX} {p : DP} (hT : ClsT X.K cs f) (hv : XX X value v) (h : EX X e p) (hs : swapsWith value (some (.Attribute e f pos')) pos.line X.env = pure false := by rfl) : SX X (.Assign [.Attribute e f pos'] value pos) (sPut cs v p f) :=
  PS.imp (ps_fld h hv hs) fun E σ H ⟨G, B, ρ0, env, μ, ρ, P, s, q, k⟩ => by
    refine ⟨G, B, ρ0, env, μ, ρ, _, s, q, fun y w μ1 ρ1 H1 q1 s1 p1 e1 r1 => ?_⟩
    refine ⟨G, B, ρ0, env, μ1, ρ1, _, s1, q1, fun d u H2 q2 e2 r2 => ?_⟩
    obtain ⟨n, c, fs, rfl, h1, hc, hl, q3⟩ := q2
    obtain ⟨a, rfl, ha⟩ := r2
    have s2 := s1.mono e2
    obtain ⟨C, dx, ws, h3, h4, h5⟩ := s2.sh.sto n _ a h1 ha
    obtain ⟨cl, na⟩ := hT c hc C h3
    have r3 := r1.mono (frz_mono e2) (List.prefix_refl _)
    refine ⟨a, C, dx, ws, rfl, h4, cl, na, by rw [← Paired.len h5]; exact hl, ?_⟩
    have hin := List.mem_of_getElem? ha
    refine k.nx _ _ ρ1 _ _ q3 (s2.upd (m := .ins c (putA f y fs)) (o := .ins C dx (putF f w ws)) ha ⟨C, dx, _, h3, upd_same, put_pair r3 h5⟩) p1 ?_
    rw [frz_upd hin]
    exact e1.trans (frz_mono e2)
end
/-! ### making, methods -/
/-- what is known of a class that is made -/
structure MkT (K : PySem.W.Frag) (c : Str) (C f : Addr) : Prop where
  n : PySem.W.nsIn K mainGlobals c = some (some (.ref C))
  made : Mk K C f
def xMake (c : Str) (Φ : DFn) (a : DAX) : DX := fun env μ Q => a env μ fun ds μ1 => Φ (.loc μ1.length :: ds) (μ1 ++ [.ins c []]) fun d μ2 => d = .t .non ∧ Q (.loc μ1.length) μ2
section
variable {X : Cx} {k : Nat} {f C : Addr} {fd : FuncData} {ps : List Str} {x c : Str} {p pos : Pos} {e : Expr} {es : List Expr} {a : DAX} {E : XK} {Φ : DFn}
theorem make_rd {K : PySem.W.Frag} {C f : Addr} {c : Str} (M : MkT K c C f) {G B : Hp} {ρ0 : List Addr} {env : DEnv} {σ : L2.St} {H : Hp} {ρ : List Addr} {R : VK} {E : XK} {Q : D → Store → Prop} {ds : List D} {vs : List V} {μ1 : Store} {ρ1 : List Addr} {H1 : Hp}
    (q : Φ (.loc μ1.length :: ds) (μ1 ++ [.ins c []]) fun d μ2 => d = .t .non ∧ Q (.loc μ1.length) μ2) (s1 : SR K G B ρ0 env μ1 ρ1 σ H1) (p1 : ρ <+: ρ1) (e1 : Same (frz B H ρ) (frz B H1 ρ1)) (r1 : Rls K G (frz B H1 ρ1) ρ1 ds vs)
    (k : ∀ d v μ' ρ' H', Q d μ' → SR K G B ρ0 env μ' ρ' σ H' → ρ <+: ρ' → Same (frz B H ρ) (frz B H' ρ') → Rl K G (frz B H' ρ') ρ' d v → R v H') :
    ∀ x dx, H1 x = none → H1 dx = none → dx ≠ x → spG K Φ (.ref x :: vs) (L2.upd (L2.upd H1 dx (.own x)) x (.ins C dx [])) (fun v H2 => v = .non ∧ R (.ref x) H2) E := fun x dx nx ndx nex => by
  have sm : Same H1 (L2.upd (L2.upd H1 dx (.own x)) x (.ins C dx [])) := fun b o h => by
    rw [upd_ne (ne_of_none h nx), upd_ne (ne_of_none h ndx)]
    exact h
  obtain ⟨h1, h2, h3, h4⟩ := claim s1 sm nx (m := .ins c []) ⟨C, dx, [], M.n, upd_same, .nil⟩
  refine ⟨G, B, ρ0, _, _, _, _, h1.sh, .cons h4 (Paired.imp (fun _ _ r => r.mono h3 h2) r1), q, fun d v μ' ρ' H' hq s' p' e' r' => ?_⟩
  obtain ⟨hd, hq⟩ := hq
  subst hd
  have r' : v = .non := r'
  refine ⟨r', ?_⟩
  have s2 : SR K G B ρ0 env μ' ρ' σ H' := ⟨s', h1.slen, fun i d h => let ⟨v, h1, h2⟩ := h1.slot i d h; ⟨v, h1, h2.mono e' p'⟩⟩
  obtain ⟨z, hz, hz2⟩ := h4
  cases hz
  refine k _ _ μ' ρ' H' hq s2 ((p1.trans h2).trans p') ((e1.trans h3).trans e') ⟨x, rfl, ?_⟩
  obtain ⟨m, rfl⟩ := p'
  rw [List.getElem?_append_left (List.getElem?_eq_some_iff.mp hz2).1]
  exact hz2
theorem xx_make {CX : CXT} (M : MkT X.K c C f) (F : FnOk X.prog X.w X.K X.mg X.base CX k f fd ps (spG X.K Φ)) (hr : Room (k + 1) X.A) (hm : X.mg x = some (.ref C)) (hb : Binds X.K fd ps []) (hx : Passes CX X E) (ha : AXX X (e :: es) a) (hg : Gl X x := by rfl)
    (hdb : (x == ("__debug__" : Str)) = false := by decide) (he : starEach (e :: es) X.env = (false, eval e X.env) :: starEach es X.env := by rfl) (hpl : (backTo pos (starEach es X.env)).any (·.1) = false := by rfl) : XX X (.Call (.Name x p) (e :: es) [] pos) (xMake c Φ a) :=
  PE.imp (pe_make M.made F hr hg hm hb .nil hx ha hdb he hpl) fun σ H R ⟨G, B, ρ0, env, μ, ρ, Q, s, q, kk⟩ => by
    refine ⟨G, B, ρ0, env, μ, ρ, _, s, q, fun ds vs μ1 ρ1 H1 q1 s1 p1 e1 r1 => ?_⟩
    have h := make_rd (E := E) M q1 s1 p1 e1 r1 kk
    intro x dx nx ndx nex
    rw [List.append_nil]
    exact h x dx nx ndx nex
theorem xx_make0 {CX : CXT} (M : MkT X.K c C f) (F : FnOk X.prog X.w X.K X.mg X.base CX k f fd ps (spG X.K Φ)) (hr : Room (k + 1) X.A) (hm : X.mg x = some (.ref C)) (hb : Binds X.K fd ps []) (hx : Passes CX X E) (hg : Gl X x := by rfl)
    (hdb : (x == ("__debug__" : Str)) = false := by decide) : XX X (.Call (.Name x p) [] [] pos) (xMake c Φ axNil) :=
  PE.imp (pe_make0 M.made F hr hg hm hb .nil hx hdb) fun σ H R ⟨G, B, ρ0, env, μ, ρ, Q, s, q, kk⟩ => by
    intro x dx nx ndx nex
    refine make_rd (vs := []) M q s (List.prefix_refl _) (Same.refl _) .nil kk x dx nx ndx nex
end
/-! methods: the def by the receiver's class -/
structure MethE (P : Program) (w : World) (K : PySem.W.Frag) (mg : Str → Option Value) (base : Heap) (CX : CXT) (k : Nat) (m : Str) (c : Str) (Φ : DFn) : Prop where
  ex : ∃ C f fd ps, PySem.W.nsIn K mainGlobals c = some (some (.ref C)) ∧ Cls K C ∧ Meth K C m f ∧ FnOk P w K mg base CX k f fd ps (spG K Φ) ∧ Binds K fd ps []
def MethT (P : Program) (w : World) (K : PySem.W.Frag) (mg : Str → Option Value) (base : Heap) (CX : CXT) (k : Nat) (m : Str) (tb : List (Str × DFn)) : Prop := ∀ z ∈ tb, MethE P w K mg base CX k m z.1 z.2
section
variable {P : Program} {w : World} {K : PySem.W.Frag} {mg : Str → Option Value} {base : Heap} {CX : CXT} {k j : Nat} {m c : Str} {Φ : DFn} {tb : List (Str × DFn)} {C f : Addr} {fd : FuncData} {ps : List Str}
theorem methT_nil : MethT P w K mg base CX k m [] := fun _ h => nomatch h
theorem methT_cons (n : PySem.W.nsIn K mainGlobals c = some (some (.ref C))) (cl : Cls K C) (hm : Meth K C m f) (F : FnOk P w K mg base CX j f fd ps (spG K Φ)) (hj : j ≤ k) (b : Binds K fd ps []) (r : MethT P w K mg base CX k m tb) : MethT P w K mg base CX k m ((c, Φ) :: tb) := fun z h => by
  rcases List.mem_cons.mp h with rfl | h
  · exact ⟨C, f, fd, ps, n, cl, hm, F.mono hj, b⟩
  · exact r z h
end
/-- the def of a class's method -/
def methK (tb : List (Str × DFn)) (m : Str) (o : Option MO) (Q : DFn → Prop) : Prop := ∃ c fs Φ, o = some (.ins c fs) ∧ fs.lookup m = none ∧ (c, Φ) ∈ tb ∧ Q Φ
def xMeth (tb : List (Str × DFn)) (m : Str) (o : DX) (a : DAX) : DX := fun env μ Q => o env μ fun d μ1 => ∃ n, d = .loc n ∧ methK tb m μ1[n]? fun Φ => a env μ1 fun ds μ2 => Φ (.loc n :: ds) μ2 Q
/-- o.m(..) of an instance whose class is one of several -/
def tMethP (K : PySem.W.Frag) (tb : List (Str × DFn)) (m : Str) (E : XK) (ta : TE) (t : TA) : TE := fun σ H Q => ta σ H fun x H1 => ∃ a c C dx fs Φ, (c, Φ) ∈ tb ∧ PySem.W.nsIn K mainGlobals c = some (some (.ref C)) ∧ x = .ref a ∧ H1 a = some (.ins C dx fs) ∧ fs.lookup m = none ∧
  t σ H1 fun vs H2 => spG K Φ (x :: vs) H2 Q E
section
variable {X : Cx} {CX : CXT} {k : Nat} {tb : List (Str × DFn)} {m : Str} {E : XK} {o e : Expr} {es : List Expr} {ta : TE} {t : TA} {pos apos : Pos}
theorem pe_methP {pl : Sem Bool} (he : PE X o ta) (T : MethT X.prog X.w X.K X.mg X.base CX k m tb) (hr : Room k X.A) (hx : Passes CX X E) (ha : PA X (e :: es) t)
    (hst : starEach (e :: es) X.env = (false, eval e X.env) :: starEach es X.env := by rfl) (hpl : (backTo pos (starEach es X.env)).any (·.1) = false := by rfl)
    (ht : eval (.Call (.Attribute o m apos) (e :: es) [] pos) X.env = (do
      let ov ← eval o X.env
      standAt apos.atName
      let (f, first) ← holding [ov] (getMethod ov m pl)
      callWith pos f first (backTo pos (starEach (e :: es) X.env)) (backToKw pos (keywordEach [] X.env))) := by rfl) :
    PE X (.Call (.Attribute o m apos) (e :: es) [] pos) (tMethP X.K tb m E ta t) := by
  refine ⟨fun pins s σ H Q I h => ?_⟩
  refine PySem.W.methodCall_KW (pl := pl) (thn (he.run pins s σ H _ I h) fun u s1 ⟨x, H1, I1, rx, a, c, C, dx, fs, Φ, hT, hn, ex, ea, l, q⟩ => ?_) ht
  subst ex
  obtain ⟨C', f, fd, ps, hn', cl, hm, F, hb⟩ := (T _ hT).ex
  rw [hn] at hn'
  cases hn'
  obtain rfl : u = Value.ref a := rx
  refine getmeth_ok I1 ea cl hm l ?_
  refine PySem.W.callWith_K (first := [.ref a]) (h₀ := X.base) I.ok.mod.kin hm.kp (thn (ha.run pos pins s1 σ H1 _ I1 q) fun us s2 ⟨vs, H2, I2, r, q2⟩ => ⟨I2.kIn, ?_⟩) hst hpl
  exact run_fn (uu := .ref a :: us) (xs := .ref a :: vs) F hr hb .nil hx I2 (.cons rfl r) (by rw [List.append_nil]; exact q2)
theorem pe_methP0 {pl : Sem Bool} (he : PE X o ta) (T : MethT X.prog X.w X.K X.mg X.base CX k m tb) (hr : Room k X.A) (hx : Passes CX X E)
    (ht : eval (.Call (.Attribute o m apos) [] [] pos) X.env = (do
      let ov ← eval o X.env
      standAt apos.atName
      let (f, first) ← holding [ov] (getMethod ov m pl)
      callWith pos f first (backTo pos (starEach [] X.env)) (backToKw pos (keywordEach [] X.env))) := by rfl) :
    PE X (.Call (.Attribute o m apos) [] [] pos) (tMethP X.K tb m E ta tNil) := by
  refine ⟨fun pins s σ H Q I h => ?_⟩
  refine PySem.W.methodCall_KW (pl := pl) (thn (he.run pins s σ H _ I h) fun u s1 ⟨x, H1, I1, rx, a, c, C, dx, fs, Φ, hT, hn, ex, ea, l, q⟩ => ?_) ht
  subst ex
  obtain ⟨C', f, fd, ps, hn', cl, hm, F, hb⟩ := (T _ hT).ex
  rw [hn] at hn'
  cases hn'
  obtain rfl : u = Value.ref a := rx
  refine getmeth_ok I1 ea cl hm l ?_
  exact PySem.W.callWith_K0 (first := [.ref a]) I1.kIn hm.kp (run_fn (uu := [.ref a]) (xs := [.ref a]) F hr hb .nil hx I1 (.cons rfl .nil) q)
theorem meth_rd {p : DX} {a : DAX} {σ : L2.St} {H : Hp} {R : VK} {E : XK} {ta : TA} (h : txOf X.K (xMeth tb m p a) σ H R) (hta : ∀ σ H R, taxOf X.K a σ H R → ta σ H R) : tMethP X.K tb m E (txOf X.K p) ta σ H R := by
  obtain ⟨G, B, ρ0, env, μ, ρ, Q, s, q, k⟩ := h
  refine ⟨G, B, ρ0, env, μ, ρ, _, s, q, fun d v μ1 ρ1 H1 q1 s1 p1 e1 r1 => ?_⟩
  obtain ⟨n, rfl, c, fs, Φ, h1, h2, h3, q1⟩ := q1
  obtain ⟨b, rfl, hb⟩ := r1
  obtain ⟨C, dx, ws, h4, h5, h6⟩ := s1.sh.sto n _ b h1 hb
  refine ⟨b, c, C, dx, ws, Φ, h3, h4, rfl, h5, (look_pair (f := m) h6).1 h2, hta _ _ _ ⟨G, B, ρ0, env, μ1, ρ1, _, s1, q1, fun ds vs μ2 ρ2 H2 q2 s2 p2 e2 r2 => ?_⟩⟩
  refine spG_call (ρ := ρ) q2 s2 (p1.trans p2) (e1.trans e2) (.cons ⟨b, rfl, ?_⟩ r2) k
  obtain ⟨m, rfl⟩ := p2
  rw [List.getElem?_append_left (List.getElem?_eq_some_iff.mp hb).1]
  exact hb
theorem xx_meth {pl : Sem Bool} {p : DX} {a : DAX} (he : XX X o p) (T : MethT X.prog X.w X.K X.mg X.base CX k m tb) (hr : Room k X.A) (hx : Passes CX X E) (ha : AXX X (e :: es) a)
    (hst : starEach (e :: es) X.env = (false, eval e X.env) :: starEach es X.env := by rfl) (hpl : (backTo pos (starEach es X.env)).any (·.1) = false := by rfl)
    (ht : eval (.Call (.Attribute o m apos) (e :: es) [] pos) X.env = (do
      let ov ← eval o X.env
      standAt apos.atName
      let (f, first) ← holding [ov] (getMethod ov m pl)
      callWith pos f first (backTo pos (starEach (e :: es) X.env)) (backToKw pos (keywordEach [] X.env))) := by rfl) :
    XX X (.Call (.Attribute o m apos) (e :: es) [] pos) (xMeth tb m p a) :=
  PE.imp (pe_methP (pl := pl) he T hr hx ha hst hpl ht) fun σ H R h => meth_rd h fun _ _ _ z => z
theorem xx_meth0 {pl : Sem Bool} {p : DX} (he : XX X o p) (T : MethT X.prog X.w X.K X.mg X.base CX k m tb) (hr : Room k X.A) (hx : Passes CX X E)
    (ht : eval (.Call (.Attribute o m apos) [] [] pos) X.env = (do
      let ov ← eval o X.env
      standAt apos.atName
      let (f, first) ← holding [ov] (getMethod ov m pl)
      callWith pos f first (backTo pos (starEach [] X.env)) (backToKw pos (keywordEach [] X.env))) := by rfl) :
    XX X (.Call (.Attribute o m apos) [] [] pos) (xMeth tb m p axNil) :=
  PE.imp (pe_methP0 (pl := pl) he T hr hx ht) fun σ H R h => meth_rd (ta := tNil) h fun σ H R ⟨G, B, ρ0, env, μ, ρ, Q, s, q, k⟩ => k [] [] μ ρ H q s (List.prefix_refl _) (Same.refl _) .nil
end
end Gw
/-! Gw, part Z: list(zip(a, b)) of two lists. -/
namespace GwZ
open PySem PySem.Spec PyProof.Rows L2
theorem zip_no_len : typeLookup (.type "zip") "__len__" = pure none := am_miss_of_fast (by decide +kernel)
theorem zip_no_hint : typeLookup (.type "zip") "__length_hint__" = pure none := am_miss_of_fast (by decide +kernel)
section
variable {prog : Program} {w : World} {A : Around} {R : Result → Shared → Prop}
/-- the list's items at the i-th turn: the tuples that were laid from b0 on -/
def refsN (b0 i : Nat) : Array Value := ((List.range i).map fun j => Value.ref (b0 + j)).toArray
theorem refsN_push (b0 i : Nat) : (refsN b0 i).push (.ref (b0 + i)) = refsN b0 (i + 1) := by
  unfold refsN
  rw [List.range_succ, List.map_append]
  simp
theorem refsN_size (b0 i : Nat) : (refsN b0 i).size = i := by simp [refsN]
structure ZAp (S b0 z TI TO i1 i2 l1 l2 : Addr) : Prop where
  ap : ZipApart z TI TO i1 i2 l1 l2
  Sz : S ≠ z
  STI : S ≠ TI
  STO : S ≠ TO
  Si1 : S ≠ i1
  Si2 : S ≠ i2
  Sl1 : S ≠ l1
  Sl2 : S ≠ l2
  lS : S < b0
  lz : z < b0
  lTO : TO < b0
  li1 : i1 < b0
  li2 : i2 < b0
/-- where the zip stands behind i turns -/
structure ZAt (b0 z TI TO i1 i2 l1 l2 : Addr) (xs ys : Array Value) (i : Nat) (h : Heap) : Prop where
  pr : IsPair h TI (.ref i1) (.ref i2)
  p1 : h.IsListIter i1 l1 i
  p2 : h.IsListIter i2 l2 i
  q1 : h.IsList l1 xs
  q2 : h.IsList l2 ys
  sz : h.objs.size = b0 + i
  out : ∀ j, j < i → ∃ x y, xs[j]? = some x ∧ ys[j]? = some y ∧ IsPair h (b0 + j) x y
  own : (i = 0 ∧ IsZip h z TI TO .none ∧ ∃ a b, IsPair h TO a b) ∨ ∃ m f, m < i ∧ IsZipHeld h z TI TO (b0 + m) f
variable {S b0 z TI TO i1 i2 l1 l2 : Addr} {xs ys : Array Value}
/-- what was there and is no part of the walk -/
def Keeps (S z TO i1 i2 : Addr) (h h' : Heap) : Prop := ∀ c o, c ≠ S → c ≠ z → c ≠ TO → c ≠ i1 → c ≠ i2 → h.get? c = some o → h'.get? c = some o
theorem zat_turn (D : ZAp S b0 z TI TO i1 i2 l1 l2) {i : Nat} {h h' : Heap} (Z : ZAt b0 z TI TO i1 i2 l1 l2 xs ys i h) {x y : Value} (hx : xs[i]? = some x) (hy : ys[i]? = some y) {f : Bool} {m : Nat} (hm : m < i + 1) (a1 : IsZipHeld h' z TI TO (b0 + m) f) (a3 : h'.IsListIter i1 l1 (i + 1)) (a4 : h'.IsListIter i2 l2 (i + 1))
    (a5 : IsPair h' (b0 + i) x y) (a6 : h'.objs.size = b0 + i + 1) (a7 : ∀ c o, c ≠ z → c ≠ TO → c ≠ i1 → c ≠ i2 → h.get? c = some o → h'.get? c = some o) : ZAt b0 z TI TO i1 i2 l1 l2 xs ys (i + 1) h' := by
  have d := D.ap
  refine ⟨a7 _ _ d.TIz d.TITO d.TIi1 d.TIi2 Z.pr, a3, a4, Z.q1.at fun o e => a7 _ o d.l1z d.l1TO d.l1i1 d.l1i2 e, Z.q2.at fun o e => a7 _ o d.l2z d.l2TO d.l2i1 d.l2i2 e, a6, fun j hj => ?_, .inr ⟨m, f, hm, a1⟩⟩
  by_cases hji : j = i
  · rw [hji]
    exact ⟨x, y, hx, hy, a5⟩
  · obtain ⟨u, v, e1, e2, e3⟩ := Z.out j (by omega)
    have g : ∀ q : Addr, q < b0 → b0 + j ≠ q := fun q hq z => absurd (z ▸ hq : b0 + j < b0) (Nat.not_lt.mpr (Nat.le_add_right _ _))
    exact ⟨u, v, e1, e2, a7 _ _ (g _ D.lz) (g _ D.lTO) (g _ D.li1) (g _ D.li2) e3⟩
theorem zat_upd (D : ZAp S b0 z TI TO i1 i2 l1 l2) {i : Nat} {h h' : Heap} (Z : ZAt b0 z TI TO i1 i2 l1 l2 xs ys i h) (hs : h'.objs.size = h.objs.size) (k : ∀ c o, c ≠ S → h.get? c = some o → h'.get? c = some o) : ZAt b0 z TI TO i1 i2 l1 l2 xs ys i h' := by
  have g : ∀ j : Nat, b0 + j ≠ S := fun j z => absurd (z ▸ D.lS : b0 + j < b0) (Nat.not_lt.mpr (Nat.le_add_right _ _))
  refine ⟨k _ _ D.STI.symm Z.pr, Z.p1.at fun o e => k _ o D.Si1.symm e, Z.p2.at fun o e => k _ o D.Si2.symm e, Z.q1.at fun o e => k _ o D.Sl1.symm e, Z.q2.at fun o e => k _ o D.Sl2.symm e, hs.trans Z.sz, fun j hj => ?_, ?_⟩
  · obtain ⟨u, v, e1, e2, e3⟩ := Z.out j hj
    exact ⟨u, v, e1, e2, k _ _ (g j) e3⟩
  · rcases Z.own with ⟨e, h1, a, b, h2⟩ | ⟨m, f, e, h1⟩
    · exact .inl ⟨e, k _ _ D.Sz.symm h1, a, b, k _ _ D.STO.symm h2⟩
    · exact .inr ⟨m, f, e, k _ _ D.Sz.symm h1⟩
/-- the items are drawn one by one -/
theorem ext_zip (hh : A.in1.handled = none) (D : ZAp S b0 z TI TO i1 i2 l1 l2) {n : Nat} (hn : n = min xs.size ys.size) (hz : n ≤ sizeLine) (res : Value) : ∀ (k i : Nat) (s : Shared) (c : Nat), n - i = k → i ≤ n → ZAt b0 z TI TO i1 i2 l1 l2 xs ys i s.heap →
    s.heap.get? S = some { cls := .type "list", dict := none, data := .seq (refsN b0 i) c, slots := #[] } →
    (∀ (h' : Heap) (c' : Nat), Keeps S z TO i1 i2 s.heap h' → h'.get? S = some { cls := .type "list", dict := none, data := .seq (refsN b0 n) c', slots := #[] } → (∀ j, j < n → ∃ x y, xs[j]? = some x ∧ ys[j]? = some y ∧ IsPair h' (b0 + j) x y) → R (.ok (.ret res)) { s with heap := h' }) →
    codeAny (model prog w) A (.builtin "list.extend.loop" ⟨[.ref S, .ref z, res], []⟩) R s := by
  have d := D.ap
  intro k
  induction k with
  | zero =>
    intro i s c hk hi Z hS hR
    have e : i = n := by omega
    subst e
    have he : xs[i]? = none ∨ ys[i]? = none := by
      by_cases q : xs.size ≤ ys.size
      · exact .inl (Array.getElem?_eq_none (by omega))
      · exact .inr (Array.getElem?_eq_none (by omega))
    refine codeAny_builtin PySem.F.entry_extend_loop ?_
    rw [Around.under_plainId PySem.F.plain_extend_loop _]
    have fin : ∀ h', (∀ c o, c ≠ z → c ≠ TO → c ≠ i1 → c ≠ i2 → s.heap.get? c = some o → h'.get? c = some o) → R (.ok (.ret res)) { s with heap := h' } := fun h' k => by
      have g : ∀ (j : Nat) (q : Addr), q < b0 → b0 + j ≠ q := fun j q hq z => absurd (z ▸ hq : b0 + j < b0) (Nat.not_lt.mpr (Nat.le_add_right _ _))
      refine hR h' c (fun c o _ a b c' d' => k c o a b c' d') (k _ _ D.Sz D.STO D.Si1 D.Si2 hS) fun j hj => ?_
      obtain ⟨u, v, e1, e2, e3⟩ := Z.out j hj
      exact ⟨u, v, e1, e2, k _ _ (g j _ D.lz) (g j _ D.lTO) (g j _ D.li1) (g j _ D.li2) e3⟩
    show wpAny _ A.in1 (pyNext (.ref z) >>= _) _ _ s
    refine wpAny_bind ?_
    rcases Z.own with ⟨_, h1, a, b, h2⟩ | ⟨m, f, em, h1⟩
    · exact wpAny_pyNext_zip_end hh d h1 Z.pr h2 Z.p1 Z.p2 Z.q1 Z.q2 he fun h' k => wpAny_pure (fin h' k)
    · obtain ⟨u, v, _, _, e3⟩ := Z.out m (by omega)
      exact wpAny_pyNext_zip_end_held hh d h1 e3 Z.pr Z.p1 Z.p2 Z.q1 Z.q2 he fun h' k => wpAny_pure (fin h' fun c o c1 _ c3 c4 => k c o c1 c3 c4)
  | succ k ih =>
    intro i s c hk hi Z hS hR
    have lx : i < xs.size := by omega
    have ly : i < ys.size := by omega
    have hx : xs[i]? = some xs[i] := Array.getElem?_eq_getElem lx
    have hy : ys[i]? = some ys[i] := Array.getElem?_eq_getElem ly
    refine codeAny_builtin PySem.F.entry_extend_loop ?_
    rw [Around.under_plainId PySem.F.plain_extend_loop _]
    show wpAny _ A.in1 (pyNext (.ref z) >>= _) _ _ s
    have on : ∀ (h' : Heap) (f : Bool) (m : Nat), m < i + 1 → IsZipHeld h' z TI TO (b0 + m) f → h'.IsListIter i1 l1 (i + 1) → h'.IsListIter i2 l2 (i + 1) → IsPair h' (b0 + i) xs[i] ys[i] → h'.objs.size = b0 + i + 1 → (∀ c o, c ≠ z → c ≠ TO → c ≠ i1 → c ≠ i2 → s.heap.get? c = some o → h'.get? c = some o) →
        wpAny (model prog w) A.in1 (updateSeq S (·.push (.ref (b0 + i))) >>= fun _ => pure (Fin.again (.builtin "list.extend.loop" ⟨[.ref S, .ref z, res], []⟩)))
          (fun fin s' => match fin with | .done f => R (.ok f) s' | .again c' => c'.quiet = true ∧ codeAny (model prog w) A c' R s') (fun e s' => R (.error e) s') { s with heap := h' } := fun h' f m hm a1 a3 a4 a5 a6 a7 => by
      have hS' : h'.get? S = _ := a7 _ _ D.Sz D.STO D.Si1 D.Si2 hS
      have Z1 := zat_turn D Z hx hy hm a1 a3 a4 a5 a6 a7
      refine wpAny_bind (wpAny_updateSeq (s := { s with heap := h' }) hS' rfl ?_ (by rw [refsN_size]; omega) (by show ((refsN b0 i).push _).size ≤ sizeLine + 1; rw [Array.size_push, refsN_size]; omega))
      have oth : ∀ c o, c ≠ S → h'.get? c = some o → (h'.update S (Obj.mapSeq (·.push (.ref (b0 + i))))).get? c = some o := fun c o hc e => (Heap.get?_update_other _ _ (Ne.symm hc)).trans e
      have own := Heap.get?_update_self (Obj.mapSeq (·.push (Value.ref (b0 + i)))) hS' rfl
      refine wpAny_pure ⟨plainId_quiet PySem.F.plain_extend_loop _, ih (i + 1) _ _ (by omega) (by omega) (zat_upd D Z1 (Heap.size_update ..) oth) (by rw [← refsN_push]; exact own) fun h2 c2 k2 hS2 o2 => hR h2 c2 (fun c o b1 b2 b3 b4 b5 e => k2 c o b1 b2 b3 b4 b5 (oth c o b1 (a7 c o b2 b3 b4 b5 e))) hS2 o2⟩
    refine wpAny_bind ?_
    rcases Z.own with ⟨e0, h1, a, b, h2⟩ | ⟨m, f, em, h1⟩
    · have hb : s.heap.objs.size = b0 + i := Z.sz
      refine wpAny_pyNext_zip_item d h1 Z.pr h2 Z.p1 Z.p2 Z.q1 Z.q2 hx hy fun h' a1 a2 a3 a4 a5 a6 a7 => ?_
      rw [hb] at a1 a5 a6 ⊢
      exact on h' false i (Nat.lt_succ_self _) a1 a3 a4 a5 a6 a7
    · obtain ⟨u, v, _, _, e3⟩ := Z.out m (by omega)
      have hb : s.heap.objs.size = b0 + i := Z.sz
      refine wpAny_pyNext_zip_item_held d h1 e3 Z.pr Z.p1 Z.p2 Z.q1 Z.q2 hx hy fun h' a1 a3 a4 a5 a6 a7 => ?_
      rw [hb] at a5 a6 ⊢
      exact on h' true m (by omega) a1 a3 a4 a5 a6 fun c o c1 _ c3 c4 => a7 c o c1 c3 c4
/-- list(z) of a zip that nobody has drawn from -/
theorem list_zip {Q : Value → Shared → Prop} {E : Value → Shared → Prop} {s : Shared} (hh : A.handled = none) (d : ZipApart z TI TO i1 i2 l1 l2) {n : Nat} (hn : n = min xs.size ys.size) (hz : n ≤ sizeLine) (h0 : IsZip s.heap z TI TO .none) (h1 : IsPair s.heap TI (.ref i1) (.ref i2)) (h2 : ∃ a b, IsPair s.heap TO a b)
    (p1 : s.heap.IsListIter i1 l1 0) (p2 : s.heap.IsListIter i2 l2 0) (q1 : s.heap.IsList l1 xs) (q2 : s.heap.IsList l2 ys)
    (hQ : ∀ (h' : Heap) (c' : Nat), (∀ c o, c ≠ z → c ≠ TO → c ≠ i1 → c ≠ i2 → s.heap.get? c = some o → h'.get? c = some o) → h'.get? s.heap.objs.size = some { cls := .type "list", dict := none, data := .seq (refsN (s.heap.objs.size + 1) n) c', slots := #[] } →
      (∀ j, j < n → ∃ x y, xs[j]? = some x ∧ ys[j]? = some y ∧ IsPair h' (s.heap.objs.size + 1 + j) x y) → Q (.ref s.heap.objs.size) { s with heap := h' }) : wpAny (model prog w) A (call (.type "list") [.ref z]) Q E s := by
  obtain ⟨ta, tb, h2⟩ := h2
  have lz : z < s.heap.objs.size := Heap.lt_size h0
  have lTI : TI < s.heap.objs.size := Heap.lt_size h1
  have lTO : TO < s.heap.objs.size := Heap.lt_size h2
  have li1 : i1 < s.heap.objs.size := by obtain ⟨_, e, _⟩ := p1; exact Heap.lt_size e
  have li2 : i2 < s.heap.objs.size := by obtain ⟨_, e, _⟩ := p2; exact Heap.lt_size e
  have ll1 : l1 < s.heap.objs.size := by obtain ⟨_, e, _⟩ := q1; exact Heap.lt_size e
  have ll2 : l2 < s.heap.objs.size := by obtain ⟨_, e, _⟩ := q2; exact Heap.lt_size e
  have up : ∀ {q : Addr}, q < s.heap.objs.size → q < s.heap.objs.size + 1 := fun h => Nat.lt_succ_of_lt h
  have D : ZAp s.heap.objs.size (s.heap.objs.size + 1) z TI TO i1 i2 l1 l2 := ⟨d, Nat.ne_of_gt lz, Nat.ne_of_gt lTI, Nat.ne_of_gt lTO, Nat.ne_of_gt li1, Nat.ne_of_gt li2, Nat.ne_of_gt ll1, Nat.ne_of_gt ll2, Nat.lt_succ_self _, up lz, up lTO, up li1, up li2⟩
  have new : (s.heap.push { cls := .type "list", data := .seq #[] }).get? s.heap.objs.size = some { cls := .type "list", data := .seq #[] } := Heap.get?_push_size _ rfl
  have Z0 : ZAt (s.heap.objs.size + 1) z TI TO i1 i2 l1 l2 xs ys 0 (s.heap.push { cls := .type "list", data := .seq #[] }) := ⟨Heap.get?_push_of_some _ h1, p1.at fun o e => Heap.get?_push_of_some _ e, p2.at fun o e => Heap.get?_push_of_some _ e, q1.at fun o e => Heap.get?_push_of_some _ e, q2.at fun o e => Heap.get?_push_of_some _ e, Heap.size_push .., fun j hj => absurd hj (Nat.not_lt_zero _), .inl ⟨rfl, Heap.get?_push_of_some _ h0, ta, tb, Heap.get?_push_of_some _ h2⟩⟩
  refine callType_codes (Q₁ := fun v t => v = .ref s.heap.objs.size ∧ t = { s with heap := s.heap.push { cls := .type "list", data := .seq #[] } }) PySem.F.called_list (PySem.F.typeCall_list_1 _) PySem.F.entry_list_init (code_list_new _ ⟨rfl, rfl⟩) fun v t ht => ?_
  obtain ⟨rfl, rfl⟩ := ht
  refine ⟨⟨_, new, rfl⟩, PySem.F.args_list_init_2 _ _, ?_⟩
  have o0 : ∀ c o, s.heap.get? c = some o → c ≠ s.heap.objs.size ∧ (s.heap.push { cls := .type "list", data := .seq #[] }).get? c = some o := fun c o e => ⟨Nat.ne_of_lt (Heap.lt_size e), Heap.get?_push_of_some _ e⟩
  generalize s.heap.push { cls := .type "list", data := .seq #[] } = g at new Z0 o0
  show wpAny _ _ (do let old ← Builtin.List.listItems (.ref s.heap.objs.size); Builtin.List.listUpdate (.ref s.heap.objs.size) (fun _ => #[]); letGo old.toList.reverse; Builtin.List.listExtendWith (.ref s.heap.objs.size) (.ref z) .none) _ _ _
  refine wpAny_bind ?_
  unfold Builtin.List.listItems
  refine wpAny_bind (wpAny_seqItems new rfl (wpAny_pure ?_))
  show wpAny _ _ (updateSeq s.heap.objs.size (fun _ => #[]) >>= fun _ => letGo (#[] : Array Value).toList.reverse >>= fun _ => Builtin.List.listExtendWith (.ref s.heap.objs.size) (.ref z) .none) _ _ _
  refine wpAny_bind (wpAny_updateSeq (s := { s with heap := g }) new rfl ?_)
  have o1 : ∀ c o, c ≠ s.heap.objs.size → g.get? c = some o → (g.update s.heap.objs.size (Obj.mapSeq (fun _ => (#[] : Array Value)))).get? c = some o := fun c o hc e => (Heap.get?_update_other _ _ (Ne.symm hc)).trans e
  have n1 := Heap.get?_update_self (Obj.mapSeq (fun _ => (#[] : Array Value))) new rfl
  have Z1 := zat_upd D Z0 (Heap.size_update ..) o1
  refine wpAny_bind (wpAny_letGo ?_)
  generalize g.update s.heap.objs.size (Obj.mapSeq (fun _ => (#[] : Array Value))) = g1 at o1 n1 Z1
  have zT : g1.get? z = some { cls := .type "zip", dict := none, data := .fields #[.none, .bool false, .bool false, .ref TI, .ref TO], slots := #[] } := by
    rcases Z1.own with ⟨_, h, _⟩ | ⟨m, f, hm, _⟩
    · exact h
    · exact absurd hm (Nat.not_lt_zero _)
  have hT : Shared.TypeIs { s with heap := g1 } (.ref z) "zip" := ⟨_, zT, rfl⟩
  unfold Builtin.List.listExtendWith
  refine wpAny_bind (wpAny_typeOf hT ?_)
  have e1 : Builtin.List.listSameRef (.ref s.heap.objs.size) (.ref z) = false := by simp [Builtin.List.listSameRef, Nat.ne_of_gt lz]
  have e2 : (Value.type "zip" == Value.type "list") = false := by decide
  have e3 : (Value.type "zip" == Value.type "tuple") = false := by decide
  simp only [e1, e2, e3, Bool.or_false, Bool.false_eq_true, if_false]
  refine wpAny_bind (wpAny_pyIter_zip (s := { s with heap := g1 }) zT ?_)
  refine wpAny_bind (wpAny_holding ?_)
  unfold Builtin.List.listLengthHint
  refine wpAny_bind (wpAny_specialOf hT zip_no_len ?_)
  show wpAny _ _ (specialOf (Value.ref z) (Str.ofString "__length_hint__") >>= _) _ _ _
  refine wpAny_bind (wpAny_specialOf hT zip_no_hint ?_)
  refine wpAny_pure ?_
  show wpAny _ _ (rule "list.extend.makes-room" >>= fun _ => Builtin.List.listTouch (.ref s.heap.objs.size) >>= fun _ => again (.builtin "list.extend.loop" ⟨[.ref s.heap.objs.size, .ref z, .none], []⟩)) _ _ _
  refine wpAny_bind (wpAny_rule ?_)
  refine wpAny_bind ?_
  show wpAny _ _ (updateSeq s.heap.objs.size (·.push .none) >>= fun _ => updateSeq s.heap.objs.size (·.pop)) _ _ _
  refine wpAny_bind (wpAny_updateSeq (s := { s with heap := g1 }) n1 rfl ?_)
  have n2 := Heap.get?_update_self (Obj.mapSeq (·.push Value.none)) n1 rfl
  have o2 : ∀ c o, c ≠ s.heap.objs.size → g1.get? c = some o → (g1.update s.heap.objs.size (Obj.mapSeq (·.push Value.none))).get? c = some o := fun c o hc e => (Heap.get?_update_other _ _ (Ne.symm hc)).trans e
  have Z2 := zat_upd D Z1 (Heap.size_update ..) o2
  generalize g1.update s.heap.objs.size (Obj.mapSeq (·.push Value.none)) = g2 at o2 n2 Z2
  refine wpAny_updateSeq (s := { s with heap := g2 }) (hz := by seq_fits) n2 rfl ?_
  have n3 := Heap.get?_update_self (Obj.mapSeq (·.pop)) n2 rfl
  have o3 : ∀ c o, c ≠ s.heap.objs.size → g2.get? c = some o → (g2.update s.heap.objs.size (Obj.mapSeq (·.pop))).get? c = some o := fun c o hc e => (Heap.get?_update_other _ _ (Ne.symm hc)).trans e
  have Z3 := zat_upd D Z2 (Heap.size_update ..) o3
  refine wpAny_pure ⟨plainId_quiet PySem.F.plain_extend_loop _, ext_zip (by exact hh) D hn hz .none n 0 _ _ rfl (Nat.zero_le _) Z3 n3 fun h' c' kp hS out => ⟨rfl, hQ h' c' (fun c o a1 a2 a3 a4 e => ?_) hS out⟩⟩
  obtain ⟨ne, e⟩ := o0 c o e
  exact kp c o ne a1 a2 a3 a4 (o3 c o ne (o2 c o ne (o1 c o ne e)))
end
/-! ### over the layer -/
/-- the tuples tracked at their addresses -/
def putP : Hp → List Addr → List (V × V) → Hp
  | H, a :: as, p :: ps => putP (upd H a (.tup [p.1, p.2])) as ps
  | H, _, _ => H
theorem putP_off {b : Addr} : ∀ (as : List Addr) (ps : List (V × V)) (H : Hp), b ∉ as → putP H as ps b = H b
  | [], _, _, _ => rfl
  | _ :: _, [], _, _ => rfl
  | a :: as, p :: ps, H, h => by
    unfold putP
    rw [putP_off as ps _ (fun z => h (List.mem_cons_of_mem _ z)), upd_ne (fun z => h (by rw [z]; exact List.mem_cons_self))]
theorem putP_at : ∀ (as : List Addr) (ps : List (V × V)) (H : Hp), as.length = ps.length → as.Nodup → Paired (fun (t : Addr) (p : V × V) => putP H as ps t = some (.tup [p.1, p.2])) as ps
  | [], [], _, _, _ => .nil
  | [], _ :: _, _, h, _ => by cases h
  | _ :: _, [], _, h, _ => by cases h
  | a :: as, p :: ps, H, h, hn => by
    have nd := List.nodup_cons.mp hn
    refine .cons ?_ (putP_at as ps (upd H a (.tup [p.1, p.2])) (Nat.succ.inj h) nd.2)
    unfold putP
    rw [putP_off as ps _ nd.1, upd_same]
def addrs (b0 n : Nat) : List Addr := (List.range n).map fun j => b0 + j
theorem pairs_laid {X : Cx} {pins : List (Addr × Obj)} {σ : L2.St} {H : Hp} {s : Shared} {h' : Heap} {tk : Nat} {ps : List (V × V)} {c n : Nat} {S : Addr} (I : Inv X pins σ H s) (hSz : s.heap.objs.size ≤ S) (hz : n ≤ sizeLine) (hl : ps.length = n)
    (hk : ∀ b o, s.heap.get? b = some o → h'.get? b = some o) (hS : h'.get? S = some { cls := .type "list", dict := none, data := .seq (refsN (S + 1) n) c, slots := #[] })
    (hp : ∀ (j : Nat) (p : V × V), ps[j]? = some p → ∃ x y, RelV p.1 x ∧ RelV p.2 y ∧ IsPair h' (S + 1 + j) x y) :
    ∃ (H' : Hp) (as : List Addr), (∀ b o, H b = some o → H' b = some o) ∧ H S = none ∧ (∀ t ∈ as, H t = none) ∧ S ∉ as ∧ H' S = some (.lst (as.map V.ref)) ∧ Paired (fun (t : Addr) (q : V × V) => H' t = some (.tup [q.1, q.2])) as ps ∧ Inv X pins σ H' { s with heap := h', toks := tk } := by
  have hal : (addrs (S + 1) n).length = n := by simp [addrs]
  have hmem : ∀ t ∈ addrs (S + 1) n, S < t := fun t ht => by
    obtain ⟨j, _, e⟩ := List.mem_map.mp ht
    rw [← e]
    exact Nat.lt_of_lt_of_le (Nat.lt_succ_self _) (Nat.le_add_right _ _)
  have hat : ∀ (j : Nat) (t : Addr), (addrs (S + 1) n)[j]? = some t → t = S + 1 + j := fun j t e => by
    unfold addrs at e
    rw [List.getElem?_map] at e
    obtain ⟨i, e1, e2⟩ := Option.map_eq_some_iff.mp e
    have := List.getElem?_eq_some_iff.mp e1
    obtain ⟨h1, h2⟩ := this
    rw [List.getElem_range] at h2
    rw [← e2, h2]
  have nd : (addrs (S + 1) n).Nodup := by
    unfold addrs
    exact List.Pairwise.map _ (fun a b (h : a ≠ b) e => h (Nat.add_left_cancel e)) List.nodup_range
  generalize hA : addrs (S + 1) n = as at hal hmem hat nd
  have hSn : S ∉ as := fun z => Nat.lt_irrefl _ (hmem _ z)
  have new : ∀ t ∈ as, H t = none := fun t ht => I.hok.fresh (Nat.le_trans hSz (Nat.le_of_lt (hmem t ht)))
  have newS : H S = none := I.hok.fresh hSz
  have atP := putP_at as ps (upd H S (.lst (as.map V.ref))) (by omega) nd
  have off : ∀ b, b ∉ as → b ≠ S → putP (upd H S (.lst (as.map V.ref))) as ps b = H b := fun b h1 h2 => by rw [putP_off as ps _ h1, upd_ne h2]
  have low : ∀ b o, s.heap.get? b = some o → b ∉ as ∧ b ≠ S := fun b o e => ⟨fun z => absurd (Heap.lt_size e) (Nat.not_lt.mpr (Nat.le_trans hSz (Nat.le_of_lt (hmem b z)))), Nat.ne_of_lt (Nat.lt_of_lt_of_le (Heap.lt_size e) hSz)⟩
  have kp : ∀ b u, H b = some u → (putP (upd H S (.lst (as.map V.ref))) as ps) b = some u := fun b u e => by
    rw [off b (fun z => by rw [new b z] at e; cases e) (fun z => by rw [z, newS] at e; cases e)]
    exact e
  have eS : putP (upd H S (.lst (as.map V.ref))) as ps S = some (.lst (as.map V.ref)) := by rw [putP_off as ps _ hSn, upd_same]
  refine ⟨putP (upd H S (.lst (as.map V.ref))) as ps, as, kp, newS, new, hSn, eS, atP, ?_⟩
  refine I.call' (ch := []) rfl ⟨fun b o q _ _ _ => hk b o q, fun b o q _ _ _ => ⟨o.slots, hk b o q⟩, fun b o q n _ => ?_, fun b o q _ => ⟨o, hk b o q⟩, fun b xs q => kp b _ q, fun b o u q => kp b _ q, fun b ps q => ⟨#[], by rw [kp b _ q]; simp⟩⟩ (fun b u q => ?_) I.bare fun b z => by simp at z
  · obtain ⟨z1, z2⟩ := low b o q
    rw [off b z1 z2]
    exact n
  · by_cases hb : b ∈ as
    · obtain ⟨j, pk, e1, e2, e3⟩ := LiI.paired_ix atP hb
      rw [e3] at q
      cases q
      obtain ⟨x, y, r1, r2, r3⟩ := hp j pk e2
      rw [← hat j b e1] at r3
      exact ⟨by show 2 ≤ sizeLine; decide, [x, y], .cons r1 (.cons r2 .nil), ⟨_, r3, rfl, _, rfl⟩⟩
    · by_cases hb2 : b = S
      · rw [hb2] at q ⊢
        rw [eS] at q
        cases q
        refine ⟨by rw [List.length_map]; omega, as.map Value.ref, c, LiI.vals_refs as, ?_⟩
        rw [hS, ← hA]
        unfold refsN addrs
        rw [List.map_map]
        rfl
      · rw [off b hb hb2] at q
        exact (I.hok b u q).stay (fun d v _ y => hk d v y) (fun d y => kp d _ y) fun d xs y => kp d _ y
def tLz (K : PySem.W.Frag) (ta : TA) : TE := fun σ H Q => ta σ H fun vs H1 => ∃ a b xs ys, vs = [.ref a, .ref b] ∧ SqL K H1 a xs ∧ SqL K H1 b ys ∧ min xs.length ys.length ≤ sizeLine ∧
  ∀ (H' : Hp) (p : Addr) (ts : List Addr), (∀ b o, H1 b = some o → H' b = some o) → H1 p = none → (∀ t ∈ ts, H1 t = none) → p ∉ ts → H' p = some (.lst (ts.map V.ref)) → Paired (fun (t : Addr) (q : V × V) => H' t = some (.tup [q.1, q.2])) ts (xs.zip ys) → Q (.ref p) H'
theorem rel_at : ∀ {xs : List V} {us : List Value} {j : Nat} {x : V}, Vals xs us → xs[j]? = some x → ∃ u, us[j]? = some u ∧ RelV x u
  | _, _, _, _, .nil, e => by simp at e
  | _, _, 0, _, .cons r _, e => by
    simp at e
    subst e
    exact ⟨_, rfl, r⟩
  | _, _, j + 1, x, .cons _ t, e => by
    obtain ⟨u, h1, h2⟩ := rel_at (j := j) (x := x) t (by simpa using e)
    exact ⟨u, by simpa using h1, h2⟩
theorem pe_listZip {X : Cx} {e e2 : Expr} {ta : TA} {p0 p pos pos2 : Pos} (hc : X.calm = true) (hg : Gl X "list") (hm : X.mg "list" = none) (hgz : Gl X "zip") (hmz : X.mg "zip" = none) (ha : PA X [e, e2] ta)
    (hs : starEach [e, e2] X.env = (false, eval e X.env) :: starEach [e2] X.env := by rfl) (hpl : (backTo pos2 (starEach [e2] X.env)).any (·.1) = false := by rfl)
    (hs0 : starEach [.Call (.Name "zip" p) [e, e2] [] pos2] X.env = (false, eval (.Call (.Name "zip" p) [e, e2] [] pos2) X.env) :: starEach [] X.env := by rfl) :
    PE X (.Call (.Name "list" p0) [.Call (.Name "zip" p) [e, e2] [] pos2] [] pos) (tLz X.K ta) := by
  refine ⟨fun pins s σ H R I h => ?_⟩
  refine wpAny_Call_Name_kw (ld_blt I hg hm boot_list ?_)
  refine PyProof.Rows.callWith_type1 ?_ hs0 rfl
  rw [hs0]
  show wpAny _ _ (spliced ((false, eval (.Call (.Name "zip" p) [e, e2] [] pos2) X.env) :: backTo pos (starEach [] X.env))) _ _ s
  refine Calls.spliced_cons ?_
  refine Call_ (ld_blt I hgz hmz PyProof.Rows.boot_zip (PyProof.Rows.callWith_type1 (thn (ha.run pos2 pins s σ H _ I h) fun us s1 ⟨vs, H1, I1, r1, q1⟩ => ?_) hs hpl))
  obtain ⟨a, b, xs, ys, ex, hqx, hqy, hmin, q⟩ := q1
  subst ex
  cases r1 with
  | cons r rr =>
    cases rr with
    | cons r' rr =>
      cases rr
      cases r
      cases r'
      obtain ⟨its, rv, p1, _⟩ := I1.list hqx
      obtain ⟨its2, rv2, p2, _⟩ := I1.list hqy
      have la : a < s1.heap.objs.size := p1.lt
      have lb : b < s1.heap.objs.size := p2.lt
      refine call_zip_2 p1.isList p2.isList fun h' hz hTI hTO h1 h2 hsz hk => ?_
      have I2 : Inv X pins σ H1 { s1 with heap := h' } := I1.kept (t' := s1.toks) hk
      refine Calls.spliced_nil ?_
      refine list_zip (n := min its.length its2.length) (I1.ok.hd hc) (PySem.W.ktu_apart s1.heap.objs.size a b la lb) (by simp) (by rw [← rv.length, ← rv2.length]; exact hmin) hz hTI ⟨_, _, hTO⟩ h1 h2 (p1.isList.at fun o e => hk _ o e) (p2.isList.at fun o e => hk _ o e) fun g c' kp hS out => ?_
      have lz : (xs.zip ys).length = min its.length its2.length := by rw [List.length_zip, rv.length, rv2.length]
      have kg : ∀ b o, s1.heap.get? b = some o → g.get? b = some o := fun b o e => by
        have lt := Heap.lt_size e
        have ne : ∀ k : Nat, b ≠ s1.heap.objs.size + k := fun k z => absurd (z ▸ lt : s1.heap.objs.size + k < s1.heap.objs.size) (Nat.not_lt.mpr (Nat.le_add_right _ _))
        exact kp b o (ne 4) (ne 3) (ne 0) (ne 1) (hk b o e)
      have pg : ∀ (j : Nat) (pr : V × V), (xs.zip ys)[j]? = some pr → ∃ x y, RelV pr.1 x ∧ RelV pr.2 y ∧ IsPair g (h'.objs.size + 1 + j) x y := fun j pr hj => by
        have hj2 := (List.getElem?_eq_some_iff.mp hj).1
        rw [lz] at hj2
        obtain ⟨x, y, e1, e2, e3⟩ := out j hj2
        rw [List.getElem?_zip_eq_some] at hj
        obtain ⟨u, f1, f2⟩ := rel_at rv hj.1
        obtain ⟨v, f3, f4⟩ := rel_at rv2 hj.2
        rw [List.getElem?_toArray, f1] at e1
        rw [List.getElem?_toArray, f3] at e2
        cases e1
        cases e2
        exact ⟨_, _, f2, f4, e3⟩
      obtain ⟨H', as, j1, j2, j3, j4, j5, j6, J⟩ := pairs_laid (tk := s1.toks) (h' := g) (S := h'.objs.size) I1 (by rw [hsz]; exact Nat.le_add_right _ _) (by rw [← rv.length, ← rv2.length]; exact hmin) lz kg hS pg
      exact ⟨.ref _, H', J, rfl, q H' _ as j1 j2 j3 j4 j5 j6⟩
end GwZ
namespace Gw
open PySem PySem.Spec PyProof.Rows L2 RZ GwZ
/-- list(zip(xs, ys)) -/
def fLzip (p q : DP) : DF := fun env μ Q => p env μ fun d => q env μ fun d' => srcL μ d fun xs _ => srcL μ d' fun ys _ => min xs.length ys.length ≤ sizeLine ∧ Q (List.zipWith (fun x y => T.tup [x, y]) xs ys)
section
variable {X : Cx} {e e2 : Expr} {p q : DP} {p0 p1 pos pos2 : Pos}
theorem paired_on {α β : Type} {P Q : α → β → Prop} : ∀ {l : List α} {m : List β}, (∀ a ∈ l, ∀ b, P a b → Q a b) → Paired P l m → Paired Q l m
  | _, _, _, .nil => .nil
  | _, _, h, .cons r t => .cons (h _ List.mem_cons_self _ r) (paired_on (fun a ha => h a (List.mem_cons_of_mem _ ha)) t)
theorem rps_zipT {K : PySem.W.Frag} {G F F' : Hp} (e : Same F F') : ∀ {xs ys : List T} {vs ws : List V} {ts : List Addr}, Rps K G F xs vs → Rps K G F ys ws → Paired (fun (t : Addr) (q : V × V) => F' t = some (.tup [q.1, q.2])) ts (vs.zip ws) → Rps K G F' (List.zipWith (fun x y => T.tup [x, y]) xs ys) (ts.map V.ref)
  | [], _, vs, ws, ts, h, _, h2 => by
    have e : vs = [] := h
    subst e
    cases h2
    rfl
  | _ :: _, [], vs, ws, ts, _, h, h2 => by
    have e : ws = [] := h
    subst e
    rw [List.zip_nil_right] at h2
    cases h2
    rfl
  | x :: xs, y :: ys, vs, ws, ts, ⟨v, r, hv, h1, h2⟩, ⟨w, r', hw, h3, h4⟩, h5 => by
    subst hv
    subst hw
    rw [List.zip_cons_cons] at h5
    cases h5 with
    | cons a b =>
      rw [List.map_cons, List.zipWith_cons_cons]
      exact ⟨_, _, rfl, ⟨_, _, rfl, a, v, _, rfl, h1.mono e, w, _, rfl, h3.mono e, rfl⟩, rps_zipT e h2 h4 b⟩
theorem ef_lzip (hc : X.calm = true) (hm : X.mg "list" = none) (hmz : X.mg "zip" = none) (ha : EX X e p) (hb : EX X e2 q) (hg : Gl X "list" := by rfl) (hgz : Gl X "zip" := by rfl)
    (hs : starEach [e, e2] X.env = (false, eval e X.env) :: starEach [e2] X.env := by rfl) (hs2 : starEach [e2] X.env = (false, eval e2 X.env) :: starEach [] X.env := by rfl) (hpl : (backTo pos2 (starEach [e2] X.env)).any (·.1) = false := by rfl)
    (hs0 : starEach [.Call (.Name "zip" p1) [e, e2] [] pos2] X.env = (false, eval (.Call (.Name "zip" p1) [e, e2] [] pos2) X.env) :: starEach [] X.env := by rfl) :
    EF X (.Call (.Name "list" p0) [.Call (.Name "zip" p1) [e, e2] [] pos2] [] pos) (fLzip p q) :=
  PE.imp (pe_listZip hc hg hm hgz hmz (pa_cons ha (pa_cons hb pa_nil hs2) hs) hs hpl hs0) fun σ H R ⟨G, B, ρ0, env, μ, ρ, Q, s, q1, k⟩ => by
    refine ⟨G, B, ρ0, env, μ, ρ, _, s, q1, fun d v H1 q2 e1 r1 => ⟨G, B, ρ0, env, μ, ρ, _, s.mono e1, q2, fun d' v' H2 q3 e2 r2 => ?_⟩⟩
    have s2 := (s.mono e1).mono e2
    have r1 := r1.mono (frz_mono (B := B) (ρ := ρ) e2) (List.prefix_refl _)
    obtain ⟨xs, kp1, a, q4, rfl, k1, l1⟩ := src_ok s2.sh r1 q3
    obtain ⟨ys, kp2, b, q5, rfl, k2, l2⟩ := src_ok s2.sh r2 q4
    obtain ⟨vs, h1, h2⟩ := l1 B μ ρ H2 (later_refl s2.sh) k1
    obtain ⟨ws, h3, h4⟩ := l2 B μ ρ H2 (later_refl s2.sh) k2
    refine ⟨a, b, vs, ws, rfl, h1, h3, by rw [← h2.length, ← h4.length]; exact q5.1, fun H' p ts j1 j2 j3 j4 j5 j6 => ?_⟩
    have sm : Same H2 H' := j1
    refine k _ p _ H' q5.2 ((e1.trans e2).trans sm) (e1.free (e2.free j2)) j5 ?_
    have fr : Same (frz B H2 ρ) (frz B H' (ρ ++ [p])) := frz_app sm j2
    refine rps_zipT fr h2 h4 (paired_on (fun t ht q hq => frz_of hq (fun z => ?_) (s2.sh.freshB (j3 t ht))) j6)
    rcases List.mem_append.mp z with z | z
    · exact s2.sh.fresh (j3 t ht) z
    · rw [List.mem_singleton.mp z] at ht
      exact j4 ht
end
end Gw
/-! Gw, part V: rows for the parts L, M, N, Z. -/
namespace Gw
open PySem PySem.Spec PyProof.Rows L2 RZ
theorem r_fLzip {env : DEnv} {μ : Store} {Q : List T → Prop} {p q : DP} : fLzip p q env μ Q = p env μ fun d => q env μ fun e => srcL μ d fun xs _ => srcL μ e fun ys _ => min xs.length ys.length ≤ sizeLine ∧ Q (List.zipWith (fun x y => T.tup [x, y]) xs ys) := rfl
theorem r_iP {env : DEnv} {μ : Store} {Q : DIt → Store → Prop} {p : DI} : iP p env μ Q = p env μ fun j => Q j μ := rfl
theorem r_iSqX {env : DEnv} {μ : Store} {Q : DIt → Store → Prop} {p : DX} : iSqX p env μ Q = p env μ fun d m => srcD m d fun ds kp => Q ⟨ds, kp⟩ m := rfl
def rg1K (d : D) (Q : DIt → Prop) : Prop := match d with | .t (.int n) => (-(2 ^ 62) ≤ n ∧ n < 2 ^ 62) ∧ Q ⟨(List.range n.toNat).map fun (i : Nat) => D.t (.int i), fun _ => True⟩ | _ => False
theorem r_iR1 {env : DEnv} {μ : Store} {Q : DIt → Prop} {p : DP} : iR1 p env μ Q ↔ p env μ fun d => rg1K d Q := Iff.of_eq (congrArg (p env μ) (funext fun d => propext (by unfold rg1K; cases d with | loc _ => exact ⟨fun ⟨_, e, _⟩ => (by cases e), False.elim⟩ | tp _ => exact ⟨fun ⟨_, e, _⟩ => (by cases e), False.elim⟩ | t x => cases x with | int n => exact ⟨fun ⟨m, e, a, b, q⟩ => by cases e; exact ⟨⟨a, b⟩, q⟩, fun ⟨⟨a, b⟩, q⟩ => ⟨n, rfl, a, b, q⟩⟩ | _ => exact ⟨fun ⟨_, e, _⟩ => (by cases e), False.elim⟩)))
theorem r_rg1K {n : Int} {Q : DIt → Prop} : rg1K (.t (.int n)) Q = ((-(2 ^ 62) ≤ n ∧ n < 2 ^ 62) ∧ Q ⟨(List.range n.toNat).map fun (i : Nat) => D.t (.int i), fun _ => True⟩) := rfl
theorem r_xLc {env : DEnv} {μ : Store} {Q : D → Store → Prop} {it : DIX} {g : DG} {t : DTX} {e : DX} {vs : List Nat} : xLc it g t e vs env μ Q = it env μ fun j m => j.items.length ≤ sizeLine ∧ lcX j.keep g t e (wipeE env vs) (endL Q) j.items [] m := rfl
theorem r_txYes {env : DEnv} {μ : Store} {Q : Bool → Store → Prop} : txYes env μ Q = Q true μ := rfl
theorem r_tP {env : DEnv} {μ : Store} {Q : Bool → Store → Prop} {p : DT} : tP p env μ Q = p env μ fun b => Q b μ := rfl
def blX (d : D) (μ : Store) (Q : Bool → Store → Prop) : Prop := ∃ b, d = .t (.bl b) ∧ Q b μ
theorem r_blX {b : Bool} {μ : Store} {Q : Bool → Store → Prop} : blX (.t (.bl b)) μ Q ↔ Q b μ := ⟨fun ⟨_, e, q⟩ => by cases e; exact q, fun q => ⟨b, rfl, q⟩⟩
theorem r_xTest {env : DEnv} {μ : Store} {Q : Bool → Store → Prop} {p : DX} : xTest p env μ Q = p env μ fun d m => blX d m Q := rfl
theorem r_txAnd {env : DEnv} {μ : Store} {Q : Bool → Store → Prop} {p q : DTX} : txAnd p q env μ Q = p env μ fun b m => if b = true then q env m Q else Q false m := rfl
theorem r_txOr {env : DEnv} {μ : Store} {Q : Bool → Store → Prop} {p q : DTX} : txOr p q env μ Q = p env μ fun b m => if b = true then Q true m else q env m Q := rfl
theorem r_txNot {env : DEnv} {μ : Store} {Q : Bool → Store → Prop} {p : DTX} : txNot p env μ Q = p env μ fun b m => Q (!b) m := rfl
theorem r_sIfX {env : DEnv} {μ : Store} {nx bk ct : DEnv → Store → Prop} {xc : XD → DEnv → Store → Prop} {rt : D → Store → Prop} {c : DTX} {a b : DS} : sIfX c a b env μ ⟨nx, rt, bk, ct, xc⟩ = c env μ fun k m => if k = true then a env m ⟨nx, rt, bk, ct, xc⟩ else b env m ⟨nx, rt, bk, ct, xc⟩ := rfl
theorem r_sForX {env : DEnv} {μ : Store} {nx bk ct : DEnv → Store → Prop} {xc : XD → DEnv → Store → Prop} {rt : D → Store → Prop} {it : DIX} {g : DG} {b : DS} : sForX it g b env μ ⟨nx, rt, bk, ct, xc⟩ = it env μ fun j m => forD j.keep g b ⟨nx, rt, bk, ct, xc⟩ j.items env m := rfl
theorem r_x2 {env : DEnv} {μ : Store} {Q : D → Store → Prop} {p q : DX} {A : Store → D → D → (D → Prop) → Prop} : x2 p q A env μ Q = p env μ fun x m => q env m fun y m2 => A m2 x y fun d => Q d m2 := rfl
theorem r_xTup {env : DEnv} {μ : Store} {Q : D → Store → Prop} {a : DAX} : xTup a env μ Q = a env μ fun ds m => ds.length ≤ sizeLine ∧ Q (tupD ds) m := rfl
theorem r_xBi {env : DEnv} {μ : Store} {Q : D → Store → Prop} {a : DAX} {A : Store → List D → (D → Prop) → Prop} : xBi a A env μ Q = a env μ fun ds m => A m ds fun d => Q d m := rfl
theorem r_xIf {env : DEnv} {μ : Store} {Q : D → Store → Prop} {c : DTX} {p q : DX} : xIf c p q env μ Q = c env μ fun b m => if b = true then p env m Q else q env m Q := rfl
theorem r_xAndV {env : DEnv} {μ : Store} {Q : D → Store → Prop} {p q : DX} : xAndV p q env μ Q = p env μ fun d m => blX d m fun b m => if b = true then q env m Q else Q (.t (.bl false)) m := rfl
theorem r_xOrV {env : DEnv} {μ : Store} {Q : D → Store → Prop} {p q : DX} : xOrV p q env μ Q = p env μ fun d m => blX d m fun b m => if b = true then Q (.t (.bl true)) m else q env m Q := rfl
theorem r_xNotV {env : DEnv} {μ : Store} {Q : D → Store → Prop} {p : DX} : xNotV p env μ Q = p env μ fun d m => blX d m fun b m => Q (.t (.bl (!b))) m := rfl
theorem r_xCall {env : DEnv} {μ : Store} {Q : D → Store → Prop} {Φ : DFn} {a : DAX} : xCall Φ a env μ Q = a env μ fun ds m => Φ ds m Q := rfl
theorem r_dFld {env : DEnv} {μ : Store} {Q : D → Prop} {cs : List Str} {p : DP} {f : Str} : dFld cs p f env μ Q = p env μ fun d => fldD cs f μ d Q := rfl
theorem r_xFld {env : DEnv} {μ : Store} {Q : D → Store → Prop} {cs : List Str} {p : DX} {f : Str} : xFld cs p f env μ Q = p env μ fun d m => fldD cs f m d fun v => Q v m := rfl
theorem r_sPut {env : DEnv} {μ : Store} {nx bk ct : DEnv → Store → Prop} {xc : XD → DEnv → Store → Prop} {rt : D → Store → Prop} {cs : List Str} {v : DX} {o : DP} {f : Str} : sPut cs v o f env μ ⟨nx, rt, bk, ct, xc⟩ = v env μ fun y m => o env m fun d => putK cs f y m d fun m2 => nx env m2 := rfl
section
variable {env : DEnv} {Q : DEnv → Prop} {g : DG} {h : DGq} {d : D} {r : List D} {xs : List T} {n : Nat}
theorem r_gqNil : gqNil [] env Q ↔ Q env := ⟨fun h => h.2, fun h => ⟨rfl, h⟩⟩
theorem r_gqCons : gqCons g h (d :: r) env Q ↔ g d env fun env' => h r env' Q := ⟨fun ⟨y, s, e, q⟩ => by cases e; exact q, fun q => ⟨d, r, rfl, q⟩⟩
theorem r_gTqT : gTq n h (.t (.tup xs)) env Q = ((xs.map D.t).length = n ∧ h (xs.map D.t) env Q) := rfl
theorem r_gTqP : gTq n h (.tp r) env Q = (r.length = n ∧ h r env Q) := rfl
theorem r_gTqE {p : Int × Int} : gTq n h (.t (eP p)) env Q = (2 = n ∧ h [.t (.int p.1), .t (.int p.2)] env Q) := rfl
end
end Gw
/-! TbA: the maths of tables: goals as trees, fewest tests (own work). -/
namespace Gw
open PySem PySem.Spec PyProof.Rows L2 RZ
/-- a goal with all that is behind it -/
inductive Go where
  | leaf (t : T)
  | test (f : Nat) (ws : List (Int × Go))
abbrev Wy := Int × Go
noncomputable instance goEq : DecidableEq Go := fun a b => Classical.propDecidable (a = b)
/-! ### ways side by side with one goal are one -/
noncomputable def mrg : List Wy → List Wy
  | [] => []
  | [w] => [w]
  | w :: v :: r => if w.2 = v.2 then mrg (v :: r) else w :: mrg (v :: r)
noncomputable def mstep (acc : List Wy) (w : Wy) : List Wy := match acc.getLast? with
  | some a => if a.2 = w.2 then acc.dropLast ++ [w] else acc ++ [w]
  | none => [w]
theorem mstep_nil (w : Wy) : mstep [] w = [w] := rfl
theorem mstep_snoc (acc : List Wy) (a w : Wy) : mstep (acc ++ [a]) w = if a.2 = w.2 then acc ++ [w] else acc ++ [a] ++ [w] := by
  unfold mstep
  rw [List.getLast?_concat, List.dropLast_concat]
theorem mrg_fold : ∀ (ws acc : List Wy) (a : Wy), ws.foldl mstep (acc ++ [a]) = acc ++ mrg (a :: ws)
  | [], acc, a => rfl
  | w :: r, acc, a => by
    rw [List.foldl_cons, mstep_snoc, mrg]
    by_cases e : a.2 = w.2
    · rw [if_pos e, if_pos e, mrg_fold r acc w]
    · rw [if_neg e, if_neg e, mrg_fold r (acc ++ [a]) w, List.append_assoc]
      rfl
theorem mrg_foldl (ws : List Wy) : ws.foldl mstep [] = mrg ws := by
  cases ws with
  | nil => rfl
  | cons w r =>
    rw [List.foldl_cons, mstep_nil]
    exact mrg_fold r [] w
/-- the ways' highs rise from lo on, to M -/
def WOk (M : Int) : Int → List Wy → Prop
  | lo, [] => lo = M + 1
  | lo, w :: r => lo ≤ w.1 ∧ WOk M (w.1 + 1) r
/-- no two side by side have one goal -/
def Adj : List Wy → Prop
  | [] => True
  | [_] => True
  | w :: v :: r => w.2 ≠ v.2 ∧ Adj (v :: r)
def atW : List Wy → Int → Option Go
  | [], _ => none
  | w :: r, x => if x ≤ w.1 then some w.2 else atW r x
theorem wok_le {M : Int} : ∀ {ws : List Wy} {lo : Int}, WOk M lo ws → lo ≤ M + 1
  | [], lo, h => Int.le_of_eq h
  | w :: r, lo, h => by
    have a := h.1
    have b := wok_le h.2
    omega
theorem wok_high {M : Int} {w : Wy} {r : List Wy} {lo : Int} (h : WOk M lo (w :: r)) : w.1 ≤ M := by
  have := wok_le h.2
  omega
theorem at_some {M : Int} : ∀ {ws : List Wy} {lo : Int}, WOk M lo ws → ∀ x, lo ≤ x → x ≤ M → ∃ g, atW ws x = some g
  | [], lo, h, x, h1, h2 => by
    have h : lo = M + 1 := h
    omega
  | w :: r, lo, h, x, h1, h2 => by
    unfold atW
    by_cases e : x ≤ w.1
    · exact ⟨w.2, if_pos e⟩
    · rw [if_neg e]
      exact at_some h.2 x (by omega) h2
theorem at_mem : ∀ {ws : List Wy} {x : Int} {g : Go}, atW ws x = some g → ∃ w ∈ ws, w.2 = g
  | w :: r, x, g, h => by
    unfold atW at h
    by_cases e : x ≤ w.1
    · rw [if_pos e] at h
      exact ⟨w, List.mem_cons_self, Option.some.inj h⟩
    · rw [if_neg e] at h
      obtain ⟨v, hv, e2⟩ := at_mem h
      exact ⟨v, List.mem_cons_of_mem _ hv, e2⟩
theorem mrg_head : ∀ (r : List Wy) (v : Wy), ∃ h s, mrg (v :: r) = (h, v.2) :: s
  | [], v => ⟨v.1, [], rfl⟩
  | w :: r, v => by
    rw [mrg]
    by_cases e : v.2 = w.2
    · rw [if_pos e, e]
      exact mrg_head r w
    · rw [if_neg e]
      exact ⟨v.1, mrg (w :: r), rfl⟩
theorem mrg_ok {M : Int} : ∀ {ws : List Wy} {lo : Int}, WOk M lo ws → WOk M lo (mrg ws)
  | [], lo, h => h
  | [w], lo, h => h
  | w :: v :: r, lo, h => by
    rw [mrg]
    by_cases e : w.2 = v.2
    · rw [if_pos e]
      refine mrg_ok (ws := v :: r) ⟨?_, h.2.2⟩
      have := h.1
      have := h.2.1
      omega
    · rw [if_neg e]
      exact ⟨h.1, mrg_ok h.2⟩
theorem mrg_adj : ∀ (ws : List Wy), Adj (mrg ws)
  | [] => True.intro
  | [w] => True.intro
  | w :: v :: r => by
    rw [mrg]
    by_cases e : w.2 = v.2
    · rw [if_pos e]
      exact mrg_adj (v :: r)
    · rw [if_neg e]
      have ih := mrg_adj (v :: r)
      obtain ⟨h, s, z⟩ := mrg_head r v
      rw [z] at ih ⊢
      exact ⟨e, ih⟩
theorem mrg_at {M : Int} : ∀ {ws : List Wy} {lo : Int}, WOk M lo ws → ∀ x, atW (mrg ws) x = atW ws x
  | [], lo, h, x => rfl
  | [w], lo, h, x => rfl
  | w :: v :: r, lo, h, x => by
    rw [mrg]
    by_cases e : w.2 = v.2
    · rw [if_pos e, mrg_at h.2]
      have a := h.2.1
      show _ = if x ≤ w.1 then some w.2 else atW (v :: r) x
      by_cases c : x ≤ w.1
      · rw [if_pos c, e]
        unfold atW
        rw [if_pos (by omega)]
      · rw [if_neg c]
    · rw [if_neg e]
      unfold atW
      rw [mrg_at h.2]
theorem mrg_mem : ∀ {ws : List Wy} {w : Wy}, w ∈ mrg ws → w ∈ ws
  | [w], v, h => h
  | w :: v :: r, u, h => by
    rw [mrg] at h
    by_cases e : w.2 = v.2
    · rw [if_pos e] at h
      exact List.mem_cons_of_mem _ (mrg_mem h)
    · rw [if_neg e] at h
      rcases List.mem_cons.mp h with rfl | h
      · exact List.mem_cons_self
      · exact List.mem_cons_of_mem _ (mrg_mem h)
theorem mrg_len : ∀ (ws : List Wy), (mrg ws).length ≤ ws.length
  | [] => Nat.le_refl _
  | [w] => Nat.le_refl _
  | w :: v :: r => by
    rw [mrg]
    have := mrg_len (v :: r)
    by_cases e : w.2 = v.2
    · rw [if_pos e, List.length_cons]
      omega
    · rw [if_neg e, List.length_cons, List.length_cons (as := v :: r)]
      omega
/-- ways are told by what they tell -/
theorem ways_one {M : Int} : ∀ {a b : List Wy} {lo : Int}, WOk M lo a → Adj a → WOk M lo b → Adj b → (∀ x, lo ≤ x → x ≤ M → atW a x = atW b x) → a = b
  | [], [], _, _, _, _, _, _ => rfl
  | [], w :: r, lo, h1, _, h2, _, _ => by
    have h1 : lo = M + 1 := h1
    have := wok_high h2
    have := h2.1
    omega
  | w :: r, [], lo, h1, _, h2, _, _ => by
    have h2 : lo = M + 1 := h2
    have := wok_high h1
    have := h1.1
    omega
  | w :: r, v :: s, lo, h1, a1, h2, a2, h => by
    have hw := wok_high h1
    have hv := wok_high h2
    have lw := h1.1
    have lv := h2.1
    have g : w.2 = v.2 := by
      have z := h lo (Int.le_refl _) (by omega)
      unfold atW at z
      rw [if_pos lw, if_pos lv] at z
      exact Option.some.inj z
    have nolt : ∀ {w v : Wy} {r s : List Wy}, WOk M lo (w :: r) → Adj (w :: r) → v.1 ≤ M → w.2 = v.2 → (∀ x, lo ≤ x → x ≤ M → atW (w :: r) x = atW (v :: s) x) → ¬ w.1 < v.1 := fun {w v r s} h1 a1 hv g h lt => by
      have lw := h1.1
      have z := h (w.1 + 1) (by omega) (by omega)
      have e1 : atW (w :: r) (w.1 + 1) = atW r (w.1 + 1) := if_neg (by omega)
      have e2 : atW (v :: s) (w.1 + 1) = some v.2 := if_pos (by omega)
      rw [e1, e2] at z
      cases r with
      | nil => cases z
      | cons u r =>
        have e3 : atW (u :: r) (w.1 + 1) = some u.2 := if_pos h1.2.1
        rw [e3] at z
        exact a1.1 (g.trans (Option.some.inj z).symm)
    have n1 := nolt h1 a1 hv g h
    have n2 := nolt h2 a2 hw g.symm fun x y z => (h x y z).symm
    have e : w = v := Prod.ext (by omega) g
    subst e
    have adj : ∀ {r : List Wy}, Adj (w :: r) → Adj r := fun {r} a => by
      cases r with
      | nil => exact True.intro
      | cons u r => exact a.2
    rw [ways_one h1.2 (adj a1) h2.2 (adj a2) fun x y z => by
      have := h x (by omega) z
      unfold atW at this
      rw [if_neg (by omega), if_neg (by omega)] at this
      exact this]
/-! ### what a goal tells -/
def ev : Nat → Go → (Nat → Int) → Option T
  | _, .leaf u, _ => some u
  | 0, .test _ _, _ => none
  | k + 1, .test f ws, x => match atW ws (x f) with
    | some g => ev k g x
    | none => none
theorem ev_leaf (k : Nat) (u : T) (x : Nat → Int) : ev k (.leaf u) x = some u := by cases k <;> rfl
section
variable {n : Nat} {M : Nat → Int}
/-- a goal that asks the last k fields alone, as few as can be -/
def Red (n : Nat) (M : Nat → Int) : Nat → Go → Prop
  | 0, t => ∃ u, t = .leaf u
  | k + 1, t => Red n M k t ∨ ∃ ws, t = .test (n - (k + 1)) ws ∧ WOk (M (n - (k + 1))) 0 ws ∧ Adj ws ∧ 2 ≤ ws.length ∧ ∀ w ∈ ws, Red n M k w.2
theorem Red.leaf (u : T) : ∀ k, Red n M k (.leaf u)
  | 0 => ⟨u, rfl⟩
  | k + 1 => .inl (Red.leaf u k)
theorem Red.up {k : Nat} {t : Go} (h : Red n M k t) : ∀ {j : Nat}, k ≤ j → Red n M j t
  | 0, le => by
    have e : k = 0 := by omega
    subst e
    exact h
  | j + 1, le => by
    by_cases e : k = j + 1
    · subst e
      exact h
    · exact .inl (Red.up h (by omega))
theorem ev_up {x : Nat → Int} : ∀ {k : Nat} {t : Go}, Red n M k t → ∀ {j : Nat}, k ≤ j → ev j t x = ev k t x
  | 0, t, ⟨u, e⟩, j, _ => by
    subst e
    rw [ev_leaf, ev_leaf]
  | k + 1, t, .inl h, j, le => by rw [ev_up h (Nat.le_of_succ_le le), ev_up h (Nat.le_succ k)]
  | k + 1, t, .inr ⟨ws, e, h1, h2, h3, h4⟩, j, le => by
    subst e
    obtain ⟨i, rfl⟩ : ∃ i, j = i + 1 := ⟨j - 1, by omega⟩
    show (match atW ws (x (n - (k + 1))) with | some g => ev i g x | none => none) = match atW ws (x (n - (k + 1))) with | some g => ev k g x | none => none
    cases e : atW ws (x (n - (k + 1))) with
    | none => rfl
    | some g =>
      obtain ⟨w, hw, rfl⟩ := at_mem e
      exact ev_up (h4 w hw) (by omega)
theorem ev_ind : ∀ {k : Nat} {t : Go}, k ≤ n → Red n M k t → ∀ {x y : Nat → Int}, (∀ i, n - k ≤ i → i < n → x i = y i) → ev k t x = ev k t y
  | 0, t, _, ⟨u, e⟩, x, y, _ => by
    subst e
    rfl
  | k + 1, t, le, .inl h, x, y, hxy => by
    rw [ev_up h (Nat.le_succ k), ev_up h (Nat.le_succ k)]
    exact ev_ind (Nat.le_of_succ_le le) h fun i h1 h2 => hxy i (by omega) h2
  | k + 1, t, le, .inr ⟨ws, e, h1, h2, h3, h4⟩, x, y, hxy => by
    subst e
    show (match atW ws (x (n - (k + 1))) with | some g => ev k g x | none => none) = match atW ws (y (n - (k + 1))) with | some g => ev k g y | none => none
    rw [hxy (n - (k + 1)) (Nat.le_refl _) (by omega)]
    cases e : atW ws (y (n - (k + 1))) with
    | none => rfl
    | some g =>
      obtain ⟨w, hw, rfl⟩ := at_mem e
      exact ev_ind (Nat.le_of_succ_le le) (h4 w hw) fun i h1 h2 => hxy i (by omega) h2
def Box (n : Nat) (M x : Nat → Int) : Prop := ∀ i, i < n → 0 ≤ x i ∧ x i ≤ M i
def setN (x : Nat → Int) (f : Nat) (v : Int) : Nat → Int := fun i => if i = f then v else x i
theorem box_set {x : Nat → Int} (h : Box n M x) {f : Nat} {v : Int} (h0 : 0 ≤ v) (h1 : v ≤ M f) : Box n M (setN x f v) := fun i hi => by
  unfold setN
  by_cases e : i = f
  · rw [if_pos e, e]
    exact ⟨h0, h1⟩
  · rw [if_neg e]
    exact h i hi
theorem set_same (x : Nat → Int) (f : Nat) (v : Int) : setN x f v f = v := if_pos rfl
theorem set_ne (x : Nat → Int) {f i : Nat} (v : Int) (h : i ≠ f) : setN x f v i = x i := if_neg h
/-- goals that tell alike are the same -/
theorem canon (hM : ∀ i, i < n → 0 ≤ M i) : ∀ {k : Nat}, k ≤ n → ∀ {t t' : Go}, Red n M k t → Red n M k t' → (∀ x, Box n M x → ev k t x = ev k t' x) → t = t'
  | 0, _, t, t', ⟨u, e⟩, ⟨u', e'⟩, h => by
    subst e e'
    have := h (fun _ => 0) fun i hi => ⟨Int.le_refl _, hM i hi⟩
    rw [ev_leaf, ev_leaf] at this
    rw [Option.some.inj this]
  | k + 1, le, t, t', r, r', h => by
    have le' := Nat.le_of_succ_le le
    have hf : n - (k + 1) < n := by omega
    have hM0 := hM _ hf
    -- a test at this field is no goal that leaves it out
    have no : ∀ {t' : Go} {ws : List Wy}, Red n M k t' → WOk (M (n - (k + 1))) 0 ws → Adj ws → 2 ≤ ws.length → (∀ w ∈ ws, Red n M k w.2) → (∀ x, Box n M x → ev (k + 1) (.test (n - (k + 1)) ws) x = ev (k + 1) t' x) → False := fun {t' ws} r' h1 h2 h3 h4 h => by
      match ws, h1, h2, h3, h4, h with
      | w :: v :: r, h1, h2, _, h4, h =>
        refine h2.1 (canon hM le' (h4 w List.mem_cons_self) (h4 v (List.mem_cons_of_mem _ List.mem_cons_self)) fun x hx => ?_)
        have one : ∀ (z : Int), 0 ≤ z → z ≤ M (n - (k + 1)) → ∀ g, atW (w :: v :: r) z = some g → Red n M k g → ev k g x = ev k t' x := fun z z0 z1 g hg rg => by
          have q := h (setN x (n - (k + 1)) z) (box_set hx z0 z1)
          have q1 : ev (k + 1) (.test (n - (k + 1)) (w :: v :: r)) (setN x (n - (k + 1)) z) = ev k g (setN x (n - (k + 1)) z) := by
            show (match atW (w :: v :: r) (setN x (n - (k + 1)) z (n - (k + 1))) with | some g => ev k g _ | none => none) = _
            rw [set_same, hg]
          rw [q1, ev_up r' (Nat.le_succ k)] at q
          have i1 := ev_ind le' rg (x := setN x (n - (k + 1)) z) (y := x) fun i h1 h2 => set_ne _ _ (by omega)
          have i2 := ev_ind le' r' (x := setN x (n - (k + 1)) z) (y := x) fun i h1 h2 => set_ne _ _ (by omega)
          rw [← i1, ← i2, q]
        have hw := wok_high h1
        have hv := wok_high h1.2
        have l1 := h1.1
        have l2 := h1.2.1
        rw [one w.1 l1 hw w.2 (if_pos (Int.le_refl _)) (h4 w List.mem_cons_self), one v.1 (by omega) hv v.2 (by
          show (if v.1 ≤ w.1 then some w.2 else if v.1 ≤ v.1 then some v.2 else atW r v.1) = _
          rw [if_neg (by omega), if_pos (Int.le_refl _)]) (h4 v (List.mem_cons_of_mem _ List.mem_cons_self))]
    rcases r with r | ⟨ws, e, h1, h2, h3, h4⟩
    · rcases r' with r' | ⟨ws', e', h1', h2', h3', h4'⟩
      · exact canon hM le' r r' fun x hx => by
          have := h x hx
          rw [ev_up r (Nat.le_succ k), ev_up r' (Nat.le_succ k)] at this
          exact this
      · subst e'
        exact (no r h1' h2' h3' h4' fun x hx => (h x hx).symm).elim
    · rcases r' with r' | ⟨ws', e', h1', h2', h3', h4'⟩
      · subst e
        exact (no r' h1 h2 h3 h4 h).elim
      · subst e e'
        congr 1
        refine ways_one h1 h2 h1' h2' fun v v0 v1 => ?_
        obtain ⟨g, hg⟩ := at_some h1 v v0 v1
        obtain ⟨g', hg'⟩ := at_some h1' v v0 v1
        obtain ⟨w, hw, eg⟩ := at_mem hg
        obtain ⟨w', hw', eg'⟩ := at_mem hg'
        rw [hg, hg']
        congr 1
        have rg : Red n M k g := eg ▸ h4 w hw
        have rg' : Red n M k g' := eg' ▸ h4' w' hw'
        refine canon hM le' rg rg' fun x hx => ?_
        have q := h (setN x (n - (k + 1)) v) (box_set hx v0 v1)
        have q1 : ev (k + 1) (.test (n - (k + 1)) ws) (setN x (n - (k + 1)) v) = ev k g (setN x (n - (k + 1)) v) := by
          show (match atW ws (setN x (n - (k + 1)) v (n - (k + 1))) with | some g => ev k g _ | none => none) = _
          rw [set_same, hg]
        have q2 : ev (k + 1) (.test (n - (k + 1)) ws') (setN x (n - (k + 1)) v) = ev k g' (setN x (n - (k + 1)) v) := by
          show (match atW ws' (setN x (n - (k + 1)) v (n - (k + 1))) with | some g => ev k g _ | none => none) = _
          rw [set_same, hg']
        rw [q1, q2] at q
        have i1 := ev_ind le' rg (x := setN x (n - (k + 1)) v) (y := x) fun i h1 h2 => set_ne _ _ (by omega)
        have i2 := ev_ind le' rg' (x := setN x (n - (k + 1)) v) (y := x) fun i h1 h2 => set_ne _ _ (by omega)
        rw [← i1, ← i2, q]
/-- the goal of some ways -/
noncomputable def mkT (f : Nat) (ws : List Wy) : Go := match mrg ws with
  | [w] => w.2
  | l => .test f l
theorem mkT_red {k : Nat} (h0 : 0 ≤ M (n - (k + 1))) {ws : List Wy} (h : WOk (M (n - (k + 1))) 0 ws) (r : ∀ w ∈ ws, Red n M k w.2) : Red n M (k + 1) (mkT (n - (k + 1)) ws) := by
  have ok := mrg_ok h
  have ad := mrg_adj ws
  have rr : ∀ w ∈ mrg ws, Red n M k w.2 := fun w hw => r w (mrg_mem hw)
  unfold mkT
  split
  · rename_i w e
    rw [e] at rr
    exact .inl (rr w List.mem_cons_self)
  · rename_i l ne
    refine .inr ⟨_, rfl, ok, ad, ?_, rr⟩
    match e : mrg ws with
    | [] =>
      rw [e] at ok
      have ok : (0 : Int) = M (n - (k + 1)) + 1 := ok
      omega
    | [w] => exact (ne w e).elim
    | _ :: _ :: r => simp
theorem mkT_ev {k : Nat} {ws : List Wy} {lo : Int} {f : Nat} (h : WOk (M f) lo ws) (r : ∀ w ∈ ws, Red n M k w.2) {x : Nat → Int} (h1 : x f ≤ M f) (h0 : lo ≤ x f) {g : Go} (hg : atW ws (x f) = some g) : ev (k + 1) (mkT f ws) x = ev k g x := by
  have at_ := mrg_at h (x f)
  have ok := mrg_ok h
  have rr : ∀ w ∈ mrg ws, Red n M k w.2 := fun w hw => r w (mrg_mem hw)
  unfold mkT
  split
  · rename_i w e
    rw [e] at at_ rr ok
    have ok : lo ≤ w.1 ∧ w.1 + 1 = M f + 1 := ok
    have e2 : atW [w] (x f) = some w.2 := if_pos (by omega)
    rw [← at_, e2] at hg
    rw [ev_up (rr w List.mem_cons_self) (Nat.le_succ k), Option.some.inj hg]
  · show (match atW (mrg ws) (x f) with | some g => ev k g x | none => none) = _
    rw [at_, hg]
end
end Gw
/-! Gw, part Y: min(xs, default=d) of a list of ints. -/
namespace GwY
open PySem PySem.Spec PyProof.Rows L2
end GwY
/-! Gw, part P: in, not in. -/
namespace Gw
open PySem PySem.Spec PyProof.Rows L2 RZ
/-- a is one of ys -/
def memT (a : T) (ys : List T) : Bool := ys.any fun y => eqT y a
theorem any_pds (a : T) : ∀ ys : List T, ((pds ys).any fun z => PyData.eqv z (pd a)) = memT a ys
  | [] => rfl
  | y :: ys => by
    rw [pds, List.any_cons, any_pds a ys]
    rfl
def inStr (i j : Str) : Bool := !(Builtin.Str.occurrences j i 0 j.length 1).isEmpty
/-- a dict of the store, walked or not -/
def dicAt (μ : Store) (n : Nat) (kvs : List (Key × D)) : Prop := μ[n]? = some (.dic kvs) ∨ ∃ z, μ[n]? = some (.lck z kvs)
def inLT (f : Bool → Bool) (μ : Store) (d : D) (ys : List T) (Q : D → Prop) : Prop := vw μ d fun a => okT a = true ∧ okT (.lst ys) = true ∧ Q (.t (.bl (f (memT a ys))))
def inW (f : Bool → Bool) (μ : Store) (d e : D) (Q : D → Prop) : Prop := match e with
  | .t (.lst ys) => inLT f μ d ys Q
  | .t (.ro ys) => inLT f μ d ys Q
  | .t (.str j) => ∃ i, d = .t (.str i) ∧ Q (.t (.bl (f (inStr i j))))
  | .loc n => (∃ ys, μ[n]? = some (.lst (ys.map D.t)) ∧ inLT f μ d ys Q) ∨ ∃ kvs k, dicAt μ n kvs ∧ keyOf d = some k ∧ Q (.t (.bl (f (valD kvs k).isSome)))
  | _ => False
def rInF (K : PySem.W.Frag) (f : Bool → Bool) : R2 := fun x y H Q => (∃ d ds, Dp K H x d ∧ Dp K H y (.list ds) ∧ SeqAt.shaped d = true ∧ SeqAt.shaped (.list ds) = true ∧ Q (.bl (f (ds.any fun z => PyData.eqv z d))) H) ∨
  (∃ i j, x = .str i ∧ y = .str j ∧ Q (.bl (f (inStr i j))) H) ∨ ∃ a o, y = .ref a ∧ DGet H a x o ∧ Q (.bl (f o.isSome)) H
theorem dic_get {K : PySem.W.Frag} {G B H : Hp} {ρ0 ρ : List Addr} {μ : Store} {n : Nat} {a : Addr} {kvs : List (Key × D)} (s : SH K G B ρ0 μ ρ H) (h : dicAt μ n kvs) (ha : ρ[n]? = some a) : ∃ ws, Rd H a (.dK ws) ∧ DV K G (frz B H ρ) ρ kvs ws := by
  rcases h with h | ⟨z, h⟩
  · obtain ⟨ws, h1, h2⟩ := s.sto _ _ a h ha
    exact ⟨ws, .inl h1, h2⟩
  · obtain ⟨h1, h2⟩ := s.sto _ _ a h ha
    exact ⟨z.2, .inr ⟨_, h1⟩, h2⟩
theorem DV.some_eq {K : PySem.W.Frag} {G F : Hp} {ρ : List Addr} {kvs : List (Key × D)} {ws : List (Key × V)} (h : DV K G F ρ kvs ws) (k : Key) : (valD kvs k).isSome = (valV ws k).isSome := by
  cases e : valD kvs k with
  | none => rw [DV.not h e]; rfl
  | some d =>
    obtain ⟨v, h1, _⟩ := DV.got h e
    rw [h1]
    rfl
theorem inW_ok {K : PySem.W.Frag} (f : Bool → Bool) : W2 K (rInF K f) (inW f) := by
  intro G B ρ0 μ ρ H x y v u Q R s rx ry w k
  have lt : ∀ (ys : List T) (yt : T), pd yt = .list (pds ys) → Rp K G H yt u → inLT f μ x ys Q → rInF K f v u H R := fun ys yt e ry w => by
    obtain ⟨a, ⟨w1, w2, w3⟩, ra⟩ := peek s rx w
    refine .inl ⟨pd a, pds ys, rp_dp s.sameG a v (okT_lay w1) ra, by rw [← e]; exact rp_dp s.sameG yt u (by rw [e]; exact (Bool.and_eq_true_iff.mp w2).1) ry, w1, w2, ?_⟩
    rw [any_pds]
    exact k _ _ H w3 (Same.refl _) rfl
  unfold inW at w
  split at w
  · exact lt _ (.lst _) rfl (Rp.mono (frz_le _ _ _) ry) w
  · exact lt _ (.ro _) rfl (Rp.mono (frz_le _ _ _) ry) w
  · obtain ⟨i, rfl, q⟩ := w
    exact .inr (.inl ⟨i, _, rx, ry, k _ _ H q (Same.refl _) rfl⟩)
  · rcases w with ⟨ys, h, w⟩ | ⟨kvs, kk, h, h2, q⟩
    · obtain ⟨yt, e, r⟩ := peek s (d := .loc _) (Q := fun z => z = .lst ys) ry ⟨ys, h, rfl⟩
      subst e
      exact lt ys _ rfl r w
    · obtain ⟨a, rfl, ha⟩ := ry
      obtain ⟨ws, h4, h5⟩ := dic_get s h ha
      have e := keyOf_rl h2 rx
      subst e
      refine .inr (.inr ⟨a, _, rfl, .inl ⟨ws, kk, h4, rfl, rfl⟩, ?_⟩)
      rw [← DV.some_eq h5]
      exact k _ _ H q (Same.refl _) rfl
  · exact w.elim
section
variable {X : Cx} {a b : Expr} {p q : DP} {pos : Pos}
theorem op_notInA (hu : X.A.units + 65 < cLine) : OpR X (compareOp .NotIn) (rInF X.K not) := by
  intro pins s σ H x y v u Q I rx ry h
  rcases h with h | h | ⟨a, o, rfl, g, q⟩
  · exact op_notInD hu pins s σ H x y v u Q I rx ry h
  · exact op_notin_str pins s σ H x y v u Q I rx ry h
  · obtain rfl : u = Value.ref a := ry
    exact d_notIn (by omega) I g rx fun s3 I3 => ⟨.bl (!o.isSome), H, I3, rfl, q⟩
theorem tx_nin (hu : X.A.units + 65 < cLine) (ha : EX X a p) (hb : EX X b q) (hm : behindInMarks .NotIn b = false := by rfl) : TX X (.Compare a [.NotIn] [b] pos) (dTest (d2 p q (inW not))) := tx_cmp (op_notInA hu) (inW_ok not) ha hb hm
end
end Gw
/-! GwNd: dicts whose keys are nested tuples, as objects of the heap (own work). -/
namespace Gw
open PySem PySem.Spec PyProof.Rows L2
/-- the key that a tree is -/
def keyN : T → NestedKey
  | .int i => .num i
  | .bl b => .num (if b = true then 1 else 0)
  | .str s => .text s
  | .tup xs => .tup (keysN xs)
  | .pt xs => .tup (keysN xs)
  | _ => .none
where keysN : List T → List NestedKey
  | [] => []
  | x :: xs => keyN x :: keysN xs
/-- a tree that is a key, or stands in one -/
def okN : T → Bool
  | .int _ | .bl _ | .str _ | .non => true
  | .tup xs => oksN xs
  | .pt xs => oksN xs
  | _ => false
where oksN : List T → Bool
  | [] => true
  | x :: xs => okN x && oksN xs
/-- .. that may be a dict's key -/
def isN : T → Bool
  | .tup xs => okN (.tup xs) && decide ((keyN (.tup xs)).depth ≤ 8)
  | .pt xs => okN (.pt xs) && decide ((keyN (.pt xs)).depth ≤ 8)
  | _ => false
/-- an entry: its key, where the key's tuple stands, what it holds -/
abbrev NX := NestedKey × Addr × V
def NdR (w : World) (a : Addr) (xs : List NX) (h : Heap) : Prop := xs.length ≤ sizeLine ∧ (a == sysModules) = false ∧
  ∃ ys : List (NestedKey × Addr × Value), Paired (fun (p : NX) (q : NestedKey × Addr × Value) => p.1 = q.1 ∧ p.2.1 = q.2.1 ∧ RelV p.2.2 q.2.2) xs ys ∧
    ∃ o es ep, h.get? a = some o ∧ o.ExactDict ∧ o.data = .dict es ep ∧ es.toList = ys.map (fun y => (⟨y.1.hash w, .ref y.2.1, y.2.2⟩ : DictEntry)) ∧ (ys.map (·.1)).Nodup
def ndO (w : World) (a : Addr) (ok : Prop) (xs : List NX) : HO := .ext fun h => ok ∧ NdR w a xs h
theorem ndO_there {w : World} {a : Addr} {xs : List NX} {h : Heap} (x : NdR w a xs h) : ∃ o, h.get? a = some o := let ⟨_, _, _, _, o, _, _, e, _⟩ := x; ⟨o, e⟩
theorem ndO_ok {P : Program} {w w' : World} {H : Hp} {h : Heap} {a : Addr} {ok : Prop} {xs : List NX} (k : ok) (x : NdR w a xs h) : ObjOk P w' H h a (ndO w a ok xs) :=
  ⟨⟨k, x⟩, ndO_there x, fun _ _ ⟨k, l, y, ys, r, o, es, ep, e, z⟩ g => ⟨k, l, y, ys, r, o, es, ep, g _ e, z⟩⟩
def getX (xs : List NX) (k : NestedKey) : Option V := (xs.find? fun x => decide (x.1 = k)).map fun x => x.2.2
def putX (xs : List NX) (k : NestedKey) (b : Addr) (v : V) : List NX := if (getX xs k).isSome = true then xs.map fun x => if x.1 = k then (x.1, x.2.1, v) else x else xs ++ [(k, b, v)]
abbrev NPr : List NX → List (NestedKey × Addr × Value) → Prop := Paired fun p q => p.1 = q.1 ∧ p.2.1 = q.2.1 ∧ RelV p.2.2 q.2.2
theorem npr_get : ∀ {xs : List NX} {ys : List (NestedKey × Addr × Value)} (_ : NPr xs ys) (k : NestedKey), RelO (getX xs k) ((atKey ys k).map (·.2))
  | _, _, .nil, _ => True.intro
  | (k1, b1, v1) :: xs, (k2, b2, u2) :: ys, .cons r t, k => by
    have ih := npr_get t k
    obtain ⟨r1, r2, r3⟩ := r
    have r1 : k1 = k2 := r1
    subst r1
    unfold getX atKey at ih ⊢
    by_cases e : k1 = k
    · have z : decide (k1 = k) = true := decide_eq_true e
      simp only [List.find?_cons, z, Option.map_some]
      exact r3
    · have z : decide (k1 = k) = false := decide_eq_false e
      simp only [List.find?_cons, z]
      exact ih
theorem npr_repl {k : NestedKey} {v : V} {u : Value} (rv : RelV v u) : ∀ {xs : List NX} {ys : List (NestedKey × Addr × Value)} (_ : NPr xs ys), NPr (xs.map fun x => if x.1 = k then (x.1, x.2.1, v) else x) (ys.map (putAt k u))
  | _, _, .nil => .nil
  | (k1, b1, v1) :: xs, (k2, b2, u2) :: ys, .cons r t => by
    refine .cons ?_ (npr_repl rv t)
    obtain ⟨r1, r2, r3⟩ := r
    have r1 : k1 = k2 := r1
    subst r1
    unfold putAt
    by_cases e : k1 = k
    · simp only [e, if_true]
      exact ⟨trivial, r2, rv⟩
    · simp only [e, if_false]
      exact ⟨trivial, r2, r3⟩
theorem npr_put {xs : List NX} {ys : List (NestedKey × Addr × Value)} (r : NPr xs ys) (k : NestedKey) (b : Addr) {v : V} {u : Value} (rv : RelV v u) : NPr (putX xs k b v) (storedH ys k b u) := by
  have e := (npr_get r k).isSome_eq
  rw [Option.isSome_map] at e
  unfold putX storedH
  rw [e]
  split
  · exact npr_repl rv r
  · exact Paired.app r (.cons ⟨rfl, rfl, rv⟩ .nil)
theorem putX_len (xs : List NX) (k : NestedKey) (b : Addr) (v : V) : (putX xs k b v).length ≤ xs.length + 1 := by
  unfold putX
  split
  · rw [List.length_map]
    omega
  · rw [List.length_append]
    exact Nat.le_refl _
/-- every key's tuple is what it says -/
def KeysAt (P : Program) (w : World) (h : Heap) (xs : List NX) : Prop := ∀ x ∈ xs, (nestedKind P w).is h x.1 x.2.1
theorem npr_keys {P : Program} {w : World} {h : Heap} : ∀ {xs : List NX} {ys : List (NestedKey × Addr × Value)} (_ : NPr xs ys), KeysAt P w h xs → ∀ y ∈ ys, (nestedKind P w).is h y.1 y.2.1
  | _, _, .nil, _ => fun _ z => nomatch z
  | x :: xs, y :: ys, .cons r t, k => fun z hz => by
    rcases List.mem_cons.mp hz with rfl | hz
    · have := k x List.mem_cons_self
      rw [r.1, r.2.1] at this
      exact this
    · exact npr_keys t (fun a ha => k a (List.mem_cons_of_mem _ ha)) z hz
section
variable {X : Cx} {pins : List (Addr × Obj)} {σ : L2.St} {H : Hp} {s : Shared} {a b : Addr} {ok : Prop} {xs : List NX} {k : NestedKey} {A : Around} {E : Value → Shared → Prop}
theorem nd_at (I : Inv X pins σ H s) (e : H a = some (ndO X.w a ok xs)) (ky : KeysAt X.prog X.w s.heap xs) : ok ∧ xs.length ≤ sizeLine ∧ (a == sysModules) = false ∧ ∃ ys, NPr xs ys ∧ s.heap.DictOfH (nestedKind X.prog X.w) a ys := by
  obtain ⟨⟨k, l, y, ys, r, o, es, ep, h1, h2, h3, h4, h5⟩, _, _⟩ := I.hok a _ e
  exact ⟨k, l, y, ys, r, o, es, ep, h1, h2, h3, h4, npr_keys r ky, h5⟩
theorem nd_type (I : Inv X pins σ H s) (e : H a = some (ndO X.w a ok xs)) : s.TypeIs (.ref a) "dict" := by
  obtain ⟨⟨k, l, y, ys, r, o, es, ep, h1, h2, h3, h4, h5⟩, _, _⟩ := I.hok a _ e
  exact ⟨o, h1, h2.1⟩
theorem nd_getItem {v : V} {Q : Value → Shared → Prop} (hu : A.units + 9 < cLine) (I : Inv X pins σ H s) (e : H a = some (ndO X.w a ok xs)) (ky : KeysAt X.prog X.w s.heap xs) (hk : (nestedKind X.prog X.w).is s.heap k b) (g : getX xs k = some v)
    (h : ∀ w' s', Inv X pins σ H s' → RelV v w' → Q w' s') : wpAny (model X.prog X.w) A (getItem (.ref a) (.ref b)) Q E s := by
  obtain ⟨_, l, hd, ys, rel, dd⟩ := nd_at I e ky
  obtain ⟨w', hw, rw'⟩ := RelO.some_of (v := v) (o := (atKey ys k).map (·.2)) (by rw [← g]; exact npr_get rel k)
  obtain ⟨p, hp, hp2⟩ := Option.map_eq_some_iff.mp hw
  refine wpAny_getItem_heap (show A.in1.units + 8 < cLine from by show A.units + 1 + 8 < cLine; omega) hk dd hp ?_
  rw [hp2]
  exact h w' _ (I.tok _) rw'
theorem nd_notIn {Q : Value → Shared → Prop} (hu : A.units + 9 < cLine) (I : Inv X pins σ H s) (e : H a = some (ndO X.w a ok xs)) (ky : KeysAt X.prog X.w s.heap xs) (hk : (nestedKind X.prog X.w).is s.heap k b)
    (h : ∀ s', Inv X pins σ H s' → Q (.bool (!(getX xs k).isSome)) s') : wpAny (model X.prog X.w) A (compareOp .NotIn (.ref b) (.ref a)) Q E s := by
  obtain ⟨_, l, hd, ys, rel, dd⟩ := nd_at I e ky
  refine wpAny_notIn_heap (show A.in1.units + 8 < cLine from by show A.units + 1 + 8 < cLine; omega) hk hd dd ?_
  have q := (npr_get rel k).isSome_eq
  rw [Option.isSome_map] at q
  rw [← q]
  exact h _ (I.tok _)
theorem nd_setItem {v : V} {r : Value} {ok' : Prop} {Q : Unit → Shared → Prop} (hu : A.units + 9 < cLine) (I : Inv X pins σ H s) (e : H a = some (ndO X.w a ok xs)) (ky : KeysAt X.prog X.w s.heap xs) (hk : (nestedKind X.prog X.w).is s.heap k b) (l : xs.length < sizeLine)
    (ok2 : ok → ok') (rv : RelV v r) (h : ∀ s', Inv X pins σ (upd H a (ndO X.w a ok' (putX xs k b v))) s' → Q () s') : wpAny (model X.prog X.w) A (setItem (.ref a) (.ref b) r) Q E s := by
  obtain ⟨o1, z, hd, ys, rel, dd⟩ := nd_at I e ky
  have hz : ys.length ≤ sizeLine := by rw [← Paired.len rel]; exact z
  have hl : (putX xs k b v).length ≤ sizeLine := by have := putX_len xs k b v; omega
  refine wpAny_setItem_heap (hsz := hz) (show A.in1.units + 8 < cLine from by show A.units + 1 + 8 < cLine; omega) hk dd fun h' dd' hs => h _ ?_
  obtain ⟨q, es, ep, hq, h2, h3, h4, _, h5⟩ := dd'
  exact d_write I (by rw [e]; exact True.intro) hs ⟨q, hq⟩ (ndO_ok (ok2 o1) ⟨hl, hd, _, npr_put rel k b rv, q, es, ep, hq, h2, h3, h4, h5⟩)
theorem nd_new {ok : Prop} {t' : Nat} (k : ok) (I : Inv X pins σ H s) : Inv X pins σ (upd H s.heap.objs.size (ndO X.w s.heap.objs.size ok [])) { s with heap := s.heap.push { cls := .type "dict", data := .dict #[] }, toks := t' } :=
  I.laid (a := s.heap.objs.size) (fun _ _ q => Heap.get?_push_of_some _ q) (Nat.le_refl _)
    (ndO_ok k ⟨Nat.zero_le _, beq_eq_false_iff_ne.mpr (Ne.symm (Nat.ne_of_lt I.big)), [], .nil, _, #[], 0, Heap.get?_push_size _ rfl, ⟨rfl, rfl, rfl⟩, rfl, rfl, List.nodup_nil⟩)
end
mutual
/-- a tree's key stands in the heap -/
theorem key_is {P : Program} {w : World} {G F H : Hp} {K : PySem.W.Frag} {h : Heap} (hok : HOk P w H h) (f : Same F H) : ∀ (x : T) (v : V) (u : Value), okN x = true → Rp K G F x v → RelV v u → NestedIs h (keyN x) u
  | .int i, v, u, _, r, e => by
    have r : v = .int i := r
    subst r
    obtain ⟨t, rfl⟩ := e
    exact .int i t
  | .bl b, v, u, _, r, e => by
    have r : v = .bl b := r
    subst r
    have e : u = .bool b := e
    rw [e]
    exact .bool rfl
  | .str x, v, u, _, r, e => by
    have r : v = .str x := r
    subst r
    obtain ⟨t, rfl⟩ := e
    exact .text x t
  | .non, v, u, _, r, e => by
    have r : v = .non := r
    subst r
    have e : u = .none := e
    rw [e]
    exact .none
  | .tup xs, v, u, o, ⟨a, vs, hv, h1, h2⟩, e => by
    subst hv
    have e : u = .ref a := e
    obtain ⟨_, its, r, ob, g1, g2, n, g3⟩ := (show ObjOk P w H h a (.tup vs) from hok a _ (f _ _ h1))
    rw [e]
    unfold keyN
    exact .tup g1 g2 g3 (by simpa using keys_are hok f xs vs its o h2 r)
  | .pt xs, v, u, o, ⟨a, vs, ob', hv, h1, _, h2⟩, e => by
    subst hv
    have e : u = .ref a := e
    obtain ⟨_, _, its, r, ob, g1, g2, n, g3⟩ := (show ObjOk P w H h a (.frz ob' (.tup vs)) from hok a _ (f _ _ h1))
    rw [e]
    unfold keyN
    exact .tup g1 g2 g3 (by simpa using keys_are hok f xs vs its o h2 r)
  | .lst _, _, _, o, _, _ => by simp [okN] at o
  | .ro _, _, _, o, _, _ => by simp [okN] at o
  | .emp, _, _, o, _, _ => by simp [okN] at o
  | .remp, _, _, o, _, _ => by simp [okN] at o
theorem keys_are {P : Program} {w : World} {G F H : Hp} {K : PySem.W.Frag} {h : Heap} (hok : HOk P w H h) (f : Same F H) : ∀ (xs : List T) (vs : List V) (us : List Value), okN.oksN xs = true → Rps K G F xs vs → Vals vs us → NestedAll h (keyN.keysN xs) us
  | [], vs, us, _, r, e => by
    have r : vs = [] := r
    subst r
    cases e
    exact .nil
  | x :: xs, vs, us, o, ⟨v, r, hv, h1, h2⟩, e => by
    subst hv
    cases e with
    | cons e1 e2 =>
      unfold okN.oksN at o
      obtain ⟨o1, o2⟩ := Bool.and_eq_true_iff.mp o
      exact .cons (key_is hok f x v _ o1 h1 e1) (keys_are hok f xs r _ o2 h2 e2)
end
theorem isN_is {P : Program} {w : World} {G F H : Hp} {K : PySem.W.Frag} {h : Heap} (hok : HOk P w H h) (f : Same F H) {x : T} {b : Addr} (o : isN x = true) (r : Rp K G F x (.ref b)) : (nestedKind P w).is h (keyN x) b := by
  have e : okN x = true ∧ (keyN x).depth ≤ 8 := by
    unfold isN at o
    split at o
    · exact ⟨(Bool.and_eq_true_iff.mp o).1, of_decide_eq_true (Bool.and_eq_true_iff.mp o).2⟩
    · exact ⟨(Bool.and_eq_true_iff.mp o).1, of_decide_eq_true (Bool.and_eq_true_iff.mp o).2⟩
    · cases o
  exact ⟨key_is hok f x _ _ e.1 r rfl, e.2⟩
theorem isN_ref {K : PySem.W.Frag} {G F : Hp} {x : T} {v : V} (o : isN x = true) (r : Rp K G F x v) : ∃ b, v = .ref b := by
  unfold isN at o
  split at o
  · obtain ⟨a, _, e, _⟩ := r
    exact ⟨a, e⟩
  · obtain ⟨a, _, _, e, _⟩ := r
    exact ⟨a, e⟩
  · cases o
end Gw
/-! GwNe: dicts with nested tuples as keys, in the store (own work). -/
namespace Gw
open PySem PySem.Spec PyProof.Rows L2
/-- what a body cannot see for itself: the world in which texts are hashed (where it makes or asks such a dict); its workers' words, by number, frame and code -/
class Wd where
  w : World
  nf : Nat → Addr → Addr → NdefX.NF
def kdL : List (T × D) → List D
  | [] => []
  | p :: r => .t p.1 :: p.2 :: kdL r
def kdX : List NestedKey → List V → List NX
  | k :: ks, .ref b :: v :: r => (k, b, v) :: kdX ks r
  | _, _ => []
def unX : List NX → List V
  | [] => []
  | x :: r => .ref x.2.1 :: x.2.2 :: unX r
/-- a dict whose keys are nested tuples -/
def kdM (w : World) (kvs : List (T × D)) : MO := .gen (kdL kvs) fun a vs => ndO w a (∀ p ∈ kvs, isN p.1 = true) (kdX (kvs.map fun p => keyN p.1) vs)
def valN (kvs : List (T × D)) (k : NestedKey) : Option D := (kvs.find? fun p => decide (keyN p.1 = k)).map (·.2)
def putN (kvs : List (T × D)) (x : T) (d : D) : List (T × D) := if (valN kvs (keyN x)).isSome = true then kvs.map fun p => if keyN p.1 = keyN x then (p.1, d) else p else kvs ++ [(x, d)]
section
variable {K : PySem.W.Frag} {G F : Hp} {ρ : List Addr}
abbrev NVr (K : PySem.W.Frag) (G F : Hp) (ρ : List Addr) : List (T × D) → List NX → Prop := Paired fun p x => x.1 = keyN p.1 ∧ Rp K G F p.1 (.ref x.2.1) ∧ Rl K G F ρ p.2 x.2.2
theorem nv_of : ∀ {kvs : List (T × D)} {vs : List V}, (∀ p ∈ kvs, isN p.1 = true) → Rls K G F ρ (kdL kvs) vs → NVr K G F ρ kvs (kdX (kvs.map fun p => keyN p.1) vs)
  | [], vs, _, _ => by
    cases vs with
    | nil => exact .nil
    | cons v vs => exact .nil
  | (x, d) :: kvs, vs, h, r => by
    cases r with
    | cons r1 r =>
      cases r with
      | cons r2 r =>
        obtain ⟨b, rfl⟩ := isN_ref (h (x, d) List.mem_cons_self) r1
        exact .cons ⟨rfl, r1, r2⟩ (nv_of (fun p hp => h p (List.mem_cons_of_mem _ hp)) r)
theorem nv_un : ∀ {kvs : List (T × D)} {xs : List NX}, NVr K G F ρ kvs xs → Rls K G F ρ (kdL kvs) (unX xs) ∧ kdX (kvs.map fun p => keyN p.1) (unX xs) = xs
  | _, _, .nil => ⟨.nil, rfl⟩
  | (x, d) :: kvs, (k, b, v) :: xs, .cons r t => by
    obtain ⟨h1, h2⟩ := nv_un t
    obtain ⟨r1, r2, r3⟩ := r
    have r1 : k = keyN x := r1
    refine ⟨.cons r2 (.cons r3 h1), ?_⟩
    rw [List.map_cons]
    show (keyN x, b, v) :: kdX (kvs.map fun p => keyN p.1) (unX xs) = _
    rw [h2, r1]
theorem nv_get : ∀ {kvs : List (T × D)} {xs : List NX} (_ : NVr K G F ρ kvs xs) (k : NestedKey), (valN kvs k = none ∧ getX xs k = none) ∨ ∃ d v, valN kvs k = some d ∧ getX xs k = some v ∧ Rl K G F ρ d v
  | _, _, .nil, _ => .inl ⟨rfl, rfl⟩
  | (x, d) :: kvs, (k', b, v) :: xs, .cons r t, k => by
    have ih := nv_get t k
    obtain ⟨r1, r2, r3⟩ := r
    have r1 : k' = keyN x := r1
    subst r1
    unfold valN getX at ih ⊢
    by_cases e : keyN x = k
    · have z : decide (keyN x = k) = true := decide_eq_true e
      simp only [List.find?_cons, z, Option.map_some]
      exact .inr ⟨d, v, rfl, rfl, r3⟩
    · have z : decide (keyN x = k) = false := decide_eq_false e
      simp only [List.find?_cons, z]
      exact ih
theorem nv_some {kvs : List (T × D)} {xs : List NX} (h : NVr K G F ρ kvs xs) (k : NestedKey) : (valN kvs k).isSome = (getX xs k).isSome := by
  rcases nv_get h k with ⟨e1, e2⟩ | ⟨d, v, e1, e2, _⟩ <;> rw [e1, e2] <;> rfl
theorem nv_repl {k : NestedKey} {d : D} {v : V} (r : Rl K G F ρ d v) : ∀ {kvs : List (T × D)} {xs : List NX}, NVr K G F ρ kvs xs → NVr K G F ρ (kvs.map fun p => if keyN p.1 = k then (p.1, d) else p) (xs.map fun x => if x.1 = k then (x.1, x.2.1, v) else x)
  | _, _, .nil => .nil
  | (x, d') :: kvs, (k', b, v') :: xs, .cons q t => by
    refine .cons ?_ (nv_repl r t)
    obtain ⟨r1, r2, r3⟩ := q
    have r1 : k' = keyN x := r1
    subst r1
    by_cases e : keyN x = k
    · simp only [e, if_true]
      exact ⟨trivial, r2, r⟩
    · simp only [e, if_false]
      exact ⟨trivial, r2, r3⟩
theorem nv_put {kvs : List (T × D)} {xs : List NX} (h : NVr K G F ρ kvs xs) {x : T} {b : Addr} {d : D} {v : V} (rx : Rp K G F x (.ref b)) (r : Rl K G F ρ d v) : NVr K G F ρ (putN kvs x d) (putX xs (keyN x) b v) := by
  unfold putN putX
  rw [nv_some h]
  split
  · exact nv_repl r h
  · exact Paired.app h (.cons ⟨rfl, rx, r⟩ .nil)
theorem nv_keys {P : Program} {w : World} {H : Hp} {h : Heap} (hok : HOk P w H h) (f : Same F H) : ∀ {kvs : List (T × D)} {xs : List NX}, (∀ p ∈ kvs, isN p.1 = true) → NVr K G F ρ kvs xs → KeysAt P w h xs
  | _, _, _, .nil => fun _ z => nomatch z
  | (x, d) :: kvs, (k', b, v') :: xs, o, .cons q t => fun z hz => by
    rcases List.mem_cons.mp hz with rfl | hz
    · obtain ⟨r1, r2, r3⟩ := q
      have r1 : k' = keyN x := r1
      subst r1
      exact isN_is hok f (o (x, d) List.mem_cons_self) r2
    · exact nv_keys hok f (fun p hp => o p (List.mem_cons_of_mem _ hp)) t z hz
end
theorem putN_isN {kvs : List (T × D)} {x : T} {d : D} (h : ∀ p ∈ kvs, isN p.1 = true) (hx : isN x = true) : ∀ p ∈ putN kvs x d, isN p.1 = true := fun p hp => by
  unfold putN at hp
  split at hp
  · obtain ⟨q, hq, rfl⟩ := List.mem_map.mp hp
    split
    · exact h q hq
    · exact h q hq
  · rcases List.mem_append.mp hp with hp | hp
    · exact h p hp
    · rw [List.mem_singleton.mp hp]
      exact hx
/-! ### asked and changed -/
def kIxW (w : World) (μ : Store) (d e : D) (Q : D → Prop) : Prop := match d, e with
  | .loc n, .t x => isN x = true ∧ ∃ kvs y, μ[n]? = some (kdM w kvs) ∧ valN kvs (keyN x) = some y ∧ Q y
  | _, _ => False
def kInW (w : World) (f : Bool → Bool) (μ : Store) (d e : D) (Q : D → Prop) : Prop := match d, e with
  | .t x, .loc n => isN x = true ∧ ∃ kvs, μ[n]? = some (kdM w kvs) ∧ Q (.t (.bl (f (valN kvs (keyN x)).isSome)))
  | _, _ => False
def kSetW (w : World) (μ : Store) (o i x : D) (Q : Store → Prop) : Prop := match o, i with
  | .loc n, .t k => isN k = true ∧ ∃ kvs, μ[n]? = some (kdM w kvs) ∧ kvs.length < sizeLine ∧ Q (μ.set n (kdM w (putN kvs k x)))
  | _, _ => False
def xKd (w : World) : DX := fun _ μ Q => Q (.loc μ.length) (μ ++ [kdM w []])
/-- at a stands such a dict, at b a key -/
def NdK (P : Program) (w : World) (H : Hp) (a b : Addr) (q : List NX → NestedKey → Prop) : Prop := ∀ h, HOk P w H h → ∃ ok xs k, H a = some (ndO w a ok xs) ∧ KeysAt P w h xs ∧ (nestedKind P w).is h k b ∧ q xs k
def rNIx (P : Program) (w : World) : R2 := fun x y H Q => ∃ a b, x = .ref a ∧ y = .ref b ∧ NdK P w H a b fun xs k => ∃ v, getX xs k = some v ∧ Q v H
def rNIn (P : Program) (w : World) (f : Bool → Bool) : R2 := fun y x H Q => ∃ a b, x = .ref a ∧ y = .ref b ∧ NdK P w H a b fun xs k => Q (.bl (f (getX xs k).isSome)) H
def rNSet (P : Program) (w : World) : V → V → V → Hp → (Hp → Prop) → Prop := fun o i v H Q => ∃ a b, o = .ref a ∧ i = .ref b ∧
  ∀ h, HOk P w H h → ∃ ok ok' xs k, H a = some (ndO w a ok xs) ∧ KeysAt P w h xs ∧ (nestedKind P w).is h k b ∧ xs.length < sizeLine ∧ (ok → ok') ∧ Q (upd H a (ndO w a ok' (putX xs k b v)))
section
variable {K : PySem.W.Frag} {G B H : Hp} {ρ0 ρ : List Addr} {μ : Store} {P : Program} {w : World} {n : Nat} {a b : Addr} {kvs : List (T × D)} {x : T}
theorem ndk_of {h0 : Heap} (hok : HOk P w H h0) (s : SH K G B ρ0 μ ρ H) (ha : ρ[n]? = some a) (hm : μ[n]? = some (kdM w kvs)) (hx : isN x = true) (rx : Rp K G (frz B H ρ) x (.ref b)) :
    ∃ xs, H a = some (ndO w a (∀ p ∈ kvs, isN p.1 = true) xs) ∧ KeysAt P w h0 xs ∧ (nestedKind P w).is h0 (keyN x) b ∧ (∀ p ∈ kvs, isN p.1 = true) ∧ NVr K G (frz B H ρ) ρ kvs xs := by
  obtain ⟨vs, h1, _, h2⟩ := s.sto n _ a hm ha
  have ok := (hok a _ h1).1.1
  have r := nv_of ok h2
  exact ⟨_, h1, nv_keys hok (frz_le _ _ _) ok r, isN_is hok (frz_le _ _ _) hx rx, ok, r⟩
theorem kIxW_ok : W2 K (rNIx P w) (kIxW w) := by
  intro G B ρ0 μ ρ H x y v u Q R s rx ry q k
  unfold kIxW at q
  split at q
  · rename_i n t
    obtain ⟨hx, kvs, y, hm, hv, q⟩ := q
    obtain ⟨a, rfl, ha⟩ := rx
    obtain ⟨b, rfl⟩ := isN_ref hx ry
    refine ⟨a, b, rfl, rfl, fun h hok => ?_⟩
    obtain ⟨xs, h1, h2, h3, h4, h5⟩ := ndk_of hok s ha hm hx ry
    refine ⟨_, xs, _, h1, h2, h3, ?_⟩
    rcases nv_get h5 (keyN t) with ⟨e, _⟩ | ⟨d, v, e1, e2, e3⟩
    · rw [hv] at e
      cases e
    · rw [hv] at e1
      cases e1
      exact ⟨v, e2, k _ _ H q (Same.refl _) e3⟩
  · exact q.elim
theorem kInW_ok (f : Bool → Bool) : W2 K (rNIn P w f) (kInW w f) := by
  intro G B ρ0 μ ρ H x y v u Q R s rx ry q k
  unfold kInW at q
  split at q
  · rename_i t n
    obtain ⟨hx, kvs, hm, q⟩ := q
    obtain ⟨a, rfl, ha⟩ := ry
    obtain ⟨b, rfl⟩ := isN_ref hx rx
    refine ⟨a, b, rfl, rfl, fun h hok => ?_⟩
    obtain ⟨xs, h1, h2, h3, h4, h5⟩ := ndk_of hok s ha hm hx rx
    refine ⟨_, xs, _, h1, h2, h3, ?_⟩
    show R (.bl (f (getX xs (keyN t)).isSome)) H
    rw [← nv_some h5]
    exact k _ _ H q (Same.refl _) rfl
  · exact q.elim
end
section
variable {X : Cx}
theorem op_knin (hu : X.A.units + 65 < cLine) : OpR X (compareOp .NotIn) (rNIn X.prog X.w not) := by
  intro pins s σ H x y v u Q I rx ry h
  obtain ⟨a, b, rfl, rfl, h⟩ := h
  obtain ⟨ok, xs, k, h1, h2, h3, q⟩ := h _ I.hok
  obtain rfl : u = Value.ref a := ry
  obtain rfl : v = Value.ref b := rx
  exact nd_notIn (by omega) I h1 h2 h3 fun s3 I3 => ⟨.bl (!(getX xs k).isSome), H, I3, rfl, q⟩
theorem ix_kd (hu : X.A.units + 65 < cLine) : IxR X (rNIx X.prog X.w) := by
  intro value slice pins s σ H x y v u Q I rx ry h hs
  obtain ⟨a, b, rfl, rfl, h⟩ := h
  obtain ⟨ok, xs, k, h1, h2, h3, z, hz, q⟩ := h _ I.hok
  obtain rfl : v = Value.ref a := rx
  obtain rfl : u = Value.ref b := ry
  exact tail_any (nd_type I h1) PySem.F.slot_dict_getitem.lookup (nd_getItem (by omega) I h1 h2 h3 hz fun w' s3 I3 rw' => ⟨z, H, I3, rw', q⟩) hs
theorem set_kd (hu : X.A.units + 65 < cLine) : PSet X (rNSet X.prog X.w) := by
  intro pins s σ H o i v ov iv u Q I ro ri rv h
  obtain ⟨a, b, rfl, rfl, h⟩ := h
  obtain ⟨ok, ok', xs, k, h1, h2, h3, h4, h5, q⟩ := h _ I.hok
  obtain rfl : ov = Value.ref a := ro
  obtain rfl : iv = Value.ref b := ri
  exact nd_setItem (by omega) I h1 h2 h3 h4 h5 rv fun s3 I3 => ⟨_, I3, q⟩
end
/-- o[i] = v -/
def sKSet (w : World) (v : DX) (o i : DP) : DS := fun env μ P => v env μ fun x μ' => o env μ' fun d => i env μ' fun e => kSetW w μ' d e x fun μ2 => P.nx env μ2
def tNdNew (w : World) (ok : Prop) : TE := fun _ H Q => ∀ p, H p = none → Q (.ref p) (upd H p (ndO w p ok []))
section
variable {X : Cx} {a b value o i : Expr} {p q : DP} {v : DX} {pos pos' : Pos}
theorem ex_kix (hu : X.A.units + 65 < cLine) (ha : EX X a p) (hb : EX X b q) (hs : PlainIx b := by exact fun _ _ => rfl) : EX X (.Subscript a b pos) (d2 p q (kIxW X.w)) :=
  PE.imp (pe_ix (ix_kd hu) ha hb hs) fun σ H R h => two kIxW_ok h
theorem tx_knin (hu : X.A.units + 65 < cLine) (ha : EX X a p) (hb : EX X b q) (hm : behindInMarks .NotIn b = false := by rfl) : TX X (.Compare a [.NotIn] [b] pos) (dTest (d2 p q (kInW X.w not))) := tx_cmp (op_knin hu) (kInW_ok not) ha hb hm
theorem pe_ndnew {ok : Prop} (k : ok) : PE X (.Dict [] [] pos) (tNdNew X.w ok) := ⟨fun pins s σ H Q I h =>
  wpAny_Dict_empty ⟨.ref s.heap.objs.size, _, nd_new (t' := s.toks) k I, rfl, h _ (I.hok.fresh (Nat.le_refl _))⟩⟩
theorem xx_kd : XX X (.Dict [] [] pos) (xKd X.w) := by
  refine PE.imp (pe_ndnew (ok := ∀ p ∈ ([] : List (T × D)), isN p.1 = true) fun _ z => nomatch z) fun σ H R ⟨G, B, ρ0, env, μ, ρ, Q, s, q1, k⟩ p hp => ?_
  obtain ⟨c1, c2, c3, c4⟩ := claim s (same_new (o := ndO X.w p (∀ p ∈ ([] : List (T × D)), isN p.1 = true) []) hp) hp (m := kdM X.w []) ⟨[], upd_same, rfl, .nil⟩
  exact k _ _ _ _ _ q1 c1 c2 c3 c4
theorem sx_kset (hu : X.A.units + 65 < cLine) (hv : XX X value v) (ho : EX X o p) (hi : EX X i q)
    (ha : ∀ v, assign (.Subscript o i pos') X.env v = (do
      let ov ← holding [v] (eval o X.env)
      let iv ← holding [v, ov] (eval i X.env)
      standAt pos'
      holding [v, ov, iv] (setItem ov iv v)
      release [v, ov, iv] []) := by intro _; rfl)
    (hs : swapsWithSole [.Subscript o i pos'] value pos.line X.env = pure false := by rfl) (hw : swappedStores [.Subscript o i pos'] value X.env = pure none := by rfl) (h1 : (assignEach [.Subscript o i pos'] X.env).map (·.2) = [assign (.Subscript o i pos') X.env] := by rfl) :
    SX X (.Assign [.Subscript o i pos'] value pos) (sKSet X.w v p q) :=
  PS.imp (ps_asg hv (pg_sub ho hi (set_kd hu) ha) hs hw h1) fun E σ H ⟨G, B, ρ0, env, μ, ρ, P, s, q1, k⟩ => by
    refine ⟨G, B, ρ0, env, μ, ρ, _, s, q1, fun x xv μ1 ρ1 H1 q2 s1 p1 e1 r1 => ?_⟩
    refine ⟨G, B, ρ0, env, μ1, ρ1, _, s1, q2, fun d dv H2 q3 e2 r2 => ⟨G, B, ρ0, env, μ1, ρ1, _, s1.mono e2, q3, fun e ev H3 q4 e3 r3 => ?_⟩⟩
    have s3 := (s1.mono e2).mono e3
    have rx := r1.mono (frz_mono (B := B) (ρ := ρ1) (e2.trans e3)) (List.prefix_refl _)
    have rd := r2.mono (frz_mono (B := B) (ρ := ρ1) e3) (List.prefix_refl _)
    have fr : Same (frz B H ρ) (frz B H3 ρ1) := e1.trans (frz_mono (e2.trans e3))
    unfold kSetW at q4
    split at q4
    · rename_i n t
      obtain ⟨hx, kvs, hm, hl, q4⟩ := q4
      obtain ⟨a, rfl, ha⟩ := rd
      obtain ⟨b, rfl⟩ := isN_ref hx r3
      refine ⟨a, b, rfl, rfl, fun h hok => ?_⟩
      obtain ⟨xs, h1, h2, h3, h4, h5⟩ := ndk_of hok s3.sh ha hm hx r3
      refine ⟨_, (∀ p ∈ putN kvs t x, isN p.1 = true), xs, _, h1, h2, h3, by rw [← Paired.len h5]; exact hl, fun o => putN_isN o hx, ?_⟩
      have nv := nv_put h5 r3 rx
      obtain ⟨u1, u2⟩ := nv_un nv
      have s4 := s3.upd (m := kdM X.w (putN kvs t x)) (o := ndO X.w a (∀ p ∈ putN kvs t x, isN p.1 = true) (putX xs (keyN t) b xv)) ha ⟨_, by show upd _ _ _ _ = some (ndO _ _ _ (kdX _ _)); rw [u2]; exact upd_same, rfl, u1⟩
      exact k.nx env _ ρ1 σ _ q4 s4 p1 (by rw [frz_upd (List.mem_of_getElem? ha)]; exact fr)
    · exact q4.elim
end
end Gw
/-! GwWk: cells of a frame further out, shown in the heap for a callee, hidden for what owns them (own work). -/
namespace Gw
open PySem PySem.Spec PyProof.Rows L2
def hideH (C : List Addr) (H : Hp) : Hp := fun b => if b ∈ C then none else H b
def backH (C : List Addr) (H H1 : Hp) : Hp := fun b => if b ∈ C then H b else H1 b
def CellsH (C : List Addr) (H : Hp) : Prop := ∀ c ∈ C, ∃ o v, H c = some (CelO o v)
section
variable {C : List Addr} {H H1 H' : Hp} {b : Addr} {P : Program} {w : World} {h h' : Heap} {fs : List Addr}
theorem hide_in (hb : b ∈ C) : hideH C H b = none := if_pos hb
theorem hide_out (hb : b ∉ C) : hideH C H b = H b := if_neg hb
theorem back_in (hb : b ∈ C) : backH C H H1 b = H b := if_pos hb
theorem back_out (hb : b ∉ C) : backH C H H1 b = H1 b := if_neg hb
theorem hide_le : Same (hideH C H) H := fun b o e => by
  by_cases hb : b ∈ C
  · rw [hide_in hb] at e
    cases e
  · rw [hide_out hb] at e
    exact e
/-- a thing that is no cell -/
theorem no_cel (k : CellsH C H) {o : HO} (e : H b = some o) (n : ∀ ob v, o ≠ CelO ob v) : b ∉ C := fun hb => by
  obtain ⟨ob, v, q⟩ := k b hb
  rw [e] at q
  exact n ob v (Option.some.inj q)
theorem hide_to (k : CellsH C H) {o : HO} (e : H b = some o) (n : ∀ ob v, o ≠ CelO ob v) : hideH C H b = some o := by
  rw [hide_out (no_cel k e n)]
  exact e
theorem hide_hok (k : CellsH C H) (x : HOk P w H h) : HOk P w (hideH C H) h := fun a o e => by
  have e1 := hide_le a o e
  exact (x a o e1).stay (fun _ _ _ q => q) (fun b q => hide_to k q fun _ _ z => nomatch z) (fun b xs q => hide_to k q fun _ _ z => nomatch z)
/-- the cells behind a call that does not know them -/
theorem back_ok (k : CellsH C H) (x : HOk P w H h) (u : Un fs [] (hideH C H) H1 h h') (x1 : HOk P w H1 h') (nf : ∀ c ∈ C, c ∉ fs) : Un fs [] H (backH C H H1) h h' ∧ HOk P w (backH C H H1) h' := by
  have dom : ∀ c ∈ C, ∃ o, h.get? c = some o := fun c hc => by
    obtain ⟨o, v, e⟩ := k c hc
    exact ⟨o, (x c _ e).1⟩
  have no1 : ∀ c ∈ C, H1 c = none := fun c hc => let ⟨o, e⟩ := dom c hc; u.free c o e (hide_in hc) (fun z => nomatch z)
  have nC : ∀ b, H b = none → b ∉ C := fun b e hb => by
    obtain ⟨o, v, q⟩ := k b hb
    rw [e] at q
    cases q
  refine ⟨⟨fun b o e n hf _ => u.keep b o e (by rw [hide_out (nC b n)]; exact n) hf (fun z => nomatch z), fun b o e n hf _ => u.slot b o e (by rw [hide_out (nC b n)]; exact n) hf (fun z => nomatch z), fun b o e n _ => ?_, u.there, fun b xs e => ?_, fun b o z e => ?_, fun b ps e => ?_⟩, fun a o e => ?_⟩
  · rw [back_out (nC b n)]
    exact u.free b o e (by rw [hide_out (nC b n)]; exact n) (fun z => nomatch z)
  · have hb := no_cel k e fun _ _ z => nomatch z
    rw [back_out hb]
    exact u.tups b xs (by rw [hide_out hb]; exact e)
  · by_cases hb : b ∈ C
    · rw [back_in hb]
      exact e
    · rw [back_out hb]
      exact u.frzs b o z (by rw [hide_out hb]; exact e)
  · have hb := no_cel k e fun _ _ z => nomatch z
    obtain ⟨more, q⟩ := u.tbls b ps (by rw [hide_out hb]; exact e)
    exact ⟨more, by rw [back_out hb]; exact q⟩
  · by_cases ha : a ∈ C
    · rw [back_in ha] at e
      obtain ⟨ob, v, q⟩ := k a ha
      rw [e] at q
      cases q
      obtain ⟨g, φ, _, st⟩ := x a _ e
      have g' := u.keep a ob g (hide_in ha) (nf a ha) (fun z => nomatch z)
      exact ⟨g', φ, ⟨_, g'⟩, st⟩
    · rw [back_out ha] at e
      refine (x1 a o e).stay (fun _ _ _ q => q) (fun b q => ?_) (fun b xs q => ?_)
      · have hb : b ∉ C := fun hb => by
          rw [no1 b hb] at q
          cases q
        rw [back_out hb]
        exact q
      · have hb : b ∉ C := fun hb => by
          rw [no1 b hb] at q
          cases q
        rw [back_out hb]
        exact q
end
/-! ### what stands in the store -/
section
variable {K : PySem.W.Frag} {C : List Addr} {G B F H : Hp} {ρ0 ρ : List Addr} {μ : Store}
theorem hide_rd (k : CellsH C H) (g : Same G H) {a : Addr} {u : HO} (n : ∀ ob v, u ≠ CelO ob v) (n2 : ∀ o ob v, HO.frz o u ≠ CelO ob v) (r : Rd G a u) : Rd (hideH C G) a u := by
  rcases r with r | ⟨o, r⟩
  · exact .inl (by rw [hide_out (no_cel k (g _ _ r) n)]; exact r)
  · exact .inr ⟨o, by rw [hide_out (no_cel k (g _ _ r) (n2 o))]; exact r⟩
theorem hide_sql (k : CellsH C H) (g : Same G H) {a : Addr} {vs : List V} (r : SqL K G a vs) : SqL K (hideH C G) a vs := by
  rcases r with r | r
  · exact .inl (hide_rd k g (fun _ _ z => nomatch z) (fun _ _ _ z => nomatch z) r)
  · exact .inr r
mutual
theorem Rp.hide (k : CellsH C H) (g : Same G H) (f : Same F H) : ∀ (x : T) (v : V), Rp K G F x v → Rp K (hideH C G) (hideH C F) x v
  | .emp, v, ⟨a, hv, h⟩ => ⟨a, hv, by rw [hide_out (no_cel k (f _ _ h) fun _ _ z => nomatch z)]; exact h⟩
  | .remp, v, ⟨a, hv, h⟩ => ⟨a, hv, by rw [hide_out (no_cel k (g _ _ h) fun _ _ z => nomatch z)]; exact h⟩
  | .non, v, h => h
  | .bl _, v, h => h
  | .int _, v, h => h
  | .str _, v, h => h
  | .tup xs, v, ⟨a, vs, hv, h, r⟩ => ⟨a, vs, hv, by rw [hide_out (no_cel k (f _ _ h) fun _ _ z => nomatch z)]; exact h, Rps.hide k g f xs vs r⟩
  | .lst xs, v, ⟨a, vs, hv, h, r⟩ => ⟨a, vs, hv, by rw [hide_out (no_cel k (f _ _ h) fun _ _ z => nomatch z)]; exact h, Rps.hide k g f xs vs r⟩
  | .ro xs, v, ⟨a, vs, hv, h, r⟩ => ⟨a, vs, hv, hide_sql k g h, Rps.hide k g f xs vs r⟩
  | .pt xs, v, ⟨a, vs, o, hv, h, hd, r⟩ => ⟨a, vs, o, hv, by rw [hide_out (no_cel k (f _ _ h) fun _ _ z => nomatch z)]; exact h, hd, Rps.hide k g f xs vs r⟩
theorem Rps.hide (k : CellsH C H) (g : Same G H) (f : Same F H) : ∀ (xs : List T) (vs : List V), Rps K G F xs vs → Rps K (hideH C G) (hideH C F) xs vs
  | [], vs, h => h
  | x :: xs, vs, ⟨v, r, hv, h1, h2⟩ => ⟨v, r, hv, Rp.hide k g f x v h1, Rps.hide k g f xs r h2⟩
end
mutual
theorem Rl.hide (k : CellsH C H) (g : Same G H) (f : Same F H) : ∀ (d : D) (v : V), Rl K G F ρ d v → Rl K (hideH C G) (hideH C F) ρ d v
  | .t x, v, h => Rp.hide k g f x v h
  | .loc n, v, h => h
  | .tp ds, v, ⟨a, vs, hv, h, r⟩ => ⟨a, vs, hv, by rw [hide_out (no_cel k (f _ _ h) fun _ _ z => nomatch z)]; exact h, RlA.hide k g f ds vs r⟩
theorem RlA.hide (k : CellsH C H) (g : Same G H) (f : Same F H) : ∀ (ds : List D) (vs : List V), RlA K G F ρ ds vs → RlA K (hideH C G) (hideH C F) ρ ds vs
  | [], vs, h => h
  | d :: ds, vs, ⟨v, r, hv, h1, h2⟩ => ⟨v, r, hv, Rl.hide k g f d v h1, RlA.hide k g f ds r h2⟩
end
theorem Rls.hide (k : CellsH C H) (g : Same G H) (f : Same F H) {ds : List D} {vs : List V} (h : Rls K G F ρ ds vs) : Rls K (hideH C G) (hideH C F) ρ ds vs := Paired.imp (fun d v r => Rl.hide k g f d v r) h
/-- no worker that knows its cells -/
def clean : MO → Prop
  | .fn _ (some _) => False
  | _ => True
theorem MOk.hide (k : CellsH C H) (g : Same G H) (f : Same F H) {H2 : Hp} {a : Addr} (ha : H2 a = H a) : ∀ {m : MO}, clean m → MOk K G F ρ H a m → MOk K (hideH C G) (hideH C F) ρ H2 a m
  | .exc x, _, ⟨cls, d, ⟨C', h1, h2, h3⟩, h⟩ => by
    refine ⟨cls, d, ⟨C', h1, h2, ?_⟩, ha.trans h⟩
    rcases h3 with h3 | ⟨dd, ws, h4, h5, h6, h7⟩
    · exact .inl h3
    · exact .inr ⟨dd, ws, h4, h5, by rw [hide_out (no_cel k (f _ _ h6) fun _ _ z => nomatch z)]; exact h6, Paired.imp (fun _ _ r => ⟨r.1, Rp.hide k g f _ _ r.2⟩) h7⟩
  | .lst ds, _, ⟨vs, h, r⟩ => ⟨vs, ha.trans h, Rls.hide k g f r⟩
  | .dic kvs, _, ⟨vs, h, r⟩ => ⟨vs, ha.trans h, Paired.imp (fun _ _ r => ⟨r.1, Rl.hide k g f _ _ r.2⟩) r⟩
  | .lck z kvs, _, ⟨h, r⟩ => ⟨ha.trans h, Paired.imp (fun _ _ r => ⟨r.1, Rl.hide k g f _ _ r.2⟩) r⟩
  | .ins c fs, _, ⟨C', dx, ws, h0, h, r⟩ => ⟨C', dx, ws, h0, ha.trans h, Paired.imp (fun _ _ r => ⟨r.1, Rl.hide k g f _ _ r.2⟩) r⟩
  | .tab d q, _, ⟨h0, ps, h1, h2, h3⟩ => ⟨h0, ps, ha.trans h1, h2, fun pos cv e => let ⟨c, e1, e2⟩ := h3 pos cv e; ⟨c, e1, by rw [hide_out (no_cel k (f _ _ e2) fun _ _ z => nomatch z)]; exact e2⟩⟩
  | .gen ds o, _, ⟨vs, h, h0, r⟩ => ⟨vs, ha.trans h, h0, Rls.hide k g f r⟩
  | .fn nf none, _, ⟨h, h0, h1, _⟩ => ⟨ha.trans h, by rw [hide_out (no_cel k (f _ _ h0) fun _ _ z => nomatch z)]; exact h0, h1, fun _ z => nomatch z⟩
theorem frz_hideC : frz (hideH C B) (hideH C H) ρ = hideH C (frz B H ρ) := by
  funext b
  unfold frz
  by_cases hb : b ∈ C
  · rw [hide_in hb, hide_in hb, hide_in hb]
    split
    · rfl
    · rfl
  · rw [hide_out hb, hide_out hb, hide_out hb]
end
section
variable {K : PySem.W.Frag} {G G' F F' H H' : Hp} {ρ ρ' : List Addr}
mutual
theorem Rl.mono2 (g : Same G G') (e : Same F F') (p : ρ <+: ρ') : ∀ (d : D) (v : V), Rl K G F ρ d v → Rl K G' F' ρ' d v
  | .t x, v, h => Rp.mono2 g e x v h
  | .loc n, v, h => Rl.mono (K := K) (G := G) (F := F) (F' := F') e p (d := .loc n) h
  | .tp ds, v, ⟨a, vs, hv, h, r⟩ => ⟨a, vs, hv, e _ _ h, RlA.mono2 g e p ds vs r⟩
theorem RlA.mono2 (g : Same G G') (e : Same F F') (p : ρ <+: ρ') : ∀ (ds : List D) (vs : List V), RlA K G F ρ ds vs → RlA K G' F' ρ' ds vs
  | [], vs, h => h
  | d :: ds, vs, ⟨v, r, hv, h1, h2⟩ => ⟨v, r, hv, Rl.mono2 g e p d v h1, RlA.mono2 g e p ds r h2⟩
end
theorem Rls.mono2 (g : Same G G') (e : Same F F') (p : ρ <+: ρ') {ds : List D} {vs : List V} (h : Rls K G F ρ ds vs) : Rls K G' F' ρ' ds vs := Paired.imp (fun d v r => Rl.mono2 g e p d v r) h
theorem MOk.mono2 (g : Same G G') (e : Same F F') (p : ρ <+: ρ') {a : Addr} (ha : H' a = H a) : ∀ {m : MO}, MOk K G F ρ H a m → MOk K G' F' ρ' H' a m
  | .exc x, ⟨cls, d, ⟨C', h1, h2, h3⟩, h⟩ => by
    refine ⟨cls, d, ⟨C', h1, h2, ?_⟩, ha.trans h⟩
    rcases h3 with h3 | ⟨dd, ws, h4, h5, h6, h7⟩
    · exact .inl h3
    · exact .inr ⟨dd, ws, h4, h5, e _ _ h6, Paired.imp (fun _ _ r => ⟨r.1, Rp.mono2 g e _ _ r.2⟩) h7⟩
  | .lst ds, ⟨vs, h, r⟩ => ⟨vs, ha.trans h, Rls.mono2 g e p r⟩
  | .dic kvs, ⟨vs, h, r⟩ => ⟨vs, ha.trans h, Paired.imp (fun _ _ r => ⟨r.1, Rl.mono2 g e p _ _ r.2⟩) r⟩
  | .lck z kvs, ⟨h, r⟩ => ⟨ha.trans h, Paired.imp (fun _ _ r => ⟨r.1, Rl.mono2 g e p _ _ r.2⟩) r⟩
  | .ins c fs, ⟨C', dx, ws, h0, h, r⟩ => ⟨C', dx, ws, h0, ha.trans h, Paired.imp (fun _ _ r => ⟨r.1, Rl.mono2 g e p _ _ r.2⟩) r⟩
  | .tab d q, ⟨h0, ps, h1, h2⟩ => ⟨h0, ps, ha.trans h1, h2.mono e⟩
  | .gen ds o, ⟨vs, h, h0, r⟩ => ⟨vs, ha.trans h, h0, Rls.mono2 g e p r⟩
  | .fn nf caps, ⟨h1, h2, h0, h3⟩ => ⟨ha.trans h1, e _ _ h2, h0, fun ds hd => let ⟨vs, r, q⟩ := h3 ds hd; ⟨vs, Rls.mono2 g e p r, Paired.imp (fun _ _ ⟨o, z⟩ => ⟨o, e _ _ z⟩) q⟩⟩
end
theorem set_at {μ : Store} {n i : Nat} {m o : MO} (h : (μ.set n m)[i]? = some o) : (i = n ∧ o = m) ∨ (i ≠ n ∧ μ[i]? = some o) := by
  by_cases hi : i = n
  · subst hi
    have hl : i < μ.length := by
      have := (List.getElem?_eq_some_iff.mp h).1
      rw [List.length_set] at this
      exact this
    rw [List.getElem?_set_self hl] at h
    cases h
    exact .inl ⟨rfl, rfl⟩
  · rw [List.getElem?_set_ne (fun e => hi e.symm)] at h
    exact .inr ⟨hi, h⟩
section
variable {K : PySem.W.Frag} {C : List Addr} {G B H H1 : Hp} {ρ0 ρ ρ1 : List Addr} {μ μ1 : Store} {n : Nat} {nf : NdefX.NF} {caps : Option (List D)}
/-- a store seen without the cells: the worker that has them knows them no more -/
theorem SH.hideW (s : SH K G B ρ0 μ ρ H) (k : CellsH C H) (nr : ∀ c ∈ C, c ∉ ρ) (hn : μ[n]? = some (.fn nf caps)) (cl : ∀ i o, μ[i]? = some o → i ≠ n → clean o) :
    SH K (hideH C G) (hideH C B) ρ0 (μ.set n (.fn nf none)) ρ (hideH C H) := by
  refine ⟨fun b o e => ?_, fun b o e => ?_, fun a ha => ?_, fun a ha => ?_, s.nd, s.pre, by rw [List.length_set]; exact s.len, fun i o a h1 h2 => ?_⟩
  · by_cases hb : b ∈ C
    · rw [hide_in hb] at e
      cases e
    · rw [hide_out hb] at e ⊢
      exact s.same b o e
  · by_cases hb : b ∈ C
    · rw [hide_in hb] at e
      cases e
    · rw [hide_out hb] at e ⊢
      exact s.sameG b o e
  · rw [hide_out fun hb => nr a hb ha]
    exact s.out a ha
  · rw [hide_out fun hb => nr a hb ha]
    exact s.outG a ha
  · have ha : hideH C H a = H a := hide_out fun hb => nr a hb (List.mem_of_getElem? h2)
    rw [frz_hideC]
    rcases set_at h1 with ⟨rfl, rfl⟩ | ⟨hi, h1⟩
    · obtain ⟨g1, g2, g3⟩ := s.sto i _ a hn h2
      exact ⟨ha.trans g1, by rw [hide_out (no_cel k (frz_le _ _ _ _ _ g2) fun _ _ z => nomatch z)]; exact g2, g3.1, fun _ z => nomatch z⟩
    · exact MOk.hide k s.sameG (frz_le _ _ _) ha (cl i o h1 hi) (s.sto i o a h1 h2)
/-- .. and with them again -/
theorem SH.backW (s : SH K G B ρ0 μ ρ H) (k : CellsH C H) (nr : ∀ c ∈ C, c ∉ ρ) (hn : μ[n]? = some (.fn nf caps)) (s1 : SH K (hideH C G) (hideH C B) ρ0 μ1 ρ1 H1) (p : ρ <+: ρ1) (e1 : Same (frz (hideH C B) (hideH C H) ρ) (frz (hideH C B) H1 ρ1)) (no1 : ∀ c ∈ C, H1 c = none)
    (hn1 : μ1[n]? = some (.fn nf none)) : SH K G B ρ0 (μ1.set n (.fn nf caps)) ρ1 (backH C H H1) ∧ Same (frz B H ρ) (frz B (backH C H H1) ρ1) ∧ Same (hideH C G) G ∧ Same (frz (hideH C B) H1 ρ1) (frz B (backH C H H1) ρ1) := by
  have nr1 : ∀ c ∈ C, c ∉ ρ1 := fun c hc hb => by
    obtain ⟨o, e, _⟩ := s1.there hb
    rw [no1 c hc] at e
    cases e
  have le12 : Same (frz (hideH C B) H1 ρ1) (frz B (backH C H H1) ρ1) := fun b o e => by
    unfold frz at e ⊢
    by_cases hb : b ∈ C
    · rw [no1 b hb] at e
      split at e
      · cases e
      · split at e
        · cases e
        · cases e
    · rw [hide_out hb] at e
      rw [back_out hb]
      exact e
  have sm : Same (frz B H ρ) (frz B (backH C H H1) ρ1) := fun b o e => by
    by_cases hb : b ∈ C
    · unfold frz at e ⊢
      rw [if_neg (nr b hb)] at e
      rw [if_neg (nr1 b hb), back_in hb]
      exact e
    · exact le12 b o (e1 b o (by rw [frz_hideC, hide_out hb]; exact e))
  refine ⟨⟨fun b o e => ?_, fun b o e => ?_, fun a ha => ?_, fun a ha => ?_, s1.nd, s1.pre, by rw [List.length_set]; exact s1.len, fun i o a h1 h2 => ?_⟩, sm, hide_le, le12⟩
  · by_cases hb : b ∈ C
    · rw [back_in hb]
      exact s.same b o e
    · rw [back_out hb]
      exact s1.same b o (by rw [hide_out hb]; exact e)
  · by_cases hb : b ∈ C
    · rw [back_in hb]
      exact s.sameG b o e
    · rw [back_out hb]
      exact s1.sameG b o (by rw [hide_out hb]; exact e)
  · have := s1.out a ha
    rw [hide_out fun hb => nr1 a hb ha] at this
    exact this
  · have := s1.outG a ha
    rw [hide_out fun hb => nr1 a hb ha] at this
    exact this
  · have ha : backH C H H1 a = H1 a := back_out fun hb => nr1 a hb (List.mem_of_getElem? h2)
    rcases set_at h1 with ⟨rfl, rfl⟩ | ⟨hi, h1⟩
    · obtain ⟨g1, g2, g3⟩ := s1.sto i _ a hn1 h2
      have hl : i < ρ.length := by
        rw [← s.len]
        exact (List.getElem?_eq_some_iff.mp hn).1
      obtain ⟨δ, rfl⟩ := p
      have h2' : ρ[i]? = some a := by
        rw [List.getElem?_append_left hl] at h2
        exact h2
      obtain ⟨f1, f2, f3⟩ := s.sto i _ a hn h2'
      refine ⟨ha.trans g1, le12 _ _ g2, g3.1, fun ds hd => ?_⟩
      obtain ⟨vs, r, q⟩ := f3.2 ds hd
      exact ⟨vs, Rls.mono2 (Same.refl _) sm (List.prefix_append _ _) r, Paired.imp (fun _ _ ⟨o, z⟩ => ⟨o, sm _ _ z⟩) q⟩
    · exact MOk.mono2 hide_le le12 (List.prefix_refl _) ha (s1.sto i o a h1 h2)
end
end Gw
/-! GwWl: a worker (a def within a def) that is called in a frame which does not own its cells (own work). -/
namespace Gw
open PySem PySem.Spec PyProof.Rows L2
open NdefX (NF FnO CellsAt)
/-- a worker's contract, its cells told as ws -/
structure WkOk (P : Program) (w : World) (K : PySem.W.Frag) (mg : Str → Option Value) (base : Heap) (k : Nat) (f : Addr) (nf : NF) (sp : List (Option V) → Sp) : Prop where
  run : ∀ (B : Around) (out : List Env) (t : Shared) (G : Hp) (uu : List Value) (xs : List V) (ws : List (Option V)) (R : VK) (Z : XK), Room k B → Env0 P w K mg base B out t G → G f = some (FnO f nf) → G nf.c = some (LamX.CodeO nf.c nf.qual) →
    CellsAt nf.cl (nf.cl.map (·.1)) ws t.heap G → Vals xs uu → sp ws xs G R Z → codeAny (model P w) B (.call (.ref f) ⟨uu, []⟩) (CR CX0 out P w G t R Z) t
theorem WkOk.mono {P : Program} {w : World} {K : PySem.W.Frag} {mg : Str → Option Value} {base : Heap} {i j : Nat} {f : Addr} {nf : NF} {sp : List (Option V) → Sp} (F : WkOk P w K mg base i f nf sp) (le : i ≤ j) : WkOk P w K mg base j f nf sp :=
  ⟨fun B out t G uu xs ws R Z z => F.run B out t G uu xs ws R Z (z.mono le)⟩
theorem WkOk.imp {P : Program} {w : World} {K : PySem.W.Frag} {mg : Str → Option Value} {base : Heap} {i : Nat} {f : Addr} {nf : NF} {sp sp' : List (Option V) → Sp} (F : WkOk P w K mg base i f nf sp) (h : ∀ ws xs G R Z, sp' ws xs G R Z → sp ws xs G R Z) : WkOk P w K mg base i f nf sp' :=
  ⟨fun B out t G uu xs ws R Z z e0 h1 h2 ca r q => F.run B out t G uu xs ws R Z z e0 h1 h2 ca r (h _ _ _ _ _ q)⟩
/-- what a worker promises: what it captured, what it is given -/
abbrev WFn := List D → DFn
def spGW (K : PySem.W.Frag) (c : WFn) (ws : List (Option V)) : Sp := fun vs H Q _ => ∃ G B ρ0 μ ρ ds caps cvs P, ws = cvs.map some ∧ SH K G B ρ0 μ ρ H ∧ Rls K G (frz B H ρ) ρ caps cvs ∧ Rls K G (frz B H ρ) ρ ds vs ∧ c caps ds μ P ∧
  ∀ d v μ' ρ' H', P d μ' → SH K G B ρ0 μ' ρ' H' → ρ <+: ρ' → Same (frz B H ρ) (frz B H' ρ') → Rl K G (frz B H' ρ') ρ' d v → Q v H'
theorem fst_inj {l : List (Str × Addr)} (h : (l.map (·.2)).Nodup) {x y : Str} {c : Addr} (h1 : (x, c) ∈ l) (h2 : (y, c) ∈ l) : x = y := by
  induction l with
  | nil => cases h1
  | cons p l ih =>
    rw [List.map_cons, List.nodup_cons] at h
    rcases List.mem_cons.mp h1 with e1 | h1 <;> rcases List.mem_cons.mp h2 with e2 | h2
    · have := e1.trans e2.symm
      cases this
      rfl
    · exact absurd (List.mem_map.mpr ⟨_, h2, by rw [← e1]⟩) h.1
    · exact absurd (List.mem_map.mpr ⟨_, h1, by rw [← e2]⟩) h.1
    · exact ih h.2 h1 h2
theorem look_at : ∀ {l : List (Str × Addr)} (_ : (l.map (·.1)).Nodup) {i : Nat} {p : Str × Addr}, l[i]? = some p → l.lookup p.1 = some p.2
  | [], _, i, p, h => by simp at h
  | q :: l, nd, 0, p, h => by
    have e : q = p := by simpa using h
    subst e
    simp [List.lookup]
  | q :: l, nd, i + 1, p, h => by
    have h : l[i]? = some p := by simpa using h
    rw [List.map_cons, List.nodup_cons] at nd
    have ne : p.1 ≠ q.1 := fun e => nd.1 (List.mem_map.mpr ⟨p, List.mem_of_getElem? h, e⟩)
    rw [List.lookup]
    have : (p.1 == q.1) = false := by simpa using ne
    rw [this]
    exact look_at nd.2 h
section
variable {P : Program} {w : World} {K : PySem.W.Frag} {G F H : Hp} {ρ : List Addr} {h : Heap} {nf : NF} {vs : List V}
theorem paired_mem {α β : Type} {R : α → β → Prop} : ∀ {l : List α} {m : List β}, Paired R l m → ∀ a ∈ l, ∃ b, R a b
  | _, _, .nil, a, z => nomatch z
  | _, _, .cons r t, a, z => by
    rcases List.mem_cons.mp z with rfl | z
    · exact ⟨_, r⟩
    · exact paired_mem t a z
theorem cells_h (f : Same F H) (q : Paired (fun (p : Str × Addr) (v : V) => ∃ o, F p.2 = some (CelO o v)) nf.cl vs) : CellsH (nf.cl.map (·.2)) H := fun c hc => by
  obtain ⟨p, hp, rfl⟩ := List.mem_map.mp hc
  obtain ⟨v, o, e⟩ := paired_mem q p hp
  exact ⟨o, v, f _ _ e⟩
theorem cells_at (hok : HOk P w H h) (f : Same F H) (nd : (nf.cl.map (·.1)).Nodup ∧ (nf.cl.map (·.2)).Nodup) (q : Paired (fun (p : Str × Addr) (v : V) => ∃ o, F p.2 = some (CelO o v)) nf.cl vs) :
    CellsAt nf.cl (nf.cl.map (·.1)) (vs.map some) h (hideH (nf.cl.map (·.2)) H) := by
  have cel : ∀ {c : Addr} {o : Obj} {v : V}, F c = some (CelO o v) → ∃ u, L2.RelV v u ∧ h.IsCell c (some u) := fun {c o v} e => by
    obtain ⟨g, ⟨u, r, hd⟩, _⟩ := hok c _ (f _ _ e)
    exact ⟨u, r, o, g, hd⟩
  refine ⟨by rw [List.length_map, List.length_map, Paired.len q], fun y c e => ?_, fun x y c e1 e2 => fst_inj nd.2 (PySem.mem_of_lookup e1) (PySem.mem_of_lookup e2), fun i y e => ?_⟩
  · have hm := PySem.mem_of_lookup e
    obtain ⟨v, o, z⟩ := paired_mem q _ hm
    obtain ⟨u, _, g⟩ := cel z
    exact ⟨hide_in (List.mem_map.mpr ⟨_, hm, rfl⟩), _, g⟩
  · rw [List.getElem?_map] at e
    cases hp : nf.cl[i]? with
    | none =>
      rw [hp] at e
      cases e
    | some p =>
      rw [hp] at e
      have e : p.1 = y := Option.some.inj e
      subst e
      refine ⟨p.2, look_at nd.1 hp, fun v ev => ?_⟩
      obtain ⟨v', h1, o, z⟩ := Paired.at q hp
      rw [List.getElem?_map, h1] at ev
      have ev : v' = v := Option.some.inj (Option.some.inj ev)
      subst ev
      exact cel z
end
section
variable {X : Cx} {pins : List (Addr × Obj)} {σ : L2.St} {H : Hp} {s : Shared} {C : List Addr}
theorem env_hide (I : Inv X pins σ H s) (k : CellsH C H) : Env0 X.prog X.w X.K X.mg X.base X.A X.stack s (hideH C H) := by
  have e := I.env0
  have n : ∀ b, H b = none → hideH C H b = none := fun b h => by
    by_cases hb : b ∈ C
    · exact hide_in hb
    · rw [hide_out hb]
      exact h
  exact ⟨e.frames, e.mod, fun b o z => ⟨(e.bs b o z).1, n b (e.bs b o z).2⟩, e.bsz, e.funs, fun b hb => n b (e.frf b hb), hide_hok k e.hok, e.bare⟩
theorem not_frame (I : Inv X pins σ H s) (k : CellsH C H) : ∀ c ∈ C, c ∉ frs X.stack := fun c hc hb => by
  obtain ⟨o, v, e⟩ := k c hc
  rw [I.env0.frf c hb] at e
  cases e
/-- the worker runs, its cells hidden -/
theorem run_hid {k j : Nat} {f : Addr} {nf : NF} {sp : List (Option V) → Sp} {us : List Value} {vs : List V} {ws : List (Option V)} {Q : VK} {E : XK} (Fn : WkOk X.prog X.w X.K X.mg X.base k f nf sp) (hr : Room j X.A) (hk : k ≤ j) (I : Inv X pins σ H s) (kC : CellsH C H)
    (hf : hideH C H f = some (FnO f nf)) (hc : hideH C H nf.c = some (LamX.CodeO nf.c nf.qual)) (ca : CellsAt nf.cl (nf.cl.map (·.1)) ws s.heap (hideH C H)) (r : Vals vs us) (q : sp ws vs (hideH C H) (fun v H1 => (∀ c ∈ C, H1 c = none) → Q v (backH C H H1)) E) :
    wpAny (model X.prog X.w) X.A (call (.ref f) us) (EP X pins σ Q) X.xe s := by
  refine wpAny_call (codeAny_mono (Fn.run X.A X.stack s (hideH C H) us vs ws _ E (hr.mono hk) (env_hide I kC) hf hc ca r q) fun r s' hq => ?_)
  cases r with
  | error e => exact False.elim hq
  | ok fl =>
    cases fl with
    | ret u =>
      obtain ⟨v, H1, os, bare, un, hok, rv, q1⟩ := hq
      obtain ⟨un', hok'⟩ := back_ok kC I.hok un hok (not_frame I kC)
      have no1 : ∀ c ∈ C, H1 c = none := fun c hc => by
        obtain ⟨o, v, e⟩ := kC c hc
        exact un.free c o (I.hok c _ e).1 (hide_in hc) (fun z => nomatch z)
      exact I.after ⟨v, _, os, bare, un', hok', rv, q1 no1⟩
    | next => exact False.elim hq
    | brk => exact False.elim hq
    | cont => exact False.elim hq
end
/-- f(..), f a name that holds a worker -/
def xCallW (c : NF → WFn) (i : Nat) (a : DAX) : DX := fun env μ Q => ∃ n nf0 caps0, env[i]? = some (some (.loc n)) ∧ μ[n]? = some (.fn nf0 caps0) ∧ a env μ fun ds μ1 => ∃ nf caps, μ1[n]? = some (.fn nf (some caps)) ∧ (∀ i o, μ1[i]? = some o → i ≠ n → clean o) ∧
  c nf caps ds (μ1.set n (.fn nf none)) fun d μ2 => μ2[n]? = some (.fn nf none) ∧ Q d (μ2.set n (.fn nf (some caps)))
section
variable {X : Cx} {j k i : Nat} {x : Str} {e : Expr} {es : List Expr} {p pos : Pos} {a : DAX} {c : NF → WFn}
theorem xx_callW (Fn : ∀ f nf, WkOk X.prog X.w X.K X.mg X.base k f nf (spGW X.K (c nf))) (hr : Room j X.A) (hk : k ≤ j) (ha : AXX X (e :: es) a) (hN : X.N[i]? = some x := by rfl) (hv : Vis X.env.scope x := by first | exact Or.inl rfl | exact Or.inr (Or.inl rfl) | exact Or.inr (Or.inr rfl))
    (hd : (x == ("__debug__" : Str)) = false := by decide) (hcd : (x == ("__classdict__" : Str)) = false := by decide)
    (he : starEach (e :: es) X.env = (false, eval e X.env) :: starEach es X.env := by rfl) (hpl : (backTo pos (starEach es X.env)).any (·.1) = false := by rfl) :
    XX X (.Call (.Name x p) (e :: es) [] pos) (xCallW c i a) := by
  refine ⟨fun pins s σ H R I h => ?_⟩
  obtain ⟨G, B, ρ0, env, μ, ρ, Q, sr, ⟨n, nf0, caps0, hs, hm, ht⟩, fin⟩ := h
  obtain ⟨v0, hs1, f, rfl, hf⟩ := sr.slot i _ hs
  obtain ⟨hf0, _⟩ := sr.sh.sto n _ f hm hf
  refine wpAny_Call_Name_kw (thn ((pe_var (pos := p) hN hv hd hcd).run pins s σ H (fun v H1 => v = .ref f ∧ H1 = H) I ⟨.ref f, hs1, rfl, rfl⟩) fun u s1 ⟨v, H1, I1, r1, q1⟩ => ?_)
  obtain ⟨ev, eH⟩ := q1
  subst ev
  rw [eH] at I1
  obtain rfl : u = Value.ref f := r1
  refine PySem.W.callWith_F (first := []) (NdefX.fnAt_of I1 hf0) (thn (ha.run pos pins s1 σ H
      (fun vs H2 => ∃ ds μ2 ρ2, SR X.K G B ρ0 env μ2 ρ2 σ H2 ∧ ρ <+: ρ2 ∧ Same (frz B H ρ) (frz B H2 ρ2) ∧ Rls X.K G (frz B H2 ρ2) ρ2 ds vs ∧ ∃ nf caps, μ2[n]? = some (.fn nf (some caps)) ∧ (∀ i o, μ2[i]? = some o → i ≠ n → clean o) ∧
        c nf caps ds (μ2.set n (.fn nf none)) fun d μ3 => μ3[n]? = some (.fn nf none) ∧ Q d (μ3.set n (.fn nf (some caps)))) I1
      ⟨G, B, ρ0, env, μ, ρ, _, sr, ht, fun ds vs μ2 ρ2 H2 q2 s2 p2 e2 r2 => ⟨ds, μ2, ρ2, s2, p2, e2, r2, q2⟩⟩) fun us s2 ⟨vs, H2, I2, r, ds, μ2, ρ2, sr2, p2, e2, rd, nf, caps, hm2, cl, q⟩ => ?_) he hpl
  have hf2 : ρ2[n]? = some f := by
    obtain ⟨δ, rfl⟩ := p2
    rw [List.getElem?_append_left (List.getElem?_eq_some_iff.mp hf).1]
    exact hf
  obtain ⟨g1, g2, nd, g3⟩ := sr2.sh.sto n _ f hm2 hf2
  obtain ⟨cvs, rc, qc⟩ := g3 caps rfl
  refine ⟨NdefX.fnAt_of I2 g1, ?_⟩
  show wpAny _ _ (call (.ref f) us) _ _ _
  have kC := cells_h (frz_le _ _ _) qc
  have nr : ∀ c ∈ nf.cl.map (·.2), c ∉ ρ2 := fun c hc hb => by
    obtain ⟨y, hy, rfl⟩ := List.mem_map.mp hc
    obtain ⟨v, o, z⟩ := paired_mem qc y hy
    unfold frz at z
    rw [if_pos hb] at z
    cases z
  have Fn := Fn f nf
  have fC : f ∉ nf.cl.map (·.2) := fun hb => nr f hb (List.mem_of_getElem? hf2)
  have sh' := sr2.sh.hideW kC nr hm2 cl
  refine run_hid Fn hr hk I2 kC (by rw [hide_out fC]; exact g1) (hide_to kC (frz_le _ _ _ _ _ g2) fun _ _ z => nomatch z) (cells_at I2.hok (frz_le _ _ _) nd qc) r (E := fun _ _ _ => False) ?_
  refine ⟨hideH _ G, hideH _ B, ρ0, _, ρ2, ds, caps, cvs, _, rfl, sh', ?_, ?_, q, ?_⟩
  · rw [frz_hideC]
    exact Rls.hide kC sr2.sh.sameG (frz_le _ _ _) rc
  · rw [frz_hideC]
    exact Rls.hide kC sr2.sh.sameG (frz_le _ _ _) rd
  · intro d v μ3 ρ3 H3 ⟨q1, q2⟩ s3 p3 e3 r3 no1
    obtain ⟨s4, sm, hg, le⟩ := sr2.sh.backW kC nr hm2 s3 p3 e3 no1 q1
    refine fin d v _ ρ3 _ q2 ⟨s4, sr2.slen, fun i d h => let ⟨v, h1, h2⟩ := sr2.slot i d h; ⟨v, h1, h2.mono sm p3⟩⟩ (p2.trans p3) (e2.trans sm) (Rl.mono2 hg le (List.prefix_refl _) _ _ r3)
end
end Gw
/-! GwWm: a def is called with a worker by the frame that owns the worker's cells (own work). -/
namespace Gw
open PySem PySem.Spec PyProof.Rows L2
open NdefX (NF FnO CellsAt Caps slotAt)
def showH (l : List (Addr × HO)) (H : Hp) : Hp := fun b => match l.lookup b with
  | some u => some u
  | none => H b
theorem lookup_none {l : List (Addr × HO)} {b : Addr} (h : b ∉ l.map (·.1)) : l.lookup b = none := by
  induction l with
  | nil => rfl
  | cons p l ih =>
    rw [List.map_cons, List.mem_cons, not_or] at h
    rw [List.lookup]
    have : (b == p.1) = false := by simpa using h.1
    rw [this]
    exact ih h.2
theorem lookup_at : ∀ {l : List (Addr × HO)} (_ : (l.map (·.1)).Nodup) {p : Addr × HO}, p ∈ l → l.lookup p.1 = some p.2
  | [], _, p, h => nomatch h
  | q :: l, nd, p, h => by
    rw [List.map_cons, List.nodup_cons] at nd
    rcases List.mem_cons.mp h with rfl | h
    · simp [List.lookup]
    · have ne : p.1 ≠ q.1 := fun e => nd.1 (List.mem_map.mpr ⟨p, h, e⟩)
      rw [List.lookup]
      have : (p.1 == q.1) = false := by simpa using ne
      rw [this]
      exact lookup_at nd.2 h
section
variable {P : Program} {w : World} {H : Hp} {h : Heap} {l : List (Addr × HO)} {C : List Addr}
/-- cells as they stand -/
def CelL (h : Heap) (l : List (Addr × HO)) : Prop := ∀ p ∈ l, ∃ o v u, p.2 = CelO o v ∧ h.get? p.1 = some o ∧ L2.RelV v u ∧ o.data = .cell (some u)
theorem show_out {b : Addr} (hb : b ∉ l.map (·.1)) : showH l H b = H b := by
  unfold showH
  rw [lookup_none hb]
theorem show_in (nd : (l.map (·.1)).Nodup) {p : Addr × HO} (hp : p ∈ l) : showH l H p.1 = some p.2 := by
  unfold showH
  rw [lookup_at nd hp]
theorem show_same (no : ∀ c ∈ l.map (·.1), H c = none) : Same H (showH l H) := fun b o e => by
  rw [show_out fun hb => by rw [no b hb] at e; cases e]
  exact e
theorem show_hok (nd : (l.map (·.1)).Nodup) (L : CelL h l) (no : ∀ c ∈ l.map (·.1), H c = none) (x : HOk P w H h) : HOk P w (showH l H) h := fun a o e => by
  by_cases ha : a ∈ l.map (·.1)
  · obtain ⟨p, hp, rfl⟩ := List.mem_map.mp ha
    rw [show_in nd hp] at e
    obtain ⟨ob, v, u, e1, g, r, d⟩ := L p hp
    cases e
    rw [e1]
    exact ⟨g, ⟨u, r, d⟩, ⟨_, g⟩, fun _ _ q _ => q⟩
  · rw [show_out ha] at e
    exact (x a o e).stay (fun _ _ _ q => q) (fun b q => show_same no b _ q) (fun b xs q => show_same no b _ q)
/-- behind the call they are nobody's again -/
theorem unshow_ok {fs : List Addr} {h' : Heap} {H2 : Hp} (nd : (l.map (·.1)).Nodup) (L : CelL h l) (no : ∀ c ∈ l.map (·.1), H c = none) (u : Un fs [] (showH l H) H2 h h') (x2 : HOk P w H2 h') :
    CellsH (l.map (·.1)) H2 ∧ Un fs [] H (hideH (l.map (·.1)) H2) h h' ∧ HOk P w (hideH (l.map (·.1)) H2) h' := by
  have cel : ∀ c ∈ l.map (·.1), ∃ o v, H2 c = some (CelO o v) ∧ h.get? c = some o := fun c hc => by
    obtain ⟨p, hp, rfl⟩ := List.mem_map.mp hc
    obtain ⟨o, v, u', e, g, _⟩ := L p hp
    exact ⟨o, v, u.frzs p.1 o _ (by rw [show_in nd hp, e]; rfl), g⟩
  have k : CellsH (l.map (·.1)) H2 := fun c hc => let ⟨o, v, e, _⟩ := cel c hc; ⟨o, v, e⟩
  have out : ∀ {b : Addr} {o : HO}, H b = some o → b ∉ l.map (·.1) := fun {b o} e hb => by
    rw [no b hb] at e
    cases e
  refine ⟨k, ⟨fun b o e n hf _ => ?_, fun b o e n hf _ => ?_, fun b o e n _ => ?_, u.there, fun b xs e => ?_, fun b o z e => ?_, fun b ps e => ?_⟩, hide_hok k x2⟩
  · by_cases hb : b ∈ l.map (·.1)
    · obtain ⟨o1, v, e1, g⟩ := cel b hb
      have g2 := (x2 b _ e1).1
      rw [e] at g
      cases g
      exact g2
    · exact u.keep b o e (by rw [show_out hb]; exact n) hf (fun z => nomatch z)
  · by_cases hb : b ∈ l.map (·.1)
    · obtain ⟨o1, v, e1, g⟩ := cel b hb
      have g2 := (x2 b _ e1).1
      rw [e] at g
      cases g
      exact ⟨o.slots, g2⟩
    · exact u.slot b o e (by rw [show_out hb]; exact n) hf (fun z => nomatch z)
  · by_cases hb : b ∈ l.map (·.1)
    · exact hide_in hb
    · rw [hide_out hb]
      exact u.free b o e (by rw [show_out hb]; exact n) (fun z => nomatch z)
  · rw [hide_out (out e)]
    exact u.tups b xs (by rw [show_out (out e)]; exact e)
  · rw [hide_out (out e)]
    exact u.frzs b o z (by rw [show_out (out e)]; exact e)
  · obtain ⟨more, q⟩ := u.tbls b ps (by rw [show_out (out e)]; exact e)
    exact ⟨more, by rw [hide_out (out e)]; exact q⟩
/-- the cells of a function, as a list of what stands there -/
theorem cel_list : ∀ {cl : List (Str × Addr)} {vs : List V}, cl.length = vs.length → (∀ (i : Nat) (p : Str × Addr) (v : V), cl[i]? = some p → vs[i]? = some v → ∃ u, L2.RelV v u ∧ h.IsCell p.2 (some u)) →
    ∃ l : List (Addr × HO), l.map (·.1) = cl.map (·.2) ∧ CelL h l ∧ Paired (fun (p : Str × Addr) (v : V) => ∃ o, (p.2, CelO o v) ∈ l) cl vs
  | [], [], _, _ => ⟨[], rfl, fun _ z => (nomatch z), .nil⟩
  | [], _ :: _, e, _ => by simp at e
  | _ :: _, [], e, _ => by simp at e
  | p :: cl, v :: vs, e, k => by
    obtain ⟨l, h1, h2, h3⟩ := cel_list (cl := cl) (vs := vs) (by simpa using e) fun i q y e1 e2 => k (i + 1) q y (by simpa using e1) (by simpa using e2)
    obtain ⟨u, r, o, g, d⟩ := k 0 p v rfl rfl
    refine ⟨(p.2, CelO o v) :: l, by rw [List.map_cons, List.map_cons, h1], fun q hq => ?_, .cons ⟨o, List.mem_cons_self⟩ (Paired.imp (fun _ _ ⟨o, z⟩ => ⟨o, List.mem_cons_of_mem _ z⟩) h3)⟩
    rcases List.mem_cons.mp hq with rfl | hq
    · exact ⟨o, v, u, rfl, g, r, d⟩
    · exact h2 q hq
end
section
variable {K : PySem.W.Frag} {G B H : Hp} {ρ0 ρ : List Addr} {μ : Store} {n : Nat} {a : Addr} {m : MO}
theorem SH.setM (s : SH K G B ρ0 μ ρ H) (ha : ρ[n]? = some a) (hm : MOk K G (frz B H ρ) ρ H a m) : SH K G B ρ0 (μ.set n m) ρ H :=
  ⟨s.same, s.sameG, s.out, s.outG, s.nd, s.pre, by rw [List.length_set]; exact s.len, fun i o b h1 h2 => by
    rcases set_at h1 with ⟨rfl, rfl⟩ | ⟨_, h1⟩
    · rw [ha] at h2
      cases h2
      exact hm
    · exact s.sto i o b h1 h2⟩
end
/-- f(.., g, ..): g a worker of this frame, whose cells it owns; js: where the names stand that g captured -/
def xCallO (W : Addr → NF) (js : List Nat) (Φ : DFn) (a : DAX) : DX := fun env μ Q => a env μ fun ds μ1 => ∃ n c caps, μ1[n]? = some (.fn (W c) none) ∧ js.map (fun j => env[j]?) = caps.map (fun d => some (some d)) ∧ (∀ (i : Nat) (o : MO), μ1[i]? = some o → clean o) ∧
  Φ ds (μ1.set n (.fn (W c) (some caps))) fun d μ2 => μ2[n]? = some (.fn (W c) (some caps)) ∧ (∀ (i : Nat) (o : MO), μ2[i]? = some o → i ≠ n → clean o) ∧ Q d (μ2.set n (.fn (W c) none))
section
variable {X : Cx} {pins : List (Addr × Obj)} {σ : L2.St} {H : Hp} {s : Shared} {l : List (Addr × HO)} {cl : List (Str × Addr)} {fr : List Str} {js : List Nat}
theorem env_show (I : Inv X pins σ H s) (nd : (l.map (·.1)).Nodup) (L : CelL s.heap l) (no : ∀ c ∈ l.map (·.1), H c = none) (nb : ∀ c ∈ l.map (·.1), X.base.get? c = none) (nf : ∀ c ∈ l.map (·.1), c ∉ frs X.stack) :
    Env0 X.prog X.w X.K X.mg X.base X.A X.stack s (showH l H) := by
  have e := I.env0
  refine ⟨e.frames, e.mod, fun b o z => ⟨(e.bs b o z).1, ?_⟩, e.bsz, e.funs, fun b hb => ?_, show_hok nd L no e.hok, e.bare⟩
  · rw [show_out fun hb => by rw [nb b hb] at z; cases z]
    exact (e.bs b o z).2
  · rw [show_out fun hc => nf b hc hb]
    exact e.frf b hb
/-- own cells are neither of the base nor frames -/
theorem cells_free (I : Inv X pins σ H s) (hfn : ∀ y, X.fn y = true) (hst : X.env.frame = some X.env.locals) (cp : Caps X cl fr js) : ∀ c ∈ cl.map (·.2), (∃ y, cl.lookup y = some c) → H c = none ∧ X.base.get? c = none ∧ c ∉ frs X.stack := fun c _ ⟨y, hy⟩ => by
  have hx := cp.sub y c hy
  have big := I.ok.cab y c (hfn y) hx
  obtain ⟨v, o, ho, hd⟩ := I.cell y c hx
  have fsl : ∀ b ∈ X.fs, b < X.s_0.heap.objs.size := fun b hb => by
    obtain ⟨_, o, h, _⟩ := I.ok.funs.mem hb
    exact Heap.lt_size h
  have nl : c ≠ X.env.locals := fun e => by
    obtain ⟨m, hn, _⟩ := I.loc
    rw [← e] at hn
    obtain ⟨ob, es, ep, h1, h2⟩ := hn
    rw [ho] at h1
    cases h1
    simp_all
  refine ⟨I.freeC y c hx, ?_, fun hb => ?_⟩
  · cases e : X.base.get? c with
    | none => rfl
    | some o =>
      exact absurd (Nat.lt_of_lt_of_le (Heap.lt_size e) (Nat.le_trans I.ok.bsz big)) (Nat.lt_irrefl _)
  · rcases I.ok.stk with e | ⟨e, _⟩
    · rw [e] at hb
      exact absurd (Nat.lt_of_lt_of_le (fsl c hb) big) (Nat.lt_irrefl _)
    · rw [e] at hb
      unfold frs at hb
      rw [List.filterMap_cons, hst] at hb
      rcases List.mem_cons.mp hb with hb | hb
      · exact nl hb
      · exact absurd (Nat.lt_of_lt_of_le (fsl c hb) big) (Nat.lt_irrefl _)
end
theorem caps_vals {K : PySem.W.Frag} {G B H : Hp} {ρ0 ρ : List Addr} {env : DEnv} {μ : Store} {σ : L2.St} (sr : SR K G B ρ0 env μ ρ σ H) : ∀ {js : List Nat} {caps : List D}, js.map (fun j => env[j]?) = caps.map (fun d => some (some d)) →
    ∃ cvs, Rls K G (frz B H ρ) ρ caps cvs ∧ js.map (slotAt σ) = cvs.map some
  | [], [], _ => ⟨[], .nil, rfl⟩
  | [], _ :: _, e => by simp at e
  | _ :: _, [], e => by simp at e
  | j :: js, d :: caps, e => by
    rw [List.map_cons, List.map_cons, List.cons.injEq] at e
    obtain ⟨cvs, h1, h2⟩ := caps_vals sr e.2
    obtain ⟨v, h3, h4⟩ := sr.slot j d e.1
    exact ⟨v :: cvs, .cons h4 h1, by rw [List.map_cons, List.map_cons, h2, NdefX.slotAt_of h3]⟩
section
variable {X : Cx} {k : Nat} {f : Addr} {fd : FuncData} {ps : List Str} {js : List Nat} {x : Str} {e : Expr} {es : List Expr} {p pos : Pos} {a : DAX} {Φ : DFn} {W : Addr → NF}
theorem xx_callO (F : FnOk X.prog X.w X.K X.mg X.base CX0 k f fd ps (spG X.K Φ)) (hr : Room k X.A) (hm : X.mg x = some (.ref f)) (hk : PySem.W.keepIn X.K (.ref f) = true) (hb : Binds X.K fd ps []) (cp : ∀ c, X.Ok → Caps X (W c).cl ((W c).cl.map (·.1)) js) (ha : AXX X (e :: es) a) (hfn : ∀ y, X.fn y = true := by intro _; rfl) (hst : X.env.frame = some X.env.locals := by rfl) (hg : Gl X x := by rfl)
    (hdb : (x == ("__debug__" : Str)) = false := by decide) (he : starEach (e :: es) X.env = (false, eval e X.env) :: starEach es X.env := by rfl) (hpl : (backTo pos (starEach es X.env)).any (·.1) = false := by rfl) : XX X (.Call (.Name x p) (e :: es) [] pos) (xCallO W js Φ a) := by
  refine ⟨fun pins s σ H R I h => ?_⟩
  obtain ⟨G, B, ρ0, env, μ, ρ, Q, sr, ht, fin⟩ := h
  refine wpAny_Call_Name_kw (ld_glob I hg hm ?_ hdb)
  refine PySem.W.callWith_K (h₀ := X.base) I.ok.mod.kin hk (thn (ha.run pos pins s σ H
      (fun vs H1 => ∃ ds μ1 ρ1, SR X.K G B ρ0 env μ1 ρ1 σ H1 ∧ ρ <+: ρ1 ∧ Same (frz B H ρ) (frz B H1 ρ1) ∧ Rls X.K G (frz B H1 ρ1) ρ1 ds vs ∧ ∃ n c caps, μ1[n]? = some (.fn (W c) none) ∧ js.map (fun j => env[j]?) = caps.map (fun d => some (some d)) ∧ (∀ (i : Nat) (o : MO), μ1[i]? = some o → clean o) ∧
        Φ ds (μ1.set n (.fn (W c) (some caps))) fun d μ2 => μ2[n]? = some (.fn (W c) (some caps)) ∧ (∀ (i : Nat) (o : MO), μ2[i]? = some o → i ≠ n → clean o) ∧ Q d (μ2.set n (.fn (W c) none))) I
      ⟨G, B, ρ0, env, μ, ρ, _, sr, ht, fun ds vs μ1 ρ1 H1 q1 s1 p1 e1 r1 => ⟨ds, μ1, ρ1, s1, p1, e1, r1, q1⟩⟩) fun us s1 ⟨vs, H1, I1, r, ds, μ1, ρ1, sr1, p1, e1, rd, n, c, caps, hm1, hjs, cl, q⟩ => ⟨I1.kIn, ?_⟩) he hpl
  obtain ⟨fa, hf1⟩ : ∃ fa, ρ1[n]? = some fa := by
    have hl := (List.getElem?_eq_some_iff.mp hm1).1
    rw [sr1.sh.len] at hl
    exact ⟨_, List.getElem?_eq_getElem hl⟩
  obtain ⟨g1, g2, nd, _⟩ := sr1.sh.sto n _ fa hm1 hf1
  have cp := cp c I1.ok
  have ca := NdefX.cells_of I1 cp
  obtain ⟨cvs, rc, hw⟩ := caps_vals sr1 hjs
  rw [hw] at ca
  have len : (W c).cl.length = cvs.length := by
    have := ca.len
    rw [List.length_map, List.length_map] at this
    exact this.symm
  obtain ⟨l, l1, l2, l3⟩ := cel_list (h := s1.heap) (cl := (W c).cl) (vs := cvs) len fun i y v h1 h2 => by
    obtain ⟨c', h3, h4⟩ := ca.has i y.1 (by rw [List.getElem?_map, h1]; rfl)
    rw [look_at nd.1 h1] at h3
    cases h3
    exact h4 v (by rw [List.getElem?_map, h2]; rfl)
  have nd' : (l.map (·.1)).Nodup := by
    rw [l1]
    exact nd.2
  have fre : ∀ b ∈ l.map (·.1), H1 b = none ∧ X.base.get? b = none ∧ b ∉ frs X.stack := fun b hb => by
    rw [l1] at hb
    refine cells_free I1 hfn hst cp b hb ?_
    obtain ⟨y, hy, rfl⟩ := List.mem_map.mp hb
    obtain ⟨i, hi⟩ := List.getElem?_of_mem hy
    exact ⟨y.1, look_at nd.1 hi⟩
  have no : ∀ b ∈ l.map (·.1), H1 b = none := fun b hb => (fre b hb).1
  have sm := show_same (H := H1) no
  have sh3 := (sr1.sh.mono sm).setM (m := .fn (W c) (some caps)) hf1 ⟨sm _ _ g1, frz_mono sm _ _ g2, nd, fun ds hd => by
    cases hd
    refine ⟨cvs, Paired.imp (fun _ _ r => r.mono (frz_mono sm) (List.prefix_refl _)) rc, Paired.imp (fun y v ⟨o, z⟩ => ⟨o, ?_⟩) l3⟩
    have hb : y.2 ∈ l.map (·.1) := List.mem_map.mpr ⟨_, z, rfl⟩
    exact frz_of (show_in nd' z) (sr1.sh.fresh (no _ hb)) (sr1.sh.freshB (no _ hb))⟩
  have hG : hideH (l.map (·.1)) G = G := by
    funext b
    by_cases hb : b ∈ l.map (·.1)
    · rw [hide_in hb, sr1.sh.sameG.free (no b hb)]
    · exact hide_out hb
  have hB : hideH (l.map (·.1)) B = B := by
    funext b
    by_cases hb : b ∈ l.map (·.1)
    · rw [hide_in hb, sr1.sh.freshB (no b hb)]
    · exact hide_out hb
  have hF : ∀ (H2 : Hp) (ρ2 : List Addr), frz B (hideH (l.map (·.1)) H2) ρ2 = hideH (l.map (·.1)) (frz B H2 ρ2) := fun H2 ρ2 => by
    have z := frz_hideC (C := l.map (·.1)) (B := B) (H := H2) (ρ := ρ2)
    rw [hB] at z
    exact z
  have rvs : Vals vs us := r
  have sp : spG X.K Φ vs (showH l H1) (fun v H2 => CellsH (l.map (·.1)) H2 → R v (hideH (l.map (·.1)) H2)) (fun _ _ _ => False) := by
    refine ⟨G, B, ρ0, _, ρ1, ds, _, sh3, Paired.imp (fun _ _ r => r.mono (frz_mono sm) (List.prefix_refl _)) rd, q, fun d v μ2 ρ2 H2 ⟨q1, q2, q3⟩ s2 p2 e2 r2 kC => ?_⟩
    have hf2 : ρ2[n]? = some fa := by
      obtain ⟨δ, rfl⟩ := p2
      rw [List.getElem?_append_left (List.getElem?_eq_some_iff.mp hf1).1]
      exact hf1
    obtain ⟨_, _, _, w3⟩ := s2.sto n _ fa q1 hf2
    obtain ⟨cv2, _, w4⟩ := w3 caps rfl
    have nr : ∀ b ∈ l.map (·.1), b ∉ ρ2 := fun b hb hz => by
      rw [l1] at hb
      obtain ⟨y, hy, rfl⟩ := List.mem_map.mp hb
      obtain ⟨v', o, z⟩ := paired_mem w4 y hy
      unfold frz at z
      rw [if_pos hz] at z
      cases z
    have s3 := s2.hideW kC nr q1 q2
    rw [hG, hB] at s3
    have sm2 : Same (frz B H1 ρ1) (frz B (hideH (l.map (·.1)) H2) ρ2) := fun b o z => by
      have hb : b ∉ l.map (·.1) := fun hb => by
        have := frz_le _ _ _ _ _ z
        rw [no b hb] at this
        cases this
      rw [hF, hide_out hb]
      exact e2 b o (frz_mono sm b o z)
    have r3 := Rl.hide kC s2.sameG (frz_le _ _ _) d v r2
    rw [hG, ← hF] at r3
    exact fin d v _ ρ2 _ q3 ⟨s3, sr1.slen, fun i d h => let ⟨v, h1, h2⟩ := sr1.slot i d h; ⟨v, h1, h2.mono sm2 p2⟩⟩ (p1.trans p2) (e1.trans sm2) r3
  have hl : us.length = ps.length := by
    rw [← Paired.len rvs]
    exact F.len _ _ _ _ sp
  have bt := hb s1 us I1.kIn (by rw [List.append_nil]; exact hl)
  rw [List.append_nil] at bt
  refine wpAny_call (codeAny_mono (F.run X.A X.stack s1 (showH l H1) ⟨us, []⟩ us vs _ _ hr (env_show I1 nd' l2 no (fun b hb => (fre b hb).2.1) (fun b hb => (fre b hb).2.2)) bt rvs sp) fun r s' hq => ?_)
  cases r with
  | error e => exact False.elim hq
  | ok fl =>
    cases fl with
    | ret u =>
      obtain ⟨v, H2, os, bare, un, hok, rv, q1⟩ := hq
      obtain ⟨kC, un', hok'⟩ := unshow_ok nd' l2 no un hok
      exact I1.after ⟨v, _, os, bare, un', hok', rv, q1 kC⟩
    | next => exact False.elim hq
    | brk => exact False.elim hq
    | cont => exact False.elim hq
end
end Gw
/-! GwWn: a worker's contract from its body (own work). -/
namespace Gw
open PySem PySem.Spec PyProof.Rows L2
open NdefX (NF FnO CellsAt NScope ncx envF startF inv_startN)
section
variable {P : Program} {w : World} {K : PySem.W.Frag} {mg : Str → Option Value} {base : Heap} {N ps fr : List Str} {nf : NF} {f : Addr} {j : Nat} {sp : List (Option V) → Sp}
theorem wk_of (S : NScope N ps fr nf.scope) (hfr : nf.cl.map (·.1) = fr) (bd : ∀ (doc pm ctv : Value) (uu : List Value), uu.length = ps.length → bindArgs (nf.fd doc pm ctv) ⟨uu, []⟩ = pure (ps.zip uu)) (len : ∀ ws xs G R Z, sp ws xs G R Z → xs.length = ps.length)
    (hb : ∀ (B : Around) (out : List Env) (t : Shared) (G : Hp) (xs : List V) (ws : List (Option V)) (R : VK) (Z : XK), Room j (B.deeper (envF nf f t.heap.objs.size)) → ws.length = fr.length → sp ws xs G R Z →
      ∃ τ, PSs (ncx CX0 P w K mg base N nf f B out t G Z) nf.body τ ∧ τ { nx := fun _ G' => R .non G', rt := R } (startF N xs ws) G) : WkOk P w K mg base (j + 1) f nf sp := by
  constructor
  intro B out t G uu xs ws R Z z e0 hf hc ca r q
  rw [hfr] at ca
  have n := len _ _ _ _ _ q
  obtain ⟨od, sl, doc, pm, ctv, ho⟩ := NdefX.fnO_at e0.hok hf
  have lm : t.heap.NoLimit := e0.mod.nolimit.keeps fun a o y => (e0.bs a o y).1
  refine codeAny_call_function z.ro.depth ho rfl S.co S.gen rfl (NdefX.codeO_at e0.hok hc) ?_
  rw [bd doc pm ctv uu (r.length.symm.trans n)]
  refine wpAny_pure (wpAny_newFunctionEnv S.nocell (fun y hy => S.par y.1 (List.of_mem_zip (show (y.1, y.2) ∈ _ from hy)).1) ?_ S.kind)
  intro h1 ns be
  refine ⟨lm.fresh _ be, ?_⟩
  show codeAny _ _ (.func nf.body (envF nf f t.heap.objs.size)) _ _
  refine codeAny_func ?_
  have stay : ∀ b o, t.heap.get? b = some o → h1.get? b = some o := fun b o y => be.extBut b o (Nat.ne_of_lt (Heap.lt_size y)) (Heap.get?_push_of_some _ y)
  obtain ⟨τ, ps_, y⟩ := hb B out t G xs ws R Z (z.deeper _) ca.len q
  have I : Inv (ncx CX0 P w K mg base N nf f B out t G Z) [] (startF N xs ws) G { t with heap := h1, toks := t.toks + (ps.zip uu).length } := inv_startN S z.ro.hd e0 n r ca ns stay
  refine wpAny_mono (ps_.run [] _ _ G _ I y) ?_ fun _ _ y => y
  intro fl u2 y
  have en : ∀ {σ : L2.St} {G' : Hp} {v : V} {v' : Value}, Inv (ncx CX0 P w K mg base N nf f B out t G Z) [] σ G' u2 → L2.RelV v v' → R v G' → CE out P w G t R v' u2 := fun J rv q => ⟨_, _, J.os, J.bare, J.base, J.hok, rv, q⟩
  match fl, y with
  | .ret _, ⟨_, _, _, J, rv, q⟩ => exact en J rv q
  | .next, ⟨_, _, J, q⟩ => exact en (v := V.non) J rfl q
  | .brk, ⟨_, _, _, q⟩ => exact q.elim
  | .cont, ⟨_, _, _, q⟩ => exact q.elim
end
/-- a worker by its body: m parameters, n names; what it captured stands behind the parameters -/
def bodyW (m n : Nat) (b : DS) : WFn := fun caps ds μ Q => ds.length = m ∧ b (startE n (ds ++ caps)) μ ⟨fun _ μ' => Gc μ Q (.t .non) μ', Gc μ Q, fun _ _ => False, fun _ _ => False, fun _ _ _ => False⟩
theorem start_F (N : List Str) (xs cvs : List V) : startF N xs (cvs.map some) = L2.start N (xs ++ cvs) := by
  unfold startF L2.start
  rw [List.map_append, List.append_assoc, List.length_map, List.length_append, Nat.sub_sub]
section
variable {P : Program} {w : World} {K : PySem.W.Frag} {mg : Str → Option Value} {base : Heap} {N ps fr : List Str} {nf : NF} {f : Addr} {k : Nat} {s : DS}
theorem fn_W (S : NScope N ps fr nf.scope) (hfr : nf.cl.map (·.1) = fr) (bd : ∀ (doc pm ctv : Value) (uu : List Value), uu.length = ps.length → bindArgs (nf.fd doc pm ctv) ⟨uu, []⟩ = pure (ps.zip uu))
    (hb : ∀ (A : Around) (outer : List Env) (sh : Shared) (H : Hp) (E : XK), Room k (A.deeper (envF nf f sh.heap.objs.size)) → SsX (ncx CX0 P w K mg base N nf f A outer sh H E).nox nf.body s) :
    WkOk P w K mg base (k + 1) f nf (spGW K (bodyW ps.length N.length s)) := by
  refine wk_of S hfr bd (fun ws vs H Q E ⟨G, B, ρ0, μ, ρ, ds, caps, cvs, P, _, _, _, r, hl, _⟩ => (Paired.len r).symm.trans hl.1) fun A outer sh H vs ws Q E hr _ ⟨G, B, ρ0, μ, ρ, ds, caps, cvs, P, hw, sh0, rc, r, hy, q⟩ => ⟨_, (hb A outer sh H E hr).nox, ?_⟩
  rw [hw, start_F]
  refine ⟨G, B, ρ0, startE N.length (ds ++ caps), μ, ρ, _, entryG sh0 (Paired.app r rc), hy.2, ?_, ?_, fun _ _ _ _ _ h => h.elim, fun _ _ _ _ _ h => h.elim, xnx_no⟩
  · intro env' μ' ρ' σ' H' h s' p' e'
    exact gc_ok (d := .t .non) (v := .non) sh0 s'.sh p' e' rfl h fun d μ2 ρ2 hq s2 p2 e2 r2 => q d _ μ2 ρ2 H' hq s2 p2 e2 r2
  · intro d v μ' ρ' H' h s' p' e' r'
    exact gc_ok sh0 s' p' e' r' h fun d μ2 ρ2 hq s2 p2 e2 r2 => q d _ μ2 ρ2 H' hq s2 p2 e2 r2
end
end Gw
/-! Gw, part Q: sorted(d), list(d), sorted of texts, d.get. -/
namespace GwQ
open PySem PySem.Spec PyProof.Rows L2
theorem strs_of : ∀ {ss : List Str} {us : List Value}, Vals (ss.map V.str) us → StrsAre us ss
  | [], _, .nil => .nil
  | s :: ss, _, .cons ⟨t, e⟩ r => by
    rw [e]
    exact .cons s t (strs_of r)
section
variable {X : Cx}
/-- sorted(d), a dict whose keys are texts -/
def rSortDk : List V → Hp → VK → Prop := fun xs H Q => ∃ p kvs, ∃ ss : List Str, xs = [.ref p] ∧ H p = some (.dK kvs) ∧ kvs.map (fun kv => kV kv.1) = ss.map V.str ∧ ∀ ys l, ys.Perm ss → sortedS ys = true → H l = none → Q (.ref l) (upd H l (.lst (ys.map V.str)))
theorem call_sortedD (hc : X.calm = true) : CallR X (.builtin "sorted") rSortDk := by
  intro pins s σ H xs us Q I r h
  obtain ⟨p, kvs, ss, e, hk, hss, q⟩ := h
  subst e
  obtain ⟨u, eu, rx⟩ := vals1 r
  subst eu
  obtain rfl : u = Value.ref p := rx
  obtain ⟨z, lo, vs, rk, hd⟩ := (show ObjOk X.prog X.w H s.heap p (.dK kvs) from I.hok p _ hk)
  obtain ⟨ep, hat⟩ := hd.dictAt
  have hl : kvs.length = vs.length := Paired.length rk
  refine Calls.call_function_entry kind_sorted plain_sorted entry_sorted (args_sorted1 _) ?_
  unfold Builtin.«sorted»
  refine wpAny_bind (m := checkCount "sorted" 1 1 _) (wpAny_pure ?_)
  refine wpAny_bind (PySem.W.kdu_collect (A := X.A.in1) (PySem.W.kdl_dict (knd := mixKind X.prog X.w) (kvs := vs) (ep := ep) lo) (I.ok.hd hc) hat (by rw [← hl]; exact z) fun h' tk acc hkeep hacc => ?_)
  have el : acc.toList.length = kvs.length := by rw [Array.length_toList, hacc.1, hl]
  have va : Vals (kvs.map fun kv => kV kv.1) acc.toList := by
    refine vals_of_at (by rw [List.length_map, el]) fun j x w h1 h2 => ?_
    obtain ⟨k, y, hky, hi⟩ := hacc.2 j w (by rw [← Array.getElem?_toList]; exact h2)
    have e1 : (kvs.map (·.1))[j]? = some k := by
      rw [KV.keys rk, List.getElem?_map, hky] <;> rfl
    have e2 : (kvs.map fun kv => kV kv.1)[j]? = some (kV k) := by
      have e3 : (kvs.map fun kv => kV kv.1) = (kvs.map (·.1)).map kV := by rw [List.map_map] <;> rfl
      rw [e3, List.getElem?_map, e1] <;> rfl
    rw [e2] at h1
    cases h1
    exact keyIs_rel hi
  rw [hss] at va
  have sa := strs_of va
  have zl : acc.toList.length ≤ sizeLine := by rw [el]; exact z
  refine wpAny_bind (wpAny_newList ?_ zl)
  have hoL : (h'.push (seqObj "list" acc.toList.toArray 0)).get? h'.objs.size = some (seqObj "list" acc.toList.toArray 0) := Heap.get?_push_size _ rfl
  show wpAny _ _ _ _ _ { s with heap := h'.push (seqObj "list" acc.toList.toArray 0), toks := tk }
  refine wpAny_bind (wpAny_holding (wpAny_call_entry slot_list_sort ⟨_, hoL, rfl⟩ entry_list_sort (list_sort_treeKAny strKind_oneLt hoL sa.keysOf (fun v₁ v₂ rest e => keyKind_strs (by rw [← e]; exact sa)) zl fun st' hp hs => ⟨_, rfl, ?_⟩) (args_list_sort _)))
  obtain ⟨ys, h1, h2, h3⟩ := sorted_out_str sa hp hs
  obtain ⟨e9, he⟩ := sortedHeap_at (vs := acc.toList) (out := (arrOf st').map (·.2)) hoL
  have I' : Inv X pins σ H { s with heap := h', toks := tk } := I.kept hkeep
  refine wpAny_pure ⟨_, rfl, .ref h'.objs.size, upd H h'.objs.size (.lst (ys.map V.str)), I'.laid (t' := tk) (fun b u hb => ?_) (Nat.le_refl _) ⟨by rw [List.length_map, h2.length_eq, ← List.length_map (f := V.str), ← hss, List.length_map]; exact z, _, e9, vals_of_strs h1, by rw [Array.toArray_toList]; exact he⟩, rfl, q ys _ h2 h3 (I'.hok.fresh (Nat.le_refl _))⟩
  have hb2 := Heap.lt_size hb
  rw [sortedHeap_old (Nat.ne_of_lt hb2) (by rw [Heap.size_push]; exact Nat.lt_succ_of_lt hb2)]
  exact Heap.get?_push_of_some _ hb
end
end GwQ
namespace Gw
open PySem PySem.Spec PyProof.Rows L2 RZ GwQ
section
variable {K : PySem.W.Frag} {G F : Hp}
theorem Rps.of_strs : ∀ (ns : List Str), Rps K G F (ns.map T.str) (ns.map V.str)
  | [] => rfl
  | n :: ns => ⟨.str n, ns.map V.str, rfl, rfl, Rps.of_strs ns⟩
def kT : Key → T
  | .inl i => .int i
  | .inr s => .str s
theorem kT_rp : ∀ k : Key, Rp K G F (kT k) (kV k)
  | .inl _ => rfl
  | .inr _ => rfl
theorem dv_keys {ρ : List Addr} : ∀ {kvs : List (Key × D)} {ws : List (Key × V)}, DV K G F ρ kvs ws → Rps K G F (kvs.map fun kv => kT kv.1) (ws.map fun kv => kV kv.1)
  | [], _, .nil => rfl
  | p :: kvs, q :: ws, .cons r t => ⟨_, _, rfl, by show Rp K G F (kT p.1) (kV q.1); rw [r.1]; exact kT_rp _, dv_keys t⟩
end
/-! sorted of texts, or of a dict whose keys are texts -/
def srt (xs : List T) (Q : List T → Prop) : Prop := ∃ ss : List Str, xs = ss.map T.str ∧ ss.length < 64 ∧ ∀ ys : List Str, ys.Perm ss → sortedS ys = true → Q (ys.map T.str)
def srtD (kvs : List (Key × D)) (Q : List T → Prop) : Prop := ∃ ss : List Str, kvs.map (fun kv => kv.1) = ss.map .inr ∧ ∀ ys : List Str, ys.Perm ss → sortedS ys = true → Q (ys.map T.str)
def wSortS (μ : Store) (ds : List D) (Q : List T → Prop) : Prop := one ds fun d => match d with
  | .loc n => (∃ xs, μ[n]? = some (.lst (xs.map D.t)) ∧ srt xs Q) ∨ ∃ kvs, μ[n]? = some (.dic kvs) ∧ srtD kvs Q
  | d => srcL μ d fun xs _ => srt xs Q
abbrev rSortSA (K : PySem.W.Frag) : List V → Hp → VK → Prop := fun xs H Q => rSortedS K xs H Q ∨ rSortDk xs H Q
theorem srt_ok {K : PySem.W.Frag} {G B H : Hp} {ρ0 ρ : List Addr} {μ : Store} (s : SH K G B ρ0 μ ρ H) {d : D} {v : V} {Q : List T → Prop} {R : VK} (r : Rl K G (frz B H ρ) ρ d v) (w : srcL μ d fun xs _ => srt xs Q)
    (k : ∀ xs p ws, Q xs → H p = none → Rps K G (frz B H ρ) xs ws → R (.ref p) (upd H p (.lst ws))) : rSortedS K [v] H R := by
  obtain ⟨xs, _, a, ⟨ss, rfl, hz, q⟩, rfl, k1, l1⟩ := src_ok s r w
  obtain ⟨ws, h1, h2⟩ := l1 B μ ρ H (later_refl s) k1
  have e := h2.strs
  subst e
  exact ⟨a, ss, rfl, h1, hz, fun ys p h3 h4 h5 => k _ p _ (q ys h3 h4) h5 (Rps.of_strs ys)⟩
theorem keys_inr {K : PySem.W.Frag} {G F : Hp} {ρ : List Addr} : ∀ {kvs : List (Key × D)} {ws : List (Key × V)} {ss : List Str}, DV K G F ρ kvs ws → kvs.map (fun kv => kv.1) = ss.map .inr → ws.map (fun kv => kV kv.1) = ss.map V.str
  | [], _, [], .nil, _ => rfl
  | p :: kvs, q :: ws, s :: ss, .cons r t, h => by
    rw [List.map_cons, List.map_cons] at h
    have h1 := (List.cons.inj h).1
    rw [List.map_cons, List.map_cons, keys_inr t (List.cons.inj h).2, ← r.1, h1]
    rfl
theorem wSortS_ok {K : PySem.W.Frag} : WF K (rSortSA K) wSortS := by
  intro G B ρ0 μ ρ H ds vs Q R s rs w k
  obtain ⟨d, e0, w1⟩ := one_of w
  clear w
  subst e0
  have w := w1
  clear w1
  cases rs with
  | cons r rr =>
    cases rr
    split at w
    · rcases w with ⟨xs, h, w⟩ | ⟨kvs, h, ss, h1, q⟩
      · exact .inl (srt_ok (d := .loc _) s r ⟨xs, h, w⟩ k)
      · obtain ⟨a, rfl, ha⟩ := r
        obtain ⟨ws, h2, h3⟩ := s.sto _ _ a h ha
        exact .inr ⟨a, ws, ss, rfl, h2, keys_inr h3 h1, fun ys l h4 h5 h6 => k _ l _ (q ys h4 h5) h6 (Rps.of_strs ys)⟩
    · exact .inl (srt_ok s r w k)
theorem cr_sortSA {X : Cx} (hc : X.calm = true) : CallR X (.builtin "sorted") (rSortSA X.K) := CallR.or cr_sortedS (call_sortedD hc)
/-! list(x), a dict too -/
def wListA (μ : Store) (ds : List D) (Q : List T → Prop) : Prop := one ds fun d => match d with
  | .loc n => (∃ xs, μ[n]? = some (.lst (xs.map D.t)) ∧ Q xs) ∨ ∃ kvs, μ[n]? = some (.dic kvs) ∧ Q (kvs.map fun kv => kT kv.1)
  | d => wList μ [d] Q
theorem wListA_ok {K : PySem.W.Frag} : WF K (fun xs H Q => rListA K xs H Q ∨ rListD xs H Q) wListA := by
  intro G B ρ0 μ ρ H ds vs Q R s rs w k
  obtain ⟨d, e0, w1⟩ := one_of w
  clear w
  subst e0
  have w := w1
  clear w1
  split at w
  · rcases w with ⟨xs, h, w⟩ | ⟨kvs, h, q⟩
    · exact .inl (wList_ok G B ρ0 μ ρ H [.loc _] vs Q R s rs (show wList μ [.loc _] Q from ⟨xs, h, w⟩) k)
    · cases rs with
      | cons r rr =>
        cases rr
        obtain ⟨a, rfl, ha⟩ := r
        obtain ⟨ws, h2, h3⟩ := s.sto _ _ a h ha
        exact .inr ⟨a, ws, rfl, h2, fun l h6 => k _ l _ q h6 (dv_keys h3)⟩
  · exact .inl (wList_ok G B ρ0 μ ρ H [_] vs Q R s rs w k)
theorem cr_listA {X : Cx} (hc : X.calm = true) : CallR X (.type "list") (fun xs H Q => rListA X.K xs H Q ∨ rListD xs H Q) := CallR.or call_list_of (call_list_dK hc)
/-- sorted of anything that has a rule here -/
def wSortU (μ : Store) (ds : List D) (Q : List T → Prop) : Prop := wSort μ ds Q ∨ wSortS μ ds Q
theorem wSortU_ok {K : PySem.W.Frag} : WF K (fun xs H Q => rSortA K xs H Q ∨ rSortSA K xs H Q) wSortU := fun G B ρ0 μ ρ H ds vs Q R s rs w k => w.elim (fun w => .inl (wSort_ok G B ρ0 μ ρ H ds vs Q R s rs w k)) fun w => .inr (wSortS_ok G B ρ0 μ ρ H ds vs Q R s rs w k)
theorem cr_sortU {X : Cx} (hc : X.calm = true) : CallR X (.builtin "sorted") (fun xs H Q => rSortA X.K xs H Q ∨ rSortSA X.K xs H Q) := CallR.or cr_sortA (cr_sortSA hc)
/-! d.get(k, x), x a datum -/
def getK (kvs : List (Key × D)) (e z : D) (Q : D → Prop) : Prop := ∃ k, keyOf e = some k ∧ Q ((valD kvs k).getD z)
def atDic (μ : Store) (d : D) (Q : List (Key × D) → Prop) : Prop := ∃ n kvs, d = .loc n ∧ dicAt μ n kvs ∧ Q kvs
def dGet2 (p q r : DP) : DP := fun env μ Q => p env μ fun d => atDic μ d fun kvs => q env μ fun e => r env μ fun z => getK kvs e z Q
end Gw
/-! Gw, part U: list.remove of texts, d.setdefault. -/
namespace GwU
open PySem PySem.Spec PyProof.Rows L2
end GwU
namespace Gw
open PySem PySem.Spec PyProof.Rows L2 RZ GwU
/-- a method with arguments on a dict of the store -/
def xMd (o : DP) (a : DAX) (W : Nat → MO → List D → (D → MO → Prop) → Prop) : DX := fun env μ Q => o env μ fun d => match d with
  | .loc n => (∃ kvs, μ[n]? = some (.dic kvs)) ∧ a env μ fun xs μ1 => ∃ m, μ1[n]? = some m ∧ W n m xs fun y m' => Q y (μ1.set n m')
  | _ => False
end Gw
/-! Gw, part W: methods of texts, int(), list * int. -/
namespace Gw
open PySem PySem.Spec PyProof.Rows L2 RZ
/-- a method with arguments on a text -/
def dMs (p : DP) (a : DA) (W : Store → Str → List D → (D → Prop) → Prop) : DP := fun env μ Q => p env μ fun d => ∃ s, d = .t (.str s) ∧ a env μ fun xs => W μ s xs Q
/-- sep.join(l), a list of texts -/
def wJoin (μ : Store) (a : Str) (ds : List D) (Q : D → Prop) : Prop := one ds fun d => srcL μ d fun xs _ => ∃ ys : List Str, xs = ys.map T.str ∧ (ys.map (·.length)).sum + ys.length * a.length ≤ 16777216 ∧ Q (.t (.str (Txt.join a ys)))
/-- int(n), int(flag) -/
def wInt (_ : Store) (ds : List D) (Q : D → Prop) : Prop := one ds fun d => match d with
  | .t (.int i) => Q (.t (.int i))
  | .t (.bl b) => Q (.t (.int (if b then 1 else 0)))
  | _ => False
/-- a new list times a number -/
def repW (_ : Store) (d e : D) (Q : D → Prop) : Prop := match d, e with
  | .t (.lst xs), .t (.int k) => (-(2 ^ 62) ≤ k ∧ k < 2 ^ 62) ∧ xs.length * k.toNat ≤ sizeLine ∧ Q (.t (.lst (List.replicate k.toNat xs).flatten))
  | _, _ => False
end Gw
/-! Gw, part X: a dict of any expression is walked. -/
namespace Gw
open PySem PySem.Spec PyProof.Rows L2 RZ
theorem SH.placed {K : PySem.W.Frag} {G B H : Hp} {ρ0 ρ : List Addr} {μ : Store} (s : SH K G B ρ0 μ ρ H) {n : Nat} {m : MO} (h : μ[n]? = some m) : ∃ a, ρ[n]? = some a := by
  have l := (List.getElem?_eq_some_iff.mp h).1
  rw [s.len] at l
  exact ⟨_, List.getElem?_eq_getElem l⟩
/-- some dict of the store is locked while the expression runs -/
def fLockN (p : DF) : DF := fun env μ Q => ∃ n kvs, μ[n]? = some (.dic kvs) ∧ ∀ z, p env (μ.set n (.lck z kvs)) Q
def sLockN (b : DS) : DS := fun env μ P => ∃ n kvs, μ[n]? = some (.dic kvs) ∧ ∀ z, b env (μ.set n (.lck z kvs))
  ⟨fun env' μ' => μ'[n]? = some (.lck z kvs) ∧ P.nx env' (μ'.set n (.dic kvs)), fun d μ' => μ'[n]? = some (.lck z kvs) ∧ P.rt d (μ'.set n (.dic kvs)), fun env' μ' => μ'[n]? = some (.lck z kvs) ∧ P.bk env' (μ'.set n (.dic kvs)), fun env' μ' => μ'[n]? = some (.lck z kvs) ∧ P.ct env' (μ'.set n (.dic kvs)), fun _ _ _ => False⟩
def xLockN (p : DX) : DX := fun env μ Q => ∃ n kvs, μ[n]? = some (.dic kvs) ∧ ∀ z, p env (μ.set n (.lck z kvs)) fun d μ' => μ'[n]? = some (.lck z kvs) ∧ Q d (μ'.set n (.dic kvs))
section
variable {X : Cx} {e tg : Expr} {p : DP} {pos : Pos}
theorem ef_lockN {p : DF} (h : EF X e p) : EF X e (fLockN p) :=
  PE.imp (pe_lock h) fun σ H R ⟨G, B, ρ0, env, μ, ρ, Q, s, ⟨n, kvs, h2, q⟩, k⟩ => by
    obtain ⟨a, ha⟩ := s.sh.placed h2
    obtain ⟨ws, h4, h5⟩ := s.sh.sto n _ a h2 ha
    have hin := List.mem_of_getElem? ha
    refine ⟨a, .dK ws, h4, trivial, fun od => ?_⟩
    have s2 := s.upd (m := .lck (od, ws) kvs) (o := .frz od (.dK ws)) ha ⟨upd_same, h5⟩
    refine ⟨G, B, ρ0, env, _, ρ, Q, s2, q (od, ws), fun xs b vs H' q' e' hb hv r => ⟨e' _ _ upd_same, k xs b vs _ q' (fun c o hc => ?_) ?_ ?_ ?_⟩⟩
    · by_cases hca : c = a
      · rw [hca] at hc ⊢
        rw [h4] at hc
        rw [upd_same]
        exact hc
      · rw [upd_ne hca]
        exact e' _ _ (by rw [upd_ne hca]; exact hc)
    · by_cases hba : b = a
      · rw [hba, upd_same] at hb
        cases hb
      · rw [upd_ne hba] at hb
        exact hb
    · by_cases hba : b = a
      · rw [hba, upd_same] at hb
        cases hb
      · rw [upd_ne hba]
        exact hv
    · rw [frz_upd (List.mem_append_left _ hin)]
      exact r
theorem sx_lockN {st : Stmt} {b : DS} (h : SX X st b) : SX X st (sLockN b) :=
  PS.imp (ps_lock h) fun E σ H ⟨G, B, ρ0, env, μ, ρ, P, s, ⟨n, kvs, h2, q⟩, k⟩ => by
    obtain ⟨a, ha⟩ := s.sh.placed h2
    obtain ⟨ws, h4, h5⟩ := s.sh.sto n _ a h2 ha
    have hin := List.mem_of_getElem? ha
    refine ⟨a, .dK ws, h4, trivial, fun od => ?_⟩
    have s2 := s.upd (m := .lck (od, ws) kvs) (o := .frz od (.dK ws)) ha ⟨upd_same, h5⟩
    refine ⟨G, B, ρ0, env, _, ρ, _, s2, q (od, ws), ?_⟩
    rw [frz_upd hin]
    refine ⟨k.nx.unlock ha, fun d v μ' ρ' H' ⟨g1, g2⟩ s' p' e' r' => ?_, k.bk.unlock ha, k.ct.unlock ha, xnx_no⟩
    have ha' : ρ'[n]? = some a := by
      obtain ⟨m, rfl⟩ := p'
      rw [List.getElem?_append_left (List.getElem?_eq_some_iff.mp ha).1]
      exact ha
    obtain ⟨g3, g4⟩ := s'.sto n _ a g1 ha'
    have fe := frz_upd (B := B) (H := H') (o := .dK ws) (List.mem_of_getElem? ha')
    exact ⟨g3, k.rt d v _ ρ' _ g2 (s'.upd (m := .dic kvs) (o := .dK ws) ha' ⟨ws, upd_same, g4⟩) p' (by rw [fe]; exact e') (by rw [fe]; exact r')⟩
end
theorem un65 {k : Nat} {A : Around} (r : Room k A) : A.units + 65 < cLine := by
  have := r.ro.un
  omega
/-- the signs of a text -/
def iCh (p : DP) : DI := fun env μ Q => p env μ fun d => ∃ s : Str, d = .t (.str s) ∧ Q ⟨s.cps.toList.map fun c => D.t (.str ⟨#[c]⟩), fun _ => True⟩
/-- is None, is not None, as tests -/
def isNK (f : Bool → Bool) (d : D) (Q : D → Prop) : Prop := match d with | .t .non => Q (.t (.bl (f true))) | _ => Q (.t (.bl (f false)))
def noneW (f : Bool → Bool) (_ : Store) (d e : D) (Q : D → Prop) : Prop := e = .t .non ∧ isNK f d Q
/-- two lists of the store, a new one -/
def catK (μ : Store) (d e : D) (Q : List D → Prop) : Prop := ∃ n m ds es, d = .loc n ∧ e = .loc m ∧ μ[n]? = some (.lst ds) ∧ μ[m]? = some (.lst es) ∧ ds.length + es.length ≤ sizeLine ∧ Q (ds ++ es)
def xCat (p q : DX) : DX := fun env μ Q => p env μ fun d μ1 => q env μ1 fun e μ2 => catK μ2 d e fun ds => Q (.loc μ2.length) (μ2 ++ [.lst ds])
end Gw
/-! Gw, part O: rows for the parts P, Q, U, W, X. -/
namespace Gw
open PySem PySem.Spec PyProof.Rows L2 RZ
section
variable {env : DEnv} {μ : Store} {d e z : D} {Q : D → Prop} {f : Bool → Bool} {p q r : DP} {a : DA}
theorem r_inWl {ys : List T} : inW f μ d (.t (.lst ys)) Q = inLT f μ d ys Q := rfl
theorem r_inWr {ys : List T} : inW f μ d (.t (.ro ys)) Q = inLT f μ d ys Q := rfl
theorem r_inWs {i j : Str} : inW f μ (.t (.str i)) (.t (.str j)) Q ↔ Q (.t (.bl (f (inStr i j)))) := ⟨fun ⟨_, e, q⟩ => by cases e; exact q, fun q => ⟨i, rfl, q⟩⟩
theorem r_inLT {x : T} {ys : List T} : inLT f μ (.t x) ys Q = (okT x = true ∧ okT (.lst ys) = true ∧ Q (.t (.bl (f (memT x ys))))) := rfl
theorem r_dGet2 : dGet2 p q r env μ Q = p env μ fun d => atDic μ d fun kvs => q env μ fun e => r env μ fun z => getK kvs e z Q := rfl
theorem r_getKs {kvs : List (Key × D)} {s : Str} : getK kvs (.t (.str s)) z Q ↔ Q ((valD kvs (.inr s)).getD z) := ⟨fun ⟨_, e, q⟩ => by cases e; exact q, fun q => ⟨.inr s, rfl, q⟩⟩
theorem r_getKi {kvs : List (Key × D)} {s : Int} : getK kvs (.t (.int s)) z Q ↔ Q ((valD kvs (.inl s)).getD z) := ⟨fun ⟨_, e, q⟩ => by cases e; exact q, fun q => ⟨.inl s, rfl, q⟩⟩
def strK (d : D) (R : Str → Prop) : Prop := ∃ s, d = .t (.str s) ∧ R s
theorem r_strK {s : Str} {R : Str → Prop} : strK (.t (.str s)) R ↔ R s := ⟨fun ⟨_, e, q⟩ => by cases e; exact q, fun q => ⟨s, rfl, q⟩⟩
theorem r_dMs {W : Store → Str → List D → (D → Prop) → Prop} : dMs p a W env μ Q = p env μ fun d => strK d fun s => a env μ fun xs => W μ s xs Q := rfl
theorem r_wInti {i : Int} : wInt μ [.t (.int i)] Q = Q (.t (.int i)) := rfl
theorem r_wIntb {i : Bool} : wInt μ [.t (.bl i)] Q = Q (.t (.int (if i then 1 else 0))) := rfl
theorem r_wJoin {s : Str} : wJoin μ s [d] Q = srcL μ d fun xs _ => ∃ ys : List Str, xs = ys.map T.str ∧ (ys.map (·.length)).sum + ys.length * s.length ≤ 16777216 ∧ Q (.t (.str (Txt.join s ys))) := rfl
theorem r_rep {xs : List T} {k : Int} : repW μ (.t (.lst xs)) (.t (.int k)) Q = ((-(2 ^ 62) ≤ k ∧ k < 2 ^ 62) ∧ xs.length * k.toNat ≤ sizeLine ∧ Q (.t (.lst (List.replicate k.toNat xs).flatten))) := rfl
theorem r_ixTp {ds : List D} {i : Int} : ixW μ (.tp ds) (.t (.int i)) Q = atD ds i Q := rfl
theorem r_noneW : noneW f μ d (.t .non) Q ↔ isNK f d Q := ⟨fun h => h.2, fun h => ⟨rfl, h⟩⟩
theorem r_isN0 : isNK f (.t .non) Q = Q (.t (.bl (f true))) := rfl
theorem r_isNb {b : Bool} : isNK f (.t (.bl b)) Q = Q (.t (.bl (f false))) := rfl
theorem r_isNi {b : Int} : isNK f (.t (.int b)) Q = Q (.t (.bl (f false))) := rfl
theorem r_isNl {n : Nat} : isNK f (.loc n) Q = Q (.t (.bl (f false))) := rfl
theorem r_isNs {s : Str} : isNK f (.t (.str s)) Q = Q (.t (.bl (f false))) := rfl
theorem r_isNt {xs : List T} : isNK f (.t (.tup xs)) Q = Q (.t (.bl (f false))) := rfl
end
section
variable {env : DEnv} {μ : Store} {d : D} {R : List T → Prop}
theorem r_wListl {xs : List T} : wListA μ [.t (.lst xs)] R = R xs := rfl
theorem r_wListr {xs : List T} : wListA μ [.t (.ro xs)] R = R xs := rfl
theorem r_wListt {xs : List T} : wListA μ [.t (.tup xs)] R = R xs := rfl
theorem listA_loc {n : Nat} {xs : List T} (h : μ[n]? = some (.lst (xs.map D.t))) (q : R xs) : wListA μ [.loc n] R := .inl ⟨xs, h, q⟩
end
section
variable {env : DEnv} {μ : Store} {Q : D → Store → Prop} {F : List T → Prop} {P : Post} {IQ : DIt → Prop} {p : DX} {o : DP} {a : DAX} {l : DF} {b : DS}
def mdK (a : DAX) (W : Nat → MO → List D → (D → MO → Prop) → Prop) (env : DEnv) (μ : Store) (Q : D → Store → Prop) (d : D) : Prop := match d with
  | .loc n => (∃ kvs, μ[n]? = some (.dic kvs)) ∧ a env μ fun xs μ1 => ∃ m, μ1[n]? = some m ∧ W n m xs fun y m' => Q y (μ1.set n m')
  | _ => False
theorem r_xMd {W : Nat → MO → List D → (D → MO → Prop) → Prop} : xMd o a W env μ Q = o env μ (mdK a W env μ Q) := rfl
theorem r_mdK {n : Nat} {W : Nat → MO → List D → (D → MO → Prop) → Prop} : mdK a W env μ Q (.loc n) = ((∃ kvs, μ[n]? = some (.dic kvs)) ∧ a env μ fun xs μ1 => ∃ m, μ1[n]? = some m ∧ W n m xs fun y m' => Q y (μ1.set n m')) := rfl
theorem r_fLockN : fLockN l env μ F = ∃ n kvs, μ[n]? = some (.dic kvs) ∧ ∀ z, l env (μ.set n (.lck z kvs)) F := rfl
theorem r_xLockN : xLockN p env μ Q = ∃ n kvs, μ[n]? = some (.dic kvs) ∧ ∀ z, p env (μ.set n (.lck z kvs)) fun d μ' => μ'[n]? = some (.lck z kvs) ∧ Q d (μ'.set n (.dic kvs)) := rfl
theorem r_sLockN {nx bk ct : DEnv → Store → Prop} {xc : XD → DEnv → Store → Prop} {rt : D → Store → Prop} : sLockN b env μ ⟨nx, rt, bk, ct, xc⟩ = ∃ n kvs, μ[n]? = some (.dic kvs) ∧ ∀ z, b env (μ.set n (.lck z kvs))
  ⟨fun env' μ' => μ'[n]? = some (.lck z kvs) ∧ nx env' (μ'.set n (.dic kvs)), fun d μ' => μ'[n]? = some (.lck z kvs) ∧ rt d (μ'.set n (.dic kvs)), fun env' μ' => μ'[n]? = some (.lck z kvs) ∧ bk env' (μ'.set n (.dic kvs)), fun env' μ' => μ'[n]? = some (.lck z kvs) ∧ ct env' (μ'.set n (.dic kvs)), fun _ _ _ => False⟩ := rfl
theorem r_iCh : iCh o env μ IQ = o env μ fun d => strK d fun s => IQ ⟨s.cps.toList.map fun c => D.t (.str ⟨#[c]⟩), fun _ => True⟩ := rfl
def kyK (μ : Store) (IQ : DIt → Prop) (d : D) : Prop := match d with
  | .loc n => ∃ z kvs, μ[n]? = some (.lck z kvs) ∧ IQ ⟨kvs.map (fun kv => kD kv.1), fun μ' => μ'[n]? = some (.lck z kvs)⟩
  | _ => False
theorem r_iKy : iKy o env μ IQ = o env μ (kyK μ IQ) := rfl
theorem r_kyK {n : Nat} : kyK μ IQ (.loc n) = ∃ z kvs, μ[n]? = some (.lck z kvs) ∧ IQ ⟨kvs.map (fun kv => kD kv.1), fun μ' => μ'[n]? = some (.lck z kvs)⟩ := rfl
theorem r_xMake {c : Str} {Φ : DFn} : xMake c Φ a env μ Q = a env μ fun ds μ1 => Φ (.loc μ1.length :: ds) (μ1 ++ [.ins c []]) fun d μ2 => d = .t .non ∧ Q (.loc μ1.length) μ2 := rfl
def locK (d : D) (R : Nat → Prop) : Prop := ∃ n, d = .loc n ∧ R n
theorem r_locK {n : Nat} {R : Nat → Prop} : locK (.loc n) R ↔ R n := ⟨fun ⟨_, e, q⟩ => by cases e; exact q, fun q => ⟨n, rfl, q⟩⟩
theorem r_xMeth {tb : List (Str × DFn)} {m : Str} : xMeth tb m p a env μ Q = p env μ fun d μ1 => locK d fun n => methK tb m μ1[n]? fun Φ => a env μ1 fun ds μ2 => Φ (.loc n :: ds) μ2 Q := rfl
theorem meth_at {c : Str} {fs : List (Str × D)} {Φ : DFn} {m : Str} {n : Nat} {R : DFn → Prop} (h : μ[n]? = some (.ins c fs)) (hf : fs.lookup m = none) (q : R Φ) : methK [(c, Φ)] m μ[n]? R := ⟨c, fs, Φ, h, hf, by simp, q⟩
theorem fld_at {cs : List Str} {f c : Str} {fs : List (Str × D)} {n : Nat} {v : D} {R : D → Prop} (h : μ[n]? = some (.ins c fs)) (hc : c ∈ cs) (hf : fs.lookup f = some v) (q : R v) : fldD cs f μ (.loc n) R := ⟨n, rfl, c, fs, h, hc, v, hf, q⟩
theorem r_xCat {p q : DX} : xCat p q env μ Q = p env μ fun d μ1 => q env μ1 fun e μ2 => catK μ2 d e fun ds => Q (.loc μ2.length) (μ2 ++ [.lst ds]) := rfl
theorem r_xBf {W : Store → List D → (List T → Prop) → Prop} : xBf a W env μ Q = a env μ fun ds μ1 => W μ1 ds fun xs => Q (.t (.lst xs)) μ1 ∨ Q (.loc μ1.length) (μ1 ++ [.lst (xs.map D.t)]) := rfl
end
end Gw
/-! Gw, part Ex: what is raised, and caught by «except C as n: m = n»; isinstance of what was caught. -/
/-! Gw, part Ey: expressions and statements that may raise; defs that may raise. -/
namespace Gw
open PySem PySem.Spec PyProof.Rows L2 RZ
abbrev DXE := DEnv → Store → (D → Store → Prop) → (XD → Store → Prop) → Prop
abbrev DAXE := DEnv → Store → (List D → Store → Prop) → (XD → Store → Prop) → Prop
/-- what is raised in an expression is taken -/
def XR (X : Cx) (G B : Hp) (ρ0 ρ : List Addr) (F : Hp) (env : DEnv) (σ : L2.St) (Z : XD → Store → Prop) : Prop :=
  ∃ W : Bool → L2.WX, L2N.Takes X (W false) ∧ Takes X (W true) ∧ ∀ x cls d μ' ρ' H', Z x μ' → SR X.K G B ρ0 env μ' ρ' σ H' → ρ <+: ρ' → Same F (frz B H' ρ') → RX X.K G (frz B H' ρ') x cls d → W x.hot cls d σ H'
section
variable {X : Cx} {G B : Hp} {ρ0 ρ ρ' : List Addr} {F F' : Hp} {env : DEnv} {σ : L2.St} {Z : XD → Store → Prop}
theorem XR.on (n : XR X G B ρ0 ρ F env σ Z) (p : ρ <+: ρ') (e : Same F F') : XR X G B ρ0 ρ' F' env σ Z :=
  n.imp fun _ n => ⟨n.1, n.2.1, fun x cls d μ' ρ2 H' h s p2 e2 r => n.2.2 x cls d μ' ρ2 H' h s (p.trans p2) (e.trans e2) r⟩
theorem XNx.at {Z : XD → DEnv → Store → Prop} (n : XNx X G B ρ0 ρ F Z) : XR X G B ρ0 ρ F env σ (fun x μ => Z x env μ) :=
  n.imp fun _ n => ⟨n.1, n.2.1, fun x cls d μ' ρ2 H' h s p2 e2 r => n.2.2 x env μ' ρ2 σ H' cls d h s p2 e2 r⟩
end
def xN (p : DX) : DXE := fun env μ Q _ => p env μ Q
def axeNil : DAXE := fun _ μ Q _ => Q [] μ
def axeCons (p : DXE) (q : DAXE) : DAXE := fun env μ Q Z => p env μ (fun d μ1 => q env μ1 (fun ds μ2 => Q (d :: ds) μ2) Z) Z
def xTupE (a : DAXE) : DXE := fun env μ Q Z => a env μ (fun ds μ1 => ds.length ≤ sizeLine ∧ Q (tupD ds) μ1) Z
def xME (o : DP) (a : DAXE) (W : Nat → MO → List D → (D → MO → Prop) → Prop) : DXE := fun env μ Q Z => o env μ fun d => match d with
  | .loc n => (∃ ds, μ[n]? = some (.lst ds)) ∧ a env μ (fun xs μ1 => ∃ m, μ1[n]? = some m ∧ W n m xs fun y m' => Q y (μ1.set n m')) Z
  | _ => False
/-! ### defs -/
abbrev DFnE := List D → Store → (D → Store → Prop) → (XD → Store → Prop) → Prop
/-- .. not told to be cold -/
def XD.warm (x : XD) : XD := ⟨x.c, x.fs, true⟩
def xCallE (Φ : DFnE) (a : DAX) : DXE := fun env μ Q Z => a env μ fun ds μ1 => Φ ds μ1 Q Z
/-! methods that may raise -/
def methKE (tb : List (Str × DFnE)) (m : Str) (o : Option MO) (Q : DFnE → Prop) : Prop := ∃ c fs Φ, o = some (.ins c fs) ∧ fs.lookup m = none ∧ (c, Φ) ∈ tb ∧ Q Φ
def xMethE (tb : List (Str × DFnE)) (m : Str) (o : DX) (a : DAX) : DXE := fun env μ Q Z => o env μ fun d μ1 => ∃ n, d = .loc n ∧ methKE tb m μ1[n]? fun Φ => a env μ1 fun ds μ2 => Φ (.loc n :: ds) μ2 Q Z
/-! ### statements -/
def sDropE (p : DXE) : DS := fun env μ P => p env μ (fun _ μ' => P.nx env μ') fun x μ' => P.xc x env μ'
def sRetE (p : DXE) : DS := fun env μ P => p env μ (fun d μ' => P.rt d μ') fun x μ' => P.xc x env μ'
def sAsgE (p : DXE) (g : DG) : DS := fun env μ P => p env μ (fun d μ' => g d env fun env' => P.nx env' μ') fun x μ' => P.xc x env μ'
def sRaise (c : Str) : DS := fun env μ P => P.xc ⟨c, [], false⟩ env μ
/-! ### try: .. except C as n: m = n -/
def sTryK (tb : List (Str × Bool)) (i j : Nat) (b : DS) : DS := fun env μ P => b env μ { P with xc := fun x env' μ' => ∃ k, (x.c, k) ∈ tb ∧ if k = true then P.nx (((env'.set i (some (.loc μ'.length))).set j (some (.loc μ'.length))).set i none) (μ' ++ [.exc x]) else (x.hot = true ∧ P.xc x env' μ') }
/-! ### isinstance of an exception that was caught -/
/-- isinstance(x, C) of an exception that was caught, C a class of the program or a built-in one -/
def dIsX (tb : List (Str × Bool)) (p : DP) : DP := fun env μ Q => p env μ fun d => ∃ n x b, d = .loc n ∧ μ[n]? = some (.exc x) ∧ (x.c, b) ∈ tb ∧ Q (.t (.bl b))
/-! ### a field of an exception that was caught -/
def dXf (cs : List Str) (p : DP) (f : Str) : DP := fun env μ Q => p env μ fun d => ∃ n x t, d = .loc n ∧ μ[n]? = some (.exc x) ∧ x.c ∈ cs ∧ x.fs.lookup f = some t ∧ Q (.t t)
end Gw
/-! Gw, part Ez: xs[::e] with e 1 or -1; dict(..) of a list of pairs. -/
namespace Gw
open PySem PySem.Spec PyProof.Rows L2 RZ
def dirL {α : Type} (k : Int) (xs : List α) : List α := if k = 1 then xs else xs.reverse
section
variable {X : Cx} {e st : Expr} {te : TE} {p q : DP} {pos p3 : Pos}
def fDir (p q : DP) : DF := fun env μ Q => p env μ fun d => q env μ fun e => ∃ k : Int, e = .t (.int k) ∧ (k = 1 ∨ k = -1) ∧ srcL μ d fun xs _ => Q (dirL k xs)
end
/-! ### dict(xs), xs a list of pairs -/
def pairKV (kv : Key × D) : D := tupD [kD kv.1, kv.2]
def xDictP (a : DX) : DX := fun env μ Q => a env μ fun d μ1 => ∃ n kvs, d = .loc n ∧ μ1[n]? = some (.lst (kvs.map pairKV)) ∧ Q (.loc μ1.length) (μ1 ++ [.dic (mergeD [] kvs)])
/-! ### isinstance(x, C) of what was caught -/
end Gw
/-! Gw, part Ew: {} as a tree; l.count(x) of nested data. -/
namespace Gw
open PySem PySem.Spec PyProof.Rows L2 RZ
/-- xs.count(x), a list seen as a tree -/
def dCount (p q : DP) : DP := fun env μ Q => p env μ fun d => ∃ xs, d = .t (.lst xs) ∧ okT (.lst xs) = true ∧ q env μ fun e => ∃ y, e = .t y ∧ okT y = true ∧ Q (.t (.int ((xs.countP fun z => eqT z y : Nat) : Int)))
end Gw
/-! Gw, part Rx: rows for Ex .. Ew. -/
namespace Gw
open PySem PySem.Spec PyProof.Rows L2 RZ
section
variable {env : DEnv} {μ : Store} {Q : D → Store → Prop} {Z : XD → Store → Prop} {nx bk ct : DEnv → Store → Prop} {xc : XD → DEnv → Store → Prop} {rt : D → Store → Prop}
theorem r_fDir {p q : DP} {Q : List T → Prop} : fDir p q env μ Q = p env μ fun d => q env μ fun e => ∃ k : Int, e = .t (.int k) ∧ (k = 1 ∨ k = -1) ∧ srcL μ d fun xs _ => Q (dirL k xs) := rfl
theorem r_xDictP {a : DX} : xDictP a env μ Q = a env μ fun d μ1 => ∃ n kvs, d = .loc n ∧ μ1[n]? = some (.lst (kvs.map pairKV)) ∧ Q (.loc μ1.length) (μ1 ++ [.dic (mergeD [] kvs)]) := rfl
def tryK (tb : List (Str × Bool)) (c : Str) (A B : Prop) : Prop := ∃ k, (c, k) ∈ tb ∧ if k = true then A else B
theorem r_sTryK {tb : List (Str × Bool)} {i j : Nat} {b : DS} : sTryK tb i j b env μ ⟨nx, rt, bk, ct, xc⟩ = b env μ ⟨nx, rt, bk, ct, fun x e m => tryK tb x.c (nx (((e.set i (some (.loc m.length))).set j (some (.loc m.length))).set i none) (m ++ [.exc x])) (x.hot = true ∧ xc x e m)⟩ := rfl
theorem r_sAsgE {p : DXE} {g : DG} : sAsgE p g env μ ⟨nx, rt, bk, ct, xc⟩ = p env μ (fun d m => g d env fun e => nx e m) (fun x m => xc x env m) := rfl
theorem r_sDropE {p : DXE} : sDropE p env μ ⟨nx, rt, bk, ct, xc⟩ = p env μ (fun _ m => nx env m) (fun x m => xc x env m) := rfl
theorem r_sRetE {p : DXE} : sRetE p env μ ⟨nx, rt, bk, ct, xc⟩ = p env μ (fun d m => rt d m) (fun x m => xc x env m) := rfl
theorem r_sRaise {c : Str} : sRaise c env μ ⟨nx, rt, bk, ct, xc⟩ = xc ⟨c, [], false⟩ env μ := rfl
theorem r_xN {p : DX} : xN p env μ Q Z = p env μ Q := rfl
theorem r_axeNil {Q : List D → Store → Prop} : axeNil env μ Q Z = Q [] μ := rfl
theorem r_axeCons {p : DXE} {q : DAXE} {Q : List D → Store → Prop} : axeCons p q env μ Q Z = p env μ (fun d m => q env m (fun ds m2 => Q (d :: ds) m2) Z) Z := rfl
theorem r_xTupE {a : DAXE} : xTupE a env μ Q Z = a env μ (fun ds m => ds.length ≤ sizeLine ∧ Q (tupD ds) m) Z := rfl
theorem r_xCallE {Φ : DFnE} {a : DAX} : xCallE Φ a env μ Q Z = a env μ fun ds m => Φ ds m Q Z := rfl
theorem r_xMethE {tb : List (Str × DFnE)} {m : Str} {o : DX} {a : DAX} : xMethE tb m o a env μ Q Z = o env μ fun d μ1 => ∃ n, d = .loc n ∧ methKE tb m μ1[n]? fun Φ => a env μ1 fun ds μ2 => Φ (.loc n :: ds) μ2 Q Z := rfl
def xMEk (d : D) (a : DAXE) (A : Nat → MO → List D → (D → MO → Prop) → Prop) (env : DEnv) (μ : Store) (Q : D → Store → Prop) (Z : XD → Store → Prop) : Prop := match d with
  | .loc n => (∃ ds, μ[n]? = some (.lst ds)) ∧ a env μ (fun xs μ1 => ∃ m, μ1[n]? = some m ∧ A n m xs fun y m' => Q y (μ1.set n m')) Z
  | _ => False
theorem r_xME {o : DP} {a : DAXE} {A : Nat → MO → List D → (D → MO → Prop) → Prop} : xME o a A env μ Q Z ↔ o env μ fun d => xMEk d a A env μ Q Z := Iff.of_eq (congrArg (o env μ) (funext fun d => by cases d <;> rfl))
theorem r_dCount {p q : DP} {Q : D → Prop} : dCount p q env μ Q = p env μ fun d => ∃ xs, d = .t (.lst xs) ∧ okT (.lst xs) = true ∧ q env μ fun e => ∃ y, e = .t y ∧ okT y = true ∧ Q (.t (.int ((xs.countP fun z => eqT z y : Nat) : Int))) := rfl
def isXK (tb : List (Str × Bool)) (μ : Store) (d : D) (Q : D → Prop) : Prop := ∃ n x b, d = .loc n ∧ μ[n]? = some (.exc x) ∧ (x.c, b) ∈ tb ∧ Q (.t (.bl b))
theorem r_dIsX {tb : List (Str × Bool)} {p : DP} {Q : D → Prop} : dIsX tb p env μ Q = p env μ fun d => isXK tb μ d Q := rfl
end
section
variable {μ : Store} {Q : D → Prop}
theorem r_isi_emp_int : isiK "int" μ (.t .emp) Q ↔ Q (.t (.bl false)) := ⟨fun ⟨n, b, e, k, q⟩ => by cases e; have k : kitB "dict" "int" = some b := k; rw [show kitB "dict" "int" = some false by decide +kernel] at k; cases k; exact q, fun q => ⟨"dict", false, rfl, by decide +kernel, q⟩⟩
theorem r_isi_emp_bool : isiK "bool" μ (.t .emp) Q ↔ Q (.t (.bl false)) := ⟨fun ⟨n, b, e, k, q⟩ => by cases e; have k : kitB "dict" "bool" = some b := k; rw [show kitB "dict" "bool" = some false by decide +kernel] at k; cases k; exact q, fun q => ⟨"dict", false, rfl, by decide +kernel, q⟩⟩
theorem r_isi_emp_str : isiK "str" μ (.t .emp) Q ↔ Q (.t (.bl false)) := ⟨fun ⟨n, b, e, k, q⟩ => by cases e; have k : kitB "dict" "str" = some b := k; rw [show kitB "dict" "str" = some false by decide +kernel] at k; cases k; exact q, fun q => ⟨"dict", false, rfl, by decide +kernel, q⟩⟩
theorem r_isi_emp_list : isiK "list" μ (.t .emp) Q ↔ Q (.t (.bl false)) := ⟨fun ⟨n, b, e, k, q⟩ => by cases e; have k : kitB "dict" "list" = some b := k; rw [show kitB "dict" "list" = some false by decide +kernel] at k; cases k; exact q, fun q => ⟨"dict", false, rfl, by decide +kernel, q⟩⟩
theorem r_isi_emp_tuple : isiK "tuple" μ (.t .emp) Q ↔ Q (.t (.bl false)) := ⟨fun ⟨n, b, e, k, q⟩ => by cases e; have k : kitB "dict" "tuple" = some b := k; rw [show kitB "dict" "tuple" = some false by decide +kernel] at k; cases k; exact q, fun q => ⟨"dict", false, rfl, by decide +kernel, q⟩⟩
theorem r_isi_emp_dict : isiK "dict" μ (.t .emp) Q ↔ Q (.t (.bl true)) := ⟨fun ⟨n, b, e, k, q⟩ => by cases e; have k : kitB "dict" "dict" = some b := k; rw [show kitB "dict" "dict" = some true by decide +kernel] at k; cases k; exact q, fun q => ⟨"dict", true, rfl, by decide +kernel, q⟩⟩
theorem r_isi_remp_int : isiK "int" μ (.t .remp) Q ↔ Q (.t (.bl false)) := ⟨fun ⟨n, b, e, k, q⟩ => by cases e; have k : kitB "dict" "int" = some b := k; rw [show kitB "dict" "int" = some false by decide +kernel] at k; cases k; exact q, fun q => ⟨"dict", false, rfl, by decide +kernel, q⟩⟩
theorem r_isi_remp_bool : isiK "bool" μ (.t .remp) Q ↔ Q (.t (.bl false)) := ⟨fun ⟨n, b, e, k, q⟩ => by cases e; have k : kitB "dict" "bool" = some b := k; rw [show kitB "dict" "bool" = some false by decide +kernel] at k; cases k; exact q, fun q => ⟨"dict", false, rfl, by decide +kernel, q⟩⟩
theorem r_isi_remp_str : isiK "str" μ (.t .remp) Q ↔ Q (.t (.bl false)) := ⟨fun ⟨n, b, e, k, q⟩ => by cases e; have k : kitB "dict" "str" = some b := k; rw [show kitB "dict" "str" = some false by decide +kernel] at k; cases k; exact q, fun q => ⟨"dict", false, rfl, by decide +kernel, q⟩⟩
theorem r_isi_remp_list : isiK "list" μ (.t .remp) Q ↔ Q (.t (.bl false)) := ⟨fun ⟨n, b, e, k, q⟩ => by cases e; have k : kitB "dict" "list" = some b := k; rw [show kitB "dict" "list" = some false by decide +kernel] at k; cases k; exact q, fun q => ⟨"dict", false, rfl, by decide +kernel, q⟩⟩
theorem r_isi_remp_tuple : isiK "tuple" μ (.t .remp) Q ↔ Q (.t (.bl false)) := ⟨fun ⟨n, b, e, k, q⟩ => by cases e; have k : kitB "dict" "tuple" = some b := k; rw [show kitB "dict" "tuple" = some false by decide +kernel] at k; cases k; exact q, fun q => ⟨"dict", false, rfl, by decide +kernel, q⟩⟩
theorem r_isi_remp_dict : isiK "dict" μ (.t .remp) Q ↔ Q (.t (.bl true)) := ⟨fun ⟨n, b, e, k, q⟩ => by cases e; have k : kitB "dict" "dict" = some b := k; rw [show kitB "dict" "dict" = some true by decide +kernel] at k; cases k; exact q, fun q => ⟨"dict", true, rfl, by decide +kernel, q⟩⟩
end
end Gw
/-! Gw, part Ev: a dict beside a text: ==, !=, and in a list of texts. -/
/-! Gw, part Eu: methods of texts without arguments. -/
/-! Gw, part Fa: text * int, int(text), int("1..1", 2), str(n), s.zfill, t.index of a tuple, t[::-1], divmod, reversed(range(n)), isinstance of what has effects. -/
namespace Gw
open PySem PySem.Spec PyProof.Rows L2 RZ
/-! ### text * int -/
def timesS (z : Str) (n : Nat) : Str := ⟨(List.replicate n z.cps).foldl (· ++ ·) #[]⟩
def repS (_ : Store) (d e : D) (Q : D → Prop) : Prop := match d, e with
  | .t (.str z), .t (.int k) => 0 < z.length ∧ (-(2 ^ 40) ≤ k ∧ k < 2 ^ 40) ∧ z.length * k.toNat ≤ 16777216 ∧ Q (.t (.str (timesS z k.toNat)))
  | _, _ => False
/-! ### str(n), int(text), zfill, divmod -/
def wStr (_ : Store) (ds : List D) (Q : D → Prop) : Prop := one ds fun d => ∃ i : Int, d = .t (.int i) ∧ i.natAbs.log2 < 1920 ∧ Q (.t (.str (Str.ofString (toString i))))
def wIntT (_ : Store) (ds : List D) (Q : D → Prop) : Prop := one ds fun d => ∃ a n, d = .t (.str a) ∧ PySem.intText? a = some n ∧ a.length ≤ 640 ∧ Q (.t (.int n))
def wDivmod (_ : Store) (ds : List D) (Q : D → Prop) : Prop := two' ds fun d e => ∃ i j : Int, d = .t (.int i) ∧ e = .t (.int j) ∧ CDiv i j ∧ Q (.t (.tup [.int (i / j), .int (i % j)]))
def wZfill (_ : Store) (a : Str) (ds : List D) (Q : D → Prop) : Prop := one ds fun d => ∃ i : Int, d = .t (.int i) ∧ PadOk i = true ∧ Q (.t (.str (Txt.zfill a i)))
/-! ### isinstance of what has effects -/
def xIsi (T' : String) (p : DX) : DX := fun env μ Q => p env μ fun d μ1 => ∃ n b, tyD μ1 d = some n ∧ kitB n T' = some b ∧ Q (.t (.bl b)) μ1
/-! ### reversed(range(n)) -/
def iRv (p : DP) : DI := fun env μ Q => p env μ fun d => ∃ n : Int, d = .t (.int n) ∧ -(2 ^ 62) ≤ n ∧ n < 2 ^ 62 ∧ Q ⟨(List.range n.toNat).map fun (i : Nat) => D.t (.int ((n.toNat : Int) - 1 - i)), fun _ => True⟩
theorem wk_rangeC {K : PySem.W.Frag} {G : Hp} {ρ0 ρ : List Addr} {F : Hp} (lo c : Int) (n : Nat) : Wk K G ρ0 ρ F (Itc lo c n) ⟨(List.range n).map fun (i : Nat) => D.t (.int (lo + (i : Int) * c)), fun _ => True⟩ :=
  ⟨⟨_, _, (show Walk (Itc lo c n) ((List.range n).map fun (i : Nat) => D.t (.int (lo + (i : Int) * c))).length _ _ by
    rw [List.length_map, List.length_range]
    exact walk_rangeC), fun _ _ _ _ _ _ => trivial, fun i B' μ' ρ' H' x H2 hi l _ y => by
    obtain ⟨rfl, rfl⟩ := y
    have hi' : i < n := by
      have : i < ((List.range n).map fun (i : Nat) => D.t (.int (lo + (i : Int) * c))).length := hi
      rw [List.length_map, List.length_range] at this
      exact this
    refine ⟨Same.refl _, .t (.int (lo + (i : Int) * c)), ?_, rfl⟩
    show ((List.range n).map fun (i : Nat) => D.t (.int (lo + (i : Int) * c)))[i]? = _
    rw [List.getElem?_map, List.getElem?_range hi']
    rfl⟩⟩
/-! ### enumerate of any source -/
def iEnA (p : DP) : DI := fun env μ Q => p env μ fun d => srcA μ d fun xs kp => Q ⟨enumD xs, kp⟩
/-! ### tuple(xs), its object known; t.index(s), s in t, t[::-1] -/
def wTupP (μ : Store) (ds : List D) (Q : D → Prop) : Prop := one ds fun d => srcL μ d fun xs _ => Q (.t (.pt xs))
def dTix (p q : DP) : DP := fun env μ Q => p env μ fun d => ∃ ss : List Str, d = .t (.pt (ss.map T.str)) ∧ q env μ fun e => ∃ z j, e = .t (.str z) ∧ ss[j]? = some z ∧ (∀ m, m < j → ss[m]? ≠ some z) ∧ Q (.t (.int (j : Nat)))
/-- s in t, a tuple of texts -/
def tupS (e : D) (ss : List Str) : Prop := e = .t (.pt (ss.map T.str)) ∨ e = .t (.tup (ss.map T.str))
def inTs (f : Bool → Bool) (_ : Store) (d e : D) (Q : D → Prop) : Prop := ∃ (z : Str) (ss : List Str), d = .t (.str z) ∧ tupS e ss ∧ Q (.t (.bl (f (decide (z ∈ ss)))))
/-! ### a, b = x, y -/
def sPar (i j : Nat) (a : DA) : DS := fun env μ P => a env μ fun ds => two' ds fun d e => P.nx ((env.set i (some d)).set j (some e)) μ
/-! ### t[::-1] -/
section
variable {X : Cx} {e st : Expr} {te : TE} {p q : DP} {pos p3 : Pos}
def dRvT (p q : DP) : DP := fun env μ Q => p env μ fun d => q env μ fun e => ∃ xs, e = .t (.int (-1)) ∧ d = .t (.pt xs) ∧ Q (.t (.tup xs.reverse))
end
/-! ### int(s, 2), s of ones -/
end Gw
/-! Gw, part Fr: rows for Fa. -/
namespace Gw
open PySem PySem.Spec PyProof.Rows L2 RZ
section
variable {env : DEnv} {μ : Store} {Q : D → Prop} {p q : DP} {a : DA} {xs : List T} {i j : Int} {s : Str}
theorem r_addS {s z : Str} : addD μ (.t (.str s)) (.t (.str z)) Q = (s.length + z.length ≤ sizeLine ∧ Q (.t (.str (s ++ z)))) := rfl
theorem r_wLs : wLen μ [.t (.str s)] Q = (s.length ≤ sizeLine ∧ Q (.t (.int s.length))) := rfl
theorem r_slS {lo hi : Option Int} : slW μ (.t (.str s)) lo hi Q = (s.length ≤ sizeLine ∧ Q (.t (.str (cutS s lo hi)))) := rfl
theorem r_two {α : Prop} {d e : D} {F : D → D → Prop} : two' [d, e] F = F d e := rfl
theorem r_sPar {x y : Nat} {nx bk ct : DEnv → Store → Prop} {xc : XD → DEnv → Store → Prop} {rt : D → Store → Prop} : sPar x y a env μ ⟨nx, rt, bk, ct, xc⟩ = a env μ fun ds => two' ds fun d e => nx ((env.set x (some d)).set y (some e)) μ := rfl
theorem r_wStr : wStr μ [.t (.int i)] Q ↔ (i.natAbs.log2 < 1920 ∧ Q (.t (.str (Str.ofString (toString i))))) := ⟨fun ⟨_, e, h, q⟩ => by cases e; exact ⟨h, q⟩, fun h => ⟨i, rfl, h⟩⟩
theorem r_wIntT : wIntT μ [.t (.str s)] Q ↔ ∃ n, PySem.intText? s = some n ∧ s.length ≤ 640 ∧ Q (.t (.int n)) := ⟨fun ⟨_, n, e, h⟩ => by cases e; exact ⟨n, h⟩, fun ⟨n, h⟩ => ⟨s, n, rfl, h⟩⟩
theorem r_wDivmod : wDivmod μ [.t (.int i), .t (.int j)] Q ↔ (CDiv i j ∧ Q (.t (.tup [.int (i / j), .int (i % j)]))) := ⟨fun ⟨_, _, e, f, h⟩ => by cases e; cases f; exact h, fun h => ⟨i, j, rfl, rfl, h⟩⟩
theorem r_wZfill : wZfill μ s [.t (.int i)] Q ↔ (PadOk i = true ∧ Q (.t (.str (Txt.zfill s i)))) := ⟨fun ⟨_, e, h⟩ => by cases e; exact h, fun h => ⟨i, rfl, h⟩⟩
theorem r_repS : repS μ (.t (.str s)) (.t (.int i)) Q = (0 < s.length ∧ (-(2 ^ 40) ≤ i ∧ i < 2 ^ 40) ∧ s.length * i.toNat ≤ 16777216 ∧ Q (.t (.str (timesS s i.toNat)))) := rfl
theorem r_iEnA {Q : DIt → Prop} : iEnA p env μ Q = p env μ fun d => srcA μ d fun xs kp => Q ⟨enumD xs, kp⟩ := rfl
def rvK (d : D) (Q : DIt → Prop) : Prop := ∃ n : Int, d = .t (.int n) ∧ -(2 ^ 62) ≤ n ∧ n < 2 ^ 62 ∧ Q ⟨(List.range n.toNat).map fun (i : Nat) => D.t (.int ((n.toNat : Int) - 1 - i)), fun _ => True⟩
theorem r_iRv {Q : DIt → Prop} : iRv p env μ Q = p env μ fun d => rvK d Q := rfl
theorem r_rvK {Q : DIt → Prop} : rvK (.t (.int i)) Q ↔ (-(2 ^ 62) ≤ i ∧ i < 2 ^ 62 ∧ Q ⟨(List.range i.toNat).map fun (k : Nat) => D.t (.int ((i.toNat : Int) - 1 - k)), fun _ => True⟩) := ⟨fun ⟨_, e, h⟩ => by cases e; exact h, fun h => ⟨i, rfl, h⟩⟩
theorem r_srcApt {Q : List T → (Store → Prop) → Prop} : srcA μ (.t (.pt xs)) Q = Q xs fun _ => True := rfl
theorem r_srcDpt {Q : List D → (Store → Prop) → Prop} : srcD μ (.t (.pt xs)) Q = Q (xs.map D.t) fun _ => True := rfl
theorem r_ixPt : ixW μ (.t (.pt xs)) (.t (.int i)) Q = atK xs i Q := rfl
theorem r_wLpt : wLen μ [.t (.pt xs)] Q = Q (.t (.int xs.length)) := rfl
theorem r_wListpt {R : List T → Prop} : wListA μ [.t (.pt xs)] R = R xs := rfl
def tixK (d : D) (R : List Str → Prop) : Prop := ∃ ss : List Str, d = .t (.pt (ss.map T.str)) ∧ R ss
theorem r_dTix : dTix p q env μ Q = p env μ fun d => tixK d fun ss => q env μ fun e => ∃ z j, e = .t (.str z) ∧ ss[j]? = some z ∧ (∀ m, m < j → ss[m]? ≠ some z) ∧ Q (.t (.int (j : Nat))) := rfl
theorem r_dRvT : dRvT p q env μ Q = p env μ fun d => q env μ fun e => ∃ xs, e = .t (.int (-1)) ∧ d = .t (.pt xs) ∧ Q (.t (.tup xs.reverse)) := rfl
theorem r_wTupP {d : D} : wTupP μ [d] Q = srcL μ d fun xs _ => Q (.t (.pt xs)) := rfl
theorem r_xIsi {t : String} {o : DX} {Q : D → Store → Prop} : xIsi t o env μ Q = o env μ fun d μ1 => isiK t μ1 d fun v => Q v μ1 := rfl
def inTsK (f : Bool → Bool) (d e : D) (Q : D → Prop) : Prop := ∃ (z : Str) (ss : List Str), d = .t (.str z) ∧ tupS e ss ∧ Q (.t (.bl (f (decide (z ∈ ss)))))
theorem r_inTs {f : Bool → Bool} {d e : D} : inTs f μ d e Q = inTsK f d e Q := rfl
end
section
variable {μ : Store} {Q : D → Prop} {xs : List T}
theorem r_isi_pt_int : isiK "int" μ (.t (.pt xs)) Q ↔ Q (.t (.bl false)) := ⟨fun ⟨n, b, e, k, q⟩ => by cases e; have k : kitB "tuple" "int" = some b := k; rw [show kitB "tuple" "int" = some false by decide +kernel] at k; cases k; exact q, fun q => ⟨"tuple", false, rfl, by decide +kernel, q⟩⟩
theorem r_isi_pt_bool : isiK "bool" μ (.t (.pt xs)) Q ↔ Q (.t (.bl false)) := ⟨fun ⟨n, b, e, k, q⟩ => by cases e; have k : kitB "tuple" "bool" = some b := k; rw [show kitB "tuple" "bool" = some false by decide +kernel] at k; cases k; exact q, fun q => ⟨"tuple", false, rfl, by decide +kernel, q⟩⟩
theorem r_isi_pt_str : isiK "str" μ (.t (.pt xs)) Q ↔ Q (.t (.bl false)) := ⟨fun ⟨n, b, e, k, q⟩ => by cases e; have k : kitB "tuple" "str" = some b := k; rw [show kitB "tuple" "str" = some false by decide +kernel] at k; cases k; exact q, fun q => ⟨"tuple", false, rfl, by decide +kernel, q⟩⟩
theorem r_isi_pt_list : isiK "list" μ (.t (.pt xs)) Q ↔ Q (.t (.bl false)) := ⟨fun ⟨n, b, e, k, q⟩ => by cases e; have k : kitB "tuple" "list" = some b := k; rw [show kitB "tuple" "list" = some false by decide +kernel] at k; cases k; exact q, fun q => ⟨"tuple", false, rfl, by decide +kernel, q⟩⟩
theorem r_isi_pt_tuple : isiK "tuple" μ (.t (.pt xs)) Q ↔ Q (.t (.bl true)) := ⟨fun ⟨n, b, e, k, q⟩ => by cases e; have k : kitB "tuple" "tuple" = some b := k; rw [show kitB "tuple" "tuple" = some true by decide +kernel] at k; cases k; exact q, fun q => ⟨"tuple", true, rfl, by decide +kernel, q⟩⟩
theorem r_isi_pt_dict : isiK "dict" μ (.t (.pt xs)) Q ↔ Q (.t (.bl false)) := ⟨fun ⟨n, b, e, k, q⟩ => by cases e; have k : kitB "tuple" "dict" = some b := k; rw [show kitB "tuple" "dict" = some false by decide +kernel] at k; cases k; exact q, fun q => ⟨"tuple", false, rfl, by decide +kernel, q⟩⟩
end
end Gw
/-! Gw, part Fb: startswith, partition, rpartition, bit_length, list(range), tuple(range), differences with effects, range of what has effects, isinstance of own instances, tuple * flag. -/
namespace Gw
open PySem PySem.Spec PyProof.Rows L2 RZ
/-! ### texts -/
def wStarts (_ : Store) (a : Str) (ds : List D) (Q : D → Prop) : Prop := one ds fun d => strK d fun b => Q (.t (.bl (Txt.startswith a b)))
def tup3 (p : Str × Str × Str) : T := .tup [.str p.1, .str p.2.1, .str p.2.2]
def wPart (f : Str → Str → Str × Str × Str) (_ : Store) (a : Str) (ds : List D) (Q : D → Prop) : Prop := one ds fun d => strK d fun b => (b.length == 0) = false ∧ a.length ≤ sizeLine ∧ Q (.t (tup3 (f a b)))
/-! ### n.bit_length() -/
def xBits (o : DX) : DX := fun env μ Q => o env μ fun d μ1 => ∃ i : Int, d = .t (.int i) ∧ Q (.t (.int (Builtin.Int.intBits i : Nat))) μ1
/-! ### list(range(n)), tuple(range(n)) -/
def rgT (n : Nat) : List T := (List.range n).map fun (i : Nat) => T.int i
theorem rgT_rps {K : PySem.W.Frag} {G F : Hp} (n : Int) : Rps K G F (rgT n.toNat) (rgV 0 n) := by
  have e : rgV 0 n = ((List.range n.toNat).map fun (i : Nat) => (i : Int)).map V.int := by
    unfold rgV
    rw [Int.sub_zero, List.map_map]
    exact List.map_congr_left fun i _ => congrArg V.int (Int.zero_add _)
  have e2 : rgT n.toNat = ((List.range n.toNat).map fun (i : Nat) => (i : Int)).map T.int := by
    unfold rgT
    rw [List.map_map]
    rfl
  rw [e, e2]
  exact Rps.of_ints _
def fRg (p : DP) : DF := fun env μ Q => p env μ fun d => ∃ n : Int, d = .t (.int n) ∧ n ≤ 16777216 ∧ 0 ≤ n ∧ Q (rgT n.toNat)
section
variable {X : Cx} {e : Expr} {p : DP} {p0 p1 pos pos' : Pos}
def dTupRg (p : DP) : DP := fun env μ Q => p env μ fun d => ∃ n : Int, d = .t (.int n) ∧ n ≤ 16777216 ∧ 0 ≤ n ∧ Q (.t (.tup (rgT n.toNat)))
theorem ex_tupRg (hc : X.calm = true) (hm : X.mg "tuple" = none) (hm2 : X.mg "range" = none) (h : EX X e p) (hg : Gl X "tuple" := by rfl) (hg2 : Gl X "range" := by rfl)
    (ne : starEach [e] X.env = (false, eval e X.env) :: starEach [] X.env := by rfl) (na : starEach [.Call (.Name "range" p1) [e] [] pos'] X.env = (false, eval (.Call (.Name "range" p1) [e] [] pos') X.env) :: starEach [] X.env := by rfl) :
    EX X (.Call (.Name "tuple" p0) [.Call (.Name "range" p1) [e] [] pos'] [] pos) (dTupRg p) :=
  PE.imp (pe_tupRg hc hg hm (prg_1 hg2 hm2 h ne) na) fun σ H R ⟨G, B, ρ0, env, μ, ρ, Q, s, q1, k⟩ => by
    refine ⟨G, B, ρ0, env, μ, ρ, _, s, q1, fun d v H1 q2 e1 r1 => ?_⟩
    obtain ⟨n, rfl, h1, h2, q3⟩ := q2
    refine ⟨n, r1, RgOk.of_le (by decide) h1 (by decide) h2, fun q hq => ?_⟩
    have m := (s.mono e1).sh.new (o := .tup (rgV 0 n)) hq
    exact k _ _ _ q3 (e1.trans m.1) ⟨q, _, rfl, m.2, rgT_rps n⟩
end
/-! ### range of what has effects -/
def iR1X (p : DX) : DIX := fun env μ Q => p env μ fun d μ1 => rg1K d fun j => Q j μ1
/-! ### isinstance of own instances -/
def isOK (tb : List (Str × Bool)) (μ : Store) (d : D) (Q : D → Prop) : Prop := ∃ n c fs b, d = .loc n ∧ μ[n]? = some (.ins c fs) ∧ (c, b) ∈ tb ∧ Q (.t (.bl b))
def dIsO (tb : List (Str × Bool)) (p : DP) : DP := fun env μ Q => p env μ fun d => isOK tb μ d Q
/-! ### tuple * flag -/
def flagT (_ : Store) (d e : D) (Q : D → Prop) : Prop := match d, e with
  | .t (.tup xs), .t (.int i) => xs ≠ [] ∧ ((i = 0 ∧ Q (.t (.tup []))) ∨ (i = 1 ∧ Q (.t (.tup xs))))
  | .t (.pt xs), .t (.int i) => xs ≠ [] ∧ ((i = 0 ∧ Q (.t (.tup []))) ∨ (i = 1 ∧ Q (.t (.pt xs))))
  | _, _ => False
/-! ### tuple + what may be a plain one -/
def catP (μ : Store) (d e : D) (Q : D → Prop) : Prop := match d, e with
  | .t (.tup xs), .t (.pt ys) => xs.length + ys.length ≤ sizeLine ∧ (xs = [] → Q (.t (.pt ys))) ∧ (xs ≠ [] → ys = [] → Q (.t (.tup xs))) ∧ (xs ≠ [] → ys ≠ [] → Q (.t (.tup (xs ++ ys))))
  | .t (.pt xs), .t (.tup ys) => xs.length + ys.length ≤ sizeLine ∧ (xs = [] → Q (.t (.tup ys))) ∧ (xs ≠ [] → ys = [] → Q (.t (.pt xs))) ∧ (xs ≠ [] → ys ≠ [] → Q (.t (.tup (xs ++ ys))))
  | d, e => addD μ d e Q
/-! ### int(bits, 2) -/
def bitsN (l : List Nat) : Nat := l.foldl (fun a c => a * 2 + (if c = 49 then 1 else 0)) 0
def Is01 (l : List Nat) : Prop := ∀ c ∈ l, c = 48 ∨ c = 49
def wIntB (_ : Store) (ds : List D) (Q : D → Prop) : Prop := two' ds fun d e => ∃ z : Str, d = .t (.str z) ∧ e = .t (.int 2) ∧ Is01 z.cps.toList ∧ z.cps.toList ≠ [] ∧ z.cps.toList.length ≤ 640 ∧ Q (.t (.int ((bitsN z.cps.toList : Nat) : Int)))
/-! ### text += text -/
def wIAddS (_ : Store) (d e : D) (Q : D → Prop) : Prop := match d, e with
  | .t (.str a), .t (.str b) => a.length + b.length ≤ sizeLine ∧ Q (.t (.str (a ++ b)))
  | _, _ => False
end Gw
/-! rows for the parts of GwFb -/
namespace Gw
open PySem PySem.Spec PyProof.Rows L2 RZ
section
variable {env : DEnv} {μ : Store} {p : DP} {o : DX} {xs ys : List T} {i : Int} {a b : Str}
def bitsK (d : D) (R : Int → Prop) : Prop := ∃ i : Int, d = .t (.int i) ∧ R i
theorem r_xBits {Q : D → Store → Prop} : xBits o env μ Q = o env μ fun d μ1 => bitsK d fun i => Q (.t (.int (Builtin.Int.intBits i : Nat))) μ1 := rfl
theorem r_bitsK {R : Int → Prop} : bitsK (.t (.int i)) R ↔ R i := ⟨fun ⟨_, e, q⟩ => by cases e; exact q, fun q => ⟨i, rfl, q⟩⟩
variable {Q : D → Prop}
theorem r_wStarts : wStarts μ a [.t (.str b)] Q ↔ Q (.t (.bl (Txt.startswith a b))) := ⟨fun ⟨_, e, q⟩ => by cases e; exact q, fun q => ⟨b, rfl, q⟩⟩
theorem r_wPart {f : Str → Str → Str × Str × Str} : wPart f μ a [.t (.str b)] Q ↔ ((b.length == 0) = false ∧ a.length ≤ sizeLine ∧ Q (.t (.tup [.str (f a b).1, .str (f a b).2.1, .str (f a b).2.2]))) := ⟨fun ⟨_, e, q⟩ => by cases e; exact q, fun q => ⟨b, rfl, q⟩⟩
theorem r_wIntB : wIntB μ [.t (.str a), .t (.int 2)] Q ↔ (Is01 a.cps.toList ∧ a.cps.toList ≠ [] ∧ a.cps.toList.length ≤ 640 ∧ Q (.t (.int ((bitsN a.cps.toList : Nat) : Int)))) := ⟨fun ⟨_, e, _, h⟩ => by cases e; exact h, fun h => ⟨a, rfl, rfl, h⟩⟩
theorem r_flagTt : flagT μ (.t (.tup xs)) (.t (.int i)) Q = (xs ≠ [] ∧ ((i = 0 ∧ Q (.t (.tup []))) ∨ (i = 1 ∧ Q (.t (.tup xs))))) := rfl
theorem r_flagTp : flagT μ (.t (.pt xs)) (.t (.int i)) Q = (xs ≠ [] ∧ ((i = 0 ∧ Q (.t (.tup []))) ∨ (i = 1 ∧ Q (.t (.pt xs))))) := rfl
theorem r_catPt : catP μ (.t (.tup xs)) (.t (.tup ys)) Q = (xs.length + ys.length ≤ sizeLine ∧ Q (.t (.tup (xs ++ ys)))) := rfl
theorem r_catPq : catP μ (.t (.pt xs)) (.t (.tup ys)) Q = (xs.length + ys.length ≤ sizeLine ∧ (xs = [] → Q (.t (.tup ys))) ∧ (xs ≠ [] → ys = [] → Q (.t (.pt xs))) ∧ (xs ≠ [] → ys ≠ [] → Q (.t (.tup (xs ++ ys))))) := rfl
theorem r_catPp : catP μ (.t (.tup xs)) (.t (.pt ys)) Q = (xs.length + ys.length ≤ sizeLine ∧ (xs = [] → Q (.t (.pt ys))) ∧ (xs ≠ [] → ys = [] → Q (.t (.tup xs))) ∧ (xs ≠ [] → ys ≠ [] → Q (.t (.tup (xs ++ ys))))) := rfl
theorem r_slPt {lo hi : Option Int} : slW μ (.t (.pt xs)) lo hi Q = ((HT.sIx xs.length 0 lo = 0 ∧ HT.sIx xs.length xs.length hi = xs.length → Q (.t (.pt xs))) ∧ (¬ (HT.sIx xs.length 0 lo = 0 ∧ HT.sIx xs.length xs.length hi = xs.length) → Q (.t (.tup (cutT xs lo hi))))) := rfl
theorem r_wIAddS : wIAddS μ (.t (.str a)) (.t (.str b)) Q = (a.length + b.length ≤ sizeLine ∧ Q (.t (.str (a ++ b)))) := rfl
def rgnK (d : D) (R : List T → Prop) : Prop := ∃ n : Int, d = .t (.int n) ∧ n ≤ 16777216 ∧ 0 ≤ n ∧ R (rgT n.toNat)
theorem r_fRg {R : List T → Prop} : fRg p env μ R = p env μ fun d => rgnK d R := rfl
theorem r_rgnK {R : List T → Prop} : rgnK (.t (.int i)) R ↔ (i ≤ 16777216 ∧ 0 ≤ i ∧ R (rgT i.toNat)) := ⟨fun ⟨_, e, h⟩ => by cases e; exact h, fun h => ⟨i, rfl, h⟩⟩
theorem r_iR1X {pp : DX} {R : DIt → Store → Prop} : iR1X pp env μ R = pp env μ fun d μ1 => rg1K d fun j => R j μ1 := rfl
theorem r_dIsO {tb : List (Str × Bool)} : dIsO tb p env μ Q = p env μ fun d => isOK tb μ d Q := rfl
end
end Gw
/-! Gw, part Fc: any tuple turned about -/
namespace Gw
open PySem PySem.Spec PyProof.Rows L2 RZ
section
variable {X : Cx} {e st : Expr} {p q : DP} {pos p3 : Pos}
def tupL (d : D) (R : List T → Prop) : Prop := ∃ xs, (d = .t (.tup xs) ∨ d = .t (.pt xs)) ∧ R xs
def dRvU (p q : DP) : DP := fun env μ Q => p env μ fun d => q env μ fun e => e = .t (.int (-1)) ∧ tupL d fun xs => Q (.t (.tup xs.reverse))
end
section
variable {env : DEnv} {μ : Store} {p : DP} {q : DP} {xs : List T} {Q : D → Prop} {R : List T → Prop}
theorem r_dRvU : dRvU p q env μ Q = p env μ fun d => q env μ fun e => e = .t (.int (-1)) ∧ tupL d fun xs => Q (.t (.tup xs.reverse)) := rfl
theorem r_tupLt : tupL (.t (.tup xs)) R ↔ R xs := ⟨fun ⟨_, e, q⟩ => by rcases e with e | e <;> cases e; exact q, fun q => ⟨xs, .inl rfl, q⟩⟩
theorem r_tupLp : tupL (.t (.pt xs)) R ↔ R xs := ⟨fun ⟨_, e, q⟩ => by rcases e with e | e <;> cases e; exact q, fun q => ⟨xs, .inr rfl, q⟩⟩
end
end Gw
/-! Gw, part Fd: a def that sees no store, called with arguments that may change it -/
namespace Gw
open PySem PySem.Spec PyProof.Rows L2 RZ
def xCallT (Φ : List T → T → Prop) (a : DAX) : DX := fun env μ Q => a env μ fun ds μ1 => vwAll μ1 ds fun xs => ∃ y, Φ (ros xs) y ∧ Q (.t y) μ1
def xCallN (Φ : List T → List T → Prop) (a : DAX) : DX := fun env μ Q => a env μ fun ds μ1 => vwAll μ1 ds fun xs => ∃ ys, Φ (ros xs) ys ∧ (Q (.t (.lst ys)) μ1 ∨ Q (.loc μ1.length) (μ1 ++ [.lst (ys.map D.t)]))
section
variable {env : DEnv} {μ : Store} {a : DAX} {Q : D → Store → Prop}
theorem r_xCallT {Φ : List T → T → Prop} : xCallT Φ a env μ Q = a env μ fun ds μ1 => vwAll μ1 ds fun xs => callK Φ xs fun d => Q d μ1 := rfl
theorem r_xCallN {Φ : List T → List T → Prop} : xCallN Φ a env μ Q = a env μ fun ds μ1 => vwAll μ1 ds fun xs => ∃ ys, Φ (ros xs) ys ∧ (Q (.t (.lst ys)) μ1 ∨ Q (.loc μ1.length) (μ1 ++ [.lst (ys.map D.t)])) := rfl
end
end Gw
/-! Gw, part Gr: repr of nested data. -/
namespace Gw
open PySem PySem.Spec PyProof.Rows L2 RZ
/-- a thing whose text can be told: a tuple or a list of plain data, not too deep, its text not too long -/
structure RepOk (d : PyData) : Prop where
  lay : d.canLay0 = true
  shw : d.showable = true
  dep : d.depth ≤ 60
  len : d.shown.length ≤ sizeLine
def isRef : T → Bool
  | .tup _ | .pt _ | .lst _ | .ro _ => true
  | _ => false
def wRepr (μ : Store) (ds : List D) (Q : D → Prop) : Prop := one ds fun d => match d with
  | .t x => isRef x = true ∧ RepOk (pd x) ∧ Q (.t (.str (pd x).shown))
  | _ => False
theorem r_wRepr {μ : Store} {x : T} {Q : D → Prop} : wRepr μ [.t x] Q = (isRef x = true ∧ RepOk (pd x) ∧ Q (.t (.str (pd x).shown))) := rfl
/-! ### xs.insert(i, y) -/
def rInsert : V → List V → Hp → VK → Prop := fun x vs H Q => ∃ (l : Addr) (xs : List V) (i : Int) (y : V), x = .ref l ∧ vs = [.int i, y] ∧ H l = some (.lst xs) ∧ xs.length < sizeLine ∧ 0 ≤ i ∧ i < 2 ^ 63 ∧
  Q .non (L2.upd H l (.lst (xs.take i.toNat ++ [y] ++ xs.drop i.toNat)))
def wInsert (_ : Nat) (m : MO) (xs : List D) (Q : D → MO → Prop) : Prop := match m, xs with
  | .lst ds, [.t (.int i), x] => ds.length < sizeLine ∧ 0 ≤ i ∧ i < 2 ^ 63 ∧ Q (.t .non) (.lst (ds.take i.toNat ++ [x] ++ ds.drop i.toNat))
  | _, _ => False
theorem Paired.take {α β : Type} {P : α → β → Prop} : ∀ {l : List α} {m : List β} (n : Nat), Paired P l m → Paired P (l.take n) (m.take n)
  | _, _, 0, _ => by simp only [List.take_zero]; exact .nil
  | _, _, n + 1, .nil => by simp only [List.take_nil]; exact .nil
  | _, _, n + 1, .cons r t => .cons r (Paired.take n t)
theorem Paired.drop {α β : Type} {P : α → β → Prop} : ∀ {l : List α} {m : List β} (n : Nat), Paired P l m → Paired P (l.drop n) (m.drop n)
  | _, _, 0, h => h
  | _, _, n + 1, .nil => .nil
  | _, _, n + 1, .cons r t => Paired.drop n t
theorem wInsert_ok {K : PySem.W.Frag} : WM K rInsert wInsert := by
  intro G F ρ H n a m xs vs Q R fs hm rs w k
  unfold wInsert at w
  split at w
  · rename_i ds i x
    obtain ⟨ws, h1, h2⟩ := hm
    cases rs with
    | cons r rr =>
      cases rr with
      | cons r2 rr2 =>
        cases rr2
        have e : _ = V.int i := r
        subst e
        exact ⟨a, ws, i, _, rfl, rfl, h1, by rw [← Paired.len h2]; exact w.1, w.2.1, w.2.2.1, k _ _ _ _ w.2.2.2 rfl ⟨_, upd_same, Paired.app (Paired.app (Paired.take _ h2) (.cons r2 .nil)) (Paired.drop _ h2)⟩⟩
  · exact w.elim
theorem r_insert {k : Nat} {ds : List D} {i : Int} {x : D} {Q : D → MO → Prop} : wInsert k (.lst ds) [.t (.int i), x] Q = (ds.length < sizeLine ∧ 0 ≤ i ∧ i < 2 ^ 63 ∧ Q (.t .non) (.lst (ds.take i.toNat ++ [x] ++ ds.drop i.toNat))) := rfl
end Gw
/-! Gw, part Gs: list(x) of a list that holds places; s == x where x may be {}. -/
namespace Gw
open PySem PySem.Spec PyProof.Rows L2 RZ
def xListD (p : DX) : DX := fun env μ Q => p env μ fun d μ1 => ∃ n ds, d = .loc n ∧ μ1[n]? = some (.lst ds) ∧ Q (.loc μ1.length) (μ1 ++ [.lst ds])
section
variable {X : Cx} {e : Expr} {p : DX} {p1 pos : Pos}
theorem r_xListD {env : DEnv} {μ : Store} {Q : D → Store → Prop} : xListD p env μ Q = p env μ fun d μ1 => ∃ n ds, d = .loc n ∧ μ1[n]? = some (.lst ds) ∧ Q (.loc μ1.length) (μ1 ++ [.lst ds]) := rfl
end
/-- == and != of texts of any kind -/
def eqS (f : Bool → Bool) (μ : Store) (d e : D) (Q : D → Prop) : Prop := ∃ a b : Str, d = .t (.str a) ∧ e = .t (.str b) ∧ Q (.t (.bl (f (decide (a = b)))))
theorem r_eqS {f : Bool → Bool} {μ : Store} {a b : Str} {Q : D → Prop} : eqS f μ (.t (.str a)) (.t (.str b)) Q ↔ Q (.t (.bl (f (decide (a = b))))) := ⟨fun ⟨x, y, e1, e2, q⟩ => by cases e1; cases e2; exact q, fun q => ⟨a, b, rfl, rfl, q⟩⟩
/-! a list that is only read, times a number -/
end Gw
/-! Gw, part Xa: exceptions whose own __init__ keeps one field; raised, also in the suite of an except clause. -/
namespace Gw
open PySem PySem.Spec PyProof.Rows L2 RZ
-- names of the kit: L2
/-- raise C(e), C's __init__ keeping the field f -/
def sRaiseA (c f : Str) (p : DP) : DS := fun env μ P => p env μ fun d => ∃ t, d = .t t ∧ P.xc ⟨c, [(f, t)], true⟩ env μ
/-- try: .. except C: raise D(e) -/
def sTryR (tb : List (Str × Bool)) (c f : Str) (p : DP) (b : DS) : DS := fun env μ P => b env μ { P with xc := fun x env' μ' => ∃ k, (x.c, k) ∈ tb ∧ if k = true then (x.hot = false ∧ p env' μ' fun d => ∃ t, d = .t t ∧ P.xc ⟨c, [(f, t)], true⟩ env' μ') else P.xc x.warm env' μ' }
end Gw
/-! Gw, part Xb: enumerate and zip of a list of objects; d.get(k) whose k is made with effects. -/
namespace Gw
open PySem PySem.Spec PyProof.Rows L2 RZ
/-- a list of objects -/
def srcO (μ : Store) (d : D) (Q : List Nat → (Store → Prop) → Prop) : Prop := ∃ n ns, d = .loc n ∧ μ[n]? = some (.lst (ns.map D.loc)) ∧ Q ns fun μ' => μ'[n]? = some (.lst (ns.map D.loc))
def enumO (ns : List Nat) : List D := ns.zipIdx.map fun z => D.tp [.t (.int z.2), .loc z.1]
def iEnO (p : DP) : DI := fun env μ Q => p env μ fun d => srcO μ d fun ns kp => Q ⟨enumO ns, kp⟩
def zipO (ns : List Nat) (xs : List T) : List D := List.zipWith (fun n x => D.tp [.loc n, .t x]) ns xs
def iZpO (p q : DP) : DI := fun env μ Q => p env μ fun d => q env μ fun e => srcO μ d fun ns kp => srcA μ e fun xs kp' => Q ⟨zipO ns xs, fun μ' => kp μ' ∧ kp' μ'⟩
def xGet1 (p : DP) (q : DX) : DX := fun env μ Q => p env μ fun d => ∃ n kvs0, d = .loc n ∧ dicAt μ n kvs0 ∧ q env μ fun e μ1 => ∃ kvs, dicAt μ1 n kvs ∧ getK kvs e (.t .non) fun y => Q y μ1
/-- a tuple repeated twice or more -/
def repP (_ : Store) (d e : D) (Q : D → Prop) : Prop := ∃ (xs : List T) (k : Int), d = .t (.tup xs) ∧ e = .t (.int k) ∧ xs ≠ [] ∧ 2 ≤ k ∧ k ≤ 1000 ∧ xs.length ≤ 1000 ∧ Q (.t (.tup (List.replicate k.toNat xs).flatten))
/-! rows -/
section
variable {env : DEnv} {μ : Store} {Q : D → Prop} {nx bk ct : DEnv → Store → Prop} {xc : XD → DEnv → Store → Prop} {rt : D → Store → Prop}
theorem r_sRaiseA {c f : Str} {p : DP} : sRaiseA c f p env μ ⟨nx, rt, bk, ct, xc⟩ = p env μ fun d => ∃ t, d = .t t ∧ xc ⟨c, [(f, t)], true⟩ env μ := rfl
def tryR (tb : List (Str × Bool)) (x : XD) (A B : Prop) : Prop := ∃ k, (x.c, k) ∈ tb ∧ if k = true then x.hot = false ∧ A else B
theorem r_sTryR {tb : List (Str × Bool)} {c f : Str} {p : DP} {b : DS} : sTryR tb c f p b env μ ⟨nx, rt, bk, ct, xc⟩ = b env μ ⟨nx, rt, bk, ct, fun x e m => tryR tb x (p e m fun d => ∃ t, d = .t t ∧ xc ⟨c, [(f, t)], true⟩ e m) (xc x.warm e m)⟩ := rfl
def xfK (cs : List Str) (f : Str) (μ : Store) (d : D) (Q : D → Prop) : Prop := ∃ n x t, d = .loc n ∧ μ[n]? = some (.exc x) ∧ x.c ∈ cs ∧ x.fs.lookup f = some t ∧ Q (.t t)
theorem r_dXf {cs : List Str} {p : DP} {f : Str} : dXf cs p f env μ Q = p env μ fun d => xfK cs f μ d Q := rfl
theorem r_iEnO {p : DP} {Q : DIt → Prop} : iEnO p env μ Q = p env μ fun d => srcO μ d fun ns kp => Q ⟨enumO ns, kp⟩ := rfl
theorem r_iZpO {p q : DP} {Q : DIt → Prop} : iZpO p q env μ Q = p env μ fun d => q env μ fun e => srcO μ d fun ns kp => srcA μ e fun xs kp' => Q ⟨zipO ns xs, fun μ' => kp μ' ∧ kp' μ'⟩ := rfl
theorem r_xGet1 {p : DP} {q : DX} {Q : D → Store → Prop} : xGet1 p q env μ Q = p env μ fun d => ∃ n kvs0, d = .loc n ∧ dicAt μ n kvs0 ∧ q env μ fun e μ1 => ∃ kvs, dicAt μ1 n kvs ∧ getK kvs e (.t .non) fun y => Q y μ1 := rfl
theorem r_repP {xs : List T} {k : Int} : repP μ (.t (.tup xs)) (.t (.int k)) Q ↔ (xs ≠ [] ∧ 2 ≤ k ∧ k ≤ 1000 ∧ xs.length ≤ 1000 ∧ Q (.t (.tup (List.replicate k.toNat xs).flatten))) := ⟨fun ⟨_, _, e1, e2, h⟩ => by cases e1; cases e2; exact h, fun h => ⟨_, _, rfl, rfl, h⟩⟩
end
end Gw
/-! Gw, part La: sorted(xs, key=f), f called item by item. -/
/-! Gw, part Lb: sorted(xs, key=f) whole. -/
/-! Gw, part Lc: a lambda with a parameter: made, called; sorted by it. -/
namespace Gw
open PySem PySem.Spec PyProof.Rows L2 RZ
/-- the table before, the heap behind: nothing new, or one code object more -/
def TabStep (H : Hp) (P : Addr) (nm : Nat → Nat → Str) (q : Str) (ps : Array Value) (c : Addr) (H1 : Hp) : Prop :=
  (H1 = H ∧ ∀ F, CodesOk F nm ps → F c = some (LamX.CodeO c q)) ∨ ∃ ps', H c = none ∧ H1 = upd (upd H c (LamX.CodeO c q)) P (.tbl ps') ∧ ∀ F, F c = none → CodesOk F nm ps → CodesOk (upd F c (LamX.CodeO c q)) nm ps'
theorem upd_swap {H : Hp} {a b : Addr} {o u : HO} (h : a ≠ b) : upd (upd H a o) b u = upd (upd H b u) a o := by
  funext x
  unfold upd
  by_cases h1 : x = a
  · rw [h1, if_neg h, if_pos rfl, if_pos rfl]
  · by_cases h2 : x = b
    · rw [h2, if_pos rfl, if_neg h.symm, if_pos rfl]
    · simp only [if_neg h1, if_neg h2]
theorem codes_more {F : Hp} {nm : Nat → Nat → Str} {q : Str} {ps : Array Value} {c : Addr} {pos : Pos} (hn : nm pos.line pos.col = q) (n : F c = none) (h : CodesOk F nm ps) : CodesOk (upd F c (LamX.CodeO c q)) nm (ps ++ #[rawInt pos.line, rawInt pos.col, .ref c]) := by
  have eL : (ps ++ #[rawInt pos.line, rawInt pos.col, .ref c]).toList = ps.toList ++ [rawInt pos.line, rawInt pos.col, .ref c] := by simp
  refine ⟨by rw [eL]; exact PySem.TriplesOk_snoc _ _ _ _ h.1, fun p' cv hcv => ?_⟩
  rw [eL] at hcv
  rcases NdefX.among_app2 _ h.1 hcv with z | ⟨z, z1, z2⟩
  · obtain ⟨d, e1, e2⟩ := h.2 p' cv z
    refine ⟨d, e1, ?_⟩
    rw [upd_ne fun hd => by rw [hd, n] at e2; cases e2]
    exact e2
  · refine ⟨c, z, ?_⟩
    rw [← z1, ← z2, hn]
    exact upd_same
/-! ### the lambda called -/
theorem Room.in1 {k : Nat} {A : Around} (r : Room (k + 1) A) : Room k A.in1 := ⟨r.ro.in1, r.gd⟩
/-! ### the table of a def in the store -/
section
variable {K : PySem.W.Frag} {G B H : Hp} {ρ0 ρ : List Addr} {env : DEnv} {μ : Store} {σ : L2.St} {d : He.Defn} {nm : Nat → Nat → Str} {q : Str} {i : Nat}
theorem SR.table (s : SR K G B ρ0 env μ ρ σ H) (hi : μ[i]? = some (.tab d nm)) : ∃ ps, ρ[i]? = some (He.cT K d).2 ∧ H (He.cT K d).2 = some (.tbl ps) ∧ CodesOk (frz B H ρ) nm ps := by
  have hl : i < ρ.length := by
    rw [← s.sh.len]
    exact (List.getElem?_eq_some_iff.mp hi).1
  obtain ⟨e, ps, h1, h2⟩ := s.sh.sto i _ _ hi (List.getElem?_eq_getElem hl)
  exact ⟨ps, by rw [List.getElem?_eq_getElem hl, e], by rw [← e]; exact h1, h2⟩
theorem SR.tabled {ps : Array Value} {c : Addr} {H1 : Hp} (s : SR K G B ρ0 env μ ρ σ H) (hi : μ[i]? = some (.tab d nm)) (hP : ρ[i]? = some (He.cT K d).2) (ok : CodesOk (frz B H ρ) nm ps) (t : TabStep H (He.cT K d).2 nm q ps c H1) (hc : H1 c = some (LamX.CodeO c q)) : SR K G B ρ0 env μ ρ σ H1 ∧ Same (frz B H ρ) (frz B H1 ρ) ∧ frz B H1 ρ c = some (LamX.CodeO c q) := by
  rcases t with ⟨rfl, at_⟩ | ⟨ps', nc, rfl, more⟩
  · exact ⟨s, Same.refl _, at_ _ ok⟩
  · have n := s.sh.new (o := LamX.CodeO c q) nc
    have s1 := s.mono n.1
    have sm := frz_mono (B := B) (ρ := ρ) n.1
    have ok2 : CodesOk (frz B (L2.upd H c (LamX.CodeO c q)) ρ) nm ps' := (more _ (by cases e : frz B H ρ c with | none => rfl | some o => have := frz_le _ _ _ _ _ e; rw [nc] at this; cases this) ok).mono fun b o e => by
      by_cases hb : b = c
      · rw [hb, upd_same] at e
        rw [hb, n.2]
        exact e
      · rw [upd_ne hb] at e
        exact sm b o e
    have s2 := s1.upd (o := .tbl ps') hP (m := .tab d nm) ⟨rfl, ps', upd_same, ok2⟩
    have eμ : μ.set i (.tab d nm) = μ := List.ext_getElem? fun j => by
      by_cases hj : i = j
      · subst hj
        rw [List.getElem?_set_self (List.getElem?_eq_some_iff.mp hi).1, hi]
      · rw [List.getElem?_set_ne hj]
    rw [eμ] at s2
    refine ⟨s2, ?_⟩
    rw [frz_upd (List.mem_of_getElem? hP)]
    exact ⟨sm, n.2⟩
end
end Gw
/-! GwWo: the statement that makes a worker (own work). -/
namespace Gw
open PySem PySem.Spec PyProof.Rows L2
open NdefX (NF FnO CellsAt)
/-- the names that a scope captures, in the order of a function's cells -/
def freeK : List (Str × NameKind) → List Str → List Str
  | [], acc => acc
  | (n, k) :: r, acc => if k == .free then freeK r (n :: acc) else freeK r acc
theorem freeK_eq (cells : List (Str × Addr)) : ∀ (names : List (Str × NameKind)) (acc : List (Str × Addr)), (cloFrom cells names acc).map (·.1) = freeK names (acc.map (·.1))
  | [], _ => rfl
  | (n, k) :: r, acc => by
    unfold cloFrom freeK
    split
    · exact freeK_eq cells r ((n, (cells.lookup n).getD 0) :: acc)
    · exact freeK_eq cells r acc
theorem clo_nd {X : Cx} {scope : Scope} (ok : X.Ok) (hfree : ∀ y ∈ scope.names, y.2 = .free → ∃ c, X.env.cells.lookup y.1 = some c) (nd : (freeK scope.names []).Nodup) :
    ((cloFrom X.env.cells scope.names []).map (·.1)).Nodup ∧ ((cloFrom X.env.cells scope.names []).map (·.2)).Nodup := by
  have n1 : ((cloFrom X.env.cells scope.names []).map (·.1)).Nodup := by
    rw [freeK_eq]
    exact nd
  refine ⟨n1, ?_⟩
  have at_ : ∀ p ∈ cloFrom X.env.cells scope.names [], X.env.cells.lookup p.1 = some p.2 := fun p hp => by
    rcases cloFrom_mem (n := p.1) (c := p.2) hp with z | ⟨z, e⟩
    · cases z
    · obtain ⟨c, hc⟩ := hfree _ z rfl
      rw [hc] at e ⊢
      rw [e]
      rfl
  generalize cloFrom X.env.cells scope.names [] = l at n1 at_
  induction l with
  | nil => exact List.nodup_nil
  | cons p l ih =>
    rw [List.map_cons, List.nodup_cons] at n1 ⊢
    refine ⟨fun z => ?_, ih n1.2 fun q hq => at_ q (List.mem_cons_of_mem _ hq)⟩
    obtain ⟨q, hq, e⟩ := List.mem_map.mp z
    have a1 := at_ p List.mem_cons_self
    have a2 := at_ q (List.mem_cons_of_mem _ hq)
    rw [← e] at a1
    exact n1.1 (List.mem_map.mpr ⟨q, hq, (ok.inj _ _ _ a2 a1)⟩)
section
variable {X : Cx} {pins : List (Addr × Obj)} {σ : L2.St} {H : Hp} {s : Shared}
theorem def_new {nm : Nat → Nat → Str} {name q : Str} {c P : Addr} {ps : Array Value} {params : Arguments} {body : List Stmt} {scope : Scope} {pos : Pos} {E : Value → Shared → Prop} {Q : Value → Shared → Prop} (I : Inv X pins σ H s) (TB : LamX.TabB X.base X.mg c P) (hcode : X.env.code = .ref c)
    (hn : nm pos.line pos.col = q) (hP : H P = some (.tbl ps)) (ok : CodesOk H nm ps) (hfree : ∀ y ∈ scope.names, y.2 = .free → ∃ c, X.env.cells.lookup y.1 = some c)
    (h : ∀ (f c' : Addr) (H1 : Hp) (s' : Shared), TabStep H P nm q ps c' H1 → H1 c' = some (LamX.CodeO c' q) → H1 f = none → Inv X pins σ (upd H1 f (FnO f ⟨name, q, params, body, scope, cloFrom X.env.cells scope.names [], c'⟩)) s' → Q (.ref f) s') :
    wpAny (model X.prog X.w) X.A (makeFunction name q params (.stmts body) scope X.env [] [] [] pos pos.line) Q E s := by
  have bP := TB.bm.keeps I.bk
  have gP : s.heap.get? P = some { cls := .none, data := .fields ps } := I.hok P _ hP
  have g0 := I.mod.glob.keeps I.bk
  have cd := TB.code.keeps I.bk
  cases hc : codeAmong pos ps.toList with
  | none =>
    refine PySem.W.makeFunction_K (mg := X.mg) (c := c) (P := P) (ps := ps) (closure_ok hfree) I.ok.glob g0 hcode cd gP ok.1 hc TB.gP bP fun c' ctv doc h' tk hx hge hlt ⟨c2, oc, vs, t, e2, hoc, hd, hv⟩ htb => ?_
    cases e2
    have nC := I.hok.fresh hge
    have I1 := LamX.inv_table (t' := tk) (more := #[rawInt pos.line, rawInt pos.col, .ref c']) (h' := h') (q := q) I hP (fun b o hb e => hx b o hb e) htb hge ⟨oc, vs, t, hoc, hd, hv⟩
    exact h _ c' _ _ (.inr ⟨_, nC, (upd_swap (ne_of_none hP nC).symm).symm, fun F n k => codes_more hn n k⟩) upd_same (I1.hok.fresh (Nat.le_refl _))
      (NdefX.inv_fn (F := ⟨name, q, params, body, scope, cloFrom X.env.cells scope.names [], c'⟩) (t' := tk) (doc := doc) (pm := (X.mg "__name__").getD .none) (ctv := ctv) I1 rfl)
  | some cv =>
    obtain ⟨c', rfl, hco⟩ := ok.2 pos cv hc
    rw [hn] at hco
    refine PySem.W.makeFunction_hit (mg := X.mg) (c := c) (P := P) (ps := ps) (closure_ok hfree) I.ok.glob g0 hcode cd gP ok.1 hc bP fun ctv doc h' tk hx hsz => ?_
    have I1 : Inv X pins σ H { s with heap := h', toks := tk } := I.kept hx
    exact h _ c' _ _ (.inl ⟨rfl, fun F k => by
      obtain ⟨c2, e, z⟩ := k.2 pos _ hc
      cases e
      rw [hn] at z
      exact z⟩) hco (I1.hok.fresh (Nat.le_refl _))
      (NdefX.inv_fn (F := ⟨name, q, params, body, scope, cloFrom X.env.cells scope.names [], c'⟩) (t' := tk) (doc := doc) (pm := (X.mg "__name__").getD .none) (ctv := ctv) I1 rfl)
end
/-- def g(..): .., a worker: the slot i holds it; its code object comes out of the table of the def that makes it -/
def sNdef (d : He.Defn) (nm : Nat → Nat → Str) (i : Nat) (W : Addr → NF) : DS := fun env μ P => (∃ j : Nat, μ[j]? = some (.tab d nm)) ∧ ∀ c, P.nx (env.set i (some (.loc μ.length))) (μ ++ [.fn (W c) none])
section
variable {X : Cx} {d : He.Defn} {name q : Str} {params : Arguments} {body : List Stmt} {scope : Scope} {pos : Pos} {i : Nat}
theorem sx_ndef {nm : Nat → Nat → Str} (hn : nm pos.line pos.col = q) (TB : LamX.TabB X.base X.mg (He.cT X.K d).1 (He.cT X.K d).2) (hcode : X.env.code = .ref (He.cT X.K d).1) (hqn : X.env.qual ++ name = q) (nd : (freeK scope.names []).Nodup)
    (hfree : ∀ y ∈ scope.names, y.2 = .free → X.env.scope.names.lookup y.1 = some .cell ∨ X.env.scope.names.lookup y.1 = some .free) (hd0 : params.defaults = []) (hk0 : params.kw_defaults = []) (ha : annTrees params none X.env = [])
    (hN : X.N.Nodup) (hi : X.N[i]? = some name) (hx : Loc X.env.scope name) (hf : X.fn name = true ∨ X.env.scope.names.lookup name = some .local) :
    SX X (.FunctionDef name params body [] none [] scope none name pos) (sNdef d nm i fun c => ⟨name, q, params, body, scope, cloFrom X.env.cells scope.names [], c⟩) := by
  refine ⟨fun pins s σ H En I ⟨G, B, ρ0, env, μ, ρ, P, sr, ⟨⟨j, hj⟩, h⟩, fin⟩ => ?_⟩
  have hqu : qualnameIn X.env name name = q := by
    rw [← hqn]
    have hk : X.env.kindOf name = some .local ∨ X.env.kindOf name = some .cell := hx
    unfold qualnameIn
    rcases hk with k | k
    · rw [k]
      exact if_neg (by decide)
    · rw [k]
      exact if_neg (by decide)
  refine PySem.W.nestDef_K hd0 hk0 ha ?_
  rw [hqu]
  have hfr : ∀ y ∈ scope.names, y.2 = .free → ∃ c, X.env.cells.lookup y.1 = some c := fun y hy e => (hfree y hy e).elim (fun z => I.ok.has _ (.inl z)) fun z => I.ok.has _ (.inr z)
  obtain ⟨ps, hP, hT, ok⟩ := sr.table hj
  refine def_new I TB hcode hn hT (ok.mono (frz_le _ _ _)) hfr fun f c' H1 s' st hc f0 I1 => ?_
  obtain ⟨s3, e3, c3⟩ := sr.tabled hj hP ok st hc
  have sm := same_new (o := FnO f ⟨name, q, params, body, scope, cloFrom X.env.cells scope.names [], c'⟩) f0
  obtain ⟨c1, c2, c4, c5⟩ := claim s3 sm f0 (m := .fn ⟨name, q, params, body, scope, cloFrom X.env.cells scope.names [], c'⟩ none)
    ⟨upd_same, frz_app (B := B) (ρ := ρ) sm f0 _ _ c3, clo_nd I.ok hfr nd, fun _ z => nomatch z⟩
  refine store_ok I1 hN hi hx (v := .ref f) rfl (fun s'' J => ⟨_, _, J, ?_⟩) hf
  refine fin.nx _ _ _ _ _ (h c') ?_ c2 (e3.trans c4)
  refine ⟨c1.sh, by rw [List.length_set, List.length_set]; exact c1.slen, fun k d hk => ?_⟩
  by_cases hki : k = i
  · subst hki
    have hl : k < env.length := by
      have := (List.getElem?_eq_some_iff.mp hk).1
      rw [List.length_set] at this
      exact this
    rw [List.getElem?_set_self hl] at hk
    have e : D.loc μ.length = d := Option.some.inj (Option.some.inj hk)
    subst e
    exact ⟨.ref f, by rw [List.getElem?_set_self (by rw [c1.slen]; exact hl)], c5⟩
  · rw [List.getElem?_set_ne (fun e => hki e.symm)] at hk
    obtain ⟨v, h1, h2⟩ := c1.slot k d hk
    exact ⟨v, by rw [List.getElem?_set_ne (fun e => hki e.symm)]; exact h1, h2⟩
end
end Gw
/-! GwWp: defs that make workers (their body knows where the frame lies), defs that call themselves with effects (own work). -/
namespace Gw
open PySem PySem.Spec PyProof.Rows L2
/-- a def by its body, for wherever its frame lies -/
def bodyGL (m n : Nat) (b : Addr → DS) : DFn := fun ds μ Q => ds.length = m ∧ ∀ L, b L (startE n ds) μ ⟨fun _ μ' => Gc μ Q (.t .non) μ', Gc μ Q, fun _ _ => False, fun _ _ => False, fun _ _ _ => False⟩
section
variable {P : Program} {w : World} {K : PySem.W.Frag} {mg : Str → Option Value} {base : Heap}
/-- nothing is promised -/
def noC : DFn := fun _ _ _ => False
theorem fn_none {k : Nat} {f : Addr} {fd : FuncData} {ps : List Str} : FnOk P w K mg base CX0 k f fd ps (spG K noC) :=
  ⟨fun vs H Q E ⟨_, _, _, _, _, _, _, _, _, h, _⟩ => h.elim, fun B out t G ag uu xs R Z _ _ _ _ ⟨_, _, _, _, _, _, _, _, _, h, _⟩ => h.elim⟩
end
end Gw
/-! GwWr: range with a step (own work). -/
namespace Gw
open PySem PySem.Spec PyProof.Rows L2
def iR3 (p q r : DP) : DI := fun env μ Q => p env μ fun d => q env μ fun d' => r env μ fun d'' => ∃ (i j c : Int) (n : Nat), d = .t (.int i) ∧ d' = .t (.int j) ∧ d'' = .t (.int c) ∧ RgC i j c n ∧ Q ⟨(List.range n).map fun (k : Nat) => D.t (.int (i + (k : Int) * c)), fun _ => True⟩
theorem ix_range3 {X : Cx} {tg a b c : Expr} {p q r : DP} {p0 pos : Pos} (hg : Gl X "range") (hm : X.mg "range" = none) (h : EX X a p) (h' : EX X b q) (h'' : EX X c r)
    (n1 : starEach [a, b, c] X.env = (false, eval a X.env) :: starEach [b, c] X.env := by rfl) (n2 : starEach [b, c] X.env = (false, eval b X.env) :: starEach [c] X.env := by rfl) (n3 : starEach [c] X.env = (false, eval c X.env) :: starEach [] X.env := by rfl)
    (hpl : (backTo pos (starEach [b, c] X.env)).any (·.1) = false := by rfl) : IX X tg (.Call (.Name "range" p0) [a, b, c] [] pos) (iR3 p q r) :=
  PI.imp (pi_range3 hg hm (ax_cons h (ax_cons h' (ax_cons h'' ax_nil n3) n2) n1) n1 hpl) fun σ H R ⟨G, B, ρ0, env, μ, ρ, Q, s, q1, k⟩ => by
    refine ⟨G, B, ρ0, env, μ, ρ, fun ds => three ds fun d d' d'' => ∃ (i j c : Int) (n : Nat), d = .t (.int i) ∧ d' = .t (.int j) ∧ d'' = .t (.int c) ∧ RgC i j c n ∧ Q ⟨(List.range n).map fun (k : Nat) => D.t (.int (i + (k : Int) * c)), fun _ => True⟩, s, ?_, fun ds vs H1 q0 e1 r => ?_⟩
    · exact q1
    · obtain ⟨d, d', d'', rfl, i, j, c, n, rfl, rfl, rfl, hb, q2⟩ := three_of q0
      cases r with
      | cons r rr =>
        cases rr with
        | cons r' rr =>
          cases rr with
          | cons r'' rr =>
            cases rr
            exact ⟨i, j, c, n, by rw [show _ = V.int i from r, show _ = V.int j from r', show _ = V.int c from r''], hb, k _ _ H1 q2 e1 trivial (wk_rangeC i c n)⟩
end Gw
/-! GwNf: rows and plain laws for dicts of nested keys, workers, range with a step (own work). -/
namespace Gw
open PySem PySem.Spec PyProof.Rows L2
section
variable {w : World} {env : DEnv} {μ : Store} {n : Nat} {x : T}
theorem r_kIxW {Q : D → Prop} : kIxW w μ (.loc n) (.t x) Q = (isN x = true ∧ ∃ kvs y, μ[n]? = some (kdM w kvs) ∧ valN kvs (keyN x) = some y ∧ Q y) := rfl
theorem r_kInW {f : Bool → Bool} {Q : D → Prop} : kInW w f μ (.t x) (.loc n) Q = (isN x = true ∧ ∃ kvs, μ[n]? = some (kdM w kvs) ∧ Q (.t (.bl (f (valN kvs (keyN x)).isSome)))) := rfl
theorem r_kSetW {y : D} {Q : Store → Prop} : kSetW w μ (.loc n) (.t x) y Q = (isN x = true ∧ ∃ kvs, μ[n]? = some (kdM w kvs) ∧ kvs.length < sizeLine ∧ Q (μ.set n (kdM w (putN kvs x y)))) := rfl
theorem r_xKd {Q : D → Store → Prop} : xKd w env μ Q = pushK μ (kdM w []) Q := rfl
theorem r_sKSet {v : DX} {o i : DP} {nx bk ct : DEnv → Store → Prop} {xc : XD → DEnv → Store → Prop} {rt : D → Store → Prop} : sKSet w v o i env μ ⟨nx, rt, bk, ct, xc⟩ = v env μ fun x μ' => o env μ' fun d => i env μ' fun e => kSetW w μ' d e x fun μ2 => nx env μ2 := rfl
end
theorem valN_nil (k : NestedKey) : valN [] k = none := rfl
theorem valN_pos {p : T × D} {kvs : List (T × D)} {k : NestedKey} (e : keyN p.1 = k) : valN (p :: kvs) k = some p.2 := by
  unfold valN
  rw [List.find?_cons_of_pos (by exact decide_eq_true e)]
  rfl
theorem valN_neg {p : T × D} {kvs : List (T × D)} {k : NestedKey} (e : ¬ keyN p.1 = k) : valN (p :: kvs) k = valN kvs k := by
  unfold valN
  rw [List.find?_cons_of_neg (by simpa using e)]
theorem valN_repl (j k : NestedKey) (d : D) : ∀ kvs : List (T × D), valN (kvs.map fun p => if keyN p.1 = j then (p.1, d) else p) k = if j = k then (valN kvs k).map fun _ => d else valN kvs k
  | [] => by
    rw [List.map_nil, valN_nil]
    split <;> rfl
  | p :: kvs => by
    have ih := valN_repl j k d kvs
    rw [List.map_cons]
    by_cases e : keyN p.1 = j
    · rw [if_pos e]
      by_cases e2 : keyN p.1 = k
      · rw [valN_pos (p := (p.1, d)) e2, valN_pos e2, if_pos (e.symm.trans e2)]
        rfl
      · rw [valN_neg (p := (p.1, d)) e2, valN_neg e2, ih]
    · rw [if_neg e]
      by_cases e2 : keyN p.1 = k
      · rw [valN_pos e2, valN_pos e2, if_neg fun z => e (e2.trans z.symm)]
      · rw [valN_neg e2, valN_neg e2, ih]
theorem valN_snoc (x : T) (d : D) (k : NestedKey) : ∀ kvs : List (T × D), valN (kvs ++ [(x, d)]) k = match valN kvs k with | some y => some y | none => if keyN x = k then some d else none
  | [] => by
    by_cases e : keyN x = k
    · rw [List.nil_append, valN_pos (p := (x, d)) e, valN_nil]
      exact (if_pos e).symm
    · rw [List.nil_append, valN_neg (p := (x, d)) e, valN_nil]
      exact (if_neg e).symm
  | p :: kvs => by
    rw [List.cons_append]
    by_cases e : keyN p.1 = k
    · rw [valN_pos e, valN_pos e]
    · rw [valN_neg e, valN_neg e, valN_snoc x d k kvs]
/-- what a dict holds behind d[x] = v -/
theorem valN_put (kvs : List (T × D)) (x : T) (d : D) (k : NestedKey) : valN (putN kvs x d) k = if keyN x = k then some d else valN kvs k := by
  unfold putN
  by_cases h : (valN kvs (keyN x)).isSome = true
  · rw [if_pos h, valN_repl]
    by_cases e : keyN x = k
    · rw [if_pos e, if_pos e, ← e]
      obtain ⟨y, hy⟩ := Option.isSome_iff_exists.mp h
      rw [hy]
      rfl
    · rw [if_neg e, if_neg e]
  · rw [if_neg h, valN_snoc]
    have hn : valN kvs (keyN x) = none := by
      cases e : valN kvs (keyN x) with
      | none => rfl
      | some y => rw [e] at h; exact absurd rfl h
    by_cases e : keyN x = k
    · rw [← e, hn]
    · rw [if_neg e, if_neg e]
      cases valN kvs k <;> rfl
theorem putN_len (kvs : List (T × D)) (x : T) (d : D) : (putN kvs x d).length ≤ kvs.length + 1 := by
  unfold putN
  split
  · rw [List.length_map]
    omega
  · rw [List.length_append]
    exact Nat.le_refl _
end Gw
/-! TbB: goals and tests as the program has them (own work). -/
namespace Gw
open PySem PySem.Spec PyProof.Rows L2 RZ
/-! ### plain trees -/
/-- no list, no bool in it; at most so deep -/
def plN : Nat → T → Bool
  | _, .non => true
  | _, .int _ => true
  | _, .str s => (pd (.str s)).canLay0
  | n + 1, .tup xs => xs.all (plN n)
  | _, _ => false
theorem plN_tup {n : Nat} {xs : List T} : plN (n + 1) (.tup xs) = xs.all (plN n) := rfl
theorem plN_int {n : Nat} {i : Int} : plN n (.int i) = true := by cases n <;> rfl
theorem plN_non {n : Nat} : plN n .non = true := by cases n <;> rfl
theorem plN_up {n : Nat} : ∀ {x : T}, plN n x = true → plN (n + 1) x = true := by
  induction n with
  | zero => intro x h; cases x <;> first | rfl | exact h | cases h
  | succ n ih =>
    intro x h
    cases x <;> first | rfl | exact h | (cases h; done) | skip
    rename_i xs
    rw [plN_tup, List.all_eq_true] at h ⊢
    exact fun y hy => ih (h y hy)
theorem plN_le {n m : Nat} {x : T} (h : plN n x = true) (le : n ≤ m) : plN m x = true := by
  induction le with
  | refl => exact h
  | step _ ih => exact plN_up ih
theorem keysN_map : ∀ xs : List T, keyN.keysN xs = xs.map keyN
  | [] => rfl
  | x :: xs => by
    show keyN x :: keyN.keysN xs = _
    rw [keysN_map xs]
    rfl
theorem plNs_key {n : Nat} (ih : ∀ {a b : T}, plN n a = true → plN n b = true → keyN a = keyN b → a = b) : ∀ {xs ys : List T}, (∀ x ∈ xs, plN n x = true) → (∀ y ∈ ys, plN n y = true) → xs.map keyN = ys.map keyN → xs = ys
  | [], [], _, _, _ => rfl
  | x :: xs, y :: ys, h1, h2, e => by
    rw [List.map_cons, List.map_cons, List.cons.injEq] at e
    rw [ih (h1 x List.mem_cons_self) (h2 y List.mem_cons_self) e.1, plNs_key ih (fun z hz => h1 z (List.mem_cons_of_mem _ hz)) (fun z hz => h2 z (List.mem_cons_of_mem _ hz)) e.2]
theorem plN_key : ∀ {n : Nat} {a b : T}, plN n a = true → plN n b = true → keyN a = keyN b → a = b := by
  intro n
  induction n with
  | zero =>
    intro a b h1 h2 e
    cases a <;> (first | (cases h1; done) | skip) <;> cases b <;> (first | (cases h2; done) | skip) <;> first | rfl | (cases e; done) | skip
    · exact congrArg T.int (NestedKey.num.inj e)
    · exact congrArg T.str (NestedKey.text.inj e)
  | succ n ih =>
    intro a b h1 h2 e
    cases a <;> (first | (cases h1; done) | skip) <;> cases b <;> (first | (cases h2; done) | skip) <;> first | rfl | (cases e; done) | skip
    · exact congrArg T.int (NestedKey.num.inj e)
    · exact congrArg T.str (NestedKey.text.inj e)
    · rename_i xs ys
      rw [plN_tup, List.all_eq_true] at h1 h2
      have e : NestedKey.tup (keyN.keysN xs) = NestedKey.tup (keyN.keysN ys) := e
      have e := NestedKey.tup.inj e
      rw [keysN_map, keysN_map] at e
      rw [plNs_key ih h1 h2 e]
theorem depthAll_le {n : Nat} : ∀ {xs : List T}, (∀ x ∈ xs, (keyN x).depth ≤ n) → NestedKey.depthAll (xs.map keyN) ≤ n
  | [], _ => Nat.zero_le _
  | x :: xs, h => by
    rw [List.map_cons]
    show max _ _ ≤ n
    have a := h x List.mem_cons_self
    have b := depthAll_le fun z hz => h z (List.mem_cons_of_mem _ hz)
    omega
theorem plN_depth : ∀ {n : Nat} {x : T}, plN n x = true → (keyN x).depth ≤ n := by
  intro n
  induction n with
  | zero => intro x h; cases x <;> first | (cases h; done) | exact Nat.zero_le _
  | succ n ih =>
    intro x h
    cases x <;> first | (cases h; done) | exact Nat.zero_le _ | skip
    rename_i xs
    rw [plN_tup, List.all_eq_true] at h
    show NestedKey.depthAll (keyN.keysN xs) + 1 ≤ n + 1
    rw [keysN_map]
    exact Nat.succ_le_succ (depthAll_le fun x hx => ih (h x hx))
theorem oksN_all : ∀ {xs : List T}, (∀ x ∈ xs, okN x = true) → okN.oksN xs = true
  | [], _ => rfl
  | x :: xs, h => by
    show (okN x && okN.oksN xs) = true
    rw [h x List.mem_cons_self, oksN_all fun z hz => h z (List.mem_cons_of_mem _ hz)]
    rfl
theorem plN_okN : ∀ {n : Nat} {x : T}, plN n x = true → okN x = true := by
  intro n
  induction n with
  | zero => intro x h; cases x <;> first | (cases h; done) | rfl
  | succ n ih =>
    intro x h
    cases x <;> first | (cases h; done) | rfl | skip
    rename_i xs
    rw [plN_tup, List.all_eq_true] at h
    exact oksN_all fun x hx => ih (h x hx)
theorem plN_isN {n : Nat} (le : n ≤ 8) {xs : List T} (h : plN n (.tup xs) = true) : isN (.tup xs) = true := by
  show (okN (.tup xs) && decide ((keyN (.tup xs)).depth ≤ 8)) = true
  rw [plN_okN h, decide_eq_true (Nat.le_trans (plN_depth h) le)]
  rfl
theorem plN_lay : ∀ {n : Nat} {x : T}, plN n x = true → (pd x).canLay0 = true ∧ (pd x).depth ≤ n := by
  intro n
  induction n with
  | zero => intro x h; cases x <;> first | (cases h; done) | exact ⟨rfl, Nat.le_refl _⟩ | exact ⟨h, Nat.le_refl _⟩
  | succ n ih =>
    intro x h
    cases x <;> first | (cases h; done) | exact ⟨rfl, Nat.zero_le _⟩ | exact ⟨h, Nat.zero_le _⟩ | skip
    rename_i xs
    rw [plN_tup, List.all_eq_true] at h
    have all : ∀ {xs : List T}, (∀ x ∈ xs, plN n x = true) → PyData.canLayAll0 (pds xs) = true ∧ PyData.depthAll (pds xs) ≤ n := by
      intro xs
      induction xs with
      | nil => exact fun _ => ⟨rfl, Nat.zero_le _⟩
      | cons x xs ihx =>
        intro h
        obtain ⟨a1, a2⟩ := ih (h x List.mem_cons_self)
        obtain ⟨b1, b2⟩ := ihx fun z hz => h z (List.mem_cons_of_mem _ hz)
        constructor
        · show (PyData.canLay0 (pd x) && PyData.canLayAll0 (pds xs)) = true
          rw [a1, b1]; rfl
        · show max _ _ ≤ n
          omega
    obtain ⟨a, b⟩ := all h
    exact ⟨a, Nat.succ_le_succ b⟩
theorem plN_okT {n : Nat} {x : T} (h : plN n x = true) (le : n ≤ 64) : okT x = true := by
  obtain ⟨a, b⟩ := plN_lay h
  show (_ && decide _) = true
  rw [a, decide_eq_true (Nat.le_trans b le)]
  rfl
theorem eqvAll_iff {n : Nat} (ih : ∀ {a b : T}, plN n a = true → plN n b = true → (eqT a b = true ↔ a = b)) : ∀ {xs ys : List T}, (∀ x ∈ xs, plN n x = true) → (∀ y ∈ ys, plN n y = true) → (PyData.eqvAll (pds xs) (pds ys) = true ↔ xs = ys)
  | [], [], _, _ => ⟨fun _ => rfl, fun _ => rfl⟩
  | [], _ :: _, _, _ => ⟨fun h => (by cases h), fun h => (by cases h)⟩
  | _ :: _, [], _, _ => ⟨fun h => (by cases h), fun h => (by cases h)⟩
  | x :: xs, y :: ys, h1, h2 => by
    show (PyData.eqv (pd x) (pd y) && PyData.eqvAll (pds xs) (pds ys)) = true ↔ _
    rw [Bool.and_eq_true]
    have a := ih (h1 x List.mem_cons_self) (h2 y List.mem_cons_self)
    have b := eqvAll_iff ih (fun z hz => h1 z (List.mem_cons_of_mem _ hz)) (fun z hz => h2 z (List.mem_cons_of_mem _ hz))
    unfold eqT at a
    rw [a, b, List.cons.injEq]
theorem eqT_ii (i j : Int) : eqT (.int i) (.int j) = true ↔ T.int i = T.int j := by
  show (i == j) = true ↔ _
  rw [beq_iff_eq, T.int.injEq]
theorem eqT_ss (i j : Str) : eqT (.str i) (.str j) = true ↔ T.str i = T.str j := by
  show (i == j) = true ↔ _
  rw [beq_iff_eq, T.str.injEq]
theorem plN_eq : ∀ {n : Nat} {a b : T}, plN n a = true → plN n b = true → (eqT a b = true ↔ a = b) := by
  intro n
  induction n with
  | zero =>
    intro a b h1 h2
    cases a <;> (first | (cases h1; done) | skip) <;> cases b <;> (first | (cases h2; done) | skip) <;> first | exact eqT_ii _ _ | exact eqT_ss _ _ | exact ⟨fun _ => rfl, fun _ => rfl⟩ | exact ⟨fun z => (by cases z), fun z => (by cases z)⟩
  | succ n ih =>
    intro a b h1 h2
    cases a <;> (first | (cases h1; done) | skip) <;> cases b <;> (first | (cases h2; done) | skip) <;> first | exact eqT_ii _ _ | exact eqT_ss _ _ | exact ⟨fun _ => rfl, fun _ => rfl⟩ | exact ⟨fun z => (by cases z), fun z => (by cases z)⟩ | skip
    rename_i xs ys
    rw [plN_tup, List.all_eq_true] at h1 h2
    rw [T.tup.injEq]
    exact eqvAll_iff ih h1 h2
/-! ### goals -/
noncomputable def pos : List Go → Go → Nat
  | [], _ => 0
  | u :: r, t => if u = t then 0 else pos r t + 1
theorem pos_get : ∀ {ts : List Go} {t : Go}, t ∈ ts → ts[pos ts t]? = some t
  | u :: r, t, h => by
    unfold pos
    by_cases e : u = t
    · rw [if_pos e, e]
      rfl
    · rw [if_neg e]
      rcases List.mem_cons.mp h with h | h
      · exact (e h.symm).elim
      · exact pos_get h
theorem pos_app : ∀ {ts : List Go} {t : Go} (us : List Go), t ∈ ts → pos (ts ++ us) t = pos ts t
  | u :: r, t, us, h => by
    rw [List.cons_append]
    unfold pos
    by_cases e : u = t
    · rw [if_pos e, if_pos e]
    · rw [if_neg e, if_neg e]
      rcases List.mem_cons.mp h with h | h
      · exact (e h.symm).elim
      · rw [pos_app us h]
theorem pos_inj {ts : List Go} {t u : Go} (h1 : t ∈ ts) (h2 : u ∈ ts) (e : pos ts t = pos ts u) : t = u := by
  have a := pos_get h1
  have b := pos_get h2
  rw [e, b] at a
  exact (Option.some.inj a).symm
noncomputable def encG (ts : List Go) : Go → T
  | .leaf u => .tup [.str "leaf", u]
  | .test f ws => .tup [.str "test", .int (pos ts (.test f ws))]
noncomputable def encW (ts : List Go) (w : Wy) : T := .tup [.int w.1, encG ts w.2]
noncomputable def encT (ts : List Go) : Go → T
  | .leaf _ => .non
  | .test f ws => .tup [.int f, .tup (ws.map (encW ts))]
theorem encG_test (ts : List Go) (f : Nat) (ws : List Wy) : encG ts (.test f ws) = .tup [.str "test", .int (pos ts (.test f ws))] := rfl
theorem encT_test (ts : List Go) (f : Nat) (ws : List Wy) : encT ts (.test f ws) = .tup [.int f, .tup (ws.map (encW ts))] := rfl
/-- a goal all of whose tests are there -/
def InG (d : Nat) (ts : List Go) : Go → Prop
  | .leaf u => plN d u = true
  | .test f ws => Go.test f ws ∈ ts
/-- a test whose goals are there -/
def InT (d : Nat) (ts : List Go) (t : Go) : Prop := ∃ f ws, t = .test f ws ∧ (∀ w ∈ ws, InG d ts w.2) ∧ ws.length ≤ 1000000
def Cl (d : Nat) (ts : List Go) : Prop := ts.Nodup ∧ ∀ t ∈ ts, InT d ts t
section
variable {d : Nat} {ts us : List Go}
theorem InG.app {g : Go} (us : List Go) (h : InG d ts g) : InG d (ts ++ us) g := by
  cases g with
  | leaf u => exact h
  | test f ws => exact List.mem_append_left _ h
theorem InT.app {g : Go} (us : List Go) (h : InT d ts g) : InT d (ts ++ us) g := by
  obtain ⟨f, ws, e, h, hz⟩ := h
  exact ⟨f, ws, e, fun w hw => (h w hw).app us, hz⟩
theorem Cl.snoc (c : Cl d ts) {t : Go} (h : InT d ts t) (n : t ∉ ts) : Cl d (ts ++ [t]) :=
  ⟨List.nodup_append.mpr ⟨c.1, by simp, fun a ha b hb => fun e => n (by rw [List.mem_singleton.mp hb] at e; rw [← e]; exact ha)⟩, fun u hu => by
    rcases List.mem_append.mp hu with hu | hu
    · exact (c.2 u hu).app _
    · rw [List.mem_singleton.mp hu]
      exact h.app _⟩
theorem cl_nil : Cl d [] := ⟨List.nodup_nil, fun _ h => nomatch h⟩
theorem encG_app {g : Go} (h : InG d ts g) : encG (ts ++ us) g = encG ts g := by
  cases g with
  | leaf u => rfl
  | test f ws =>
    rw [encG_test, encG_test, pos_app us h]
theorem encW_app {w : Wy} (h : InG d ts w.2) : encW (ts ++ us) w = encW ts w := by
  unfold encW
  rw [encG_app h]
theorem encT_app {t : Go} (h : InT d ts t) : encT (ts ++ us) t = encT ts t := by
  obtain ⟨f, ws, rfl, h, hz⟩ := h
  rw [encT_test, encT_test, List.map_congr_left fun w hw => encW_app (us := us) (h w hw)]
theorem encG_pl {g : Go} (h : InG d ts g) : plN (d + 1) (encG ts g) = true := by
  cases g with
  | leaf u =>
    show ([T.str "leaf", u].all (plN d)) = true
    rw [List.all_cons, List.all_cons, List.all_nil]
    have e : plN d (.str "leaf") = true := by
      have z : (pd (.str "leaf")).canLay0 = true := by decide +kernel
      cases d <;> exact z
    have h : plN d u = true := h
    rw [e, h]
    rfl
  | test f ws =>
    show ([T.str "test", .int _].all (plN d)) = true
    rw [List.all_cons, List.all_cons, List.all_nil]
    have e : plN d (.str "test") = true := by
      have z : (pd (.str "test")).canLay0 = true := by decide +kernel
      cases d <;> exact z
    rw [e, plN_int]
    rfl
theorem encW_pl {w : Wy} (h : InG d ts w.2) : plN (d + 2) (encW ts w) = true := by
  show ([T.int w.1, encG ts w.2].all (plN (d + 1))) = true
  rw [List.all_cons, List.all_cons, List.all_nil, plN_int, encG_pl h]
  rfl
theorem encT_pl {t : Go} (h : InT d ts t) : plN (d + 4) (encT ts t) = true := by
  obtain ⟨f, ws, rfl, h, hz⟩ := h
  show ([T.int f, .tup (ws.map (encW ts))].all (plN (d + 3))) = true
  rw [List.all_cons, List.all_cons, List.all_nil, plN_int, plN_tup]
  have e : (ws.map (encW ts)).all (plN (d + 2)) = true := List.all_eq_true.mpr fun x hx => by
    obtain ⟨w, hw, rfl⟩ := List.mem_map.mp hx
    exact encW_pl (h w hw)
  rw [e]
  rfl
theorem encT_isN (hd : d ≤ 4) {t : Go} (h : InT d ts t) : isN (encT ts t) = true := by
  have p := encT_pl h
  obtain ⟨f, ws, rfl, h, hz⟩ := h
  exact plN_isN (by omega) p
theorem encG_inj {g g' : Go} (h : InG d ts g) (h' : InG d ts g') (e : encG ts g = encG ts g') : g = g' := by
  cases g with
  | leaf u =>
    cases g' with
    | leaf u' =>
      unfold encG at e
      injection e with e
      injection e with _ e
      injection e with e _
      rw [e]
    | test f' ws' =>
      unfold encG at e
      injection e with e
      injection e with e _
      injection e with e
      exact absurd e (by decide)
  | test f ws =>
    cases g' with
    | leaf u' =>
      unfold encG at e
      injection e with e
      injection e with e _
      injection e with e
      exact absurd e (by decide)
    | test f' ws' =>
      unfold encG at e
      injection e with e
      injection e with _ e
      injection e with e _
      injection e with e
      exact pos_inj h h' (by omega)
theorem encW_inj {w w' : Wy} (h : InG d ts w.2) (h' : InG d ts w'.2) (e : encW ts w = encW ts w') : w = w' := by
  unfold encW at e
  injection e with e
  injection e with e1 e
  injection e with e _
  injection e1 with e1
  exact Prod.ext e1 (encG_inj h h' e)
theorem encT_inj {t t' : Go} (h : InT d ts t) (h' : InT d ts t') (e : encT ts t = encT ts t') : t = t' := by
  obtain ⟨f, ws, rfl, h, hz⟩ := h
  obtain ⟨f', ws', rfl, h', hz'⟩ := h'
  clear hz hz'
  unfold encT at e
  injection e with e
  injection e with e1 e
  injection e with e _
  injection e1 with e1
  injection e with e
  obtain rfl : f = f' := by omega
  congr 1
  clear e1
  induction ws generalizing ws' with
  | nil => cases ws' with
    | nil => rfl
    | cons _ _ => cases e
  | cons w ws ih => cases ws' with
    | nil => cases e
    | cons w' ws' =>
      rw [List.map_cons, List.map_cons, List.cons.injEq] at e
      rw [encW_inj (h w List.mem_cons_self) (h' w' List.mem_cons_self) e.1, ih (fun z hz => h z (List.mem_cons_of_mem _ hz)) _ (fun z hz => h' z (List.mem_cons_of_mem _ hz)) e.2]
theorem encT_key {g g' : Go} (h : InT d ts g) (h' : InT d ts g') : keyN (encT ts g) = keyN (encT ts g') ↔ g = g' :=
  ⟨fun e => encT_inj h h' (plN_key (encT_pl h) (encT_pl h') e), fun e => by rw [e]⟩
theorem encG_eq (hd : d ≤ 60) {g g' : Go} (h : InG d ts g) (h' : InG d ts g') : eqT (encG ts g) (encG ts g') = true ↔ g = g' := by
  rw [plN_eq (encG_pl h) (encG_pl h')]
  exact ⟨encG_inj h h', fun e => by rw [e]⟩
end
/-! ### the numbers of the tests -/
noncomputable def numK (ts : List Go) : List (T × D) := ts.zipIdx.map fun z => (encT ts z.1, D.t (.int z.2))
section
variable {d : Nat} {ts : List Go}
theorem num_go {t : Go} (ht : InT d ts t) : ∀ {l : List Go} (k : Nat), (∀ u ∈ l, InT d ts u) → valN ((l.zipIdx k).map fun z => (encT ts z.1, D.t (.int z.2))) (keyN (encT ts t)) = if t ∈ l then some (.t (.int (k + pos l t : Nat))) else none
  | [], k, _ => by simp [valN_nil]
  | u :: l, k, h => by
    rw [List.zipIdx_cons, List.map_cons]
    by_cases e : u = t
    · rw [valN_pos (by rw [e]), if_pos (by rw [e]; exact List.mem_cons_self)]
      unfold pos
      rw [if_pos e]
      rfl
    · have ne : ¬ keyN (encT ts u) = keyN (encT ts t) := fun z => e ((encT_key (h u List.mem_cons_self) ht).mp z)
      rw [valN_neg (by exact ne), num_go ht (k + 1) fun z hz => h z (List.mem_cons_of_mem _ hz)]
      by_cases m : t ∈ l
      · rw [if_pos m, if_pos (List.mem_cons_of_mem _ m)]
        have z : pos (u :: l) t = pos l t + 1 := if_neg e
        rw [z]
        congr 4
        omega
      · rw [if_neg m, if_neg fun z => (List.mem_cons.mp z).elim (fun z => e z.symm) m]
theorem num_val (c : Cl d ts) {t : Go} (ht : InT d ts t) : valN (numK ts) (keyN (encT ts t)) = if t ∈ ts then some (.t (.int (pos ts t))) else none := by
  have := num_go ht 0 c.2
  rw [Nat.zero_add] at this
  exact this
theorem num_snoc (c : Cl d ts) {t : Go} (ht : InT d ts t) (n : t ∉ ts) : putN (numK ts) (encT ts t) (.t (.int ts.length)) = numK (ts ++ [t]) := by
  unfold putN
  rw [num_val c ht, if_neg n, if_neg (by decide)]
  unfold numK
  rw [List.zipIdx_append, List.map_append]
  congr 1
  · refine List.map_congr_left fun z hz => ?_
    have : z.1 ∈ ts := by
      have := List.mem_zipIdx hz
      obtain ⟨_, _, e⟩ := this
      rw [e]
      exact List.getElem_mem _
    rw [encT_app (c.2 _ this)]
  · simp only [List.zipIdx_cons, List.zipIdx_nil, List.map_cons, List.map_nil, Nat.zero_add]
    rw [encT_app ht]
theorem num_len : (numK ts).length = ts.length := by
  unfold numK
  rw [List.length_map, List.length_zipIdx]
/-- the tests behind a new one -/
theorem enc_snoc (c : Cl d ts) {t : Go} (ht : InT d ts t) : (ts ++ [t]).map (encT (ts ++ [t])) = ts.map (encT ts) ++ [encT ts t] := by
  rw [List.map_append, List.map_cons, List.map_nil, encT_app ht]
  congr 1
  exact List.map_congr_left fun u hu => encT_app (c.2 u hu)
end
end Gw
/-! TbC: the goals that made comes to; the tests as they are come to (own work). -/
namespace Gw
open PySem PySem.Spec PyProof.Rows L2 RZ
abbrev setT (ps : List Pr) : T := .tup (ps.map eP)
def BeginsOf (most : Int) (sets : List (List Pr)) (ms : List Int) : Prop := Up ms ∧ ∀ k, k ∈ ms ↔ k ≤ most ∧ (k = 0 ∨ ∃ s ∈ sets, ∃ p ∈ s, k = p.1 ∨ k = p.2 + 1)
def partsF (most : Int) (ms : List Int) : List Pr := (pieces most ms).map fun p => (p.1, p.2 - 1)
def bordersF (most : Int) (sets : List (List Pr)) : List Int := sdI ((0 :: sets.flatMap fun s => s.flatMap fun p => [p.1, p.2 + 1]).filter fun k => decide (k ≤ most))
theorem borders_ok (most : Int) (sets : List (List Pr)) : BeginsOf most sets (bordersF most sets) := by
  refine ⟨sdI_up _, fun k => ?_⟩
  unfold bordersF
  rw [sdI_mem, List.mem_filter, List.mem_cons, List.mem_flatMap]
  simp only [List.mem_flatMap, decide_eq_true_eq, List.mem_cons, List.not_mem_nil, or_false]
  exact and_comm
def partsOf (most : Int) (sets : List (List Pr)) : List Pr := partsF most (bordersF most sets)
/-- a set's numbers begin no lower than 0 -/
def Fair (s : List Pr) : Prop := ∀ p ∈ s, 0 ≤ p.1 ∧ 0 ≤ p.2 + 1
theorem borders_head {most : Int} {sets : List (List Pr)} (h0 : 0 ≤ most) (hs : ∀ s ∈ sets, Fair s) : ∃ r, bordersF most sets = 0 :: r := by
  obtain ⟨b1, b2⟩ := borders_ok most sets
  have mem0 : (0 : Int) ∈ bordersF most sets := (b2 0).mpr ⟨h0, .inl rfl⟩
  have pos : ∀ k ∈ bordersF most sets, 0 ≤ k := fun k hk => by
    rcases ((b2 k).mp hk).2 with e | ⟨s, hs', p, hp', e⟩
    · omega
    · have := hs s hs' p hp'
      omega
  generalize bordersF most sets = ms at *
  cases ms with
  | nil => cases mem0
  | cons a r =>
    have lt := (List.pairwise_cons.mp b1).1
    have e : a = 0 := by
      rcases List.mem_cons.mp mem0 with e | e
      · exact e.symm
      · have := lt 0 e
        have := pos a List.mem_cons_self
        omega
    exact ⟨r, by rw [e]⟩
theorem parts_wok {most : Int} (g : Pr → Go) : ∀ (l : List Int) (b : Int), Up (b :: l) → (∀ k ∈ b :: l, k ≤ most) → WOk most b ((partsF most (b :: l)).map fun p => (p.2, g p))
  | [], b, _, h => by
    have := h b List.mem_cons_self
    refine ⟨?_, ?_⟩
    · show b ≤ most + 1 - 1
      omega
    · show most + 1 - 1 + 1 = most + 1
      omega
  | c :: r, b, u, h => by
    obtain ⟨u1, u2⟩ := List.pairwise_cons.mp u
    have lt := u1 c List.mem_cons_self
    have ih := parts_wok g r c u2 fun k hk => h k (List.mem_cons_of_mem _ hk)
    refine ⟨?_, ?_⟩
    · show b ≤ c - 1
      omega
    · show WOk most (c - 1 + 1) _
      rw [Int.sub_add_cancel]
      exact ih
theorem parts_at {most : Int} (g : Pr → Go) : ∀ (l : List Int) (b : Int), Up (b :: l) → ∀ x, b ≤ x → x ≤ most → ∃ p ∈ partsF most (b :: l), atW ((partsF most (b :: l)).map fun p => (p.2, g p)) x = some (g p) ∧ p.1 ≤ x ∧ x ≤ p.2 ∧ b ≤ p.1 ∧ ∀ k ∈ b :: l, k ≤ p.1 ∨ x < k
  | [], b, _, x, h1, h2 => ⟨(b, most + 1 - 1), List.mem_cons_self, if_pos (by show x ≤ most + 1 - 1; omega), h1, by show x ≤ most + 1 - 1; omega, Int.le_refl _, fun k hk => by rw [List.mem_singleton.mp hk]; exact .inl (Int.le_refl _)⟩
  | c :: r, b, u, x, h1, h2 => by
    obtain ⟨u1, u2⟩ := List.pairwise_cons.mp u
    have lt := u1 c List.mem_cons_self
    have e : partsF most (b :: c :: r) = (b, c - 1) :: partsF most (c :: r) := rfl
    rw [e, List.map_cons]
    by_cases z : x < c
    · refine ⟨(b, c - 1), List.mem_cons_self, if_pos (by show x ≤ c - 1; omega), h1, by show x ≤ c - 1; omega, Int.le_refl _, fun k hk => ?_⟩
      rcases List.mem_cons.mp hk with rfl | hk
      · exact .inl (Int.le_refl _)
      · rcases List.mem_cons.mp hk with rfl | hk
        · exact .inr z
        · have := (List.pairwise_cons.mp u2).1 k hk
          exact .inr (by omega)
    · obtain ⟨p, hp, e1, e2, e3, e4, e5⟩ := parts_at g r c u2 x (by omega) h2
      refine ⟨p, List.mem_cons_of_mem _ hp, ?_, e2, e3, by omega, fun k hk => ?_⟩
      · show (if x ≤ c - 1 then _ else _) = _
        rw [if_neg (by omega)]
        exact e1
      · rcases List.mem_cons.mp hk with rfl | hk
        · exact .inl (by omega)
        · exact e5 k hk
/-- within a part every set has all or nothing -/
theorem part_const {most : Int} {sets : List (List Pr)} {lo x : Int} (h1 : lo ≤ x) (h2 : x ≤ most) (h : ∀ k ∈ bordersF most sets, k ≤ lo ∨ x < k) {s : List Pr} (hs : s ∈ sets) : inB s lo = inB s x := by
  have b := (borders_ok most sets).2
  rw [Bool.eq_iff_iff, inB_iff, inB_iff]
  constructor
  · rintro ⟨p, hp, a1, a2⟩
    refine ⟨p, hp, by omega, ?_⟩
    by_cases z : p.2 + 1 ≤ most
    · have := h (p.2 + 1) ((b _).mpr ⟨z, .inr ⟨s, hs, p, hp, .inr rfl⟩⟩)
      omega
    · omega
  · rintro ⟨p, hp, a1, a2⟩
    have := h p.1 ((b _).mpr ⟨by omega, .inr ⟨s, hs, p, hp, .inl rfl⟩⟩)
    exact ⟨p, hp, by omega, by omega⟩
/-! ### made -/
/-- fields, their mosts, the boxes, the worker -/
structure Mkr where
  n : Nat
  M : Nat → Int
  room : Nat → Nat → List Pr
  wk : List Nat → T
def Mkr.later (m : Mkr) (f : Nat) (alive : List Nat) (x : Int) : List Nat := alive.filter fun a => inB (m.room a f) x
noncomputable def Mkr.goal (m : Mkr) : Nat → List Nat → Go
  | 0, alive => .leaf (m.wk alive)
  | k + 1, alive => mkT (m.n - (k + 1)) ((partsOf (m.M (m.n - (k + 1))) (alive.map fun a => m.room a (m.n - (k + 1)))).map fun p => (p.2, m.goal k (m.later (m.n - (k + 1)) alive p.1)))
def Mkr.has (m : Mkr) : Nat → Nat → (Nat → Int) → Bool
  | 0, _, _ => true
  | k + 1, a, x => inB (m.room a (m.n - (k + 1))) (x (m.n - (k + 1))) && m.has k a x
structure Mkr.Ok (m : Mkr) : Prop where
  most : ∀ i, i < m.n → 0 ≤ m.M i
  fair : ∀ a i, Fair (m.room a i)
section
variable {m : Mkr}
theorem Mkr.ways_ok (ok : m.Ok) {f : Nat} (hf : f < m.n) (alive : List Nat) (g : Pr → Go) : WOk (m.M f) 0 ((partsOf (m.M f) (alive.map fun a => m.room a f)).map fun p => (p.2, g p)) := by
  obtain ⟨r, e⟩ := borders_head (sets := alive.map fun a => m.room a f) (ok.most f hf) fun s hs => by
    obtain ⟨a, _, rfl⟩ := List.mem_map.mp hs
    exact ok.fair a f
  obtain ⟨b1, b2⟩ := borders_ok (m.M f) (alive.map fun a => m.room a f)
  unfold partsOf
  rw [e] at b1 b2 ⊢
  exact parts_wok g r 0 b1 fun k hk => ((b2 k).mp hk).1
theorem Mkr.ways_at (ok : m.Ok) {f : Nat} (hf : f < m.n) (alive : List Nat) (g : List Nat → Go) {x : Int} (h0 : 0 ≤ x) (h1 : x ≤ m.M f) : atW ((partsOf (m.M f) (alive.map fun a => m.room a f)).map fun p => (p.2, g (m.later f alive p.1))) x = some (g (m.later f alive x)) := by
  obtain ⟨r, e⟩ := borders_head (sets := alive.map fun a => m.room a f) (ok.most f hf) fun s hs => by
    obtain ⟨a, _, rfl⟩ := List.mem_map.mp hs
    exact ok.fair a f
  obtain ⟨b1, b2⟩ := borders_ok (m.M f) (alive.map fun a => m.room a f)
  have e' := e
  unfold partsOf
  rw [e] at b1 ⊢
  obtain ⟨p, hp, e1, e2, e3, e4, e5⟩ := parts_at (most := m.M f) (fun p => g (m.later f alive p.1)) r 0 b1 x h0 h1
  rw [e1]
  congr 2
  refine List.filter_congr fun a ha => ?_
  exact part_const (most := m.M f) (sets := alive.map fun a => m.room a f) e2 h1 (by rw [e']; exact e5) (List.mem_map.mpr ⟨a, ha, rfl⟩)
theorem Mkr.red (ok : m.Ok) : ∀ {k : Nat}, k ≤ m.n → ∀ (alive : List Nat), Red m.n m.M k (m.goal k alive)
  | 0, _, alive => ⟨_, rfl⟩
  | k + 1, le, alive => mkT_red (ok.most _ (by omega)) (Mkr.ways_ok ok (by omega) alive fun p => m.goal k (m.later (m.n - (k + 1)) alive p.1)) fun w hw => by
    obtain ⟨p, _, rfl⟩ := List.mem_map.mp hw
    exact Mkr.red ok (by omega) _
/-- what is told: what the worker tells of the places whose boxes have the numbers -/
theorem Mkr.tells (ok : m.Ok) {x : Nat → Int} (hx : Gw.Box m.n m.M x) : ∀ {k : Nat}, k ≤ m.n → ∀ (alive : List Nat), ev k (m.goal k alive) x = some (m.wk (alive.filter fun a => m.has k a x))
  | 0, _, alive => by
    show some (m.wk alive) = some (m.wk (alive.filter fun a => true))
    rw [List.filter_eq_self.mpr fun a _ => rfl]
  | k + 1, le, alive => by
    have hf : m.n - (k + 1) < m.n := by omega
    obtain ⟨x0, x1⟩ := hx _ hf
    have z := Mkr.ways_at ok hf alive (m.goal k) x0 x1
    show ev (k + 1) (mkT (m.n - (k + 1)) _) x = _
    rw [mkT_ev (n := m.n) (Mkr.ways_ok ok hf alive fun p => m.goal k (m.later (m.n - (k + 1)) alive p.1)) (fun w hw => by
      obtain ⟨p, _, rfl⟩ := List.mem_map.mp hw
      exact Mkr.red ok (by omega) _) x1 x0 z, Mkr.tells ok hx (by omega)]
    congr 2
    unfold Mkr.later
    rw [List.filter_filter]
    refine List.filter_congr fun a _ => ?_
    show _ = (inB _ _ && _)
    rw [Bool.and_comm]
/-- two makers whose workers tell alike come to one goal -/
theorem Mkr.same {m' : Mkr} (ok : m.Ok) (ok' : m'.Ok) (en : m'.n = m.n) (eM : ∀ i, i < m.n → m'.M i = m.M i) {al al' : List Nat} (h : ∀ x, Gw.Box m.n m.M x → m.wk (al.filter fun a => m.has m.n a x) = m'.wk (al'.filter fun a => m'.has m.n a x)) : m.goal m.n al = m'.goal m.n al' := by
  obtain ⟨n', M', room', wk'⟩ := m'
  obtain rfl : n' = m.n := en
  have rr : ∀ {k : Nat}, k ≤ m.n → ∀ {t : Go}, Red m.n M' k t → Red m.n m.M k t := by
    intro k
    induction k with
    | zero => exact fun _ _ h => h
    | succ k ih =>
      rintro le t (h | ⟨ws, e, h1, h2⟩)
      · exact .inl (ih (by omega) h)
      · refine .inr ⟨ws, e, ?_, h2.1, h2.2.1, fun w hw => ih (by omega) (h2.2.2 w hw)⟩
        have : M' (m.n - (k + 1)) = m.M (m.n - (k + 1)) := eM _ (by omega)
        rw [← this]
        exact h1
  refine canon ok.most (Nat.le_refl _) (Mkr.red ok (Nat.le_refl _) al) (rr (Nat.le_refl _) (Mkr.red ok' (Nat.le_refl _) al')) fun x hx => ?_
  have hx' : Gw.Box m.n M' x := fun i hi => by
    have : M' i = m.M i := eM i hi
    rw [this]
    exact hx i hi
  rw [Mkr.tells ok hx (Nat.le_refl _) al, Mkr.tells ok' hx' (Nat.le_refl _) al', h x hx]
end
/-! ### the tests behind a goal, as they are come to -/
noncomputable def numG : Nat → Go → List Go → List Go
  | 0, _, fs => fs
  | _ + 1, .leaf _, fs => fs
  | k + 1, .test f ws, fs => if Go.test f ws ∈ fs then fs else ws.foldl (fun fs w => numG k w.2 fs) (fs ++ [.test f ws])
theorem numG_leaf (k : Nat) (u : T) (fs : List Go) : numG k (.leaf u) fs = fs := by cases k <;> rfl
section
variable {n : Nat} {M : Nat → Int} {d : Nat} {ts : List Go}
/-- leaves are plain -/
def Lv (d : Nat) : Nat → Go → Prop
  | _, .leaf u => plN d u = true
  | 0, .test _ _ => False
  | k + 1, .test _ ws => ws.length ≤ 1000000 ∧ ∀ w ∈ ws, Lv d k w.2
theorem Lv.leaf {u : T} (h : plN d u = true) (k : Nat) : Lv d k (.leaf u) := by cases k <;> exact h
theorem Lv.up : ∀ {k : Nat} {g : Go}, Lv d k g → Lv d (k + 1) g
  | 0, .leaf u, h => h
  | 0, .test _ _, h => h.elim
  | k + 1, .leaf u, h => h
  | k + 1, .test f ws, h => ⟨h.1, fun w hw => Lv.up (h.2 w hw)⟩
/-- what is found so far, behind a walk -/
structure Gone (d : Nat) (fs fs' : List Go) : Prop where
  pre : ∃ us, fs' = fs ++ us
  cl : ∀ t ∈ fs', t ∈ fs ∨ InT d fs' t
  nd : fs.Nodup → fs'.Nodup
theorem Gone.refl (fs : List Go) : Gone d fs fs := ⟨⟨[], by rw [List.append_nil]⟩, fun t h => .inl h, id⟩
theorem Gone.trans {a b c : List Go} (h1 : Gone d a b) (h2 : Gone d b c) : Gone d a c := by
  obtain ⟨us, e1⟩ := h1.pre
  obtain ⟨vs, e2⟩ := h2.pre
  refine ⟨⟨us ++ vs, by rw [e2, e1, List.append_assoc]⟩, fun t h => ?_, fun h => h2.nd (h1.nd h)⟩
  rcases h2.cl t h with h | h
  · rcases h1.cl t h with h | h
    · exact .inl h
    · refine .inr ?_
      rw [e2]
      exact h.app vs
  · exact .inr h
theorem InG.gone {fs fs' : List Go} (h : Gone d fs fs') {g : Go} (i : InG d fs g) : InG d fs' g := by
  obtain ⟨us, e⟩ := h.pre
  rw [e]
  exact i.app us
theorem numG_ok : ∀ {k : Nat} {g : Go}, Lv d k g → ∀ (fs : List Go), Gone d fs (numG k g fs) ∧ InG d (numG k g fs) g
  | 0, .leaf u, h, fs => ⟨Gone.refl fs, h⟩
  | 0, .test _ _, h, fs => h.elim
  | k + 1, .leaf u, h, fs => ⟨Gone.refl fs, h⟩
  | k + 1, .test f ws, h, fs => by
    unfold numG
    by_cases m : Go.test f ws ∈ fs
    · rw [if_pos m]
      exact ⟨Gone.refl fs, m⟩
    · rw [if_neg m]
      have go : ∀ (vs : List Wy) (as : List Go), (∀ w ∈ vs, Lv d k w.2) → Gone d as (vs.foldl (fun fs w => numG k w.2 fs) as) ∧ ∀ w ∈ vs, InG d (vs.foldl (fun fs w => numG k w.2 fs) as) w.2 := by
        intro vs
        induction vs with
        | nil => exact fun as _ => ⟨Gone.refl as, fun _ h => nomatch h⟩
        | cons v vs ih =>
          intro as hv
          obtain ⟨g1, i1⟩ := numG_ok (hv v List.mem_cons_self) as
          obtain ⟨g2, i2⟩ := ih (numG k v.2 as) fun w hw => hv w (List.mem_cons_of_mem _ hw)
          refine ⟨g1.trans g2, fun w hw => ?_⟩
          rcases List.mem_cons.mp hw with rfl | hw
          · exact i1.gone g2
          · exact i2 w hw
      obtain ⟨g1, i1⟩ := go ws (fs ++ [.test f ws]) h.2
      generalize ws.foldl (fun fs w => numG k w.2 fs) (fs ++ [.test f ws]) = fs' at *
      obtain ⟨us, e⟩ := g1.pre
      refine ⟨⟨⟨.test f ws :: us, by rw [e, List.append_assoc]; rfl⟩, fun t ht => ?_, fun nd => g1.nd ?_⟩, ?_⟩
      · rcases g1.cl t ht with h' | h'
        · rcases List.mem_append.mp h' with h' | h'
          · exact .inl h'
          · rw [List.mem_singleton.mp h']
            exact .inr ⟨f, ws, rfl, i1, h.1⟩
        · exact .inr h'
      · exact List.nodup_append.mpr ⟨nd, by simp, fun a ha b hb => fun e => m (by rw [List.mem_singleton.mp hb] at e; rw [← e]; exact ha)⟩
      · show Go.test f ws ∈ fs'
        rw [e]
        simp
/-- all that is found are tests that there were -/
theorem numG_in (c : Cl d ts) : ∀ {k : Nat} {g : Go}, InG d ts g → ∀ {fs : List Go}, (∀ t ∈ fs, t ∈ ts) → ∀ t ∈ numG k g fs, t ∈ ts
  | 0, _, _, _, h => h
  | _ + 1, .leaf _, _, _, h => h
  | k + 1, .test f ws, i, fs, h => by
    unfold numG
    have i : Go.test f ws ∈ ts := i
    by_cases m : Go.test f ws ∈ fs
    · rw [if_pos m]
      exact h
    · rw [if_neg m]
      obtain ⟨f', ws', e, hw, hz⟩ := c.2 _ i
      cases e
      have go : ∀ (vs : List Wy) (as : List Go), (∀ w ∈ vs, InG d ts w.2) → (∀ t ∈ as, t ∈ ts) → ∀ t ∈ vs.foldl (fun fs w => numG k w.2 fs) as, t ∈ ts := by
        intro vs
        induction vs with
        | nil => exact fun as _ h => h
        | cons v vs ih => exact fun as hv ha => ih _ (fun w hw => hv w (List.mem_cons_of_mem _ hw)) (numG_in c (hv v List.mem_cons_self) ha)
      refine go ws _ hw fun t ht => ?_
      rcases List.mem_append.mp ht with ht | ht
      · exact h t ht
      · rw [List.mem_singleton.mp ht]
        exact i
/-- the tests of the table that begins with a goal -/
noncomputable def testsG (k : Nat) (g : Go) : List Go := numG k g []
theorem testsG_cl {k : Nat} {g : Go} (h : Lv d k g) : Cl d (testsG k g) ∧ InG d (testsG k g) g := by
  obtain ⟨h1, h2⟩ := numG_ok h []
  exact ⟨⟨h1.nd List.nodup_nil, fun t ht => (h1.cl t ht).resolve_left (by simp)⟩, h2⟩
end
end Gw
/-! Gw, part Hd: the facts, read off -/
namespace Gw
open PySem PySem.Spec PyProof.Rows L2
section
variable {K : PySem.W.Frag}
theorem Hx.at_ {gx : List Hx} (h : (gx.all fun z => z.ok K) = true) (i : Nat) {z : Hx} (e : gx[i]? = some z := by rfl) : z.ok K = true := List.all_eq_true.mp h z (List.mem_of_getElem? e)
theorem fun_told {fa : List He.Fa} {fn : List He.FnD} (c : He.SaysE fa fn K) (i : Nat) {p : Str × Option Str} {name qual : Str} {st : Stmt} (h : fn[i]? = some (defG p name qual st)) (k : PySem.W.keepIn K (.ref (He.fAd K p)) = true) : ∃ fd, Fun K name qual st (He.fAd K p) fd ∧ ∃ kV doc pm an cdv ct, fd = PySem.W.fnOf name qual (defArgs st) (defBody st) (defScope st) .none kV doc pm an cdv ct := by
  obtain ⟨oc, od, osl, kV, doc, pm, an, cdv, ct, l, cd⟩ := c.def_ i (d := defG p name qual st) h
  exact ⟨_, fun_mk (st := st) l cd k, kV, doc, pm, an, cdv, ct, rfl⟩
end
end Gw
/-! Gw, part Ld: sorted(xs, key=lambda y: ..) over data. -/
/-! Gw, part Le: more of what may raise: x[i], x[i:j], for over it, arguments; defs whose code object is known. -/
namespace Gw
open PySem PySem.Spec PyProof.Rows L2 RZ
/-! ### x[i], x[i:j], x may raise -/
/-! ### for x in e, e may raise -/
/-! ### f(..), an argument may raise -/
/-! ### defs whose code object is known -/
section
variable {CX : CXT} {P : Program} {w : World} {K : PySem.W.Frag} {mg : Str → Option Value} {base : Heap}
theorem fun_code {x qual : Str} {st : Stmt} {f : Addr} {fd : FuncData} {cv : Value} (D : Fun K x qual st f fd) (hc : fd.code = cv) : ∃ oc od kV doc pm an ct osl, fd = PySem.W.fnOf x qual (defArgs st) (defBody st) (defScope st) .none kV doc pm an cv ct ∧ K.lookup f = some ⟨oc, od, .func fd, osl⟩ ∧ PySem.W.codeIn K cv qual = true := by
  obtain ⟨oc, od, kV, doc, pm, an, cv2, ct, osl, e, lk, cd⟩ := D.ex
  have e2 : fd.code = cv2 := by rw [e]
  rw [hc] at e2
  subst e2
  exact ⟨oc, od, kV, doc, pm, an, ct, osl, e, lk, cd⟩
theorem fun_okC {x qual : Str} {st : Stmt} {f : Addr} {fd : FuncData} {N ps : List Str} {j : Nat} {sp : Sp} {cv : Value} (D : Fun K x qual st f fd) (hc : fd.code = cv) (S : FnScope N ps (defScope st)) (len : ∀ xs G R Z, sp xs G R Z → xs.length = ps.length)
    (hb : ∀ (B : Around) (out : List Env) (u : Shared) (G : Hp) (xs : List V) (R : VK) (Z : XK), Room j (B.deeper (envOfC qual (defScope st) u.heap.objs.size f cv)) → sp xs G R Z →
      ∃ t, PSs (cxOf CX P w K mg base N qual (defScope st) f cv B out u G Z) (defBody st) t ∧ t { nx := fun _ G' => R .non G', rt := R } (start N xs) G) : FnOk P w K mg base CX (j + 1) f fd ps sp := by
  obtain ⟨oc, od, kV, doc, pm, an, ct, osl, rfl, lk, cd⟩ := fun_code D hc
  refine ⟨len, fun B out u G ag uu xs R Z z e0 bd r h => ?_⟩
  have up := e0.mod.kin.keeps fun a o q => (e0.bs a o q).1
  have lm := e0.mod.nolimit.keeps fun a o q => (e0.bs a o q).1
  refine codeAny_call_function z.ro.depth (up _ _ lk) rfl S.co S.gen rfl (PySem.W.codeRec_of up cd) (bd _ _ _ _ (wpAny_newFunctionEnv_cells S.kind (fun y hy => (S.par y.1 (List.of_mem_zip (show (y.1, y.2) ∈ _ from hy)).1).imp id fun q => ⟨q, PySem.W.cellsFrom_some _ _ _ (.inl q)⟩) fun env he u1 c => ?_))
  subst he
  refine ⟨lm.keeps c.toInCall.keep, codeAny_func ?_⟩
  obtain ⟨t, ps_, q⟩ := hb B out u G xs R Z (z.deeper _) h
  have I := inv_start (CX := CX) (E := Z) S z.ro.hd e0 (len _ _ _ _ h) r c
  refine wpAny_mono (ps_.run [] u1 (start N xs) G _ I q) (fun fl u2 y => ?_) fun _ _ y => y
  match fl, y with
  | .ret _, ⟨v, _, G', J, rv, q⟩ => exact ⟨v, G', J.os, J.bare, J.base, J.hok, rv, q⟩
  | .next, ⟨_, G', J, q⟩ => exact ⟨V.non, G', J.os, J.bare, J.base, J.hok, rfl, q⟩
  | .brk, ⟨_, _, _, q⟩ => exact q.elim
  | .cont, ⟨_, _, _, q⟩ => exact q.elim
end
end Gw
/-! Gw, part Lt: the end of a law whose defs make functions: their tables of code objects. -/
namespace Gw
open PySem PySem.Spec PyProof.Rows L2
/-- the heap followed from the law's start: the script, the tables -/
def withT (G : Hp) (ts : List Addr) : Hp := fun b => if b ∈ ts then some (.tbl #[]) else G b
section
variable {P : Program} {w : World} {K : PySem.W.Frag} {mg : Str → Option Value} {CX : CXT}
theorem law_coreT {mb : Str → Option Value} {j : Nat} {fa a : Addr} {fd : FuncData} {x : Str} {sp : Sp} {t : Shared} {us : List Value} {ns : List Int} {G : Hp} {cs : List (Addr × Addr)}
    (inK : K.In t.heap) (nsM : t.heap.Ns mainGlobals mg) (nsB : t.heap.Ns builtinsNs mb) (std : ∀ x : Str, x ≠ "__name__" → mb x = bootBuiltins x) (lim : t.heap.NoLimit) (nog : t.gens = #[])
    (gT : ∀ p ∈ cs, t.heap.get? p.2 = some { cls := .none, data := .fields #[] }) (nT : ∀ p ∈ cs, K.lookup p.2 = none) (cT : ∀ p ∈ cs, PySem.W.CodeHd t.heap p.1 p.2)
    (bmn : ∃ (bm : Addr) (ob : Obj), mg "__builtins__" = some (.ref bm) ∧ bm ≠ builtinsNs ∧ t.heap.get? bm = some ob ∧ ob.cls = .type "module" ∧ ob.dict = some builtinsNs ∧ ob.data = .plain)
    (ha : t.heap.get? a = some { cls := .type "list", data := .seq us.toArray }) (z : Room j callerA) (W : Begin K P w G a ns t)
    (F : ∀ base : Heap, K.In base → base.Ns mainGlobals mg → (∀ p ∈ cs, LamX.TabB base mg p.1 p.2) → FnOk P w K mg base CX j fa fd [x] sp) (bd : ∀ (s : Shared) (u : Value), BindsTo s fd ⟨[u], []⟩ [(x, u)])
    (asks : Same G (withT G (cs.map (·.2))) → sp [.ref a] (withT G (cs.map (·.2))) (fun v _ => v = .bl true) fun _ _ _ => False)
    (none_out : ∀ H v t', CX [] H t (fun _ _ _ => False) v t' → False) : codeAny (model P w) callerA (.call (.ref fa) ⟨[.ref a], []⟩) (fun r t' => Good t t' r) t := by
  have inT : ∀ {b : Addr}, b ∈ cs.map (·.2) → t.heap.get? b = some { cls := .none, data := .fields #[] } := fun {b} h => by
    obtain ⟨p, hp, rfl⟩ := List.mem_map.mp h
    exact gT p hp
  have nGT : ∀ {b : Addr}, b ∈ cs.map (·.2) → G b = none := fun {b} h => (W.at_ b).resolve_right fun ⟨e, _⟩ => by
    have q := inT h
    rw [e, ha] at q
    cases q
  have sG : Same G (withT G (cs.map (·.2))) := fun b o e => by
    unfold withT
    by_cases h : b ∈ cs.map (·.2)
    · rw [nGT h] at e
      cases e
    · rw [if_neg h]
      exact e
  have none_ : ∀ {b : Addr} {o : Obj}, t.heap.get? b = some o → (∀ vs n, o.data ≠ .seq vs n) → o.data ≠ .fields #[] → withT G (cs.map (·.2)) b = none := fun {b o} e h1 h2 => by
    unfold withT
    by_cases h : b ∈ cs.map (·.2)
    · have q := inT h
      rw [e] at q
      cases q
      exact absurd rfl h2
    · rw [if_neg h]
      refine (W.at_ b).resolve_right fun ⟨e2, _⟩ => ?_
      subst e2
      rw [ha] at e
      cases e
      exact h1 _ _ rfl
  have dic : ∀ {b : Addr} {o : Obj} {es : Array DictEntry} {n : Nat}, t.heap.get? b = some o → o.data = .dict es n → withT G (cs.map (·.2)) b = none := fun {b o es n} e d => none_ e (fun vs n q => by rw [d] at q; cases q) (fun q => by rw [d] at q; cases q)
  have ns_ : ∀ {b : Addr} {m : Str → Option Value}, t.heap.Ns b m → (hidT t.heap (withT G (cs.map (·.2)))).Ns b m := fun ⟨o, es, n, e, d, r⟩ => ⟨o, es, n, hidT_get e (dic e d), d, r⟩
  have kin : K.In (hidT t.heap (withT G (cs.map (·.2)))) := fun b o e => hidT_get (inK b o e) (by
    unfold withT
    by_cases h : b ∈ cs.map (·.2)
    · obtain ⟨p, hp, rfl⟩ := List.mem_map.mp h
      rw [nT p hp] at e
      cases e
    · rw [if_neg h]
      exact (W.at_ b).resolve_right fun ⟨e2, l⟩ => by
        subst e2
        rw [l] at e
        cases e)
  have hok : HOk P w (withT G (cs.map (·.2))) t.heap := fun b y e => by
    unfold withT at e
    by_cases h : b ∈ cs.map (·.2)
    · rw [if_pos h] at e
      cases e
      exact inT h
    · rw [if_neg h] at e
      exact (W.hok b y e).stay (fun _ _ _ q => q) (fun c q => sG _ _ q) fun c xs q => sG _ _ q
  have e0 : Env0 P w K mg (hidT t.heap (withT G (cs.map (·.2)))) callerA [] t (withT G (cs.map (·.2))) :=
    { frames := rfl, mod := ⟨kin, ns_ nsM, ⟨mb, ns_ nsB, std⟩, let ⟨mc, p, q⟩ := lim; ⟨mc, ns_ p, q⟩⟩, bs := fun b o e => of_hidT e, bsz := Nat.le_of_eq (hidT_size _ _), funs := trivial, frf := (fun b h => nomatch h), hok := hok, bare := .of_eq nog }
  have TB : ∀ p ∈ cs, LamX.TabB (hidT t.heap (withT G (cs.map (·.2)))) mg p.1 p.2 := fun p hp => by
    have hm : p.2 ∈ cs.map (·.2) := List.mem_map.mpr ⟨p, hp, rfl⟩
    refine ⟨?_, ?_, fun q => ?_⟩
    · obtain ⟨o, vs, file, tf, flags, tg, inF, text, tt, e1, e2, e3, r⟩ := cT p hp
      refine ⟨o, vs, file, tf, flags, tg, inF, text, tt, hidT_get e1 (none_ e1 (fun vs n q => by rw [e3] at q; cases q) fun q => ?_), e2, e3, r⟩
      rw [e3] at q
      cases q
      have r1 := r.1
      simp at r1
    · obtain ⟨bm, ob, b1, b2, b3, b4, b5, b6⟩ := bmn
      refine ⟨bm, ob, b1, b2, fun q => ?_, fun q => ?_, hidT_get b3 (none_ b3 (fun vs n q => by rw [b6] at q; cases q) fun q => by rw [b6] at q; cases q), b4, b5, b6⟩
      · obtain ⟨o, es, n, e, d, _⟩ := nsM
        rw [q, e] at b3
        cases b3
        rw [d] at b6
        cases b6
      · rw [q, inT hm] at b3
        cases b3
        cases b6
    · obtain ⟨o, es, n, e, d, _⟩ := nsM
      rw [q, inT hm] at e
      cases e
      cases d
  refine codeAny_mono ((F _ kin (ns_ nsM) TB).run callerA [] t _ ⟨[.ref a], []⟩ [.ref a] [.ref a] _ _ z e0 (bd t (.ref a)) (.cons rfl .nil) (asks sG)) ?_
  intro r t' q
  match r, q with
  | .error v, q => exact (none_out _ v t' q).elim
  | .ok (.ret v), ⟨d, G', os, bare, un, ok', rv, (e : d = .bl true)⟩ =>
    subst e
    obtain rfl : v = Value.bool true := rv
    have key : ∀ b o, b ∉ cs.map (·.2) → t.heap.get? b = some o → t'.heap.get? b = some o := fun b o nb e => by
      have e1 : withT G (cs.map (·.2)) b = G b := if_neg nb
      rcases W.only b with n | ⟨ob, xs, n⟩
      · exact un.keep b o e (e1.trans n) (fun h => nomatch h) (fun h => nomatch h)
      · have e2 := (W.hok b _ n).1
        have e3 := (ok' b _ (un.frzs b ob _ (e1.trans n))).1
        rw [e] at e2
        obtain rfl := Option.some.inj e2
        exact e3
    have more : ∀ p ∈ cs, ∃ vs : Array Value, t'.heap.get? p.2 = some { cls := .none, data := .fields vs } := fun p hp => by
      obtain ⟨vs, q⟩ := un.tbls p.2 #[] (if_pos (List.mem_map.mpr ⟨p, hp, rfl⟩))
      exact ⟨_, ok' p.2 _ q⟩
    refine ⟨rfl, ⟨fun b o e => ?_, fun b o e => ?_⟩, os, bare⟩
    · by_cases h : b ∈ cs.map (·.2)
      · obtain ⟨p, hp, rfl⟩ := List.mem_map.mp h
        obtain ⟨vs, q⟩ := more p hp
        rw [gT p hp] at e
        cases e
        exact .inr (.inl ⟨((cT p hp).tab (gT p hp)).isCodeTable, rfl, #[], vs, rfl, by rw [Array.empty_append]; exact q⟩)
      · exact .inl (key b o h e)
    · by_cases h : b ∈ cs.map (·.2)
      · obtain ⟨p, hp, rfl⟩ := List.mem_map.mp h
        obtain ⟨vs, q⟩ := more p hp
        exact ⟨_, q⟩
      · exact ⟨o, key b o h e⟩
theorem law_endT {mb : Str → Option Value} {j : Nat} {fa a : Addr} {fd : FuncData} {x : Str} {sp : Sp} {t : Shared} {us : List Value} {ns : List Int} {cs : List (Addr × Addr)}
    (inK : K.In t.heap) (nsM : t.heap.Ns mainGlobals mg) (nsB : t.heap.Ns builtinsNs mb) (std : ∀ x : Str, x ≠ "__name__" → mb x = bootBuiltins x) (lim : t.heap.NoLimit) (nog : t.gens = #[])
    (gT : ∀ p ∈ cs, t.heap.get? p.2 = some { cls := .none, data := .fields #[] }) (nT : ∀ p ∈ cs, K.lookup p.2 = none) (cT : ∀ p ∈ cs, PySem.W.CodeHd t.heap p.1 p.2)
    (bmn : ∃ (bm : Addr) (ob : Obj), mg "__builtins__" = some (.ref bm) ∧ bm ≠ builtinsNs ∧ t.heap.get? bm = some ob ∧ ob.cls = .type "module" ∧ ob.dict = some builtinsNs ∧ ob.data = .plain)
    (ha : t.heap.get? a = some { cls := .type "list", data := .seq us.toArray }) (hi : IntsAre us ns) (le : ns.length ≤ sizeLine) (z : Room j callerA)
    (F : ∀ base : Heap, K.In base → base.Ns mainGlobals mg → (∀ p ∈ cs, LamX.TabB base mg p.1 p.2) → FnOk P w K mg base CX j fa fd [x] sp) (bd : ∀ (s : Shared) (u : Value), BindsTo s fd ⟨[u], []⟩ [(x, u)])
    (asks : ∀ G : Hp, Only G → SqL K G a (ns.map V.int) → Same G (withT G (cs.map (·.2))) → (∀ p ∈ cs, G p.2 = none) → sp [.ref a] (withT G (cs.map (·.2))) (fun v _ => v = .bl true) fun _ _ _ => False)
    (none_out : ∀ H v t', CX [] H t (fun _ _ _ => False) v t' → False) : codeAny (model P w) callerA (.call (.ref fa) ⟨[.ref a], []⟩) (fun r t' => Good t t' r) t := by
  have go : ∀ G : Hp, Begin K P w G a ns t → _ := fun G W => law_coreT (cs := cs) inK nsM nsB std lim nog gT nT cT bmn ha z W F bd (fun sG => asks G W.only W.sq sG fun p hp => (W.at_ p.2).resolve_right fun ⟨e, _⟩ => by
    have q := gT p hp
    rw [e, ha] at q
    cases q) none_out
  have vi := vals_ints hi
  have le' : (ns.map V.int).length ≤ sizeLine := by rw [List.length_map]; exact le
  cases hk : K.lookup a with
  | some o =>
    obtain rfl := Option.some.inj (ha.symm.trans (inK a o hk))
    exact go (fun _ => none) ⟨fun _ => .inl rfl, .inr ⟨_, us.toArray, _, hk, rfl, rfl, rfl, by rw [List.size_toArray, hi.length]; exact le, by simpa using vi⟩, (fun _ _ h => nomatch h), fun _ => .inl rfl⟩
  | none =>
    refine go (fun b => if b = a then some (.frz { cls := .type "list", data := .seq us.toArray } (.lst (ns.map V.int))) else none) ⟨fun b => ?_, .inl (.inr ⟨_, if_pos rfl⟩), fun b y e => ?_, fun b => ?_⟩
    · by_cases e : b = a
      · exact .inr ⟨_, _, if_pos e⟩
      · exact .inl (if_neg e)
    · by_cases h : b = a
      · subst h
        obtain rfl := Option.some.inj ((if_pos rfl).symm.trans e)
        exact ⟨ha, le', us, _, vi, ha⟩
      · exact nomatch (if_neg h).symm.trans e
    · by_cases e : b = a
      · exact .inr ⟨e, hk⟩
      · exact .inl (if_neg e)
end
/-- the tables of a law's defs, by the names that their code objects bear -/
abbrev TabL := List (He.Defn × (Nat → Nat → Str))
def tabM (ts : TabL) : Store := ts.map fun p => .tab p.1 p.2
def tabA (K : PySem.W.Frag) (ts : TabL) : List Addr := ts.map fun p => (He.cT K p.1).2
def tabC (K : PySem.W.Frag) (ts : TabL) : List (Addr × Addr) := ts.map fun p => He.cT K p.1
structure TabsOk (K : PySem.W.Frag) (ts : TabL) (h : Heap) : Prop where
  hd : ∀ p ∈ ts, PySem.W.codeHdIn K (He.cT K p.1).1 (He.cT K p.1).2 = true
  out : ∀ p ∈ ts, K.lookup (He.cT K p.1).2 = none
  empty : ∀ p ∈ ts, h.get? (He.cT K p.1).2 = some { cls := .none, data := .fields #[] }
  nd : (tabA K ts).Nodup
/-- the law's store at its start -/
theorem start_tabs {K : PySem.W.Frag} {G : Hp} {ts : TabL} (nd : (tabA K ts).Nodup) (n : ∀ a ∈ tabA K ts, G a = none) (sG : Same G (withT G (tabA K ts))) : SH K G (fun _ => none) [] (tabM ts) (tabA K ts) (withT G (tabA K ts)) := by
  refine ⟨(fun _ _ e => nomatch e), sG, fun _ _ => rfl, n, nd, List.nil_prefix, by unfold tabM tabA; rw [List.length_map, List.length_map], fun i o a h1 h2 => ?_⟩
  unfold tabM at h1
  have h3 := h2
  unfold tabA at h3
  rw [List.getElem?_map] at h1 h3
  cases e : ts[i]? with
  | none =>
    rw [e] at h1
    cases h1
  | some p =>
    rw [e] at h1 h3
    cases h1
    cases h3
    exact ⟨rfl, #[], if_pos (List.mem_of_getElem? h2), trivial, fun pos cv z => by
      have z : codeAmong pos [] = some cv := z
      simp [codeAmong] at z⟩
theorem walk_ofT {l : PySem.W.OpenLaw} {n j : Nat} {q : Program} {loose : List Str} {XP : (Str → Option Value) → Heap → Prop} {YP : World → Heap → Prop} {d : DefRec} {CX : CXT} {x : Str} {ts : TabL}
    (mo : l.most = some n) (le : n ≤ sizeLine) (nd : d.params.defaults = []) (z : Room j callerA)
    (F : ∀ (w : World) (mg : Str → Option Value) (fa : Addr) (h : Heap), YP w h → h.Ns mainGlobals mg → mg d.name = some (.ref fa) →
      ∃ (K : PySem.W.Frag) (fd : FuncData) (Φ : DFn), K.In h ∧ TabsOk K ts h ∧ (∀ (s : Shared) (u : Value), BindsTo s fd ⟨[u], []⟩ [(x, u)]) ∧
        (∀ (ns : List Int), ns.length ≤ n → Φ [.t (.ro (ns.map T.int))] (tabM ts) fun d _ => d = .t (.bl true)) ∧
        ∀ base : Heap, K.In base → base.Ns mainGlobals mg → (∀ p ∈ ts, LamX.TabB base mg (He.cT K p.1).1 (He.cT K p.1).2) → FnOk l.prog w K mg base CX j fa fd [x] (spG K Φ))
    (none_out : ∀ (G : Hp) (u : Shared) (v : Value) (u' : Shared), CX [] G u (fun _ _ _ => False) v u' → False) :
    PySem.W.WalkO q loose XP YP l.row.toRowW d [] (fun f vs => PySem.call f vs) :=
  Att.attach_call mo nd fun w _ u mg mb fa _ _ _ _ a us ns g y _ _ _ at_ ha hi len nog => by
    obtain ⟨K, fd, Φ, inK, tk, bd, asks, ok⟩ := F w mg fa _ y g.T.g at_
    have eA : (tabC K ts).map (·.2) = tabA K ts := by
      unfold tabC tabA
      rw [List.map_map]
      rfl
    have mem : ∀ {p}, p ∈ tabC K ts → ∃ q ∈ ts, p = He.cT K q.1 := fun {p} h => by
      obtain ⟨q, hq, e⟩ := List.mem_map.mp h
      exact ⟨q, hq, e.symm⟩
    refine law_endT (cs := tabC K ts) inK g.T.g g.T.b g.T.builtins g.T.nolimit nog (fun p hp => ?_) (fun p hp => ?_) (fun p hp => ?_) g.T.bmain ha hi (Nat.le_trans len le) z (fun base hk hn hb => ok base hk hn fun p hp => hb _ (List.mem_map.mpr ⟨p, hp, rfl⟩)) bd (fun G _ sq sG nG => ?_) fun G => none_out G u
    · obtain ⟨q, hq, rfl⟩ := mem hp
      exact tk.empty q hq
    · obtain ⟨q, hq, rfl⟩ := mem hp
      exact tk.out q hq
    · obtain ⟨q, hq, rfl⟩ := mem hp
      exact PySem.W.codeHd_of_K inK (tk.hd q hq)
    · rw [eA] at sG ⊢
      have sh := start_tabs tk.nd (fun b hb => by
        rw [← eA] at hb
        obtain ⟨p, hp, rfl⟩ := List.mem_map.mp hb
        exact nG p hp) sG
      exact ⟨G, fun _ => none, [], tabM ts, tabA K ts, [.t (.ro (ns.map T.int))], _, sh, .cons ⟨a, ns.map V.int, rfl, sq, Rps.of_ints ns⟩ .nil, asks ns len, fun d v μ' ρ' H' hd _ _ _ r => by
        subst hd
        exact r⟩
end Gw
/-! Gw, part Lg: a def's code object; the tables of a law's defs, told by the head. -/
namespace Gw
open PySem PySem.Spec PyProof.Rows L2 RZ
theorem fun_tab {K : PySem.W.Frag} {fa : List He.Fa} {fn : List He.FnD} (c : He.SaysE fa fn K) (i : Nat) {p : Str × Option Str} {name qual : Str} {st : Stmt} (h : fn[i]? = some (defG p name qual st)) (k : PySem.W.keepIn K (.ref (He.fAd K p)) = true) : ∃ fd, Fun K name qual st (He.fAd K p) fd ∧ fd.code = .ref (He.cT K p).1 ∧ ∃ kV doc pm an cdv ct, fd = PySem.W.fnOf name qual (defArgs st) (defBody st) (defScope st) .none kV doc pm an cdv ct := by
  obtain ⟨oc, od, osl, kV, doc, pm, an, cdv, ct, l, cd⟩ := c.def_ i (d := defG p name qual st) h
  obtain ⟨a, e⟩ := He.codeIn_ref cd
  subst e
  refine ⟨_, fun_mk (st := st) l cd k, ?_, kV, doc, pm, an, .ref a, ct, rfl⟩
  exact congrArg Value.ref (He.codeOf_eq l rfl).symm
theorem tabs_of {K : PySem.W.Frag} {h : Heap} {ts : TabL} (t : TabsSay (ts.map (·.1)) K h) : TabsOk K ts h := by
  have m : ∀ {p}, p ∈ ts → p.1 ∈ ts.map (·.1) := fun hp => List.mem_map.mpr ⟨_, hp, rfl⟩
  refine ⟨fun p hp => t.hd _ (m hp), fun p hp => t.out _ (m hp), fun p hp => t.empty _ (m hp), ?_⟩
  have nd := t.nd
  rw [List.map_map] at nd
  exact nd
end Gw
/-! Gw, part Lh: xs.index(x) of texts, of ints; contracts that nothing keeps. -/
namespace Gw
open PySem PySem.Spec PyProof.Rows L2 RZ
/-! ### a contract that asks what nothing is -/
section
variable {P : Program} {w : World} {K : PySem.W.Frag} {mg : Str → Option Value} {base : Heap} {k : Nat} {f : Addr} {fd : FuncData} {ps : List Str}
theorem fnG_none {CX : CXT} : FnOk P w K mg base CX k f fd ps (spG K fun _ _ _ => False) :=
  ⟨fun vs H Q E ⟨_, _, _, _, _, _, _, _, _, z, _⟩ => z.elim, fun A outer s H args us vs Q E _ _ _ _ ⟨_, _, _, _, _, _, _, _, _, z, _⟩ => z.elim⟩
end
end Gw
/-! Gw, part Li: zip of a text and a list or tuple. -/
/-! Gw, part Lj: texts: endswith, split by a sign (own work). -/
namespace Gw
open PySem PySem.Spec PyProof.Rows L2 RZ
def wEnds (_ : Store) (a : Str) (ds : List D) (Q : D → Prop) : Prop := one ds fun d => strK d fun b => Q (.t (.bl (Txt.endswith a b)))
section
variable {μ : Store} {a b : Str} {Q : D → Prop}
theorem r_wEnds : wEnds μ a [.t (.str b)] Q ↔ Q (.t (.bl (Txt.endswith a b))) := ⟨fun ⟨_, e, q⟩ => by cases e; exact q, fun q => ⟨b, rfl, q⟩⟩
end
end Gw
/-! Gw, part Lk: methods of texts whose arguments have effects (own work). -/
namespace Gw
open PySem PySem.Spec PyProof.Rows L2 RZ
def xMs (p : DP) (a : DAX) (W : Store → Str → List D → (D → Prop) → Prop) : DX := fun env μ Q => p env μ fun d => ∃ z, d = .t (.str z) ∧ a env μ fun ds μ1 => W μ1 z ds fun y => Q y μ1
section
variable {env : DEnv} {μ : Store} {Q : D → Store → Prop}
theorem r_xMs {p : DP} {a : DAX} {W : Store → Str → List D → (D → Prop) → Prop} : xMs p a W env μ Q = p env μ fun d => ∃ z, d = .t (.str z) ∧ a env μ fun ds μ1 => W μ1 z ds fun y => Q y μ1 := rfl
end
end Gw
/-! Gw, part Ll: f-strings of texts and numbers (own work). -/
namespace Gw
open PySem PySem.Spec PyProof.Rows L2 RZ
def fsK : List DP → Str → DEnv → Store → (Str → Prop) → Prop
  | [], acc, _, _, Q => Q acc
  | p :: ps, acc, env, μ, Q => p env μ fun d => ∃ y, d = .t (.str y) ∧ (acc ++ y).length ≤ sizeLine ∧ fsK ps (acc ++ y) env μ Q
/-- f'..' -/
def dFs (ps : List DP) : DP := fun env μ Q => fsK ps Str.empty env μ fun out => Q (.t (.str out))
section
variable {env : DEnv} {μ : Store}
theorem r_dFs {ps : List DP} {Q : D → Prop} : dFs ps env μ Q = fsK ps Str.empty env μ fun out => Q (.t (.str out)) := rfl
theorem r_fsN {acc : Str} {Q : Str → Prop} : fsK [] acc env μ Q = Q acc := rfl
theorem r_fsC {p : DP} {ps : List DP} {acc : Str} {Q : Str → Prop} : fsK (p :: ps) acc env μ Q = p env μ fun d => ∃ y, d = .t (.str y) ∧ (acc ++ y).length ≤ sizeLine ∧ fsK ps (acc ++ y) env μ Q := rfl
end
end Gw
/-! Gw, part Lm: l.extend(t), t a tuple (own work). -/
namespace PySem
open PySem.AutoSeq1
end PySem
/-! Gw, part Ln: the set of a list of texts, how many they are (own work). -/
namespace Gw
open PySem PySem.Spec PyProof.Rows
/-- is it among the first i texts -/
abbrev metT (xs : List Str) (i : Nat) : Str → Bool := fun x => (xs.take i).any (· == x)
/-- how many unlike ones the first i are -/
def manyT (xs : List Str) : Nat → Nat
  | 0 => 0
  | i + 1 => if metT xs i (xs.getD i Str.empty) = true then manyT xs i else manyT xs i + 1
end Gw
/-! Gw, part Lo: set(l), l a list of texts; len(set(l)) (own work). -/
/-! Gw, part Lp: len(set(l)), l a list of texts (own work). -/
namespace Gw
open PySem PySem.Spec PyProof.Rows L2 RZ
section
variable {X : Cx}
/-- len(set(l)) -/
def dManyT (p : DP) : DP := fun env μ Q => p env μ fun d => srcL μ d fun xs _ => ∃ ys : List Str, xs = ys.map T.str ∧ ys.length ≤ 1000 ∧ Q (.t (.int (manyT ys ys.length)))
end
theorem r_dManyT {p : DP} {env : DEnv} {μ : Store} {Q : D → Prop} : dManyT p env μ Q = p env μ fun d => srcL μ d fun xs _ => ∃ ys : List Str, xs = ys.map T.str ∧ ys.length ≤ 1000 ∧ Q (.t (.int (manyT ys ys.length))) := rfl
end Gw
/-! Gw, part Lq: x in C, C a module's constant, a tuple of texts (own work). -/
namespace Gw
open PySem PySem.Spec PyProof.Rows L2 RZ
def dInC (p : DP) (ss : List Str) : DP := fun env μ Q => p env μ fun d => ∃ z, d = .t (.str z) ∧ Q (.t (.bl (decide (z ∈ ss))))
theorem r_dInC {p : DP} {ss : List Str} {env : DEnv} {μ : Store} {Q : D → Prop} : dInC p ss env μ Q = p env μ fun d => ∃ z, d = .t (.str z) ∧ Q (.t (.bl (decide (z ∈ ss)))) := rfl
end Gw
/-! Gw, part Lr: l == [], l != [], l a list of anything (own work). -/
namespace Gw
open PySem PySem.Spec PyProof.Rows L2 RZ
def rNilF (K : PySem.W.Frag) (f : Bool → Bool) : R2 := fun x y H Q => ∃ (a b : Addr) (xs : List V), x = .ref a ∧ y = .ref b ∧ SqL K H a xs ∧ SqL K H b [] ∧ Q (.bl (f xs.isEmpty)) H
section
variable {X : Cx}
theorem lens_of {h : Heap} {a b : Addr} {as bs : List Value} {xs : List V} (ra : Vals xs as) (rb : Vals [] bs) (c : xs.isEmpty = false) : (as.toArray.size != bs.toArray.size) = true := by
  cases rb
  rw [List.size_toArray, ← ra.length]
  cases xs with
  | nil => cases c
  | cons _ _ => rfl
theorem op_neNil (hu : X.A.units < cLine) : OpR X (compareOp .NotEq) (rNilF X.K not) := by
  intro pins s σ H x y v u Q I rx ry ⟨a, b, xs, e1, e2, ha, hb, q⟩
  subst e1 e2
  cases rx
  cases ry
  obtain ⟨as, ra, pa, _⟩ := I.list ha
  obtain ⟨bs, rb, pb, _⟩ := I.list hb
  cases c : xs.isEmpty with
  | false =>
    rw [c] at q
    exact SeqAt.RcNeAt.lists_lengths pa.isList pb.isList (lens_of (h := s.heap) (a := a) (b := b) ra rb c) hu _ _ _ _ ⟨.bl true, H, I, rfl, q⟩
  | true =>
    rw [c] at q
    cases xs with
    | cons _ _ => cases c
    | nil =>
      cases ra
      cases rb
      exact SeqAt.RcNeAt.lists (e := fun _ => true) pa.isList pb.isList rfl hu (fun j h1 _ => absurd h1 (Nat.not_lt_zero j)) _ _ _ _ ⟨.bl false, H, I, rfl, q⟩
end
end Gw
/-! Gw, part Ls: l == [], l != [], l in the store (own work). -/
namespace Gw
open PySem PySem.Spec PyProof.Rows L2 RZ
def nilW (f : Bool → Bool) (μ : Store) (d e : D) (Q : D → Prop) : Prop := ∃ n ds, d = .loc n ∧ e = .t (.lst []) ∧ μ[n]? = some (.lst ds) ∧ Q (.t (.bl (f ds.isEmpty)))
theorem nilW_ok {K : PySem.W.Frag} (f : Bool → Bool) : W2 K (rNilF K f) (nilW f) := by
  intro G B ρ0 μ ρ H x y v u Q R s rx ry ⟨n, ds, e1, e2, hn, q⟩ k
  subst e1 e2
  obtain ⟨a, rfl, ha⟩ := rx
  obtain ⟨ws, h1, h2⟩ := s.sto n _ a hn ha
  obtain ⟨b, us, rfl, h3, h4⟩ := Rp.mono (K := K) (frz_le B H ρ) ry
  cases h4
  have e : ws.isEmpty = ds.isEmpty := by
    have := Paired.len h2
    cases ws <;> cases ds <;> first | rfl | cases this
  refine ⟨a, b, ws, rfl, rfl, SqL.of h1, .inl (.inl h3), ?_⟩
  rw [e]
  exact k _ _ H q (Same.refl _) rfl
theorem nil_at {f : Bool → Bool} {μ : Store} {n : Nat} {ds : List D} {Q : D → Prop} (h : μ[n]? = some (.lst ds)) (q : Q (.t (.bl (f ds.isEmpty)))) : nilW f μ (.loc n) (.t (.lst [])) Q := ⟨n, ds, rfl, rfl, h, q⟩
end Gw
/-! Gw, part Lu: a slice of a list that holds places (own work). -/
namespace Gw
open PySem PySem.Spec PyProof.Rows L2 RZ
def slDK (μ : Store) (d : D) (Q : List D → Prop) : Prop := ∃ n ds, d = .loc n ∧ μ[n]? = some (.lst ds) ∧ Q ds
def xSlD (p : DP) (l h : DO) : DX := fun env μ Q => p env μ fun d => l env μ fun lo => h env μ fun hi => slDK μ d fun ds => Q (.loc μ.length) (μ ++ [.lst (cutT ds lo hi)])
section
variable {X : Cx} {a : Expr} {lo hi : Option Expr} {l h : DO} {p2 pos : Pos} {p : DP}
theorem r_xSlD {env : DEnv} {μ : Store} {Q : D → Store → Prop} : xSlD p l h env μ Q = p env μ fun d => l env μ fun lo => h env μ fun hi => slDK μ d fun ds => Q (.loc μ.length) (μ ++ [.lst (cutT ds lo hi)]) := rfl
end
end Gw
/-! Gw, part Lv: a dict's display whose values are new objects (own work). -/
namespace Gw
open PySem PySem.Spec PyProof.Rows L2 RZ
abbrev DPXs := DEnv → Store → (List (D × D) → Store → Prop) → Prop
def dqNil : DPXs := fun _ μ Q => Q [] μ
def dqCons (p : DP) (q : DX) (r : DPXs) : DPXs := fun env μ Q => p env μ fun d => q env μ fun e μ1 => r env μ1 fun ps μ2 => Q ((d, e) :: ps) μ2
/-- the values may be new objects -/
def dispK (n : Nat) (Q : D → Store → Prop) (ps : List (D × D)) (μ' : Store) : Prop := ∃ kvs : List (Key × D), ps = kvs.map (fun kv => (kD kv.1, kv.2)) ∧ kvs.length ≤ 15 ∧ μ'[n]? = some (.dic []) ∧ Q (.loc n) (μ'.set n (.dic (mergeD [] kvs)))
def xDispX (p : DPXs) : DX := fun env μ Q => p env (μ ++ [.dic []]) (dispK μ.length Q)
section
variable {X : Cx} {pos : Pos} {k v : Expr} {ks : List (Option Expr)} {vs : List Expr} {p : DP} {q : DX} {r : DPXs}
theorem r_xDispX {env : DEnv} {μ : Store} {Q : D → Store → Prop} : xDispX r env μ Q = r env (μ ++ [.dic []]) (dispK μ.length Q) := rfl
theorem r_dqNil {env : DEnv} {μ : Store} {Q : List (D × D) → Store → Prop} : dqNil env μ Q = Q [] μ := rfl
theorem r_dqCons {env : DEnv} {μ : Store} {Q : List (D × D) → Store → Prop} : dqCons p q r env μ Q = p env μ fun d => q env μ fun e μ1 => r env μ1 fun ps μ2 => Q ((d, e) :: ps) μ2 := rfl
end
end Gw
/-! Gw, part Lw: how often a text has a sign (own work). -/
namespace Gw
open PySem PySem.Spec PyProof.Rows L2 RZ
def wCnt (_ : Store) (a : Str) (ds : List D) (Q : D → Prop) : Prop := one ds fun d => strK d fun b => Q (.t (.int (Txt.count a b)))
section
variable {μ : Store} {a b : Str} {Q : D → Prop}
theorem r_wCnt : wCnt μ a [.t (.str b)] Q ↔ Q (.t (.int (Txt.count a b))) := ⟨fun ⟨_, e, q⟩ => by cases e; exact q, fun q => ⟨b, rfl, q⟩⟩
end
end Gw
/-! Gw, part Lx: what is raised within a comprehension goes out of it (own work). -/
/-! Gw, part Ly: comprehensions whose element may raise (own work). -/
/-! Gw, part Lz: .. over the store (own work). -/
namespace Gw
open PySem PySem.Spec PyProof.Rows L2 RZ
def lcE (kp : Store → Prop) (g : DG) (t : DTX) (e : DXE) (env : DEnv) (P : List D → Store → Prop) (Z : XD → Store → Prop) : List D → List D → Store → Prop
  | [], acc, μ => kp μ ∧ P acc μ
  | d :: r, acc, μ => kp μ ∧ g d env fun env' => t env' μ fun b μ1 => if b = true then e env' μ1 (fun y μ2 => lcE kp g t e env P Z r (acc ++ [y]) μ2) Z else lcE kp g t e env P Z r acc μ1
def xLcE (it : DIX) (g : DG) (t : DTX) (e : DXE) (vs : List Nat) : DXE := fun env μ Q Z => it env μ fun j μ1 => j.items.length ≤ sizeLine ∧ lcE j.keep g t e (wipeE env vs) (endL Q) Z j.items [] μ1
section
variable {X : Cx} {elt tg iter : Expr} {ifs : List Expr} {scope : Scope} {own : List (Str × Nat)} {pos : Pos} {it : DIX} {g : DG} {t : DTX} {e : DXE} {ts : List Nat}
/-! rows -/
theorem r_xLcE {vs : List Nat} {env : DEnv} {μ : Store} {Q : D → Store → Prop} {Z : XD → Store → Prop} : xLcE it g t e vs env μ Q Z = it env μ fun j μ1 => j.items.length ≤ sizeLine ∧ lcE j.keep g t e (wipeE env vs) (endL Q) Z j.items [] μ1 := rfl
end
end Gw
/-! names beyond the twentieth (own work). -/
namespace Gw
open PySem PySem.Spec PyProof.Rows L2 RZ
theorem r_v20 {o0 o1 o2 o3 o4 o5 o6 o7 o8 o9 o10 o11 o12 o13 o14 o15 o16 o17 o18 o19 : Option D} {d : D} {r : DEnv} {μ : Store} {Q : D → Prop} : dVar 20 (o0 :: o1 :: o2 :: o3 :: o4 :: o5 :: o6 :: o7 :: o8 :: o9 :: o10 :: o11 :: o12 :: o13 :: o14 :: o15 :: o16 :: o17 :: o18 :: o19 :: some d :: r) μ Q ↔ Q d := ⟨fun ⟨_, e, q⟩ => by cases e; exact q, fun q => ⟨d, rfl, q⟩⟩
theorem r_g20 {o0 o1 o2 o3 o4 o5 o6 o7 o8 o9 o10 o11 o12 o13 o14 o15 o16 o17 o18 o19 o20 : Option D} {d : D} {r : DEnv} {Q : DEnv → Prop} : gNm 20 d (o0 :: o1 :: o2 :: o3 :: o4 :: o5 :: o6 :: o7 :: o8 :: o9 :: o10 :: o11 :: o12 :: o13 :: o14 :: o15 :: o16 :: o17 :: o18 :: o19 :: o20 :: r) Q = Q (o0 :: o1 :: o2 :: o3 :: o4 :: o5 :: o6 :: o7 :: o8 :: o9 :: o10 :: o11 :: o12 :: o13 :: o14 :: o15 :: o16 :: o17 :: o18 :: o19 :: some d :: r) := by
  show gNm 20 d (o0 :: o1 :: o2 :: o3 :: o4 :: o5 :: o6 :: o7 :: o8 :: o9 :: o10 :: o11 :: o12 :: o13 :: o14 :: o15 :: o16 :: o17 :: o18 :: o19 :: o20 :: r) Q = _
  unfold gNm
  rfl
theorem r_v21 {o0 o1 o2 o3 o4 o5 o6 o7 o8 o9 o10 o11 o12 o13 o14 o15 o16 o17 o18 o19 o20 : Option D} {d : D} {r : DEnv} {μ : Store} {Q : D → Prop} : dVar 21 (o0 :: o1 :: o2 :: o3 :: o4 :: o5 :: o6 :: o7 :: o8 :: o9 :: o10 :: o11 :: o12 :: o13 :: o14 :: o15 :: o16 :: o17 :: o18 :: o19 :: o20 :: some d :: r) μ Q ↔ Q d := ⟨fun ⟨_, e, q⟩ => by cases e; exact q, fun q => ⟨d, rfl, q⟩⟩
theorem r_g21 {o0 o1 o2 o3 o4 o5 o6 o7 o8 o9 o10 o11 o12 o13 o14 o15 o16 o17 o18 o19 o20 o21 : Option D} {d : D} {r : DEnv} {Q : DEnv → Prop} : gNm 21 d (o0 :: o1 :: o2 :: o3 :: o4 :: o5 :: o6 :: o7 :: o8 :: o9 :: o10 :: o11 :: o12 :: o13 :: o14 :: o15 :: o16 :: o17 :: o18 :: o19 :: o20 :: o21 :: r) Q = Q (o0 :: o1 :: o2 :: o3 :: o4 :: o5 :: o6 :: o7 :: o8 :: o9 :: o10 :: o11 :: o12 :: o13 :: o14 :: o15 :: o16 :: o17 :: o18 :: o19 :: o20 :: some d :: r) := by
  show gNm 21 d (o0 :: o1 :: o2 :: o3 :: o4 :: o5 :: o6 :: o7 :: o8 :: o9 :: o10 :: o11 :: o12 :: o13 :: o14 :: o15 :: o16 :: o17 :: o18 :: o19 :: o20 :: o21 :: r) Q = _
  unfold gNm
  rfl
theorem r_v22 {o0 o1 o2 o3 o4 o5 o6 o7 o8 o9 o10 o11 o12 o13 o14 o15 o16 o17 o18 o19 o20 o21 : Option D} {d : D} {r : DEnv} {μ : Store} {Q : D → Prop} : dVar 22 (o0 :: o1 :: o2 :: o3 :: o4 :: o5 :: o6 :: o7 :: o8 :: o9 :: o10 :: o11 :: o12 :: o13 :: o14 :: o15 :: o16 :: o17 :: o18 :: o19 :: o20 :: o21 :: some d :: r) μ Q ↔ Q d := ⟨fun ⟨_, e, q⟩ => by cases e; exact q, fun q => ⟨d, rfl, q⟩⟩
theorem r_g22 {o0 o1 o2 o3 o4 o5 o6 o7 o8 o9 o10 o11 o12 o13 o14 o15 o16 o17 o18 o19 o20 o21 o22 : Option D} {d : D} {r : DEnv} {Q : DEnv → Prop} : gNm 22 d (o0 :: o1 :: o2 :: o3 :: o4 :: o5 :: o6 :: o7 :: o8 :: o9 :: o10 :: o11 :: o12 :: o13 :: o14 :: o15 :: o16 :: o17 :: o18 :: o19 :: o20 :: o21 :: o22 :: r) Q = Q (o0 :: o1 :: o2 :: o3 :: o4 :: o5 :: o6 :: o7 :: o8 :: o9 :: o10 :: o11 :: o12 :: o13 :: o14 :: o15 :: o16 :: o17 :: o18 :: o19 :: o20 :: o21 :: some d :: r) := by
  show gNm 22 d (o0 :: o1 :: o2 :: o3 :: o4 :: o5 :: o6 :: o7 :: o8 :: o9 :: o10 :: o11 :: o12 :: o13 :: o14 :: o15 :: o16 :: o17 :: o18 :: o19 :: o20 :: o21 :: o22 :: r) Q = _
  unfold gNm
  rfl
theorem r_v23 {o0 o1 o2 o3 o4 o5 o6 o7 o8 o9 o10 o11 o12 o13 o14 o15 o16 o17 o18 o19 o20 o21 o22 : Option D} {d : D} {r : DEnv} {μ : Store} {Q : D → Prop} : dVar 23 (o0 :: o1 :: o2 :: o3 :: o4 :: o5 :: o6 :: o7 :: o8 :: o9 :: o10 :: o11 :: o12 :: o13 :: o14 :: o15 :: o16 :: o17 :: o18 :: o19 :: o20 :: o21 :: o22 :: some d :: r) μ Q ↔ Q d := ⟨fun ⟨_, e, q⟩ => by cases e; exact q, fun q => ⟨d, rfl, q⟩⟩
theorem r_g23 {o0 o1 o2 o3 o4 o5 o6 o7 o8 o9 o10 o11 o12 o13 o14 o15 o16 o17 o18 o19 o20 o21 o22 o23 : Option D} {d : D} {r : DEnv} {Q : DEnv → Prop} : gNm 23 d (o0 :: o1 :: o2 :: o3 :: o4 :: o5 :: o6 :: o7 :: o8 :: o9 :: o10 :: o11 :: o12 :: o13 :: o14 :: o15 :: o16 :: o17 :: o18 :: o19 :: o20 :: o21 :: o22 :: o23 :: r) Q = Q (o0 :: o1 :: o2 :: o3 :: o4 :: o5 :: o6 :: o7 :: o8 :: o9 :: o10 :: o11 :: o12 :: o13 :: o14 :: o15 :: o16 :: o17 :: o18 :: o19 :: o20 :: o21 :: o22 :: some d :: r) := by
  show gNm 23 d (o0 :: o1 :: o2 :: o3 :: o4 :: o5 :: o6 :: o7 :: o8 :: o9 :: o10 :: o11 :: o12 :: o13 :: o14 :: o15 :: o16 :: o17 :: o18 :: o19 :: o20 :: o21 :: o22 :: o23 :: r) Q = _
  unfold gNm
  rfl
theorem r_v24 {o0 o1 o2 o3 o4 o5 o6 o7 o8 o9 o10 o11 o12 o13 o14 o15 o16 o17 o18 o19 o20 o21 o22 o23 : Option D} {d : D} {r : DEnv} {μ : Store} {Q : D → Prop} : dVar 24 (o0 :: o1 :: o2 :: o3 :: o4 :: o5 :: o6 :: o7 :: o8 :: o9 :: o10 :: o11 :: o12 :: o13 :: o14 :: o15 :: o16 :: o17 :: o18 :: o19 :: o20 :: o21 :: o22 :: o23 :: some d :: r) μ Q ↔ Q d := ⟨fun ⟨_, e, q⟩ => by cases e; exact q, fun q => ⟨d, rfl, q⟩⟩
theorem r_g24 {o0 o1 o2 o3 o4 o5 o6 o7 o8 o9 o10 o11 o12 o13 o14 o15 o16 o17 o18 o19 o20 o21 o22 o23 o24 : Option D} {d : D} {r : DEnv} {Q : DEnv → Prop} : gNm 24 d (o0 :: o1 :: o2 :: o3 :: o4 :: o5 :: o6 :: o7 :: o8 :: o9 :: o10 :: o11 :: o12 :: o13 :: o14 :: o15 :: o16 :: o17 :: o18 :: o19 :: o20 :: o21 :: o22 :: o23 :: o24 :: r) Q = Q (o0 :: o1 :: o2 :: o3 :: o4 :: o5 :: o6 :: o7 :: o8 :: o9 :: o10 :: o11 :: o12 :: o13 :: o14 :: o15 :: o16 :: o17 :: o18 :: o19 :: o20 :: o21 :: o22 :: o23 :: some d :: r) := by
  show gNm 24 d (o0 :: o1 :: o2 :: o3 :: o4 :: o5 :: o6 :: o7 :: o8 :: o9 :: o10 :: o11 :: o12 :: o13 :: o14 :: o15 :: o16 :: o17 :: o18 :: o19 :: o20 :: o21 :: o22 :: o23 :: o24 :: r) Q = _
  unfold gNm
  rfl
theorem r_v25 {o0 o1 o2 o3 o4 o5 o6 o7 o8 o9 o10 o11 o12 o13 o14 o15 o16 o17 o18 o19 o20 o21 o22 o23 o24 : Option D} {d : D} {r : DEnv} {μ : Store} {Q : D → Prop} : dVar 25 (o0 :: o1 :: o2 :: o3 :: o4 :: o5 :: o6 :: o7 :: o8 :: o9 :: o10 :: o11 :: o12 :: o13 :: o14 :: o15 :: o16 :: o17 :: o18 :: o19 :: o20 :: o21 :: o22 :: o23 :: o24 :: some d :: r) μ Q ↔ Q d := ⟨fun ⟨_, e, q⟩ => by cases e; exact q, fun q => ⟨d, rfl, q⟩⟩
theorem r_g25 {o0 o1 o2 o3 o4 o5 o6 o7 o8 o9 o10 o11 o12 o13 o14 o15 o16 o17 o18 o19 o20 o21 o22 o23 o24 o25 : Option D} {d : D} {r : DEnv} {Q : DEnv → Prop} : gNm 25 d (o0 :: o1 :: o2 :: o3 :: o4 :: o5 :: o6 :: o7 :: o8 :: o9 :: o10 :: o11 :: o12 :: o13 :: o14 :: o15 :: o16 :: o17 :: o18 :: o19 :: o20 :: o21 :: o22 :: o23 :: o24 :: o25 :: r) Q = Q (o0 :: o1 :: o2 :: o3 :: o4 :: o5 :: o6 :: o7 :: o8 :: o9 :: o10 :: o11 :: o12 :: o13 :: o14 :: o15 :: o16 :: o17 :: o18 :: o19 :: o20 :: o21 :: o22 :: o23 :: o24 :: some d :: r) := by
  show gNm 25 d (o0 :: o1 :: o2 :: o3 :: o4 :: o5 :: o6 :: o7 :: o8 :: o9 :: o10 :: o11 :: o12 :: o13 :: o14 :: o15 :: o16 :: o17 :: o18 :: o19 :: o20 :: o21 :: o22 :: o23 :: o24 :: o25 :: r) Q = _
  unfold gNm
  rfl
theorem r_v26 {o0 o1 o2 o3 o4 o5 o6 o7 o8 o9 o10 o11 o12 o13 o14 o15 o16 o17 o18 o19 o20 o21 o22 o23 o24 o25 : Option D} {d : D} {r : DEnv} {μ : Store} {Q : D → Prop} : dVar 26 (o0 :: o1 :: o2 :: o3 :: o4 :: o5 :: o6 :: o7 :: o8 :: o9 :: o10 :: o11 :: o12 :: o13 :: o14 :: o15 :: o16 :: o17 :: o18 :: o19 :: o20 :: o21 :: o22 :: o23 :: o24 :: o25 :: some d :: r) μ Q ↔ Q d := ⟨fun ⟨_, e, q⟩ => by cases e; exact q, fun q => ⟨d, rfl, q⟩⟩
theorem r_g26 {o0 o1 o2 o3 o4 o5 o6 o7 o8 o9 o10 o11 o12 o13 o14 o15 o16 o17 o18 o19 o20 o21 o22 o23 o24 o25 o26 : Option D} {d : D} {r : DEnv} {Q : DEnv → Prop} : gNm 26 d (o0 :: o1 :: o2 :: o3 :: o4 :: o5 :: o6 :: o7 :: o8 :: o9 :: o10 :: o11 :: o12 :: o13 :: o14 :: o15 :: o16 :: o17 :: o18 :: o19 :: o20 :: o21 :: o22 :: o23 :: o24 :: o25 :: o26 :: r) Q = Q (o0 :: o1 :: o2 :: o3 :: o4 :: o5 :: o6 :: o7 :: o8 :: o9 :: o10 :: o11 :: o12 :: o13 :: o14 :: o15 :: o16 :: o17 :: o18 :: o19 :: o20 :: o21 :: o22 :: o23 :: o24 :: o25 :: some d :: r) := by
  show gNm 26 d (o0 :: o1 :: o2 :: o3 :: o4 :: o5 :: o6 :: o7 :: o8 :: o9 :: o10 :: o11 :: o12 :: o13 :: o14 :: o15 :: o16 :: o17 :: o18 :: o19 :: o20 :: o21 :: o22 :: o23 :: o24 :: o25 :: o26 :: r) Q = _
  unfold gNm
  rfl
theorem r_v27 {o0 o1 o2 o3 o4 o5 o6 o7 o8 o9 o10 o11 o12 o13 o14 o15 o16 o17 o18 o19 o20 o21 o22 o23 o24 o25 o26 : Option D} {d : D} {r : DEnv} {μ : Store} {Q : D → Prop} : dVar 27 (o0 :: o1 :: o2 :: o3 :: o4 :: o5 :: o6 :: o7 :: o8 :: o9 :: o10 :: o11 :: o12 :: o13 :: o14 :: o15 :: o16 :: o17 :: o18 :: o19 :: o20 :: o21 :: o22 :: o23 :: o24 :: o25 :: o26 :: some d :: r) μ Q ↔ Q d := ⟨fun ⟨_, e, q⟩ => by cases e; exact q, fun q => ⟨d, rfl, q⟩⟩
theorem r_g27 {o0 o1 o2 o3 o4 o5 o6 o7 o8 o9 o10 o11 o12 o13 o14 o15 o16 o17 o18 o19 o20 o21 o22 o23 o24 o25 o26 o27 : Option D} {d : D} {r : DEnv} {Q : DEnv → Prop} : gNm 27 d (o0 :: o1 :: o2 :: o3 :: o4 :: o5 :: o6 :: o7 :: o8 :: o9 :: o10 :: o11 :: o12 :: o13 :: o14 :: o15 :: o16 :: o17 :: o18 :: o19 :: o20 :: o21 :: o22 :: o23 :: o24 :: o25 :: o26 :: o27 :: r) Q = Q (o0 :: o1 :: o2 :: o3 :: o4 :: o5 :: o6 :: o7 :: o8 :: o9 :: o10 :: o11 :: o12 :: o13 :: o14 :: o15 :: o16 :: o17 :: o18 :: o19 :: o20 :: o21 :: o22 :: o23 :: o24 :: o25 :: o26 :: some d :: r) := by
  show gNm 27 d (o0 :: o1 :: o2 :: o3 :: o4 :: o5 :: o6 :: o7 :: o8 :: o9 :: o10 :: o11 :: o12 :: o13 :: o14 :: o15 :: o16 :: o17 :: o18 :: o19 :: o20 :: o21 :: o22 :: o23 :: o24 :: o25 :: o26 :: o27 :: r) Q = _
  unfold gNm
  rfl
theorem r_v28 {o0 o1 o2 o3 o4 o5 o6 o7 o8 o9 o10 o11 o12 o13 o14 o15 o16 o17 o18 o19 o20 o21 o22 o23 o24 o25 o26 o27 : Option D} {d : D} {r : DEnv} {μ : Store} {Q : D → Prop} : dVar 28 (o0 :: o1 :: o2 :: o3 :: o4 :: o5 :: o6 :: o7 :: o8 :: o9 :: o10 :: o11 :: o12 :: o13 :: o14 :: o15 :: o16 :: o17 :: o18 :: o19 :: o20 :: o21 :: o22 :: o23 :: o24 :: o25 :: o26 :: o27 :: some d :: r) μ Q ↔ Q d := ⟨fun ⟨_, e, q⟩ => by cases e; exact q, fun q => ⟨d, rfl, q⟩⟩
theorem r_g28 {o0 o1 o2 o3 o4 o5 o6 o7 o8 o9 o10 o11 o12 o13 o14 o15 o16 o17 o18 o19 o20 o21 o22 o23 o24 o25 o26 o27 o28 : Option D} {d : D} {r : DEnv} {Q : DEnv → Prop} : gNm 28 d (o0 :: o1 :: o2 :: o3 :: o4 :: o5 :: o6 :: o7 :: o8 :: o9 :: o10 :: o11 :: o12 :: o13 :: o14 :: o15 :: o16 :: o17 :: o18 :: o19 :: o20 :: o21 :: o22 :: o23 :: o24 :: o25 :: o26 :: o27 :: o28 :: r) Q = Q (o0 :: o1 :: o2 :: o3 :: o4 :: o5 :: o6 :: o7 :: o8 :: o9 :: o10 :: o11 :: o12 :: o13 :: o14 :: o15 :: o16 :: o17 :: o18 :: o19 :: o20 :: o21 :: o22 :: o23 :: o24 :: o25 :: o26 :: o27 :: some d :: r) := by
  show gNm 28 d (o0 :: o1 :: o2 :: o3 :: o4 :: o5 :: o6 :: o7 :: o8 :: o9 :: o10 :: o11 :: o12 :: o13 :: o14 :: o15 :: o16 :: o17 :: o18 :: o19 :: o20 :: o21 :: o22 :: o23 :: o24 :: o25 :: o26 :: o27 :: o28 :: r) Q = _
  unfold gNm
  rfl
theorem r_v29 {o0 o1 o2 o3 o4 o5 o6 o7 o8 o9 o10 o11 o12 o13 o14 o15 o16 o17 o18 o19 o20 o21 o22 o23 o24 o25 o26 o27 o28 : Option D} {d : D} {r : DEnv} {μ : Store} {Q : D → Prop} : dVar 29 (o0 :: o1 :: o2 :: o3 :: o4 :: o5 :: o6 :: o7 :: o8 :: o9 :: o10 :: o11 :: o12 :: o13 :: o14 :: o15 :: o16 :: o17 :: o18 :: o19 :: o20 :: o21 :: o22 :: o23 :: o24 :: o25 :: o26 :: o27 :: o28 :: some d :: r) μ Q ↔ Q d := ⟨fun ⟨_, e, q⟩ => by cases e; exact q, fun q => ⟨d, rfl, q⟩⟩
theorem r_g29 {o0 o1 o2 o3 o4 o5 o6 o7 o8 o9 o10 o11 o12 o13 o14 o15 o16 o17 o18 o19 o20 o21 o22 o23 o24 o25 o26 o27 o28 o29 : Option D} {d : D} {r : DEnv} {Q : DEnv → Prop} : gNm 29 d (o0 :: o1 :: o2 :: o3 :: o4 :: o5 :: o6 :: o7 :: o8 :: o9 :: o10 :: o11 :: o12 :: o13 :: o14 :: o15 :: o16 :: o17 :: o18 :: o19 :: o20 :: o21 :: o22 :: o23 :: o24 :: o25 :: o26 :: o27 :: o28 :: o29 :: r) Q = Q (o0 :: o1 :: o2 :: o3 :: o4 :: o5 :: o6 :: o7 :: o8 :: o9 :: o10 :: o11 :: o12 :: o13 :: o14 :: o15 :: o16 :: o17 :: o18 :: o19 :: o20 :: o21 :: o22 :: o23 :: o24 :: o25 :: o26 :: o27 :: o28 :: some d :: r) := by
  show gNm 29 d (o0 :: o1 :: o2 :: o3 :: o4 :: o5 :: o6 :: o7 :: o8 :: o9 :: o10 :: o11 :: o12 :: o13 :: o14 :: o15 :: o16 :: o17 :: o18 :: o19 :: o20 :: o21 :: o22 :: o23 :: o24 :: o25 :: o26 :: o27 :: o28 :: o29 :: r) Q = _
  unfold gNm
  rfl
theorem r_v30 {o0 o1 o2 o3 o4 o5 o6 o7 o8 o9 o10 o11 o12 o13 o14 o15 o16 o17 o18 o19 o20 o21 o22 o23 o24 o25 o26 o27 o28 o29 : Option D} {d : D} {r : DEnv} {μ : Store} {Q : D → Prop} : dVar 30 (o0 :: o1 :: o2 :: o3 :: o4 :: o5 :: o6 :: o7 :: o8 :: o9 :: o10 :: o11 :: o12 :: o13 :: o14 :: o15 :: o16 :: o17 :: o18 :: o19 :: o20 :: o21 :: o22 :: o23 :: o24 :: o25 :: o26 :: o27 :: o28 :: o29 :: some d :: r) μ Q ↔ Q d := ⟨fun ⟨_, e, q⟩ => by cases e; exact q, fun q => ⟨d, rfl, q⟩⟩
theorem r_g30 {o0 o1 o2 o3 o4 o5 o6 o7 o8 o9 o10 o11 o12 o13 o14 o15 o16 o17 o18 o19 o20 o21 o22 o23 o24 o25 o26 o27 o28 o29 o30 : Option D} {d : D} {r : DEnv} {Q : DEnv → Prop} : gNm 30 d (o0 :: o1 :: o2 :: o3 :: o4 :: o5 :: o6 :: o7 :: o8 :: o9 :: o10 :: o11 :: o12 :: o13 :: o14 :: o15 :: o16 :: o17 :: o18 :: o19 :: o20 :: o21 :: o22 :: o23 :: o24 :: o25 :: o26 :: o27 :: o28 :: o29 :: o30 :: r) Q = Q (o0 :: o1 :: o2 :: o3 :: o4 :: o5 :: o6 :: o7 :: o8 :: o9 :: o10 :: o11 :: o12 :: o13 :: o14 :: o15 :: o16 :: o17 :: o18 :: o19 :: o20 :: o21 :: o22 :: o23 :: o24 :: o25 :: o26 :: o27 :: o28 :: o29 :: some d :: r) := by
  show gNm 30 d (o0 :: o1 :: o2 :: o3 :: o4 :: o5 :: o6 :: o7 :: o8 :: o9 :: o10 :: o11 :: o12 :: o13 :: o14 :: o15 :: o16 :: o17 :: o18 :: o19 :: o20 :: o21 :: o22 :: o23 :: o24 :: o25 :: o26 :: o27 :: o28 :: o29 :: o30 :: r) Q = _
  unfold gNm
  rfl
theorem r_v31 {o0 o1 o2 o3 o4 o5 o6 o7 o8 o9 o10 o11 o12 o13 o14 o15 o16 o17 o18 o19 o20 o21 o22 o23 o24 o25 o26 o27 o28 o29 o30 : Option D} {d : D} {r : DEnv} {μ : Store} {Q : D → Prop} : dVar 31 (o0 :: o1 :: o2 :: o3 :: o4 :: o5 :: o6 :: o7 :: o8 :: o9 :: o10 :: o11 :: o12 :: o13 :: o14 :: o15 :: o16 :: o17 :: o18 :: o19 :: o20 :: o21 :: o22 :: o23 :: o24 :: o25 :: o26 :: o27 :: o28 :: o29 :: o30 :: some d :: r) μ Q ↔ Q d := ⟨fun ⟨_, e, q⟩ => by cases e; exact q, fun q => ⟨d, rfl, q⟩⟩
theorem r_g31 {o0 o1 o2 o3 o4 o5 o6 o7 o8 o9 o10 o11 o12 o13 o14 o15 o16 o17 o18 o19 o20 o21 o22 o23 o24 o25 o26 o27 o28 o29 o30 o31 : Option D} {d : D} {r : DEnv} {Q : DEnv → Prop} : gNm 31 d (o0 :: o1 :: o2 :: o3 :: o4 :: o5 :: o6 :: o7 :: o8 :: o9 :: o10 :: o11 :: o12 :: o13 :: o14 :: o15 :: o16 :: o17 :: o18 :: o19 :: o20 :: o21 :: o22 :: o23 :: o24 :: o25 :: o26 :: o27 :: o28 :: o29 :: o30 :: o31 :: r) Q = Q (o0 :: o1 :: o2 :: o3 :: o4 :: o5 :: o6 :: o7 :: o8 :: o9 :: o10 :: o11 :: o12 :: o13 :: o14 :: o15 :: o16 :: o17 :: o18 :: o19 :: o20 :: o21 :: o22 :: o23 :: o24 :: o25 :: o26 :: o27 :: o28 :: o29 :: o30 :: some d :: r) := by
  show gNm 31 d (o0 :: o1 :: o2 :: o3 :: o4 :: o5 :: o6 :: o7 :: o8 :: o9 :: o10 :: o11 :: o12 :: o13 :: o14 :: o15 :: o16 :: o17 :: o18 :: o19 :: o20 :: o21 :: o22 :: o23 :: o24 :: o25 :: o26 :: o27 :: o28 :: o29 :: o30 :: o31 :: r) Q = _
  unfold gNm
  rfl
end Gw
/-! str(x), x a number or None (own work). -/
/-! Gw, part Mc: s.replace(..) behind an if that compares with a text: a token is out there (own work). -/
namespace Gw
open PySem PySem.Spec PyProof.Rows L2 RZ
theorem PSsT.imp {X : Cx} {e : List Stmt} {t t' : TS} (h : L2.PSsT X e t) (k : ∀ E σ H, t' E σ H → t E σ H) : L2.PSsT X e t' := fun pins s σ H E h0 I q => h pins s σ H E h0 I (k E σ H q)
theorem PST.imp {X : Cx} {e : Stmt} {t t' : TS} (h : L2.PST X e t) (k : ∀ E σ H, t' E σ H → t E σ H) : L2.PST X e t' := fun pins s σ H E h0 I q => h pins s σ H E h0 I (k E σ H q)
theorem PET.imp {X : Cx} {e : Expr} {t t' : TE} (h : L2.PET X e t) (k : ∀ σ H Q, t' σ H Q → t σ H Q) : L2.PET X e t' := fun pins s σ H Q h0 I q => h pins s σ H Q h0 I (k σ H Q q)
def dRepl (p : DP) (y z : Str) : DP := fun env μ Q => p env μ fun d => strK d fun x => x.length + (x.length + 1) * z.length ≤ 16777216 ∧ Q (.t (.str (Txt.replace x y z)))
end Gw
/-! Gw, part Md: {..}.get(k, z) of a display; isinstance(e, (A, B, ..)) of an exception (own work). -/
namespace Gw
open PySem PySem.Spec PyProof.Rows L2 RZ
def xGet2X (p : DX) (q r : DP) : DX := fun env μ Q => p env μ fun d μ1 => atDic μ1 d fun kvs => q env μ1 fun e => r env μ1 fun z => getK kvs e z fun y => Q y μ1
end Gw
/-! Gw, part Me: tests l == [], a + b == [] of lists in the store (own work). -/
namespace Gw
open PySem PySem.Spec PyProof.Rows L2 RZ
section
variable {X : Cx} {a b : Expr} {p q : DP} {pos pos2 pos3 : Pos}
theorem tx_neNil (hu : X.A.units < cLine) (ha : EX X a p) (hb : EX X b q) (hm : behindInMarks .NotEq b = false := by rfl) : TX X (.Compare a [.NotEq] [b] pos) (dTest (d2 p q (nilW not))) := tx_cmp (op_neNil hu) (nilW_ok not) ha hb hm
def dCatNil (p q : DP) : DP := fun env μ Q => p env μ fun d => q env μ fun e => ∃ n m ds es, d = .loc n ∧ e = .loc m ∧ μ[n]? = some (.lst ds) ∧ μ[m]? = some (.lst es) ∧ ds.length + es.length ≤ sizeLine ∧ Q (.t (.bl (ds.isEmpty && es.isEmpty)))
end
end Gw
/-! Gw, part Mf: l[a:b] = m, of lists (own work). -/
/-! Gw, part Mg: l[a:b] = m as a statement (own work). -/
namespace Gw
open PySem PySem.Spec PyProof.Rows L2 RZ
def bdS (n : Nat) (p q : Int) : Nat := (sliceBounds (some p) (some q) none n).1.toNat
def bdE (n : Nat) (p q : Int) : Nat := (max (sliceBounds (some p) (some q) none n).1 (sliceBounds (some p) (some q) none n).2.1).toNat
def runL {α : Type} (xs ys : List α) (p q : Int) : List α := xs.take (bdS xs.length p q) ++ ys ++ xs.drop (bdE xs.length p q)
/-- a slice object -/
def SlO (a : Addr) (p q : Int) : HO := .ext fun h => ∃ t u : Tok, h.IsSliceOf a (.int p t) (.int q u) .none
def tSlice (tl tu : TE) : TE := fun σ H Q => tl σ H fun x H1 => tu σ H1 fun y H2 => ∃ p q, x = .int p ∧ y = .int q ∧ ∀ a, H2 a = none → Q (.ref a) (upd H2 a (SlO a p q))
section
variable {X : Cx} {l u : Expr} {tl tu : TE} {p : Pos}
theorem pe_slice (hl : PE X l tl) (hu : PE X u tu) : PE X (.Slice (some l) (some u) none p) (tSlice tl tu) := by
  refine ⟨fun pins s σ H Q I h => ?_⟩
  refine wpAny_Slice ?_
  rw [evalPart_some, evalPart_some, evalPart_none]
  refine thn (hl.run pins s σ H _ I h) fun v s1 ⟨x, H1, I1, r1, q1⟩ => thn (hu.run pins s1 σ H1 _ I1 q1) fun w s2 ⟨y, H2, I2, r2, a, b, e1, e2, q2⟩ => wpAny_pure ?_
  subst e1 e2
  obtain ⟨t1, rfl⟩ := r1
  obtain ⟨t2, rfl⟩ := r2
  have hf : H2 s2.heap.objs.size = none := I2.hok.fresh (Nat.le_refl _)
  refine ⟨.ref s2.heap.objs.size, upd H2 s2.heap.objs.size (SlO s2.heap.objs.size a b), I2.laid (t' := s2.toks) (fun b u e => Heap.get?_push_of_some _ e) (Nat.le_refl _) ?_, rfl, q2 _ hf⟩
  refine ⟨⟨t1, t2, Heap.IsSliceOf.new _ _ _ _⟩, ⟨_, Heap.get?_push_size _ rfl⟩, fun h1 h2 ⟨t, u, o, e1, e2, e3⟩ k => ⟨t, u, o, k o e1, e2, e3⟩⟩
end
/-- o[a:b] = v, v a new list of data -/
def setSlW (μ : Store) (o i j x : D) (Q : Store → Prop) : Prop := ∃ n ds p q es, o = .loc n ∧ μ[n]? = some (.lst ds) ∧ i = .t (.int p) ∧ j = .t (.int q) ∧ x = .t (.lst es) ∧ ds.length + es.length ≤ sizeLine ∧ Q (μ.set n (.lst (runL ds (es.map D.t) p q)))
def sSetSl (v : DX) (o i j : DP) : DS := fun env μ P => v env μ fun x μ' => o env μ' fun d => i env μ' fun e => j env μ' fun f => setSlW μ' d e f x fun μ2 => P.nx env μ2
end Gw
/-! Gw, part Mh: a, b, c = x, y, z; t.split(s) as a list of the store (own work). -/
namespace Gw
open PySem PySem.Spec PyProof.Rows L2 RZ
def sPar3 (i j l : Nat) (a : DA) : DS := fun env μ P => a env μ fun ds => ∃ d e f, ds = [d, e, f] ∧ P.nx (((env.set i (some d)).set j (some e)).set l (some f)) μ
/-- t.split(s), a list of the store -/
def xSplL (p q : DP) : DX := fun env μ Q => p env μ fun d => strK d fun a => q env μ fun e => strK e fun b => (b.length == 0) = false ∧ a.length + 2 ≤ sizeLine ∧ Q (.loc μ.length) (μ ++ [.lst (((Txt.split a b).map T.str).map D.t)])
end Gw
/-! Gw, part Mi: texts by <; rows of the newest words (own work). -/
namespace Gw
open PySem PySem.Spec PyProof.Rows L2 RZ
def ltS (_ : Store) (d e : D) (Q : D → Prop) : Prop := ∃ a b, d = .t (.str a) ∧ e = .t (.str b) ∧ Q (.t (.bl (decide (a.cps.toList < b.cps.toList))))
section
variable {env : DEnv} {μ : Store}
theorem r_ltS {a b : Str} {Q : D → Prop} : ltS μ (.t (.str a)) (.t (.str b)) Q ↔ Q (.t (.bl (decide (a.cps.toList < b.cps.toList)))) := ⟨fun ⟨_, _, e1, e2, q⟩ => by cases e1; cases e2; exact q, fun q => ⟨a, b, rfl, rfl, q⟩⟩
theorem r_dRepl {p : DP} {y z : Str} {Q : D → Prop} : dRepl p y z env μ Q = p env μ fun d => strK d fun x => x.length + (x.length + 1) * z.length ≤ 16777216 ∧ Q (.t (.str (Txt.replace x y z))) := rfl
theorem r_xGet2X {p : DX} {q r : DP} {Q : D → Store → Prop} : xGet2X p q r env μ Q = p env μ fun d μ1 => atDic μ1 d fun kvs => q env μ1 fun e => r env μ1 fun z => getK kvs e z fun y => Q y μ1 := rfl
theorem r_dCatNil {p q : DP} {Q : D → Prop} : dCatNil p q env μ Q = p env μ fun d => q env μ fun e => ∃ n m ds es, d = .loc n ∧ e = .loc m ∧ μ[n]? = some (.lst ds) ∧ μ[m]? = some (.lst es) ∧ ds.length + es.length ≤ sizeLine ∧ Q (.t (.bl (ds.isEmpty && es.isEmpty))) := rfl
theorem r_xSplL {p q : DP} {Q : D → Store → Prop} : xSplL p q env μ Q = p env μ fun d => strK d fun a => q env μ fun e => strK e fun b => (b.length == 0) = false ∧ a.length + 2 ≤ sizeLine ∧ Q (.loc μ.length) (μ ++ [.lst (((Txt.split a b).map T.str).map D.t)]) := rfl
variable {nx bk ct : DEnv → Store → Prop} {xc : XD → DEnv → Store → Prop} {rt : D → Store → Prop}
theorem r_sSetSl {v : DX} {o i j : DP} : sSetSl v o i j env μ ⟨nx, rt, bk, ct, xc⟩ = v env μ fun x μ' => o env μ' fun d => i env μ' fun e => j env μ' fun f => setSlW μ' d e f x fun μ2 => nx env μ2 := rfl
theorem r_sPar3 {i j l : Nat} {a : DA} : sPar3 i j l a env μ ⟨nx, rt, bk, ct, xc⟩ = a env μ fun ds => ∃ d e f, ds = [d, e, f] ∧ nx (((env.set i (some d)).set j (some e)).set l (some f)) μ := rfl
end
end Gw
/-! Gw, part Mj: sorted(set(xs)) of any number of ints that a set may be made of at once (own work). -/
namespace Gw
open PySem PySem.Spec PyProof.Rows L2 RZ SrtO Srt
section
variable {X : Cx}
/-- sorted(set(xs)) -/
def fSoSetN (p : DP) : DF := fun env μ Q => p env μ fun d => srcL μ d fun xs _ => ∃ ns : List Int, xs = ns.map T.int ∧ ns.length ≤ 4090 ∧ ∀ ms : List Int, ms.Pairwise (· < ·) → (∀ k, k ∈ ms ↔ k ∈ ns) → Q (ms.map T.int)
variable {e : Expr} {p : DP} {p1 p2 pos pos2 : Pos}
theorem r_fSoSetN {env : DEnv} {μ : Store} {Q : List T → Prop} : fSoSetN p env μ Q = p env μ fun d => srcL μ d fun xs _ => ∃ ns : List Int, xs = ns.map T.int ∧ ns.length ≤ 4090 ∧ ∀ ms : List Int, ms.Pairwise (· < ·) → (∀ k, k ∈ ms ↔ k ∈ ns) → Q (ms.map T.int) := rfl
end
end Gw
/-! Gw, part Mk: t or x, t a tuple or None (own work). -/
namespace Gw
open PySem PySem.Spec PyProof.Rows L2 RZ
def dOrT (p q : DP) : DP := fun env μ Q => p env μ fun d => match d with
  | .t (.tup (x :: xs)) => Q (.t (.tup (x :: xs)))
  | .t .non => q env μ Q
  | _ => False
def orTK (d : D) (q : (D → Prop) → Prop) (Q : D → Prop) : Prop := match d with
  | .t (.tup (x :: xs)) => Q (.t (.tup (x :: xs)))
  | .t .non => q Q
  | _ => False
theorem r_dOrT {p q : DP} {env : DEnv} {μ : Store} {Q : D → Prop} : dOrT p q env μ Q = p env μ fun d => orTK d (q env μ) Q := rfl
end Gw
/-! GwNg: what the printing of workers needs (own work). -/
namespace Gw
open PySem PySem.Spec PyProof.Rows L2
open NdefX (NF Caps)
/-- what a worker captured, as the def that makes it has it -/
theorem cap_of {X : Cx} {scope : Scope} {fr : List Str} {js : List Nat} (ok : X.Ok) (hfree : ∀ y ∈ scope.names, y.2 = .free → X.env.scope.names.lookup y.1 = some .cell ∨ X.env.scope.names.lookup y.1 = some .free) (hfr : ∀ y ∈ fr, (y, NameKind.free) ∈ scope.names) (he : freeK scope.names [] = fr)
    (hjs : js.map (fun j => X.N[j]?) = fr.map some) : Caps X (cloFrom X.env.cells scope.names []) ((cloFrom X.env.cells scope.names []).map (·.1)) js := by
  rw [freeK_eq]
  show Caps X _ (freeK scope.names []) js
  rw [he]
  exact Caps.made ok hfree hfr hjs
section
variable {P : Program} {w : World} {K : PySem.W.Frag} {mg : Str → Option Value} {base : Heap}
/-- one of several workers -/
theorem wk_or {k : Nat} {f : Addr} {nf : NF} {c c1 c2 : WFn} (h1 : ∀ caps ds μ Q, c caps ds μ Q → c1 caps ds μ Q ∧ WkOk P w K mg base k f nf (spGW K c1) ∨ c2 caps ds μ Q ∧ WkOk P w K mg base k f nf (spGW K c2)) : WkOk P w K mg base k f nf (spGW K c) :=
  ⟨fun B out t G uu xs ws R Z z e0 hf hc ca r ⟨G', B', ρ0, μ, ρ, ds, caps, cvs, Pp, a1, a2, a3, a4, a5, a6⟩ => by
    rcases h1 _ _ _ _ a5 with ⟨q, W⟩ | ⟨q, W⟩
    · exact W.run B out t G uu xs ws R Z z e0 hf hc ca r ⟨G', B', ρ0, μ, ρ, ds, caps, cvs, Pp, a1, a2, a3, a4, q, a6⟩
    · exact W.run B out t G uu xs ws R Z z e0 hf hc ca r ⟨G', B', ρ0, μ, ρ, ds, caps, cvs, Pp, a1, a2, a3, a4, q, a6⟩⟩
theorem fn_GLC {x qual : Str} {st : Stmt} {f : Addr} {fd : FuncData} {N ps : List Str} {k : Nat} {s : Addr → DS} {cv : Value} (F : Fun K x qual st f fd) (hc : fd.code = cv) (S : FnScope N ps (defScope st))
    (hb : ∀ (A : Around) (outer : List Env) (sh : Shared) (H : Hp) (E : XK), Room k (A.deeper (envOfC qual (defScope st) sh.heap.objs.size f cv)) → SsX (cxOf CX0 P w K mg base N qual (defScope st) f cv A outer sh H E).nox (defBody st) (s sh.heap.objs.size)) :
    FnOk P w K mg base CX0 (k + 1) f fd ps (spG K (bodyGL ps.length N.length s)) := by
  refine fun_okC F hc S (fun vs H Q E ⟨G, B, ρ0, μ, ρ, ds, P, _, r, hl, _⟩ => (Paired.len r).symm.trans hl.1) fun A outer sh H vs Q E hr ⟨G, B, ρ0, μ, ρ, ds, P, sh0, r, hy, q⟩ => ⟨_, (hb A outer sh H E hr).nox, ?_⟩
  refine ⟨G, B, ρ0, startE N.length ds, μ, ρ, _, entryG sh0 r, hy.2 _, ?_, ?_, fun _ _ _ _ _ h => h.elim, fun _ _ _ _ _ h => h.elim, xnx_no⟩
  · intro env' μ' ρ' σ' H' h s' p' e'
    exact gc_ok (d := .t .non) (v := .non) sh0 s'.sh p' e' rfl h fun d μ2 ρ2 hq s2 p2 e2 r2 => q d _ μ2 ρ2 H' hq s2 p2 e2 r2
  · intro d v μ' ρ' H' h s' p' e' r'
    exact gc_ok sh0 s' p' e' r' h fun d μ2 ρ2 hq s2 p2 e2 r2 => q d _ μ2 ρ2 H' hq s2 p2 e2 r2
end
end Gw
/-! GwNh: rows of the workers (own work). -/
namespace Gw
open PySem PySem.Spec PyProof.Rows L2 RZ
open NdefX (NF)
section
variable {env : DEnv} {μ : Store}
theorem r_xCallW {c : NF → WFn} {i : Nat} {a : DAX} {Q : D → Store → Prop} : xCallW c i a env μ Q = ∃ n nf0 caps0, env[i]? = some (some (.loc n)) ∧ μ[n]? = some (.fn nf0 caps0) ∧ a env μ fun ds μ1 => ∃ nf caps, μ1[n]? = some (.fn nf (some caps)) ∧ (∀ i o, μ1[i]? = some o → i ≠ n → clean o) ∧
  c nf caps ds (μ1.set n (.fn nf none)) fun d μ2 => μ2[n]? = some (.fn nf none) ∧ Q d (μ2.set n (.fn nf (some caps))) := rfl
theorem r_xCallO {W : Addr → NF} {js : List Nat} {Φ : DFn} {a : DAX} {Q : D → Store → Prop} : xCallO W js Φ a env μ Q = a env μ fun ds μ1 => ∃ n c caps, μ1[n]? = some (.fn (W c) none) ∧ js.map (fun j => env[j]?) = caps.map (fun d => some (some d)) ∧ (∀ (i : Nat) (o : MO), μ1[i]? = some o → clean o) ∧
  Φ ds (μ1.set n (.fn (W c) (some caps))) fun d μ2 => μ2[n]? = some (.fn (W c) (some caps)) ∧ (∀ (i : Nat) (o : MO), μ2[i]? = some o → i ≠ n → clean o) ∧ Q d (μ2.set n (.fn (W c) none)) := rfl
theorem r_sNdef {d : He.Defn} {nm : Nat → Nat → Str} {i : Nat} {W : Addr → NF} {nx bk ct : DEnv → Store → Prop} {xc : XD → DEnv → Store → Prop} {rt : D → Store → Prop} : sNdef d nm i W env μ ⟨nx, rt, bk, ct, xc⟩ = ((∃ j : Nat, μ[j]? = some (.tab d nm)) ∧ ∀ c, nx (env.set i (some (.loc μ.length))) (μ ++ [.fn (W c) none])) := rfl
theorem r_dTupRg {p : DP} {Q : D → Prop} : dTupRg p env μ Q = p env μ fun d => ∃ n : Int, d = .t (.int n) ∧ n ≤ 16777216 ∧ 0 ≤ n ∧ Q (.t (.tup (rgT n.toNat))) := rfl
def rg3K (d d' d'' : D) (Q : DIt → Prop) : Prop := ∃ (i j c : Int) (n : Nat), d = .t (.int i) ∧ d' = .t (.int j) ∧ d'' = .t (.int c) ∧ RgC i j c n ∧ Q ⟨(List.range n).map fun (k : Nat) => D.t (.int (i + (k : Int) * c)), fun _ => True⟩
theorem r_iR3 {p q r : DP} {Q : DIt → Prop} : iR3 p q r env μ Q = p env μ fun d => q env μ fun d' => r env μ fun d'' => rg3K d d' d'' Q := rfl
end
/-- what stays of a store, and that what is new or changed is clean -/
def Ch (ps : List Nat) (μ μ' : Store) : Prop := μ.length ≤ μ'.length ∧ (∀ i, i < μ.length → i ∉ ps → μ'[i]? = μ[i]?) ∧ ∀ i o, μ'[i]? = some o → clean o ∨ (i < μ.length ∧ i ∉ ps)
section
variable {ps : List Nat} {μ μ' μ'' : Store}
theorem Ch.refl (cl : ∀ i, i ∈ ps → ∀ o, μ[i]? = some o → clean o) : Ch ps μ μ := ⟨Nat.le_refl _, fun _ _ _ => rfl, fun i o e => (Classical.em (i ∈ ps)).elim (fun z => .inl (cl i z o e)) fun z => .inr ⟨(List.getElem?_eq_some_iff.mp e).1, z⟩⟩
theorem Ch.get (h : Ch ps μ μ') {i : Nat} {o : MO} (e : μ[i]? = some o) (n : i ∉ ps) : μ'[i]? = some o := by
  rw [h.2.1 i (List.getElem?_eq_some_iff.mp e).1 n]
  exact e
theorem Ch.trans (h : Ch ps μ μ') (h' : Ch ps μ' μ'') : Ch ps μ μ'' := by
  refine ⟨Nat.le_trans h.1 h'.1, fun i hi n => ?_, fun i o e => ?_⟩
  · rw [h'.2.1 i (Nat.lt_of_lt_of_le hi h.1) n, h.2.1 i hi n]
  · rcases h'.2.2 i o e with c | ⟨c1, c2⟩
    · exact .inl c
    · rw [h'.2.1 i c1 c2] at e
      exact h.2.2 i o e
theorem Ch.more {qs : List Nat} (h : Ch ps μ μ') (s : ∀ i, i ∈ ps → i ∈ qs) (cl : ∀ i, i ∈ qs → i ∉ ps → ∀ o, μ'[i]? = some o → clean o) : Ch qs μ μ' :=
  ⟨h.1, fun i hi n => h.2.1 i hi fun z => n (s i z), fun i o e => (h.2.2 i o e).elim .inl fun ⟨c1, c2⟩ => (Classical.em (i ∈ qs)).elim (fun z => .inl (cl i z c2 o e)) fun z => .inr ⟨c1, z⟩⟩
theorem Ch.push {o : MO} (c : clean o) (cl : ∀ i, i ∈ ps → ∀ o, μ[i]? = some o → clean o) : Ch ps μ (μ ++ [o]) := by
  refine ⟨by simp, fun i hi _ => List.getElem?_append_left hi, fun i o' e => ?_⟩
  by_cases hi : i < μ.length
  · rw [List.getElem?_append_left hi] at e
    by_cases m : i ∈ ps
    · exact .inl (cl i m o' e)
    · exact .inr ⟨hi, m⟩
  · rw [List.getElem?_append_right (by omega)] at e
    have : i - μ.length = 0 := by
      have := (List.getElem?_eq_some_iff.mp e).1
      simp at this
      omega
    rw [this] at e
    cases e
    exact .inl c
theorem Ch.set {n : Nat} {o : MO} (c : clean o) (hn : n ∈ ps) (cl : ∀ i, i ∈ ps → ∀ o, μ[i]? = some o → clean o) : Ch ps μ (μ.set n o) := by
  refine ⟨by simp, fun i hi m => List.getElem?_set_ne fun e => m (by rw [← e]; exact hn), fun i o' e => ?_⟩
  by_cases hi : n = i
  · subst hi
    have hl := (List.getElem?_eq_some_iff.mp e).1
    rw [List.length_set] at hl
    rw [List.getElem?_set_self hl] at e
    cases e
    exact .inl c
  · rw [List.getElem?_set_ne hi] at e
    by_cases m : i ∈ ps
    · exact .inl (cl i m o' e)
    · exact .inr ⟨(List.getElem?_eq_some_iff.mp e).1, m⟩
theorem Ch.all (h : Ch ps μ μ') {p : Nat} (cl : ∀ i o, μ[i]? = some o → i ≠ p → clean o) : ∀ i o, μ'[i]? = some o → i ≠ p → clean o := fun i o e n => by
  rcases h.2.2 i o e with c | ⟨c1, c2⟩
  · exact c
  · rw [h.2.1 i c1 c2] at e
    exact cl i o e n
end
end Gw
/-! GwNi: places of a store that is not spelt out (own work). -/
namespace Gw
open PySem PySem.Spec PyProof.Rows L2 RZ
theorem push_atb (μ : Store) (m : MO) : (μ ++ [m])[μ.length]? = some m := by
  rw [List.getElem?_append_right (Nat.le_refl _), Nat.sub_self]
  rfl
theorem push_setb (μ : Store) (m m' : MO) : (μ ++ [m]).set μ.length m' = μ ++ [m'] := by
  rw [List.set_append_right _ _ (Nat.le_refl _), Nat.sub_self]
  rfl
theorem ap_get {μ : Store} {n : Nat} {m : MO} (h : μ[n]? = some m) (l : Store) : (μ ++ l)[n]? = some m := by
  rw [List.getElem?_append_left (List.getElem?_eq_some_iff.mp h).1]
  exact h
theorem set_hit {μ : Store} {n : Nat} {x y : MO} (h : μ[n]? = some x) : (μ.set n y)[n]? = some y := by
  rw [List.getElem?_set_self (List.getElem?_eq_some_iff.mp h).1]
theorem set_off {μ : Store} {n j : Nat} {y : MO} (h : j ≠ n) : (μ.set n y)[j]? = μ[j]? := List.getElem?_set_ne fun e => h e.symm
theorem at_lt {μ : Store} {n : Nat} {x : MO} (h : μ[n]? = some x) : n < μ.length := (List.getElem?_eq_some_iff.mp h).1
theorem at_ne {μ : Store} {n k : Nat} {x y : MO} (h : μ[n]? = some x) (h' : μ[k]? = some y) (ne : x ≠ y) : n ≠ k := fun e => by
  subst e
  rw [h] at h'
  exact ne (Option.some.inj h')
section
variable {μ : Store} {n : Nat} {ds : List D}
theorem src_list {Q : List D → (Store → Prop) → Prop} (h : μ[n]? = some (.lst ds)) (q : Q ds fun μ' => μ'[n]? = some (.lst ds)) : srcD μ (.loc n) Q := ⟨ds, h, q⟩
theorem len_list {Q : D → Prop} (h : μ[n]? = some (.lst ds)) (q : Q (.t (.int ds.length))) : wLen μ [.loc n] Q := .inl ⟨ds, h, q⟩
theorem len_dict {kvs : List (Key × D)} {Q : D → Prop} (h : μ[n]? = some (.dic kvs)) (q : Q (.t (.int kvs.length))) : wLen μ [.loc n] Q := .inr ⟨kvs, h, q⟩
theorem ix_list {i : Int} {y : D} {Q : D → Prop} (h : μ[n]? = some (.lst ds)) (a : atI ds i = some y) (q : Q y) : ixW μ (.loc n) (.t (.int i)) Q := .inl ⟨ds, i, y, h, rfl, a, q⟩
theorem srcL_list {xs : List T} {Q : List T → (Store → Prop) → Prop} (h : μ[n]? = some (.lst (xs.map D.t))) (q : Q xs fun μ' => μ'[n]? = some (.lst (xs.map D.t))) : srcL μ (.loc n) Q := ⟨xs, h, q⟩
theorem vw_list {xs : List T} {Q : T → Prop} (h : μ[n]? = some (.lst (xs.map D.t))) (q : Q (.lst xs)) : vw μ (.loc n) Q := ⟨xs, h, q⟩
end
theorem xm_at {μ : Store} {n : Nat} {ds : List D} {a : DAX} {A : Nat → MO → List D → (D → MO → Prop) → Prop} {env : DEnv} {Q : D → Store → Prop} (h : μ[n]? = some (.lst ds)) (q : a env μ fun xs m1 => ∃ m, m1[n]? = some m ∧ A n m xs fun y m' => Q y (m1.set n m')) : xMk (.loc n) a A env μ Q := ⟨⟨ds, h⟩, q⟩
theorem xm_pop {μ : Store} {n : Nat} {ds : List D} {y : D} {env : DEnv} {Q : D → Store → Prop} (h : μ[n]? = some (.lst (ds ++ [y]))) (q : Q y (μ.set n (.lst ds))) : xMk (.loc n) axNil wPop env μ Q := by
  refine ⟨⟨_, h⟩, _, h, y, ?_, ?_⟩
  · rw [List.length_append, List.length_singleton, Nat.add_sub_cancel, List.getElem?_append_right (Nat.le_refl _), Nat.sub_self]
    rfl
  · rw [List.dropLast_concat]
    exact q
theorem lc_allM {α : Type} (k : α → T) (f : α → T) {g : DG} {e : DP} {env : DEnv} {μ : Store} {Q : List T → Prop} {l : List α}
    (h : ∀ a ∈ l, ∀ (N : T → Prop), N (f a) → g (.t (k a)) env fun env' => e env' μ fun y => ∃ x, y = .t x ∧ N x) (q : Q (l.map f)) : lcD g tYesD e env μ ((l.map k).map D.t) Q := by
  rw [List.map_map]
  exact lc_all (D.t ∘ k) f h q
theorem for_mapM {α : Type} (f : α → T) {kp : Store → Prop} {g : DG} {b : DS} {P : Post} (I : List α → DEnv → Store → Prop)
    (step : ∀ a r env μ (N : DEnv → Store → Prop), I (a :: r) env μ → (∀ e m, I r e m → N e m) → kp μ ∧ g (.t (f a)) env fun env' => b env' μ ⟨N, P.rt, P.nx, N, P.xc⟩) (done : ∀ env μ, I [] env μ → kp μ ∧ P.nx env μ) {l : List α} {env : DEnv} {μ : Store} (h : I l env μ) : forD kp g b P ((l.map f).map D.t) env μ := by
  rw [List.map_map]
  exact for_map (D.t ∘ f) I step done h
theorem lcx_keep {α : Type} (k : α → T) (f : α → T) {kp : Store → Prop} {g : DG} {e : DX} {env : DEnv} {μ : Store} {P : List D → Store → Prop} (hk : kp μ) : ∀ {l : List α} {acc : List D},
    (∀ a ∈ l, ∀ N : D → Store → Prop, N (.t (f a)) μ → g (.t (k a)) env fun env' => e env' μ N) → P (acc ++ (l.map f).map D.t) μ → lcX kp g txYes e env P ((l.map k).map D.t) acc μ
  | [], acc, _, q => ⟨hk, by simpa using q⟩
  | a :: l, acc, h, q => ⟨hk, h a List.mem_cons_self _ (lcx_keep k f (e := e) hk (fun b hb => h b (List.mem_cons_of_mem _ hb)) (by rw [List.append_assoc]; exact q))⟩
theorem put_at {μ : Store} {n : Nat} {c f : Str} {fs : List (Str × D)} {cs : List Str} {y : D} {Q : Store → Prop} (h : μ[n]? = some (.ins c fs)) (hc : c ∈ cs) (hl : fs.length < 1000) (q : Q (μ.set n (.ins c (putA f y fs)))) : putK cs f y μ (.loc n) Q := ⟨n, c, fs, rfl, h, hc, hl, q⟩
section
variable {μ : Store} {a b c : MO}
theorem two_get0 : (μ ++ [a, b])[μ.length]? = some a := by
  rw [List.getElem?_append_right (Nat.le_refl _), Nat.sub_self]
  rfl
theorem two_get1 : (μ ++ [a, b])[μ.length + 1]? = some b := by
  rw [List.getElem?_append_right (Nat.le_succ _), show μ.length.succ - μ.length = 1 by omega]
  rfl
theorem two_set0 : (μ ++ [a, b]).set μ.length c = μ ++ [c, b] := by
  rw [List.set_append_right _ _ (Nat.le_refl _), Nat.sub_self]
  rfl
theorem two_set1 : (μ ++ [a, b]).set (μ.length + 1) c = μ ++ [a, c] := by
  rw [List.set_append_right _ _ (Nat.le_succ _), show μ.length.succ - μ.length = 1 by omega]
  rfl
theorem two_app : (μ ++ [a]) ++ [b] = μ ++ [a, b] := by
  rw [List.append_assoc]
  rfl
theorem one_len : (μ ++ [a]).length = μ.length + 1 := by
  rw [List.length_append]
  rfl
theorem two_len : (μ ++ [a, b]).length = μ.length + 2 := by
  rw [List.length_append]
  rfl
end
theorem snoc_or {α : Type} (xs : List α) : xs = [] ∨ ∃ ys y, xs = ys ++ [y] := by
  rcases List.eq_nil_or_concat xs with e | ⟨ys, y, e⟩
  · exact .inl e
  · exact .inr ⟨ys, y, by rw [e, List.concat_eq_append]⟩
theorem set_id {α : Type} {μ : List α} {n : Nat} {x : α} (h : μ[n]? = some x) : μ.set n x = μ := by
  apply List.ext_getElem?
  intro i
  by_cases e : n = i
  · subst e
    rw [List.getElem?_set_self (List.getElem?_eq_some_iff.mp h).1, h]
  · rw [List.getElem?_set_ne e]
end Gw
namespace Gw
open PySem PySem.Spec PyProof.Rows L2 RZ
section
/-! what the defs of k43 promise -/
def Phi_has (xs : List T) (y : T) : Prop := ∃ (ps : List Pr) (n : Int), ps.length ≤ 4000000 ∧ xs = [setT ps, .int n] ∧ y = .bl (inB ps n)
def Phi_parts (xs : List T) (y : List T) : Prop := ∃ (most : Int) (sets : List (List Pr)) (ms : List Int), sets.length ≤ 1000 ∧ (∀ s ∈ sets, s.length ≤ 1000) ∧ xs = [.int most, .ro (sets.map setT)] ∧ BeginsOf most sets ms ∧ y = (partsF most ms).map eP
def mixN (c k : Int) : Int := (c * 48271 + 7919 * k + 11) % 1000003
def mixF (c k : Int) : Int := mixN c k * mixN c k % 1000003 * mixN c k % 1000003
def Phi_law_mixed (xs : List T) (y : T) : Prop := ∃ c k : Int, xs = [.int c, .int k] ∧ y = .int (mixF c k)
def greatF (c k : Int) : Int := (mixF c k * 1000003 + mixF c (k + 500)) % 1000000000000
def Phi_law_great (xs : List T) (y : T) : Prop := ∃ c k : Int, xs = [.int c, .int k] ∧ y = .int (greatF c k)
def mostF (c : Int) (b : Bool) (k : Nat) : Int := if b = true then mixF c (720 + k) % 4 else [greatF c (700 + k), 1000000000000, mixF c (720 + k) % 9].getD (mixF c (710 + k) % 3).toNat 0
def mostsF (c : Int) (m : Nat) (b : Bool) : List Int := (List.range m).map (mostF c b)
def Phi_law_mosts (xs : List T) (y : List T) : Prop := ∃ (c : Int) (m : Nat) (b : Bool), m ≤ 4 ∧ xs = [.int c, .int m, .bl b] ∧ y = (mostsF c m b).map T.int
def someF (c most : Int) (pairs : Nat) : List Pr :=
  if mixF c 730 % 7 = 0 then [] else if mixF c 730 % 7 = 1 then [(0, most)] else pairsF (sdI ((List.range (2 * pairs)).map fun k : Nat => greatF c (740 + k) % (most + 2)))
def Phi_law_some_set (xs : List T) (y : T) : Prop := ∃ (c most : Int) (pairs : Nat), 0 ≤ most ∧ pairs ≤ 8 ∧ xs = [.int c, .int most, .int pairs] ∧ y = setT (someF c most pairs)
def boxT (b : List (List Pr)) : T := .tup (b.map setT)
def boxF (c : Int) (k : Nat) (mosts : List Int) (pairs : Nat) : List (List Pr) := mosts.zipIdx.map fun z => someF (mixF c (750 + 5 * k + z.2)) z.1 pairs
def boxesF (cells mosts : List Int) (pairs : Nat) : List (List (List Pr)) := cells.zipIdx.map fun z => boxF z.1 z.2 mosts pairs
def Phi_law_boxes (xs : List T) (y : List T) : Prop := ∃ (cells mosts : List Int) (pairs : Nat), cells.length ≤ 64 ∧ mosts.length ≤ 4 ∧ (∀ m ∈ mosts, 0 ≤ m) ∧ pairs ≤ 8 ∧ xs = [.ro (cells.map T.int), .ro (mosts.map T.int), .int pairs] ∧ y = (boxesF cells mosts pairs).map boxT
def plT (ps : List Nat) : List T := ps.map fun p : Nat => T.int (p : Int)
def leafF (way : Int) (ps : List Int) : T :=
  if way % 5 = 0 then .tup (ps.map T.int)
  else if way % 5 = 1 then (match ps with | [] => .non | p :: _ => .int p)
  else if way % 5 = 2 then [T.str "let", .str "refuse", .non].getD (ps.length % 3) .non
  else if way % 5 = 3 then .tup [.tup [.str "a", .int ps.length], match ps.getLast? with | none => .non | some p => .int p]
  else .int ps.length
def Phi_law_leaf (xs : List T) (y : T) : Prop := ∃ (ps : List Int) (way : Int), xs = [.ro (ps.map T.int), .int way] ∧ y = leafF way ps
def fieldF (c : Int) (mosts : List Int) : Nat := (mixF c 760 % mosts.length).toNat
def atF (c : Int) (mosts : List Int) (box : List (List Pr)) : Int :=
  let f := fieldF c mosts
  let s := box.getD f []
  if 0 < mixF c 762 % 3 ∧ s ≠ [] then (if mixF c 764 % 2 = 0 then (s.getD (mixF c 763 % s.length).toNat (0, 0)).1 else (s.getD (mixF c 763 % s.length).toNat (0, 0)).2)
  else greatF c 761 % (mosts.getD f 0 + 1)
def lowerF (a : Int) (s : List Pr) : List Pr := (s.filter fun p => decide (p.1 < a)).map fun p => (p.1, min p.2 (a - 1))
def upperF (a : Int) (s : List Pr) : List Pr := (s.filter fun p => decide (p.2 ≥ a)).map fun p => (max p.1 a, p.2)
def putF (box : List (List Pr)) (f : Nat) (s : List Pr) : List (List Pr) := box.take f ++ [s] ++ box.drop (f + 1)
def halvesF (c : Int) (mosts : List Int) (box : List (List Pr)) : List (List (List Pr)) :=
  let f := fieldF c mosts
  let a := atF c mosts box
  let s := box.getD f []
  [putF box f (lowerF a s), putF box f (upperF a s)]
def Phi_law_halves (xs : List T) (y : List T) : Prop := ∃ (c : Int) (mosts : List Int) (box : List (List Pr)), 0 < mosts.length ∧ mosts.length ≤ 4 ∧ box.length = mosts.length ∧ (∀ m ∈ mosts, 0 ≤ m) ∧ (∀ s ∈ box, s.length ≤ 100) ∧ xs = [.int c, .ro (mosts.map T.int), boxT box] ∧ y = (halvesF c mosts box).map boxT
end
section
def nm_law_right : Nat → Nat → Str := fun l c => if l = 151 ∧ c = 4 then "_law_right.<locals>._law_worker" else if l = 154 ∧ c = 4 then "_law_right.<locals>._law_other_worker" else ""
def b_has : DS :=
  sSeq (sRet (xP (dBi (aCons (dF (fLc (iSq (dVar 0)) (gTp 2 (gCons' (gNm 2) (gCons' (gNm 3) (gNil')))) (tYesD) (dChain iLe iLe (dVar 2) (dVar 1) (dVar 3)) [2, 3])) (aNil)) (wAny))))
  (sNil)
def b_parts : DS :=
  sSeq (sAsg (xDisp (dpCons (dC (.int 0)) (dC (.bl true)) (dpNil))) (gNm 2))
  (sSeq (sFor (iSq (dVar 1)) (gNm 3) (sSeq (sFor (iSq (dVar 3)) (gTp 2 (gCons' (gNm 4) (gCons' (gNm 5) (gNil')))) (sSeq (sSetIx (xP (dC (.bl true))) (dVar 2) (dVar 4))
  (sSeq (sSetIx (xP (dC (.bl true))) (dVar 2) (dAdd (dVar 5) (dC (.int 1))))
  (sNil))))
  (sNil)))
  (sSeq (sAsg (xP (dF (fBi (aCons (dF (fLockN (fLc (iKy (dVar 2)) (gNm 7) (dTest (dLe (dVar 7) (dVar 0))) (dVar 7) [7]))) (aNil)) wSortU))) (gNm 6))
  (sSeq (sRet (xF (fLzip (dVar 6) (dAdd (dF (fLc (iSq (dSl (dVar 6) (oSo (dC (.int 1))) (oNo))) (gNm 4) (tYesD) (dSub (dVar 4) (dC (.int 1))) [4])) (dLst (aCons (dVar 0) (aNil)))))))
  (sNil))))
def b_Table_init : DS :=
  sSeq (sPut ["Table", "Maker"] (xF (fBi (aCons (dVar 1) (aNil)) wListA)) (dVar 0) "sides")
  (sSeq (sPut ["Table"] (xP (dVar 2)) (dVar 0) "first_goal")
  (sSeq (sPut ["Table"] (xF (fBi (aCons (dVar 3) (aNil)) wListA)) (dVar 0) "kept_tests")
  (sNil)))
def c_Table_init : DFn := bodyG 4 4 b_Table_init
def b_Table_mosts : DS :=
  sSeq (sRet (xP (dF (fBi (aCons (dFld ["Table", "Maker"] (dVar 0) "sides") (aNil)) wListA))))
  (sNil)
def c_Table_mosts : DFn := bodyG 1 1 b_Table_mosts
def b_Table_top : DS :=
  sSeq (sRet (xP (dFld ["Table"] (dVar 0) "first_goal")))
  (sNil)
def c_Table_top : DFn := bodyG 1 1 b_Table_top
def b_Table_tests : DS :=
  sSeq (sRet (xP (dF (fBi (aCons (dFld ["Table"] (dVar 0) "kept_tests") (aNil)) wListA))))
  (sNil)
def c_Table_tests : DFn := bodyG 1 1 b_Table_tests
def b_number_tests (Ψ : DFn) : DS :=
  sSeq (sIf (dAnd (dTest (dEq (dIx (dVar 1) (dC (.int 0))) (dC (.str "test")))) (dTest (d2 (dIx (dVar 1) (dC (.int 1))) (dVar 2) (inW not)))) (sSeq (sSetIx (xP (dBi (aCons (dVar 2) (aNil)) (wLen))) (dVar 2) (dIx (dVar 1) (dC (.int 1))))
  (sSeq (sFor (iSq (dIx (dIx (dVar 0) (dIx (dVar 1) (dC (.int 1)))) (dC (.int 1)))) (gTp 2 (gCons' (gNm 3) (gCons' (gNm 4) (gNil')))) (sSeq (sDrop (xCall Ψ (axCons (xP (dVar 0)) (axCons (xP (dVar 4)) (axCons (xP (dVar 2)) (axNil))))))
  (sNil)))
  (sNil))) (sNil))
  (sNil)
def cD_number_tests : Nat → DFn
  | 0 => fun _ _ _ => False
  | n + 1 => bodyG 3 5 (b_number_tests (cD_number_tests n))
def c_number_tests : DFn := cD_number_tests 6
def b_goal_by : DS :=
  sSeq (sRet (xP (dIf (dTest (dEq (dIx (dVar 0) (dC (.int 0))) (dC (.str "test")))) (dTup (aCons (dC (.str "test")) (aCons (dIx (dVar 1) (dIx (dVar 0) (dC (.int 1)))) (aNil)))) (dVar 0))))
  (sNil)
def c_goal_by : DFn := bodyG 2 2 b_goal_by
def b_Grower_init [Wd] : DS :=
  sSeq (sPut ["Grower"] (xLst (axNil)) (dVar 0) "grown")
  (sSeq (sPut ["Grower"] (xKd Wd.w) (dVar 0) "numbered")
  (sNil))
def c_Grower_init [Wd] : DFn := bodyG 1 1 b_Grower_init
def b_Grower_goal_of [Wd] : DS :=
  sSeq (sAsg (xLst (axNil)) (gNm 3))
  (sSeq (sFor (iSq (dVar 2)) (gTp 2 (gCons' (gNm 4) (gCons' (gNm 5) (gNil')))) (sSeq (sIf (dAnd (dTest (d2 (dVar 3) (dLst (aNil)) (nilW not))) (dTest (dEq (dIx (dIx (dVar 3) (dNeg (dC (.int 1)))) (dC (.int 1))) (dVar 5)))) (sSeq (sDrop (xM (dVar 3) axNil wPop))
  (sNil)) (sNil))
  (sSeq (sDrop (xM (dVar 3) (axCons (xP (dTup (aCons (dVar 4) (aCons (dVar 5) (aNil))))) axNil) wAppend))
  (sNil))))
  (sSeq (sIf (dTest (dEq (dBi (aCons (dVar 3) (aNil)) (wLen)) (dC (.int 1)))) (sSeq (sRet (xP (dIx (dIx (dVar 3) (dC (.int 0))) (dC (.int 1)))))
  (sNil)) (sNil))
  (sSeq (sAsg (xP (dTup (aCons (dVar 1) (aCons (dBi (aCons (dVar 3) (aNil)) wTuple) (aNil))))) (gNm 6))
  (sSeq (sIf (dTest (d2 (dVar 6) (dFld ["Grower"] (dVar 0) "numbered") (kInW Wd.w not))) (sSeq (sKSet Wd.w (xP (dBi (aCons (dFld ["Grower"] (dVar 0) "grown") (aNil)) (wLen))) (dFld ["Grower"] (dVar 0) "numbered") (dVar 6))
  (sSeq (sDrop (xM (dFld ["Grower"] (dVar 0) "grown") (axCons (xP (dVar 6)) axNil) wAppend))
  (sNil))) (sNil))
  (sSeq (sRet (xP (dTup (aCons (dC (.str "test")) (aCons (d2 (dFld ["Grower"] (dVar 0) "numbered") (dVar 6) (kIxW Wd.w)) (aNil))))))
  (sNil))))))
def c_Grower_goal_of [Wd] : DFn := bodyG 3 7 b_Grower_goal_of
def b_Grower_table_behind : DS :=
  sSeq (sAsg (xDic) (gNm 3))
  (sSeq (sDrop (xCall c_number_tests (axCons (xP (dFld ["Grower"] (dVar 0) "grown")) (axCons (xP (dVar 2)) (axCons (xP (dVar 3)) (axNil))))))
  (sSeq (sAsg (xLst (axNil)) (gNm 4))
  (sSeq (sLockN (sFor (iKy (dVar 3)) (gNm 5) (sSeq (sAsg (xP (dIx (dFld ["Grower"] (dVar 0) "grown") (dVar 5))) (gTp 2 (gCons' (gNm 6) (gCons' (gNm 7) (gNil')))))
  (sSeq (sDrop (xM (dVar 4) (axCons (xTup (axCons (xP (dVar 6)) (axCons (xBi (axCons (xLc (iP (iSq (dVar 7))) (gTp 2 (gCons' (gNm 8) (gCons' (gNm 9) (gNil')))) (txYes) (xTup (axCons (xP (dVar 8)) (axCons (xCall c_goal_by (axCons (xP (dVar 9)) (axCons (xP (dVar 3)) (axNil)))) (axNil)))) [8, 9]) (axNil)) wTuple) (axNil)))) axNil) wAppend))
  (sNil)))))
  (sSeq (sRet (xMake "Table" c_Table_init (axCons (xP (dVar 1)) (axCons (xCall c_goal_by (axCons (xP (dVar 2)) (axCons (xP (dVar 3)) (axNil)))) (axCons (xP (dVar 4)) (axNil))))))
  (sNil)))))
def c_Grower_table_behind : DFn := bodyG 3 10 b_Grower_table_behind
def b_Maker_init [Wd] : DS :=
  sSeq (sPut ["Table", "Maker"] (xF (fBi (aCons (dVar 1) (aNil)) wListA)) (dVar 0) "sides")
  (sSeq (sPut ["Maker"] (xF (fBi (aCons (dVar 2) (aNil)) wListA)) (dVar 0) "rooms")
  (sSeq (sPut ["Maker"] (xMake "Grower" c_Grower_init (axNil)) (dVar 0) "grower")
  (sSeq (sPut ["Maker"] (xKd Wd.w) (dVar 0) "goals_found")
  (sNil))))
def c_Maker_init [Wd] : DFn := bodyG 3 3 b_Maker_init
def b_Maker_goal_for [Wd] (Ψ_Maker_goal_behind : DFn) : DS :=
  sSeq (sIf (dTest (d2 (dTup (aCons (dVar 1) (aCons (dVar 2) (aNil)))) (dFld ["Maker"] (dVar 0) "goals_found") (kInW Wd.w not))) (sSeq (sKSet Wd.w (xMeth (("Maker", Ψ_Maker_goal_behind) :: []) "goal_behind" (xP (dVar 0)) (axCons (xP (dVar 1)) (axCons (xP (dVar 2)) (axCons (xP (dVar 3)) (axNil))))) (dFld ["Maker"] (dVar 0) "goals_found") (dTup (aCons (dVar 1) (aCons (dVar 2) (aNil)))))
  (sNil)) (sNil))
  (sSeq (sRet (xP (d2 (dFld ["Maker"] (dVar 0) "goals_found") (dTup (aCons (dVar 1) (aCons (dVar 2) (aNil)))) (kIxW Wd.w))))
  (sNil))
def b_law_mixed : DS :=
  sSeq (sAsg (xP (dMod (dAdd (dAdd (dMul (dVar 0) (dC (.int 48271))) (dMul (dC (.int 7919)) (dVar 1))) (dC (.int 11))) (dC (.int 1000003)))) (gNm 2))
  (sSeq (sRet (xP (dMod (dMul (dMod (dMul (dVar 2) (dVar 2)) (dC (.int 1000003))) (dVar 2)) (dC (.int 1000003)))))
  (sNil))
def b_law_great : DS :=
  sSeq (sRet (xP (dMod (dAdd (dMul (dCall Phi_law_mixed (aCons (dVar 0) (aCons (dVar 1) (aNil)))) (dC (.int 1000003))) (dCall Phi_law_mixed (aCons (dVar 0) (aCons (dAdd (dVar 1) (dC (.int 500))) (aNil))))) (dPow (dC (.int 10)) (dC (.int 12))))))
  (sNil)
def b_law_mosts : DS :=
  sSeq (sAsg (xLst (axNil)) (gNm 3))
  (sSeq (sFor (iR1 (dVar 1)) (gNm 4) (sSeq (sAsg (xP (dIx (dLst (aCons (dCall Phi_law_great (aCons (dVar 0) (aCons (dAdd (dC (.int 700)) (dVar 4)) (aNil)))) (aCons (dPow (dC (.int 10)) (dC (.int 12))) (aCons (dMod (dCall Phi_law_mixed (aCons (dVar 0) (aCons (dAdd (dC (.int 720)) (dVar 4)) (aNil)))) (dC (.int 9))) (aNil))))) (dMod (dCall Phi_law_mixed (aCons (dVar 0) (aCons (dAdd (dC (.int 710)) (dVar 4)) (aNil)))) (dC (.int 3))))) (gNm 5))
  (sSeq (sDrop (xM (dVar 3) (axCons (xP (dIf (dTest (dVar 2)) (dMod (dCall Phi_law_mixed (aCons (dVar 0) (aCons (dAdd (dC (.int 720)) (dVar 4)) (aNil)))) (dC (.int 4))) (dVar 5))) axNil) wAppend))
  (sNil))))
  (sSeq (sRet (xP (dVar 3)))
  (sNil)))
def b_law_some_set : DS :=
  sSeq (sAsg (xP (dMod (dCall Phi_law_mixed (aCons (dVar 0) (aCons (dC (.int 730)) (aNil)))) (dC (.int 7)))) (gNm 3))
  (sSeq (sIf (dTest (dLt (dVar 3) (dC (.int 2)))) (sSeq (sRet (xP (dIx (dLst (aCons (dTup (aNil)) (aCons (dTup (aCons (dTup (aCons (dC (.int 0)) (aCons (dVar 1) (aNil)))) (aNil))) (aNil)))) (dVar 3))))
  (sNil)) (sNil))
  (sSeq (sAsg (xP (dF (fSoSet (dF (fLc (iR1 (dMul (dC (.int 2)) (dVar 2))) (gNm 7) (tYesD) (dMod (dCall Phi_law_great (aCons (dVar 0) (aCons (dAdd (dC (.int 740)) (dVar 7)) (aNil)))) (dAdd (dVar 1) (dC (.int 2)))) [7]))))) (gNm 4))
  (sSeq (sRet (xP (dBi (aCons (dF (fLc (iZp2 (dF (fEv (dVar 4))) (dF (fOd (dVar 4)))) (gTp 2 (gCons' (gNm 5) (gCons' (gNm 6) (gNil')))) (tYesD) (dTup (aCons (dVar 5) (aCons (dSub (dVar 6) (dC (.int 1))) (aNil)))) [5, 6])) (aNil)) wTuple)))
  (sNil))))
def b_law_boxes : DS :=
  sSeq (sAsg (xLst (axNil)) (gNm 3))
  (sSeq (sFor (iEn (dVar 0)) (gTp 2 (gCons' (gNm 4) (gCons' (gNm 5) (gNil')))) (sSeq (sAsg (xP (dF (fLc (iEn (dVar 1)) (gTp 2 (gCons' (gNm 7) (gCons' (gNm 8) (gNil')))) (tYesD) (dCall Phi_law_some_set (aCons (dCall Phi_law_mixed (aCons (dVar 5) (aCons (dAdd (dAdd (dC (.int 750)) (dMul (dC (.int 5)) (dVar 4))) (dVar 7)) (aNil)))) (aCons (dVar 8) (aCons (dVar 2) (aNil))))) [7, 8]))) (gNm 6))
  (sSeq (sDrop (xM (dVar 3) (axCons (xP (dBi (aCons (dVar 6) (aNil)) wTuple)) axNil) wAppend))
  (sNil))))
  (sSeq (sRet (xP (dVar 3)))
  (sNil)))
def b_law_leaf : DS :=
  sSeq (sIf (dTest (dEq (dMod (dVar 1) (dC (.int 5))) (dC (.int 0)))) (sSeq (sRet (xP (dBi (aCons (dVar 0) (aNil)) wTuple)))
  (sNil)) (sNil))
  (sSeq (sIf (dTest (dEq (dMod (dVar 1) (dC (.int 5))) (dC (.int 1)))) (sSeq (sRet (xP (dIf (dTest (dNe (dVar 0) (dLst (aNil)))) (dIx (dVar 0) (dC (.int 0))) (dC .non))))
  (sNil)) (sNil))
  (sSeq (sIf (dTest (dEq (dMod (dVar 1) (dC (.int 5))) (dC (.int 2)))) (sSeq (sRet (xP (dIx (dLst (aCons (dC (.str "let")) (aCons (dC (.str "refuse")) (aCons (dC .non) (aNil))))) (dMod (dBi (aCons (dVar 0) (aNil)) (wLen)) (dC (.int 3))))))
  (sNil)) (sNil))
  (sSeq (sIf (dTest (dEq (dMod (dVar 1) (dC (.int 5))) (dC (.int 3)))) (sSeq (sRet (xP (dTup (aCons (dTup (aCons (dC (.str "a")) (aCons (dBi (aCons (dVar 0) (aNil)) (wLen)) (aNil)))) (aCons (dIf (dTest (dNe (dVar 0) (dLst (aNil)))) (dIx (dVar 0) (dNeg (dC (.int 1)))) (dC .non)) (aNil))))))
  (sNil)) (sNil))
  (sSeq (sRet (xP (dBi (aCons (dVar 0) (aNil)) (wLen))))
  (sNil)))))
def b_law_halves : DS :=
  sSeq (sAsg (xP (dMod (dCall Phi_law_mixed (aCons (dVar 0) (aCons (dC (.int 760)) (aNil)))) (dBi (aCons (dVar 1) (aNil)) (wLen)))) (gNm 3))
  (sSeq (sAsg (xP (dMod (dCall Phi_law_great (aCons (dVar 0) (aCons (dC (.int 761)) (aNil)))) (dAdd (dIx (dVar 1) (dVar 3)) (dC (.int 1))))) (gNm 4))
  (sSeq (sIf (dAnd (dTest (dGt (dMod (dCall Phi_law_mixed (aCons (dVar 0) (aCons (dC (.int 762)) (aNil)))) (dC (.int 3))) (dC (.int 0)))) (dTest (dNe (dIx (dVar 2) (dVar 3)) (dTup (aNil))))) (sSeq (sAsg (xP (dIx (dIx (dIx (dVar 2) (dVar 3)) (dMod (dCall Phi_law_mixed (aCons (dVar 0) (aCons (dC (.int 763)) (aNil)))) (dBi (aCons (dIx (dVar 2) (dVar 3)) (aNil)) (wLen)))) (dMod (dCall Phi_law_mixed (aCons (dVar 0) (aCons (dC (.int 764)) (aNil)))) (dC (.int 2))))) (gNm 4))
  (sNil)) (sNil))
  (sSeq (sAsg (xP (dBi (aCons (dF (fLc (iSq (dIx (dVar 2) (dVar 3))) (gTp 2 (gCons' (gNm 8) (gCons' (gNm 9) (gNil')))) (dTest (dLt (dVar 8) (dVar 4))) (dTup (aCons (dVar 8) (aCons (dBi (aCons (dVar 9) (aCons (dSub (dVar 4) (dC (.int 1))) (aNil))) (wMM minI)) (aNil)))) [8, 9])) (aNil)) wTuple)) (gNm 5))
  (sSeq (sAsg (xP (dBi (aCons (dF (fLc (iSq (dIx (dVar 2) (dVar 3))) (gTp 2 (gCons' (gNm 8) (gCons' (gNm 9) (gNil')))) (dTest (dGe (dVar 9) (dVar 4))) (dTup (aCons (dBi (aCons (dVar 8) (aCons (dVar 4) (aNil))) (wMM maxI)) (aCons (dVar 9) (aNil)))) [8, 9])) (aNil)) wTuple)) (gNm 6))
  (sSeq (sRet (xF (fLc (iSq (dTup (aCons (dVar 5) (aCons (dVar 6) (aNil))))) (gNm 7) (tYesD) (dAdd (dAdd (dSl (dVar 2) (oNo) (oSo (dVar 3))) (dTup (aCons (dVar 7) (aNil)))) (dSl (dVar 2) (oSo (dAdd (dVar 3) (dC (.int 1)))) (oNo))) [7])))
  (sNil))))))
def b_law_same : DS :=
  sSeq (sRet (x2 (xLst (axCons (xMeth (("Table", c_Table_mosts) :: []) "mosts" (xP (dVar 0)) (axNil)) (axCons (xMeth (("Table", c_Table_top) :: []) "top" (xP (dVar 0)) (axNil)) (axCons (xMeth (("Table", c_Table_tests) :: []) "tests" (xP (dVar 0)) (axNil)) (axNil))))) (xLst (axCons (xMeth (("Table", c_Table_mosts) :: []) "mosts" (xP (dVar 1)) (axNil)) (axCons (xMeth (("Table", c_Table_top) :: []) "top" (xP (dVar 1)) (axNil)) (axCons (xMeth (("Table", c_Table_tests) :: []) "tests" (xP (dVar 1)) (axNil)) (axNil))))) (tw eqW)))
  (sNil)
def c_law_same : DFn := bodyG 2 2 b_law_same
def b_wk0 : DS :=
  sSeq (sRet (xP (dCall Phi_law_leaf (aCons (dVar 0) (aCons (dVar 1) (aNil))))))
  (sNil)
def b_wk1 : DS :=
  sSeq (sRet (xP (dCall Phi_law_leaf (aCons (dF (fSoSet (dF (fLc (iSq (dVar 0)) (gNm 3) (tYesD) (dIx (dIx (dVar 2) (dVar 3)) (dC (.int 1))) [3])))) (aCons (dVar 1) (aNil))))))
  (sNil)
def c_wk [Wd] (nf : NdefX.NF) : WFn := fun caps ds μ Q => (∃ L c, nf = Wd.nf 0 L c ∧ bodyW 1 2 b_wk0 caps ds μ Q) ∨ (∃ L c, nf = Wd.nf 1 L c ∧ bodyW 1 4 b_wk1 caps ds μ Q)
def b_Maker_goal_behind [Wd] (Ψ_Maker_goal_for : DFn) : DS :=
  sSeq (sIf (dTest (dEq (dVar 1) (dBi (aCons (dFld ["Table", "Maker"] (dVar 0) "sides") (aNil)) (wLen)))) (sSeq (sRet (xTup (axCons (xP (dC (.str "leaf"))) (axCons (xCallW c_wk 3 (axCons (xP (dF (fBi (aCons (dVar 2) (aNil)) wListA))) (axNil))) (axNil)))))
  (sNil)) (sNil))
  (sSeq (sAsg (xLst (axNil)) (gNm 4))
  (sSeq (sFor (iSq (dF (fCall Phi_parts (aCons (dIx (dFld ["Table", "Maker"] (dVar 0) "sides") (dVar 1)) (aCons (dF (fLc (iSq (dVar 2)) (gNm 8) (tYesD) (dIx (dIx (dFld ["Maker"] (dVar 0) "rooms") (dVar 8)) (dVar 1)) [8])) (aNil)))))) (gTp 2 (gCons' (gNm 5) (gCons' (gNm 6) (gNil')))) (sSeq (sAsg (xP (dBi (aCons (dF (fLc (iSq (dVar 2)) (gNm 8) (dTest (dCall Phi_has (aCons (dIx (dIx (dFld ["Maker"] (dVar 0) "rooms") (dVar 8)) (dVar 1)) (aCons (dVar 5) (aNil))))) (dVar 8) [8])) (aNil)) wTuple)) (gNm 7))
  (sSeq (sDrop (xM (dVar 4) (axCons (xTup (axCons (xP (dVar 6)) (axCons (xMeth (("Maker", Ψ_Maker_goal_for) :: []) "goal_for" (xP (dVar 0)) (axCons (xP (dAdd (dVar 1) (dC (.int 1)))) (axCons (xP (dVar 7)) (axCons (xP (dVar 3)) (axNil))))) (axNil)))) axNil) wAppend))
  (sNil))))
  (sSeq (sRet (xMeth (("Grower", c_Grower_goal_of) :: []) "goal_of" (xP (dFld ["Maker"] (dVar 0) "grower")) (axCons (xP (dVar 1)) (axCons (xP (dVar 4)) (axNil)))))
  (sNil))))
def cM_Maker_goal_behind [Wd] : Nat → DFn × DFn
  | 0 => (noC, noC)
  | n + 1 => (bodyG 4 9 (b_Maker_goal_behind (cM_Maker_goal_behind n).2), bodyG 4 4 (b_Maker_goal_for (cM_Maker_goal_behind n).1))
def c_Maker_goal_for [Wd] : DFn := (cM_Maker_goal_behind 10).2
def b_made [Wd] : DS :=
  sSeq (sAsg (xMake "Maker" c_Maker_init (axCons (xP (dVar 0)) (axCons (xP (dVar 1)) (axNil)))) (gNm 3))
  (sSeq (sAsg (xMeth (("Maker", c_Maker_goal_for) :: []) "goal_for" (xP (dVar 3)) (axCons (xP (dC (.int 0))) (axCons (xP (dTupRg (dBi (aCons (dVar 1) (aNil)) (wLen)))) (axCons (xP (dVar 2)) (axNil))))) (gNm 4))
  (sSeq (sRet (xMeth (("Grower", c_Grower_table_behind) :: []) "table_behind" (xP (dFld ["Maker"] (dVar 3) "grower")) (axCons (xP (dVar 0)) (axCons (xP (dVar 4)) (axNil)))))
  (sNil)))
def c_made [Wd] : DFn := bodyG 3 5 b_made
def b_law_right [Wd] (L : Addr) : DS :=
  sSeq (sAsg (xLst (axNil)) (gNm 4))
  (sSeq (sFor (iEn (dVar 2)) (gTp 2 (gCons' (gNm 5) (gCons' (gNm 6) (gNil')))) (sSeq (sFor (iSq (dF (fCall Phi_law_halves (aCons (dIx (dVar 0) (dVar 5)) (aCons (dVar 1) (aCons (dVar 6) (aNil))))))) (gNm 7) (sSeq (sDrop (xM (dVar 4) (axCons (xP (dMod (dCall Phi_law_mixed (aCons (dIx (dVar 0) (dVar 5)) (aCons (dC (.int 770)) (aNil)))) (dAdd (dBi (aCons (dVar 4) (aNil)) (wLen)) (dC (.int 1))))) (axCons (xP (dTup (aCons (dVar 7) (aCons (dVar 5) (aNil))))) axNil)) wInsert))
  (sNil)))
  (sNil)))
  (sSeq (sNdef ("_law_right", none) nm_law_right 8 (Wd.nf 0 L))
  (sSeq (sNdef ("_law_right", none) nm_law_right 9 (Wd.nf 1 L))
  (sSeq (sAsg (xCallO (Wd.nf 0 L) [3] c_made (axCons (xP (dVar 1)) (axCons (xP (dVar 2)) (axCons (xP (dVar 8)) (axNil))))) (gNm 10))
  (sSeq (sIfX (txNot (xTest (xCall c_law_same (axCons (xP (dVar 10)) (axCons (xCallO (Wd.nf 1 L) [3, 4] c_made (axCons (xP (dVar 1)) (axCons (xP (dF (fLc (iSq (dVar 4)) (gTp 2 (gCons' (gNm 7) (gCons' (gNm 5) (gNil')))) (tYesD) (dVar 7) [7, 5]))) (axCons (xP (dVar 9)) (axNil))))) (axNil)))))) (sSeq (sRet (xP (dC (.bl false))))
  (sNil)) (sNil))
  (sSeq (sRet (xCall c_law_same (axCons (xP (dVar 10)) (axCons (xCallO (Wd.nf 0 L) [3] c_made (axCons (xP (dVar 1)) (axCons (xP (dAdd (dVar 2) (dLst (aCons (dBi (aCons (dF (fLc (iSq (dVar 1)) (gNm 11) (tYesD) (dTup (aNil)) [11])) (aNil)) wTuple) (aNil))))) (axCons (xP (dVar 8)) (axNil))))) (axNil)))))
  (sNil)))))))
def c_law_right [Wd] : DFn := bodyGL 4 12 b_law_right
def b_law [Wd] : DS :=
  sSeq (sAsg (xP (dF (fBi (aCons (dSl (dVar 0) (oNo) (oSo (dC (.int 50)))) (aNil)) wListA))) (gNm 1))
  (sSeq (sFor (iR3 (dC (.int 0)) (dAdd (dBi (aCons (dVar 1) (aNil)) (wLen)) (dC (.int 1))) (dC (.int 5))) (gNm 2) (sSeq (sAsg (xP (dSl (dVar 1) (oSo (dVar 2)) (oSo (dAdd (dVar 2) (dC (.int 5)))))) (gNm 3))
  (sSeq (sAsg (xP (dCall Phi_law_mixed (aCons (dBi (aCons (dF (fLc (iSq (dVar 3)) (gNm 6) (tYesD) (dCall Phi_law_mixed (aCons (dVar 6) (aCons (dC (.int 17)) (aNil)))) [6])) (aNil)) (wSum)) (aCons (dVar 2) (aNil))))) (gNm 4))
  (sSeq (sAsg (xP (dF (fCall Phi_law_mosts (aCons (dVar 4) (aCons (dAdd (dC (.int 1)) (dMod (dVar 4) (dC (.int 3)))) (aCons (dEq (dMod (dDiv (dVar 4) (dC (.int 3))) (dC (.int 2))) (dC (.int 1))) (aNil))))))) (gNm 5))
  (sSeq (sIfX (txNot (xTest (xCall c_law_right (axCons (xP (dVar 3)) (axCons (xP (dVar 5)) (axCons (xP (dF (fCall Phi_law_boxes (aCons (dVar 3) (aCons (dVar 5) (aCons (dC (.int 2)) (aNil))))))) (axCons (xP (dDiv (dVar 4) (dC (.int 6)))) (axNil)))))))) (sSeq (sRet (xP (dC (.bl false))))
  (sNil)) (sNil))
  (sNil))))))
  (sSeq (sRet (xP (dC (.bl true))))
  (sNil)))
def c_law [Wd] : DFn := bodyG 1 7 b_law
end
local macro_rules | `(tactic| walk_at "gw") => `(tactic| simp only [↓r_xKd, ↓r_sKSet, ↓r_kIxW, ↓r_kInW, ↓r_kSetW, ↓r_xCallW, ↓r_xCallO, ↓r_sNdef, ↓r_iR3, ↓r_dTupRg, ↓r_fSoSetN, ↓r_dOrT, r_ltS, ↓r_dRepl, ↓r_xGet2X, ↓r_dCatNil, ↓r_xSplL, ↓r_sSetSl, ↓r_sPar3, ↓r_v20, ↓r_g20, ↓r_v21, ↓r_g21, ↓r_v22, ↓r_g22, ↓r_v23, ↓r_g23, ↓r_v24, ↓r_g24, ↓r_v25, ↓r_g25, ↓r_v26, ↓r_g26, ↓r_v27, ↓r_g27, ↓r_v28, ↓r_g28, ↓r_v29, ↓r_g29, ↓r_v30, ↓r_g30, ↓r_v31, ↓r_g31, ↓r_wCnt, r_xLcE, r_wEnds, ↓r_xMs, ↓r_dFs, ↓r_fsN, ↓r_fsC, ↓r_dManyT, ↓r_dInC, ↓r_xSlD, ↓r_xDispX, ↓r_dqNil, ↓r_dqCons, ↓r_dRvU, ↓r_sRaiseA, ↓r_sTryR, ↓r_dXf, ↓r_iEnO, ↓r_iZpO, ↓r_xGet1, r_repP, ↓r_tupLt, ↓r_tupLp, ↓r_xCallT, ↓r_xCallN, id_eq, ↓r_wIAddS, ↓r_xBits, ↓r_bitsK, ↓r_wStarts, ↓r_wPart, ↓r_wIntB, ↓r_flagTt, ↓r_flagTp, ↓r_catPt, ↓r_catPp, ↓r_catPq, ↓r_slPt, ↓r_fRg, ↓r_rgnK, ↓r_iR1X, ↓r_dIsO, ↓r_slS, ↓r_wLs, ↓r_addS, ↓r_two, ↓r_sPar, ↓r_wStr, ↓r_wIntT, ↓r_wDivmod, ↓r_wZfill, ↓r_repS, ↓r_iEnA, ↓r_iRv, ↓r_rvK, ↓r_srcApt, ↓r_srcDpt, ↓r_ixPt, ↓r_wLpt, ↓r_wListpt, ↓r_dTix, ↓r_dRvT, ↓r_wTupP, ↓r_xIsi, ↓r_inTs, ↓r_isi_pt_int, ↓r_isi_pt_bool, ↓r_isi_pt_str, ↓r_isi_pt_list, ↓r_isi_pt_tuple, ↓r_isi_pt_dict, ↓r_sTryK, ↓r_sAsgE, ↓r_sDropE, ↓r_sRetE, ↓r_sRaise, ↓r_xN, ↓r_axeNil, ↓r_axeCons, ↓r_xTupE, ↓r_xCallE, ↓r_xMethE, ↓r_xME, ↓r_dCount, ↓r_dIsX, ↓r_fDir, ↓r_xDictP, ↓r_inWl, ↓r_inWr, ↓r_inWs, ↓r_inLT, ↓r_dGet2, ↓r_getKs, ↓r_getKi, ↓r_strK, ↓r_dMs, ↓r_wInti, ↓r_wIntb, ↓r_wJoin, ↓r_rep, ↓r_ixTp, ↓r_xCat, ↓r_noneW, ↓r_isN0, ↓r_isNb, ↓r_isNi, ↓r_isNl, ↓r_isNs, ↓r_isNt, ↓r_wListl, ↓r_wListr, ↓r_wListt, ↓r_xMd, ↓r_mdK, ↓r_fLockN, ↓r_xLockN, ↓r_sLockN, ↓r_iCh, ↓r_iKy, ↓r_kyK, ↓r_xMake, ↓r_locK, ↓r_xMeth, ↓r_xBf, ↓r_fLzip, ↓r_iP, ↓r_iSqX, ↓r_iR1, ↓r_rg1K, ↓r_xLc, ↓r_txYes, ↓r_tP, ↓r_blX, ↓r_xTest, ↓r_txAnd, ↓r_txOr, ↓r_txNot, ↓r_sIfX, ↓r_sForX, ↓r_x2, ↓r_xTup, ↓r_xBi, ↓r_xIf, ↓r_xAndV, ↓r_xOrV, ↓r_xNotV, ↓r_xCall, ↓r_dFld, ↓r_xFld, ↓r_sPut, ↓r_gqNil, ↓r_gqCons, ↓r_gTqE, ↓r_gTqP, ↓r_gTqT, ↓r_sNil, ↓r_sSeq, ↓r_sDrop, ↓r_sRet, ↓r_sRetN, ↓r_sBreak, ↓r_sCont, ↓r_sIf, ↓r_sAsg, ↓r_sSetIx, ↓r_sFor, ↓r_dC, ↓r_xP, ↓r_dF, ↓r_xF, ↓r_xDic, ↓r_xLst, ↓r_axNil, ↓r_axCons, ↓r_aNil, ↓r_aCons, ↓r_allT0, ↓r_allT1, ↓r_dTup, ↓r_dLst, ↓r_blK, ↓r_dTest, ↓r_dAnd, ↓r_dOr, ↓r_dNot, ↓r_tYesD, ↓r_dAndV, ↓r_dOrV, ↓r_dNotV, ↓r_dIf, ↓r_d2, ↓r_dSub, ↓r_dMul, ↓r_dMod, ↓r_dDiv, ↓r_dPow, ↓r_dShl, ↓r_dShr, ↓r_dBand, ↓r_dBor, ↓r_dLt, ↓r_dLe, ↓r_dGt, ↓r_dGe, ↓r_ii, ↓r_dNeg, ↓r_negK, ↓r_dEq, ↓r_dNe, ↓r_eqW, ↓r_neW, ↓r_tw, ↓r_addI, ↓r_addT, ↓r_addLL, ↓r_addRL, ↓r_addLR, ↓r_addRR, ↓r_dChain, ↓r_ch1, ↓r_ch2, ↓r_dIx, ↓r_ixT, ↓r_ixL, ↓r_ixR, ↓r_atDm, ↓r_eP, ↓r_atKeP, ↓r_atKlast, ↓r_atK0, ↓r_atD0, ↓r_atK1, ↓r_atD1, ↓r_atK2, ↓r_atD2, ↓r_atK3, ↓r_atD3, ↓r_atK4, ↓r_atD4, ↓r_atK5, ↓r_atD5, ↓r_atK6, ↓r_atK7, ↓r_atK8, ↓r_atK9, ↓r_atK10, ↓r_atK11, ↓r_v0, ↓r_g0, ↓r_a0, ↓r_v1, ↓r_g1, ↓r_a1, ↓r_v2, ↓r_g2, ↓r_a2, ↓r_v3, ↓r_g3, ↓r_a3, ↓r_v4, ↓r_g4, ↓r_a4, ↓r_v5, ↓r_g5, ↓r_a5, ↓r_v6, ↓r_g6, ↓r_a6, ↓r_v7, ↓r_g7, ↓r_a7, ↓r_v8, ↓r_g8, ↓r_a8, ↓r_v9, ↓r_g9, ↓r_a9, ↓r_v10, ↓r_g10, ↓r_a10, ↓r_v11, ↓r_g11, ↓r_a11, ↓r_v12, ↓r_g12, ↓r_a12, ↓r_v13, ↓r_g13, ↓r_a13, ↓r_v14, ↓r_g14, ↓r_a14, ↓r_v15, ↓r_g15, ↓r_a15, ↓r_v16, ↓r_g16, ↓r_a16, ↓r_v17, ↓r_g17, ↓r_a17, ↓r_v18, ↓r_g18, ↓r_a18, ↓r_v19, ↓r_g19, ↓r_a19, ↓r_IAdd, ↓r_ISub, ↓r_vwt, ↓r_srcLl, ↓r_srcLr, ↓r_srcAl, ↓r_srcAr, ↓r_srcAt, ↓r_srcDl, ↓r_srcDr, ↓r_srcDt, ↓r_xM, ↓r_append, r_insert, r_wRepr, r_xListD, r_eqS, ↓r_reverse, ↓r_clear, ↓r_push0, ↓r_vw0, ↓r_srcL0, ↓r_srcA0, ↓r_vwn0, ↓r_srcLn0, ↓r_srcD0, ↓r_ixM0, ↓r_xMk0, ↓r_apK0, ↓r_push1, ↓r_vw1, ↓r_srcL1, ↓r_srcA1, ↓r_vwn1, ↓r_srcLn1, ↓r_srcD1, ↓r_ixM1, ↓r_xMk1, ↓r_apK1, ↓r_push2, ↓r_vw2, ↓r_srcL2, ↓r_srcA2, ↓r_vwn2, ↓r_srcLn2, ↓r_srcD2, ↓r_ixM2, ↓r_xMk2, ↓r_apK2, ↓r_push3, ↓r_vw3, ↓r_srcL3, ↓r_srcA3, ↓r_vwn3, ↓r_srcLn3, ↓r_srcD3, ↓r_ixM3, ↓r_xMk3, ↓r_apK3, ↓r_push4, ↓r_vw4, ↓r_srcL4, ↓r_srcA4, ↓r_vwn4, ↓r_srcLn4, ↓r_srcD4, ↓r_ixM4, ↓r_xMk4, ↓r_apK4, ↓r_push5, ↓r_vw5, ↓r_srcL5, ↓r_srcA5, ↓r_vwn5, ↓r_srcLn5, ↓r_srcD5, ↓r_ixM5, ↓r_xMk5, ↓r_apK5, ↓r_extend, ↓r_dIsi, ↓r_isi_int_int, ↓r_isi_int_bool, ↓r_isi_int_str, ↓r_isi_int_list, ↓r_isi_int_tuple, ↓r_isi_int_dict, ↓r_isi_bl_int, ↓r_isi_bl_bool, ↓r_isi_bl_str, ↓r_isi_bl_list, ↓r_isi_bl_tuple, ↓r_isi_bl_dict, ↓r_isi_str_int, ↓r_isi_str_bool, ↓r_isi_str_str, ↓r_isi_str_list, ↓r_isi_str_tuple, ↓r_isi_str_dict, ↓r_isi_tup_int, ↓r_isi_tup_bool, ↓r_isi_tup_str, ↓r_isi_tup_list, ↓r_isi_tup_tuple, ↓r_isi_tup_dict, ↓r_isi_lst_int, ↓r_isi_lst_bool, ↓r_isi_lst_str, ↓r_isi_lst_list, ↓r_isi_lst_tuple, ↓r_isi_lst_dict, ↓r_isi_ro_int, ↓r_isi_ro_bool, ↓r_isi_ro_str, ↓r_isi_ro_list, ↓r_isi_ro_tuple, ↓r_isi_ro_dict, ↓r_isi_non_int, ↓r_isi_non_bool, ↓r_isi_non_str, ↓r_isi_non_list, ↓r_isi_non_tuple, ↓r_isi_non_dict, ↓r_isi_emp_int, ↓r_isi_emp_bool, ↓r_isi_emp_str, ↓r_isi_emp_list, ↓r_isi_emp_tuple, ↓r_isi_emp_dict, ↓r_isi_remp_int, ↓r_isi_remp_bool, ↓r_isi_remp_str, ↓r_isi_remp_list, ↓r_isi_remp_tuple, ↓r_isi_remp_dict, ↓r_dBi, ↓r_fBi, ↓r_wMM, ↓r_wTt, ↓r_wTl, ↓r_wTs, ↓r_wTr, ↓r_wLt, ↓r_wLl, ↓r_wLr, ↓r_wL0, ↓r_wL1, ↓r_wL2, ↓r_wL3, ↓r_wL4, ↓r_wL5, ↓r_bsK, ↓r_sumK, ↓r_wAny, ↓r_wAll, ↓r_wSum, ↓r_dSl, ↓r_oNo, ↓r_oSo, ↓r_oK, ↓r_slR, ↓r_slL, ↓r_fEv, ↓r_fOd, ↓r_fAdd, ↓r_fLc, ↓r_iSq, ↓r_iEn, ↓r_iZp2, ↓r_iZp3, ↓r_dCall, ↓r_fCall, ↓r_vwA0, ↓r_vwA1, ↓gNil_n, ↓gCons_c, ↓gTp_t, ↓gTp_eP, ok_lnil, ok_tnil, ok_pairs, ok_set, ok_ints, ok_roInts, ok_int, ok_bl, eq_int, eq_lnil, eq_ronil, eq_tnil, sz0, sz1, sz2, sz3, sz4, snocP, snocI, List.isEmpty_map, List.length_map, List.length_cons, List.length_nil, Nat.reduceAdd, Nat.zero_add, Nat.reduceEqDiff, Bool.not_true, Bool.not_false, if_true, if_false, ite_true, ite_false, true_and, and_true, and_self, reduceIte, reduceCtorEq, Bool.false_eq_true, decide_true, Int.reduceNeg])
section
structure GrAt [Wd] (μ : Store) (g a b : Nat) (ts : List Go) : Prop where
  gr : μ[g]? = some (.ins "Grower" [("grown", .loc a), ("numbered", .loc b)])
  grown : μ[a]? = some (.lst ((ts.map (encT ts)).map D.t))
  num : μ[b]? = some (kdM Wd.w (numK ts))
section
variable [Wd] {μ : Store} {Q : D → Store → Prop} {g a b : Nat} {ts : List Go} {d : Nat}
theorem GrAt.ab (A : GrAt μ g a b ts) : a ≠ b := at_ne A.grown A.num fun e => by cases e
theorem GrAt.ga (A : GrAt μ g a b ts) : g ≠ a := at_ne A.gr A.grown fun e => by cases e
theorem GrAt.gb (A : GrAt μ g a b ts) : g ≠ b := at_ne A.gr A.num fun e => by cases e
theorem GrAt.cl (A : GrAt μ g a b ts) : ∀ i, i ∈ [a, b] → ∀ o, μ[i]? = some o → clean o := fun i hi o e => by
  rcases List.mem_cons.mp hi with rfl | hi
  · rw [A.grown] at e
    cases e
    exact True.intro
  · rw [List.mem_singleton.mp hi, A.num] at e
    cases e
    exact True.intro
theorem GrAt.keep {μ' : Store} (A : GrAt μ g a b ts) (k1 : μ'[g]? = μ[g]?) (k2 : μ'[a]? = μ[a]?) (k3 : μ'[b]? = μ[b]?) : GrAt μ' g a b ts := ⟨k1.trans A.gr, k2.trans A.grown, k3.trans A.num⟩
theorem GrAt.push (A : GrAt μ g a b ts) (l : Store) : GrAt (μ ++ l) g a b ts := ⟨ap_get A.gr l, ap_get A.grown l, ap_get A.num l⟩
theorem mkT_one {f : Nat} {ws : List Wy} {w : Wy} (h : mrg ws = [w]) : mkT f ws = w.2 := by
  unfold mkT
  rw [h]
theorem mkT_many {f : Nat} {ws : List Wy} (h : (mrg ws).length ≠ 1) : mkT f ws = .test f (mrg ws) := by
  unfold mkT
  split
  · rename_i w e
    rw [e] at h
    exact (h rfl).elim
  · rfl
theorem goal_of_ok (hd : d ≤ 4) (A : GrAt μ g a b ts) (c : Cl d ts) {f wl : Nat} {ws : List Wy} (hw : μ[wl]? = some (.lst ((ws.map (encW ts)).map D.t))) (hi : ∀ w ∈ ws, InG d ts w.2) (hn : ws ≠ []) (sz : ws.length ≤ 1000000) (st : ts.length < 1000000)
    (q : ∀ μ' us, GrAt μ' g a b (ts ++ us) → Cl d (ts ++ us) → us.length ≤ 1 → InG d (ts ++ us) (mkT f ws) → Ch [a, b] μ μ' → Q (.t (encG (ts ++ us) (mkT f ws))) μ') : c_Grower_goal_of [.loc g, .t (.int f), .loc wl] μ Q := by
  refine ⟨rfl, ?_⟩
  show b_Grower_goal_of [some (.loc g), some (.t (.int f)), some (.loc wl), none, none, none, none] μ _
  unfold b_Grower_goal_of
  try walk_at "gw"
  simp only [pushK]
  refine src_list (ap_get hw _) ?_
  refine for_mapM (encW ts) (fun r env m => ∃ dn o1 o2 xs, dn ++ r = ws ∧ xs = dn.foldl mstep [] ∧ xs.length ≤ dn.length ∧ (∀ w ∈ xs, w ∈ ws) ∧ env = [some (.loc g), some (.t (.int f)), some (.loc wl), some (.loc μ.length), o1, o2, none] ∧ m = μ ++ [.lst ((xs.map (encW ts)).map D.t)]) ?_ ?_ ⟨[], none, none, [], rfl, rfl, Nat.le_refl _, fun _ h => (by cases h), rfl, rfl⟩
  · rintro w r env m N ⟨dn, o1, o2, xs, h1, h2, h3, h4, rfl, rfl⟩ hN
    refine ⟨ap_get hw _, ?_⟩
    have hwm : w ∈ ws := by rw [← h1]; simp
    have hlen : dn.length + 1 ≤ ws.length := by rw [← h1]; simp
    have hfold : (dn ++ [w]).foldl mstep [] = mstep xs w := by rw [List.foldl_append, ← h2]; rfl
    have hsz : xs.length < sizeLine := by rw [sizeLine_eq]; omega
    have app : ∀ zs : List Wy, zs.length ≤ xs.length → (∀ z ∈ zs, z ∈ ws) → mstep xs w = zs ++ [w] → ∀ (e : DEnv), e = [some (.loc g), some (.t (.int f)), some (.loc wl), some (.loc μ.length), some (.t (.int w.1)), some (.t (encG ts w.2)), none] →
        xMk (.loc μ.length) (axCons (xP (dTup (aCons (dVar 4) (aCons (dVar 5) aNil)))) axNil) wAppend e (μ ++ [.lst ((zs.map (encW ts)).map D.t)]) fun x m => N e m := fun zs hz hm hs e he => by
      subst he
      refine xm_at (push_atb _ _) ?_
      try walk_at "gw"
      refine ⟨_, push_atb _ _, by rw [List.length_map, List.length_map]; omega, ?_⟩
      show N _ (List.set _ _ _)
      rw [push_setb]
      refine hN _ _ ⟨dn ++ [w], _, _, mstep xs w, by rw [List.append_assoc]; exact h1, hfold.symm, ?_, ?_, rfl, ?_⟩
      · rw [hs, List.length_append, List.length_append]
        simp only [List.length_singleton]
        omega
      · rw [hs]
        intro z hz'
        rcases List.mem_append.mp hz' with hz' | hz'
        · exact hm z hz'
        · rw [List.mem_singleton.mp hz']
          exact hwm
      · rw [hs, List.map_append, List.map_append]
        rfl
    rw [show encW ts w = T.tup [.int w.1, encG ts w.2] from rfl]
    try walk_at "gw"
    rcases snoc_or xs with e | ⟨ys, y, e⟩
    · subst e
      refine nil_at (push_atb _ _) ?_
      try walk_at "gw"
      exact app [] (Nat.le_refl _) (fun z hz => (by cases hz)) rfl _ rfl
    · subst e
      have hy : y ∈ ws := h4 y (by simp)
      refine nil_at (push_atb _ _) ?_
      rw [show ((((ys ++ [y]).map (encW ts)).map D.t).isEmpty) = false from by simp]
      try walk_at "gw"
      rw [List.map_append, List.map_append]
      refine ix_list (push_atb _ _) (atI_last _ _) ?_
      rw [show encW ts y = T.tup [.int y.1, encG ts y.2] from rfl]
      try walk_at "gw"
      refine ⟨plN_okT (encG_pl (hi y hy)) (by omega), plN_okT (encG_pl (hi w hwm)) (by omega), ?_⟩
      by_cases e : y.2 = w.2
      · rw [if_pos ((encG_eq (by omega) (hi y hy) (hi w hwm)).mpr e)]
        refine xm_pop (push_atb _ _) ?_
        rw [push_setb]
        exact app ys (by simp) (fun z hz => h4 z (List.mem_append_left _ hz)) (by rw [mstep_snoc, if_pos e]) _ rfl
      · rw [if_neg fun z => e ((encG_eq (by omega) (hi y hy) (hi w hwm)).mp z)]
        have := app (ys ++ [y]) (Nat.le_refl _) h4 (by rw [mstep_snoc, if_neg e]) _ rfl
        rw [List.map_append, List.map_append] at this
        exact this
  · rintro env m ⟨dn, o1, o2, xs, h1, h2, h3, h4, rfl, rfl⟩
    refine ⟨ap_get hw _, ?_⟩
    try walk_at "gw"
    rw [List.append_nil] at h1
    subst h1
    rw [mrg_foldl] at h2
    refine len_list (push_atb _ _) ?_
    try walk_at "gw"
    by_cases m1 : xs.length = 1
    · obtain ⟨w, e⟩ := List.length_eq_one_iff.mp m1
      subst e
      rw [if_pos (by rw [m1]; rfl)]
      refine ix_list (push_atb _ _) (atI_0 _ _) ?_
      rw [show encW ts w = T.tup [.int w.1, encG ts w.2] from rfl]
      try walk_at "gw"
      have z := q μ [] (by rw [List.append_nil]; exact A) (by rw [List.append_nil]; exact c) (Nat.zero_le _) (by rw [List.append_nil, mkT_one h2.symm]; exact hi w (h4 w List.mem_cons_self)) (Ch.refl A.cl)
      rw [List.append_nil, mkT_one h2.symm] at z
      exact .inr (.inl ⟨_, _, rfl, rfl, z⟩)
    · rw [if_neg (by simp only [beq_iff_eq]; omega)]
      refine srcL_list (push_atb _ _) ?_
      have hT : InT d ts (.test f xs) := ⟨f, xs, rfl, fun w hw => hi w (h4 w hw), by omega⟩
      have e1 : mkT f dn = .test f xs := by rw [mkT_many (by rw [← h2]; exact m1), h2]
      have e2 : T.tup [.int f, .tup (xs.map (encW ts))] = encT ts (.test f xs) := rfl
      rw [e2]
      rw [e1] at q
      have A1 := A.push [MO.lst ((xs.map (encW ts)).map D.t)]
      have lt : ts.length < sizeLine := by rw [sizeLine_eq]; omega
      refine fld_at A1.gr (by simp) rfl ?_
      refine ⟨encT_isN hd hT, _, A1.num, ?_⟩
      rw [num_val c hT]
      by_cases m2 : Go.test f xs ∈ ts
      · rw [if_pos m2]
        try walk_at "gw"
        refine fld_at A1.gr (by simp) rfl ⟨encT_isN hd hT, _, _, A1.num, by rw [num_val c hT, if_pos m2], ?_⟩
        try walk_at "gw"
        have z := q μ [] (by rw [List.append_nil]; exact A) (by rw [List.append_nil]; exact c) (Nat.zero_le _) (by rw [List.append_nil]; exact m2) (Ch.refl A.cl)
        rw [List.append_nil] at z
        exact .inr (.inl ⟨_, _, rfl, rfl, z⟩)
      · rw [if_neg m2]
        try walk_at "gw"
        refine fld_at A1.gr (by simp) rfl (len_list A1.grown (fld_at A1.gr (by simp) rfl ?_))
        rw [List.length_map, List.length_map]
        refine ⟨encT_isN hd hT, _, A1.num, by rw [num_len]; exact lt, ?_⟩
        rw [num_snoc c hT m2]
        generalize hS : (μ ++ [MO.lst ((xs.map (encW ts)).map D.t)]).set b (kdM Wd.w (numK (ts ++ [Go.test f xs]))) = S
        have sg : S[g]? = some (.ins "Grower" [("grown", .loc a), ("numbered", .loc b)]) := by rw [← hS, set_off A.gb]; exact A1.gr
        have sa : S[a]? = some (.lst ((ts.map (encT ts)).map D.t)) := by rw [← hS, set_off A.ab]; exact A1.grown
        have sb : S[b]? = some (kdM Wd.w (numK (ts ++ [Go.test f xs]))) := by rw [← hS]; exact set_hit A1.num
        have ch : Ch [a, b] μ S := by
          rw [← hS]
          exact (Ch.push (o := MO.lst _) True.intro A.cl).trans (Ch.set (o := kdM _ _) True.intro (by simp) A1.cl)
        refine fld_at sg (by simp) rfl (xm_at sa ?_)
        try walk_at "gw"
        refine ⟨_, sa, by rw [List.length_map, List.length_map]; exact lt, ?_⟩
        show fldD _ _ (List.set _ _ _) _ _
        have e3 : MO.lst ((ts.map (encT ts)).map D.t ++ [D.t (encT ts (.test f xs))]) = .lst (((ts ++ [Go.test f xs]).map (encT (ts ++ [Go.test f xs]))).map D.t) := by
          rw [enc_snoc c hT, List.map_append]
          rfl
        rw [e3]
        generalize hS2 : S.set a (.lst (((ts ++ [Go.test f xs]).map (encT (ts ++ [Go.test f xs]))).map D.t)) = S2
        have A2 : GrAt S2 g a b (ts ++ [Go.test f xs]) := by
          rw [← hS2]
          refine ⟨?_, set_hit sa, ?_⟩
          · rw [set_off A.ga]; exact sg
          · rw [set_off A.ab.symm]; exact sb
        have ch2 : Ch [a, b] μ S2 := by
          rw [← hS2]
          refine ch.trans (Ch.set (o := MO.lst _) True.intro (by simp) fun i hi o e => ?_)
          rcases List.mem_cons.mp hi with rfl | hi
          · rw [sa] at e; cases e; exact True.intro
          · rw [List.mem_singleton.mp hi, sb] at e; cases e; exact True.intro
        have c2 := c.snoc hT m2
        have hm : Go.test f xs ∈ ts ++ [.test f xs] := by simp
        refine fld_at A2.gr (by simp) rfl ⟨encT_isN hd hT, _, _, A2.num, by rw [← encT_app (us := [.test f xs]) hT, num_val c2 (hT.app _), if_pos hm], ?_⟩
        try walk_at "gw"
        exact .inl (q S2 [.test f xs] A2 c2 (Nat.le_refl _) hm ch2)
end
end
section
/-! ### the tests, numbered as they are come to -/
noncomputable def fndK (ts fs : List Go) : List (Key × D) := fs.zipIdx.map fun z => (Sum.inl (pos ts z.1 : Int), D.t (.int z.2))
theorem valD_pos {p : Key × D} {kvs : List (Key × D)} {k : Key} (e : p.1 = k) : valD (p :: kvs) k = some p.2 := by
  unfold valD
  rw [List.find?_cons_of_pos (by exact decide_eq_true e)]
  rfl
theorem valD_neg {p : Key × D} {kvs : List (Key × D)} {k : Key} (e : ¬ p.1 = k) : valD (p :: kvs) k = valD kvs k := by
  unfold valD
  rw [List.find?_cons_of_neg (by simpa using e)]
theorem valD_some {kvs : List (Key × D)} {k : Key} : (kvs.any fun kv => decide (kv.1 = k)) = (valD kvs k).isSome := by
  induction kvs with
  | nil => rfl
  | cons p kvs ih =>
    rw [List.any_cons, ih]
    by_cases e : p.1 = k
    · rw [valD_pos e, decide_eq_true e]; rfl
    · rw [valD_neg e, decide_eq_false e, Bool.false_or]
theorem fnd_go {ts : List Go} {t : Go} (ht : t ∈ ts) : ∀ {l : List Go} (k : Nat), (∀ u ∈ l, u ∈ ts) → valD ((l.zipIdx k).map fun z => (Sum.inl (pos ts z.1 : Int), D.t (.int z.2))) (.inl (pos ts t : Int)) = if t ∈ l then some (.t (.int (k + pos l t : Nat))) else none
  | [], k, _ => by rw [if_neg (by simp)]; rfl
  | u :: l, k, h => by
    rw [List.zipIdx_cons, List.map_cons]
    by_cases e : u = t
    · rw [valD_pos (by rw [e]), if_pos (by rw [e]; exact List.mem_cons_self)]
      have z : pos (u :: l) t = 0 := if_pos e
      rw [z]
      rfl
    · have ne : ¬ (Sum.inl (pos ts u : Int) : Key) = Sum.inl (pos ts t : Int) := fun z => e (pos_inj (h u List.mem_cons_self) ht (by have := Sum.inl.inj z; omega))
      rw [valD_neg (by exact ne), fnd_go ht (k + 1) fun z hz => h z (List.mem_cons_of_mem _ hz)]
      by_cases m : t ∈ l
      · rw [if_pos m, if_pos (List.mem_cons_of_mem _ m)]
        have z : pos (u :: l) t = pos l t + 1 := if_neg e
        rw [z]
        congr 4
        omega
      · rw [if_neg m, if_neg fun z => (List.mem_cons.mp z).elim (fun z => e z.symm) m]
theorem fnd_val {ts fs : List Go} {t : Go} (ht : t ∈ ts) (h : ∀ u ∈ fs, u ∈ ts) : valD (fndK ts fs) (.inl (pos ts t : Int)) = if t ∈ fs then some (.t (.int (pos fs t))) else none := by
  have := fnd_go ht 0 h
  rw [Nat.zero_add] at this
  exact this
theorem fnd_snoc {ts fs : List Go} {t : Go} (ht : t ∈ ts) (h : ∀ u ∈ fs, u ∈ ts) (n : t ∉ fs) : putD (fndK ts fs) (.inl (pos ts t : Int)) (.t (.int fs.length)) = fndK ts (fs ++ [t]) := by
  unfold putD
  rw [valD_some, fnd_val ht h, if_neg n, if_neg (by decide)]
  unfold fndK
  rw [List.zipIdx_append, List.map_append]
  simp only [List.zipIdx_cons, List.zipIdx_nil, List.map_cons, List.map_nil, Nat.zero_add]
theorem fnd_len {ts fs : List Go} : (fndK ts fs).length = fs.length := by
  unfold fndK
  rw [List.length_map, List.length_zipIdx]
theorem eqT_tt : eqT (.str "test") (.str "test") = true := by decide +kernel
theorem eqT_lt : eqT (.str "leaf") (.str "test") = false := by decide +kernel
theorem okT_te : okT (.str "test") = true := by decide +kernel
theorem okT_le : okT (.str "leaf") = true := by decide +kernel
theorem sub_len : ∀ {fs ts : List Go}, fs.Nodup → (∀ t ∈ fs, t ∈ ts) → fs.length ≤ ts.length
  | [], ts, _, _ => Nat.zero_le _
  | a :: fs, ts, nd, h => by
    obtain ⟨n1, n2⟩ := List.nodup_cons.mp nd
    have m := h a List.mem_cons_self
    have ih := sub_len (fs := fs) (ts := ts.erase a) n2 fun t ht => (List.mem_erase_of_ne fun e => n1 (by rw [← e]; exact ht)).mpr (h t (List.mem_cons_of_mem _ ht))
    rw [List.length_erase_of_mem m] at ih
    have := List.length_pos_of_mem m
    rw [List.length_cons]
    omega
section
variable {μ : Store} {Q : D → Store → Prop} {ts : List Go} {d : Nat}
theorem numG_nd {d : Nat} {k : Nat} {g : Go} (h : Lv d k g) {fs : List Go} (nd : fs.Nodup) : (numG k g fs).Nodup := (numG_ok h fs).1.nd nd
theorem number_ok (c : Cl d ts) (st : ts.length < 1000000) {tl fl : Nat} : ∀ {k : Nat} {g : Go}, Lv d k g → InG d ts g → ∀ {N : Nat}, k + 1 ≤ N → ∀ {fs : List Go}, (∀ t ∈ fs, t ∈ ts) → fs.Nodup → ∀ {μ : Store} {Q : D → Store → Prop}, μ[tl]? = some (.lst ((ts.map (encT ts)).map D.t)) → μ[fl]? = some (.dic (fndK ts fs)) →
    Q (.t .non) (μ.set fl (.dic (fndK ts (numG k g fs)))) → cD_number_tests N [.loc tl, .t (encG ts g), .loc fl] μ Q := by
  intro k
  induction k with
  | zero =>
    intro g lv hg N le fs hfs nd μ Q ht hf q
    obtain ⟨N, rfl⟩ : ∃ j, N = j + 1 := ⟨N - 1, by omega⟩
    cases g with
    | test _ _ => exact lv.elim
    | leaf u =>
      refine ⟨rfl, ?_⟩
      show b_number_tests _ [some (.loc tl), some (.t (.tup [.str "leaf", u])), some (.loc fl), none, none] μ _
      unfold b_number_tests
      try walk_at "gw"
      simp only [okT_le, okT_te, eqT_lt, true_and]
      try walk_at "gw"
      rw [numG_leaf, set_id hf] at q
      exact .inl q
  | succ k ih =>
    intro g lv hg N le fs hfs nd μ Q ht hf q
    obtain ⟨N, rfl⟩ : ∃ j, N = j + 1 := ⟨N - 1, by omega⟩
    cases g with
    | leaf u =>
      refine ⟨rfl, ?_⟩
      show b_number_tests _ [some (.loc tl), some (.t (.tup [.str "leaf", u])), some (.loc fl), none, none] μ _
      unfold b_number_tests
      try walk_at "gw"
      simp only [okT_le, okT_te, eqT_lt, true_and]
      try walk_at "gw"
      rw [numG_leaf, set_id hf] at q
      exact .inl q
    | test f ws =>
      refine ⟨rfl, ?_⟩
      show b_number_tests _ [some (.loc tl), some (.t (.tup [.str "test", .int (pos ts (.test f ws))])), some (.loc fl), none, none] μ _
      unfold b_number_tests
      try walk_at "gw"
      simp only [okT_te, eqT_tt, true_and]
      try walk_at "gw"
      have hg : Go.test f ws ∈ ts := hg
      have ne : fl ≠ tl := at_ne hf ht fun e => by cases e
      have fsl := sub_len nd hfs
      refine Or.inr ⟨_, _, Or.inl hf, rfl, ?_⟩
      rw [fnd_val hg hfs]
      unfold numG at q
      by_cases m : Go.test f ws ∈ fs
      · rw [if_pos m] at q ⊢
        rw [set_id hf] at q
        try walk_at "gw"
        rw [if_neg (by simp)]
        exact .inl q
      · rw [if_neg m] at q ⊢
        try walk_at "gw"
        rw [if_pos (by rfl)]
        refine len_dict hf ?_
        refine Or.inr ⟨_, _, hf, rfl, by rw [fnd_len, sizeLine_eq]; omega, ?_⟩
        rw [fnd_len, fnd_snoc hg hfs m]
        refine ix_list (by rw [set_off ne.symm]; exact ht) (atI_nat (by rw [List.getElem?_map, List.getElem?_map, pos_get hg]; rfl)) ?_
        rw [encT_test]
        try walk_at "gw"
        obtain ⟨f', ws', e, hw, hz⟩ := c.2 _ hg
        cases e
        refine for_mapM (encW ts) (fun r env m => ∃ dn o1 o2 F, dn ++ r = ws ∧ F = dn.foldl (fun fs w => numG k w.2 fs) (fs ++ [.test f ws]) ∧ (∀ t ∈ F, t ∈ ts) ∧ F.Nodup ∧
          env = [some (.loc tl), some (.t (.tup [.str "test", .int (pos ts (.test f ws))])), some (.loc fl), o1, o2] ∧ m = μ.set fl (.dic (fndK ts F))) ?_ ?_ ⟨[], none, none, _, rfl, rfl, ?_, ?_, rfl, rfl⟩
        · rintro w r env mm NN ⟨dn, o1, o2, F, h1, h2, h3, h4, rfl, rfl⟩ hN
          refine ⟨trivial, ?_⟩
          have hwm : w ∈ ws := by rw [← h1]; simp
          rw [show encW ts w = T.tup [.int w.1, encG ts w.2] from rfl]
          try walk_at "gw"
          refine ih (lv.2 w hwm) (hw w hwm) (by omega) h3 h4 (by rw [set_off ne.symm]; exact ht) (set_hit hf) ?_
          rw [List.set_set]
          refine hN _ _ ⟨dn ++ [w], _, _, numG k w.2 F, by rw [List.append_assoc]; exact h1, by rw [List.foldl_append, ← h2]; rfl, numG_in c (hw w hwm) h3, numG_nd (lv.2 w hwm) h4, rfl, rfl⟩
        · rintro env mm ⟨dn, o1, o2, F, h1, h2, h3, h4, rfl, rfl⟩
          refine ⟨trivial, ?_⟩
          try walk_at "gw"
          rw [List.append_nil] at h1
          subst h1
          rw [← h2] at q
          exact .inl q
        · intro t ht'
          rcases List.mem_append.mp ht' with ht' | ht'
          · exact hfs t ht'
          · rw [List.mem_singleton.mp ht']
            exact hg
        · exact List.nodup_append.mpr ⟨nd, by simp, fun a ha b hb => fun e => m (by rw [List.mem_singleton.mp hb] at e; rw [← e]; exact ha)⟩
theorem goal_by_ok {fs : List Go} {g : Go} {fl : Nat} (hs : ∀ u ∈ fs, u ∈ ts) (hg : InG d ts g) (hf : InG d fs g) (hd : dicAt μ fl (fndK ts fs)) (q : Q (.t (encG fs g)) μ) : c_goal_by [.t (encG ts g), .loc fl] μ Q := by
  refine ⟨rfl, ?_⟩
  show b_goal_by [some (.t (encG ts g)), some (.loc fl)] μ _
  unfold b_goal_by
  cases g with
  | leaf u =>
    rw [show encG ts (.leaf u) = T.tup [.str "leaf", u] from rfl]
    try walk_at "gw"
    simp only [okT_le, okT_te, eqT_lt, true_and]
    try walk_at "gw"
    exact .inl q
  | test f ws =>
    rw [encG_test]
    try walk_at "gw"
    simp only [okT_te, eqT_tt, true_and]
    try walk_at "gw"
    have hg : Go.test f ws ∈ ts := hg
    have hf : Go.test f ws ∈ fs := hf
    have v : valD (fndK ts fs) (.inl (pos ts (.test f ws) : Int)) = some (.t (.int (pos fs (.test f ws)))) := by
      rw [fnd_val hg hs, if_pos hf]
    rcases hd with hd | ⟨z, hd⟩
    · refine .inr (.inl ⟨_, _, _, hd, rfl, v, ?_⟩)
      try walk_at "gw"
      exact .inl q
    · refine .inr (.inr ⟨z, _, _, _, hd, rfl, v, ?_⟩)
      try walk_at "gw"
      exact .inl q
end
end
section
def IsL (sd : D) (xs : List T) : Prop := ∀ (μ : Store) (R : List T → Prop), R xs → wListA μ [sd] R
theorem isL_lst (xs : List T) : IsL (.t (.lst xs)) xs := fun μ R q => q
theorem isL_ro (xs : List T) : IsL (.t (.ro xs)) xs := fun μ R q => q
structure TabAt (μ : Store) (n : Nat) (sides : List T) (top : T) (tests : List T) : Prop where
  at_ : ∃ s k, μ[n]? = some (.ins "Table" [("sides", .loc s), ("first_goal", .t top), ("kept_tests", .loc k)]) ∧ μ[s]? = some (.lst (sides.map D.t)) ∧ μ[k]? = some (.lst (tests.map D.t))
section
variable {μ : Store} {Q : D → Store → Prop} {d : Nat} {ts : List Go}
theorem TabAt.keep {μ' : Store} {n : Nat} {sides tests : List T} {top : T} (h : TabAt μ n sides top tests) (k : ∀ (i : Nat) (o : MO), μ[i]? = some o → (∀ nf caps, o ≠ MO.fn nf caps) → μ'[i]? = some o) : TabAt μ' n sides top tests := by
  obtain ⟨s, l, h1, h2, h3⟩ := h
  exact ⟨s, l, k _ _ h1 fun _ _ e => (by cases e), k _ _ h2 fun _ _ e => (by cases e), k _ _ h3 fun _ _ e => (by cases e)⟩
theorem fnd_keys (ts : List Go) (fs : List Go) : (fndK ts fs).map (fun kv => kD kv.1) = (fs.map fun t => T.int (pos ts t)).map D.t := by
  unfold fndK
  rw [List.map_map, List.map_map]
  have : ∀ (l : List Go) (k : Nat), (l.zipIdx k).map ((fun kv : Key × D => kD kv.1) ∘ fun z => (Sum.inl (pos ts z.1 : Int), D.t (.int z.2))) = l.map (D.t ∘ fun t => T.int (pos ts t)) := by
    intro l
    induction l with
    | nil => intro k; rfl
    | cons u l ih =>
      intro k
      rw [List.zipIdx_cons, List.map_cons, List.map_cons, ih]
      rfl
  exact this fs 0
theorem table_init_ok {sd : D} {sides tests : List T} {top : T} {n p : Nat} (hn : μ[n]? = some (.ins "Table" [])) (hs : IsL sd sides) (hp : μ[p]? = some (.lst (tests.map D.t)))
    (q : ∀ μ', TabAt μ' n sides top tests → Ch [n] μ μ' → Q (.t .non) μ') : c_Table_init [.loc n, sd, .t top, .loc p] μ Q := by
  refine ⟨rfl, ?_⟩
  show b_Table_init [some (.loc n), some sd, some (.t top), some (.loc p)] μ _
  unfold b_Table_init
  try walk_at "gw"
  refine hs _ _ ?_
  simp only [pushK]
  have ln := at_lt hn
  have lp := at_lt hp
  have np : p ≠ n := at_ne hp hn fun e => by cases e
  have cl : ∀ i, i ∈ [n] → ∀ o, μ[i]? = some o → clean o := fun i hi o e => by
    rw [List.mem_singleton.mp hi, hn] at e
    cases e
    exact True.intro
  refine put_at (ap_get hn _) (by simp) (by show 0 < 1000; decide) ?_
  generalize h1 : (μ ++ [MO.lst (sides.map D.t)]).set n (.ins "Table" (putA "sides" (D.loc μ.length) [])) = S1
  have a1 : S1[n]? = some (.ins "Table" [("sides", .loc μ.length)]) := by rw [← h1]; exact set_hit (ap_get hn _)
  have b1 : S1[μ.length]? = some (.lst (sides.map D.t)) := by rw [← h1, set_off (by omega)]; exact push_atb _ _
  have p1 : S1[p]? = some (.lst (tests.map D.t)) := by rw [← h1, set_off np]; exact ap_get hp _
  have c1 : Ch [n] μ S1 := by
    rw [← h1]
    exact (Ch.push (o := MO.lst _) True.intro cl).trans (Ch.set (o := MO.ins _ _) True.intro (by simp) fun i hi o e => by
      rw [List.mem_singleton.mp hi, ap_get hn _] at e
      cases e
      exact True.intro)
  refine put_at a1 (by simp) (by show 1 < 1000; decide) ?_
  generalize h2 : S1.set n (.ins "Table" (putA "first_goal" (D.t top) [("sides", .loc μ.length)])) = S2
  have cl1 : ∀ {S : Store} {fs : List (Str × D)}, S[n]? = some (.ins "Table" fs) → ∀ i, i ∈ [n] → ∀ o, S[i]? = some o → clean o := fun {S fs} h i hi o e => by
    rw [List.mem_singleton.mp hi, h] at e
    cases e
    exact True.intro
  have a2 : S2[n]? = some (.ins "Table" [("sides", .loc μ.length), ("first_goal", .t top)]) := by rw [← h2]; exact set_hit a1
  have b2 : S2[μ.length]? = some (.lst (sides.map D.t)) := by rw [← h2, set_off (by omega)]; exact b1
  have p2 : S2[p]? = some (.lst (tests.map D.t)) := by rw [← h2, set_off np]; exact p1
  have c2 : Ch [n] μ S2 := by
    rw [← h2]
    exact c1.trans (Ch.set (o := MO.ins _ _) True.intro (by simp) (cl1 a1))
  refine listA_loc p2 ?_
  have l2 := at_lt a2
  have l3 := at_lt b2
  refine put_at (ap_get a2 _) (by simp) (by show 2 < 1000; decide) ?_
  generalize h3 : (S2 ++ [MO.lst (tests.map D.t)]).set n (.ins "Table" (putA "kept_tests" (D.loc S2.length) [("sides", .loc μ.length), ("first_goal", .t top)])) = S3
  refine .inl (q S3 ⟨μ.length, S2.length, ?_, ?_, ?_⟩ ?_)
  · rw [← h3]; exact set_hit (ap_get a2 _)
  · rw [← h3, set_off (by omega)]; exact ap_get b2 _
  · rw [← h3, set_off (by omega)]; exact push_atb _ _
  · rw [← h3]
    exact c2.trans ((Ch.push (o := MO.lst _) True.intro (cl1 a2)).trans (Ch.set (o := MO.ins _ _) True.intro (by simp) (cl1 (ap_get a2 _))))
theorem Ch.push2 {x y : MO} (h1 : clean x) (h2 : clean y) : Ch [] μ (μ ++ [x, y]) := by
  rw [← two_app]
  exact (Ch.push h1 fun i hi => (by cases hi)).trans (Ch.push h2 fun i hi => (by cases hi))
theorem table_behind_ok [Wd] {g a b : Nat} (A : GrAt μ g a b ts) (c : Cl d ts) (st : ts.length < 1000000) {k : Nat} {top : Go} (lv : Lv d k top) (hk : k ≤ 5) (hg : InG d ts top) {sd : D} {sides : List T} (hs : IsL sd sides)
    (q : ∀ μ' n, TabAt μ' n sides (encG (testsG k top) top) ((testsG k top).map (encT (testsG k top))) → μ.length ≤ n → Ch [] μ μ' → Q (.loc n) μ') : c_Grower_table_behind [.loc g, sd, .t (encG ts top)] μ Q := by
  refine ⟨rfl, ?_⟩
  show b_Grower_table_behind [some (.loc g), some sd, some (.t (encG ts top)), none, none, none, none, none, none, none] μ _
  unfold b_Grower_table_behind
  try walk_at "gw"
  simp only [pushK]
  have A1 := A.push [MO.dic []]
  refine fld_at A1.gr (by simp) rfl ?_
  refine number_ok c st lv hg (N := 6) (by omega) (fs := []) (by simp) List.nodup_nil A1.grown (push_atb _ _) ?_
  rw [push_setb]
  obtain ⟨hF, hT⟩ := testsG_cl lv
  have sub : ∀ t ∈ testsG k top, t ∈ ts := numG_in c hg (by simp)
  have fl := sub_len hF.1 sub
  show ∃ n kvs, _
  have e0 : numG k top [] = testsG k top := rfl
  rw [e0]
  generalize testsG k top = F at *
  rw [two_app, one_len]
  refine ⟨μ.length, _, two_get0, fun z => ?_⟩
  rw [two_set0]
  refine ⟨z, _, two_get0, ?_⟩
  rw [fnd_keys]
  refine for_mapM (fun t => T.int (pos ts t)) (fun r env m => ∃ dn o5 o6 o7, dn ++ r = F ∧ env = [some (.loc g), some sd, some (.t (encG ts top)), some (.loc μ.length), some (.loc (μ.length + 1)), o5, o6, o7, none, none] ∧ m = μ ++ [.lck z (fndK ts F), .lst ((dn.map (encT F)).map D.t)]) ?_ ?_ ⟨[], none, none, none, rfl, rfl, rfl⟩
  · rintro t r env m N ⟨dn, o5, o6, o7, h1, rfl, rfl⟩ hN
    refine ⟨two_get0, ?_⟩
    have htF : t ∈ F := by rw [← h1]; simp
    have hdn : dn.length < F.length := by rw [← h1]; simp
    have A2 := A.push [MO.lck z (fndK ts F), .lst ((dn.map (encT F)).map D.t)]
    try walk_at "gw"
    refine fld_at A2.gr (by simp) rfl (ix_list A2.grown (atI_nat (by rw [List.getElem?_map, List.getElem?_map, pos_get (sub t htF)]; rfl)) ?_)
    obtain ⟨f, ws, rfl, hw, hz⟩ := c.2 t (sub t htF)
    obtain ⟨f', ws', e, hwF, _⟩ := hF.2 _ htF
    cases e
    rw [encT_test]
    try walk_at "gw"
    refine xm_at two_get1 ?_
    try walk_at "gw"
    refine ⟨by rw [sizeLine_eq]; omega, ?_⟩
    refine lcx_keep (encW ts) (encW F) trivial ?_ (.inr ⟨ws.map (encW F), rfl, ?_⟩)
    · intro w hwm NN hNN
      rw [show encW ts w = T.tup [.int w.1, encG ts w.2] from rfl]
      simp only [wipeE, List.set_cons_zero, List.set_cons_succ]
      try walk_at "gw"
      exact goal_by_ok sub (hw w hwm) (hwF w hwm) (.inr ⟨z, two_get0⟩) hNN
    · try walk_at "gw"
      refine ⟨_, two_get1, by rw [List.length_map, List.length_map, sizeLine_eq]; omega, ?_⟩
      show N _ (List.set _ _ _)
      rw [two_set1]
      refine hN _ _ ⟨dn ++ [.test f ws], _, _, _, by rw [List.append_assoc]; exact h1, rfl, ?_⟩
      rw [List.map_append, List.map_append]
      rfl
  · rintro env m ⟨dn, o5, o6, o7, h1, rfl, rfl⟩
    refine ⟨two_get0, ?_⟩
    try walk_at "gw"
    refine ⟨two_get0, ?_⟩
    rw [two_set0, List.append_nil] at *
    subst h1
    refine goal_by_ok sub hg hT (.inl two_get0) ?_
    refine table_init_ok (push_atb _ _) hs (ap_get two_get1 _) fun μ' TA ch => ⟨rfl, .inl ?_⟩
    rw [two_len] at *
    refine q μ' _ TA (by omega) ?_
    have c0 := Ch.push2 (μ := μ) (x := MO.dic (fndK ts dn)) (y := MO.lst ((dn.map (encT dn)).map D.t)) True.intro True.intro
    refine ⟨?_, fun i hi _ => ?_, fun i o e => ?_⟩
    · have := ch.1
      rw [one_len, two_len] at this
      omega
    · rw [ch.2.1 i (by rw [one_len, two_len]; omega) (by simp; omega), List.getElem?_append_left (by rw [two_len]; omega), c0.2.1 i hi (by simp)]
    · rcases ch.2.2 i o e with h | ⟨h1, h2⟩
      · exact .inl h
      · rw [ch.2.1 i h1 h2] at e
        have h3 : i ≠ μ.length + 2 := by simpa using h2
        rw [one_len, two_len] at h1
        rw [List.getElem?_append_left (by rw [two_len]; omega)] at e
        exact c0.2.2 i o e
end
end
section
/-! ### the maker -/
structure MkAt [Wd] (μ : Store) (p s r g a b h : Nat) (Ms : List Int) (boxes : List (List (List Pr))) (ts : List Go) (gf : List (T × D)) : Prop where
  ob : μ[p]? = some (.ins "Maker" [("sides", .loc s), ("rooms", .loc r), ("grower", .loc g), ("goals_found", .loc h)])
  sides : μ[s]? = some (.lst ((Ms.map T.int).map D.t))
  rooms : μ[r]? = some (.lst ((boxes.map boxT).map D.t))
  gr : GrAt μ g a b ts
  found : μ[h]? = some (kdM Wd.w gf)
def mkr (Ms : List Int) (boxes : List (List (List Pr))) (wk : List Nat → T) : Mkr := ⟨Ms.length, fun i => Ms.getD i 0, fun a i => (boxes.getD a []).getD i [], wk⟩
def keyA (f : Nat) (al : List Nat) : T := .tup [.int f, .tup (plT al)]
theorem plT_inj {a b : List Nat} (e : plT a = plT b) : a = b := by
  unfold plT at e
  induction a generalizing b with
  | nil => cases b with
    | nil => rfl
    | cons _ _ => cases e
  | cons x a ih => cases b with
    | nil => cases e
    | cons y b =>
      rw [List.map_cons, List.map_cons, List.cons.injEq, T.int.injEq] at e
      rw [ih e.2, Int.ofNat.inj e.1]
theorem keyA_pl (f : Nat) (al : List Nat) : plN 2 (keyA f al) = true := by
  show ([T.int f, .tup (plT al)].all (plN 1)) = true
  rw [List.all_cons, List.all_cons, List.all_nil, plN_int, plN_tup]
  have : (plT al).all (plN 0) = true := List.all_eq_true.mpr fun x hx => by
    obtain ⟨z, _, rfl⟩ := List.mem_map.mp hx
    exact plN_int
  rw [this]
  rfl
theorem keyA_isN (f : Nat) (al : List Nat) : isN (keyA f al) = true := plN_isN (by decide) (keyA_pl f al)
theorem keyA_inj {f f' : Nat} {al al' : List Nat} (e : keyN (keyA f al) = keyN (keyA f' al')) : f = f' ∧ al = al' := by
  have e := plN_key (keyA_pl f al) (keyA_pl f' al') e
  unfold keyA at e
  injection e with e
  injection e with e1 e
  injection e with e _
  injection e1 with e1
  injection e with e
  exact ⟨Int.ofNat.inj e1, plT_inj e⟩
def Memo (d : Nat) (m : Mkr) (ts : List Go) (gf : List (T × D)) : Prop := ∀ k, k ≤ m.n → ∀ al y, valN gf (keyN (keyA (m.n - k) al)) = some y → y = .t (encG ts (m.goal k al)) ∧ InG d ts (m.goal k al)
theorem Memo.app {d : Nat} {m : Mkr} {ts us : List Go} {gf : List (T × D)} (h : Memo d m ts gf) : Memo d m (ts ++ us) gf := fun k hk al y e => by
  obtain ⟨e1, e2⟩ := h k hk al y e
  exact ⟨by rw [e1, encG_app e2], e2.app us⟩
theorem Memo.put {d : Nat} {m : Mkr} {ts : List Go} {gf : List (T × D)} (h : Memo d m ts gf) {k : Nat} (hk : k ≤ m.n) {al : List Nat} (i : InG d ts (m.goal k al)) : Memo d m ts (putN gf (keyA (m.n - k) al) (.t (encG ts (m.goal k al)))) := fun k' hk' al' y e => by
  rw [valN_put] at e
  by_cases z : keyN (keyA (m.n - k) al) = keyN (keyA (m.n - k') al')
  · rw [if_pos z] at e
    obtain ⟨e1, e2⟩ := keyA_inj z
    obtain rfl : k = k' := by omega
    subst e2
    exact ⟨(Option.some.inj e).symm, i⟩
  · rw [if_neg z] at e
    exact h k' hk' al' y e
/-- how many a goal may add -/
def eB (B : Nat) : Nat → Nat
  | 0 => 1
  | k + 1 => B * eB B k + 2
def Al (nb : Nat) (al : List Nat) : Prop := al.Sublist (List.range nb)
theorem Al.lt {nb : Nat} {al : List Nat} (h : Al nb al) : ∀ a ∈ al, a < nb := fun a ha => List.mem_range.mp (h.subset ha)
theorem Al.len {nb : Nat} {al : List Nat} (h : Al nb al) : al.length ≤ nb := by
  have := h.length_le
  rw [List.length_range] at this
  exact this
theorem Al.later {nb : Nat} {al : List Nat} (h : Al nb al) (m : Mkr) (f : Nat) (x : Int) : Al nb (m.later f al x) := List.filter_sublist.trans h
structure MkOk (d B : Nat) (Ms : List Int) (boxes : List (List (List Pr))) (wk : List Nat → T) : Prop where
  ok : (mkr Ms boxes wk).Ok
  each : ∀ b ∈ boxes, b.length = Ms.length ∧ ∀ s ∈ b, s.length ≤ 1000
  few : boxes.length ≤ 1000
  leaf : ∀ al, Al boxes.length al → plN d (wk al) = true
  ways : ∀ f, f < Ms.length → ∀ al, Al boxes.length al → (partsOf (Ms.getD f 0) (al.map fun a => (boxes.getD a []).getD f [])).length ≤ B
  bd : B ≤ 1000000
  dd : d ≤ 4
section
variable {d B : Nat} {Ms : List Int} {boxes : List (List (List Pr))} {wk : List Nat → T}
theorem MkOk.lv (O : MkOk d B Ms boxes wk) : ∀ {k : Nat}, k ≤ Ms.length → ∀ {al : List Nat}, Al boxes.length al → Lv d k ((mkr Ms boxes wk).goal k al)
  | 0, _, al, h => O.leaf al h
  | k + 1, le, al, h => by
    have hw := O.ways (Ms.length - (k + 1)) (by omega) al h
    show Lv d (k + 1) (mkT _ _)
    have ch : ∀ w ∈ mrg ((partsOf ((mkr Ms boxes wk).M (Ms.length - (k + 1))) (al.map fun a => (mkr Ms boxes wk).room a (Ms.length - (k + 1)))).map fun p => (p.2, (mkr Ms boxes wk).goal k ((mkr Ms boxes wk).later (Ms.length - (k + 1)) al p.1))), Lv d k w.2 := fun w hwm => by
      obtain ⟨p, _, rfl⟩ := List.mem_map.mp (mrg_mem hwm)
      exact MkOk.lv O (by omega) (h.later _ _ _)
    have ln := mrg_len ((partsOf ((mkr Ms boxes wk).M (Ms.length - (k + 1))) (al.map fun a => (mkr Ms boxes wk).room a (Ms.length - (k + 1)))).map fun p => (p.2, (mkr Ms boxes wk).goal k ((mkr Ms boxes wk).later (Ms.length - (k + 1)) al p.1)))
    rw [List.length_map] at ln
    have bd := O.bd
    unfold mkT
    show Lv d (k + 1) (match mrg _ with | [w] => w.2 | l => .test _ l)
    split
    · rename_i w e
      rw [show (mkr Ms boxes wk).n = Ms.length from rfl] at e
      rw [e] at ch
      exact (ch w List.mem_cons_self).up
    · exact ⟨by
        have : (partsOf (Ms.getD (Ms.length - (k + 1)) 0) (al.map fun a => (boxes.getD a []).getD (Ms.length - (k + 1)) [])).length ≤ B := hw
        exact Nat.le_trans ln (Nat.le_trans this bd), ch⟩
/-- the state of the maker, in a store that began as μ0 -/
structure St [Wd] (d : Nat) (Ms : List Int) (boxes : List (List (List Pr))) (wk : List Nat → T) (p s r g a b h wp : Nat) (μ0 μ : Store) (ts : List Go) (gf : List (T × D)) : Prop where
  at_ : MkAt μ p s r g a b h Ms boxes ts gf
  memo : Memo d (mkr Ms boxes wk) ts gf
  cl : Cl d ts
  base : ∀ i, i < μ0.length → μ[i]? = μ0[i]?
  cln : ∀ i o, μ[i]? = some o → i ≠ wp → clean o
structure Far (μ0 : Store) (s r a b h wp : Nat) : Prop where
  la : μ0.length ≤ a
  lb : μ0.length ≤ b
  lh : μ0.length ≤ h
  lw : wp < μ0.length
  bh : b ≠ h
  sa : s ≠ a
  ra : r ≠ a
/-- the worker tells wk, wherever it is called -/
def WkAt [Wd] (nb : Nat) (wk : List Nat → T) (wp : Nat) (μ0 : Store) : Prop := ∃ nf caps, μ0[wp]? = some (.fn nf (some caps)) ∧ ∀ μ' : Store, (∀ i, i < μ0.length → i ≠ wp → μ'[i]? = μ0[i]?) → ∀ al, Al nb al → ∀ Q : D → Store → Prop, Q (.t (wk al)) μ' → c_wk nf caps [.t (.lst (plT al))] μ' Q
section
variable [Wd] {p s r g a b h wp : Nat} {μ0 μ μ' : Store} {ts : List Go} {gf : List (T × D)} {Q : D → Store → Prop}
theorem MkAt.push (A : MkAt μ p s r g a b h Ms boxes ts gf) (l : Store) : MkAt (μ ++ l) p s r g a b h Ms boxes ts gf := ⟨ap_get A.ob l, ap_get A.sides l, ap_get A.rooms l, A.gr.push l, ap_get A.found l⟩
theorem St.push (S : St d Ms boxes wk p s r g a b h wp μ0 μ ts gf) (le : μ0.length ≤ μ.length) {o : MO} (c : clean o) : St d Ms boxes wk p s r g a b h wp μ0 (μ ++ [o]) ts gf := by
  refine ⟨S.at_.push _, S.memo, S.cl, fun i hi => ?_, fun i o' e n => ?_⟩
  · rw [List.getElem?_append_left (by omega)]
    exact S.base i hi
  · by_cases hi : i < μ.length
    · rw [List.getElem?_append_left hi] at e
      exact S.cln i o' e n
    · rw [List.getElem?_append_right (by omega)] at e
      have : i - μ.length = 0 := by
        have := (List.getElem?_eq_some_iff.mp e).1
        simp at this
        omega
      rw [this] at e
      cases e
      exact c
theorem St.le (S : St d Ms boxes wk p s r g a b h wp μ0 μ ts gf) (F : Far μ0 s r a b h wp) : μ0.length ≤ μ.length := by
  have := at_lt S.at_.found
  have := F.lh
  omega
theorem room_at (O : MkOk d B Ms boxes wk) {x f : Nat} (hx : x < boxes.length) (hf : f < Ms.length) : (boxes.map boxT)[x]? = some (.tup ((boxes.getD x []).map setT)) ∧ ((boxes.getD x []).map setT)[f]? = some (setT ((mkr Ms boxes wk).room x f)) ∧ ((mkr Ms boxes wk).room x f).length ≤ 1000 := by
  have e1 : boxes[x]? = some (boxes.getD x []) := by
    rw [List.getD_eq_getElem?_getD, List.getElem?_eq_getElem hx]
    rfl
  have hm : boxes.getD x [] ∈ boxes := List.mem_of_getElem? e1
  obtain ⟨l1, l2⟩ := O.each _ hm
  have e2 : (boxes.getD x [])[f]? = some ((boxes.getD x []).getD f []) := by
    rw [List.getD_eq_getElem?_getD (l := boxes.getD x []), List.getElem?_eq_getElem (by omega)]
    rfl
  refine ⟨by rw [List.getElem?_map, e1]; rfl, by rw [List.getElem?_map, e2]; rfl, l2 _ (List.mem_of_getElem? e2)⟩
theorem St.step (S : St d Ms boxes wk p s r g a b h wp μ0 μ ts gf) (F : Far μ0 s r a b h wp) {ts' : List Go} {gf' : List (T × D)} (ch : Ch [a, b, h] μ μ') (A : MkAt μ' p s r g a b h Ms boxes ts' gf') (m : Memo d (mkr Ms boxes wk) ts' gf') (c : Cl d ts') : St d Ms boxes wk p s r g a b h wp μ0 μ' ts' gf' :=
  ⟨A, m, c, fun i hi => by
    have h1 := F.la
    have h2 := F.lb
    have h3 := F.lh
    rw [ch.2.1 i (Nat.lt_of_lt_of_le hi (S.le F)) (by simp; omega), S.base i hi], ch.all S.cln⟩
theorem St.cl3 (S : St d Ms boxes wk p s r g a b h wp μ0 μ ts gf) : ∀ i, i ∈ [a, b, h] → ∀ o, μ[i]? = some o → clean o := fun i hi o e => by
  rcases List.mem_cons.mp hi with rfl | hi
  · rw [S.at_.gr.grown] at e
    cases e
    exact True.intro
  · rcases List.mem_cons.mp hi with rfl | hi
    · rw [S.at_.gr.num] at e
      cases e
      exact True.intro
    · rw [List.mem_singleton.mp hi, S.at_.found] at e
      cases e
      exact True.intro
theorem MkAt.off {ts' : List Go} {gf' : List (T × D)} (A0 : MkAt μ p s r g a b h Ms boxes ts gf) (A : MkAt μ' p s r g a b h Ms boxes ts' gf') (x : MO) : MkAt (μ'.set μ.length x) p s r g a b h Ms boxes ts' gf' := by
  have h1 := at_lt A0.ob
  have h2 := at_lt A0.sides
  have h3 := at_lt A0.rooms
  have h4 := at_lt A0.gr.gr
  have h5 := at_lt A0.gr.grown
  have h6 := at_lt A0.gr.num
  have h7 := at_lt A0.found
  refine ⟨?_, ?_, ?_, ⟨?_, ?_, ?_⟩, ?_⟩
  · rw [set_off (by omega)]; exact A.ob
  · rw [set_off (by omega)]; exact A.sides
  · rw [set_off (by omega)]; exact A.rooms
  · rw [set_off (by omega)]; exact A.gr.gr
  · rw [set_off (by omega)]; exact A.gr.grown
  · rw [set_off (by omega)]; exact A.gr.num
  · rw [set_off (by omega)]; exact A.found
theorem St.off (F : Far μ0 s r a b h wp) {ts' : List Go} {gf' : List (T × D)} (S : St d Ms boxes wk p s r g a b h wp μ0 μ ts gf) (S' : St d Ms boxes wk p s r g a b h wp μ0 μ' ts' gf') {x : MO} (c : clean x) : St d Ms boxes wk p s r g a b h wp μ0 (μ'.set μ.length x) ts' gf' := by
  have le := S.le F
  refine ⟨S.at_.off S'.at_ x, S'.memo, S'.cl, fun i hi => ?_, fun i o e n => ?_⟩
  · rw [set_off (by omega)]
    exact S'.base i hi
  · rcases set_at e with ⟨_, rfl⟩ | ⟨_, e⟩
    · exact c
    · exact S'.cln i o e n
theorem Ch.pop {ps qs : List Nat} {μ μ' : Store} {o : MO} (h : Ch qs (μ ++ [o]) μ') (hq : ∀ i, i ∈ qs ↔ i ∈ ps ∨ i = μ.length) : Ch ps μ μ' := by
  refine ⟨?_, fun i hi n => ?_, fun i o' e => ?_⟩
  · have := h.1
    rw [one_len] at this
    omega
  · rw [h.2.1 i (by rw [one_len]; omega) fun z => ((hq i).mp z).elim n fun z => by omega, List.getElem?_append_left hi]
  · rcases h.2.2 i o' e with c | ⟨c1, c2⟩
    · exact .inl c
    · rw [one_len] at c1
      have n1 : i ∉ ps := fun z => c2 ((hq i).mpr (.inl z))
      have n2 : i ≠ μ.length := fun z => c2 ((hq i).mpr (.inr z))
      exact .inr ⟨by omega, n1⟩
/-- what a method of the maker promises: the goal of the last k fields -/
def GoalC (d : Nat) (Ms : List Int) (boxes : List (List (List Pr))) (wk : List Nat → T) (p s r g a b h wp : Nat) (μ0 : Store) (Ψ : DFn) (k c : Nat) : Prop := ∀ al, Al boxes.length al → ∀ (μ : Store) (ts : List Go) (gf : List (T × D)) (Q : D → Store → Prop), St d Ms boxes wk p s r g a b h wp μ0 μ ts gf → ts.length + c < 1000000 → gf.length + c < 1000000 →
  (∀ μ' us gf', St d Ms boxes wk p s r g a b h wp μ0 μ' (ts ++ us) gf' → us.length ≤ c → gf'.length ≤ gf.length + c → InG d (ts ++ us) ((mkr Ms boxes wk).goal k al) → Ch [a, b, h] μ μ' → Q (.t (encG (ts ++ us) ((mkr Ms boxes wk).goal k al))) μ') →
  Ψ [.loc p, .t (.int (Ms.length - k : Nat)), .t (.tup (plT al)), .loc wp] μ Q
theorem goal_leaf (O : MkOk d B Ms boxes wk) (F : Far μ0 s r a b h wp) (W : WkAt boxes.length wk wp μ0) (Ψ : DFn) : GoalC d Ms boxes wk p s r g a b h wp μ0 (bodyG 4 9 (b_Maker_goal_behind Ψ)) 0 0 := by
  intro al hal μ ts gf Q S st sg q
  refine ⟨rfl, ?_⟩
  show b_Maker_goal_behind _ [some (.loc p), some (.t (.int Ms.length)), some (.t (.tup (plT al))), some (.loc wp), none, none, none, none, none] μ _
  unfold b_Maker_goal_behind
  try walk_at "gw"
  refine fld_at S.at_.ob (by simp) rfl (len_list S.at_.sides ?_)
  try walk_at "gw"
  rw [if_pos (by simp)]
  obtain ⟨nf, caps, hw, hW⟩ := W
  have hw' : μ[wp]? = some (.fn nf (some caps)) := by rw [S.base wp F.lw, hw]
  refine ⟨wp, _, _, rfl, hw', _, _, hw', S.cln, hW _ (fun i hi ne => by rw [set_off ne, S.base i hi]) al hal _ ⟨set_hit hw', ?_⟩⟩
  rw [List.set_set, set_id hw']
  have z := q μ [] gf (by rw [List.append_nil]; exact S) (Nat.le_refl _) (Nat.le_refl _) (O.leaf al hal) (Ch.refl S.cl3)
  rw [List.append_nil] at z
  exact .inl z
theorem goal_memo (O : MkOk d B Ms boxes wk) (F : Far μ0 s r a b h wp) {Ψ : DFn} {k c : Nat} (hk : k ≤ Ms.length) (hΨ : GoalC d Ms boxes wk p s r g a b h wp μ0 Ψ k c) : GoalC d Ms boxes wk p s r g a b h wp μ0 (bodyG 4 4 (b_Maker_goal_for Ψ)) k (c + 1) := by
  intro al hal μ ts gf Q S st sg q
  refine ⟨rfl, ?_⟩
  show b_Maker_goal_for _ [some (.loc p), some (.t (.int (Ms.length - k : Nat))), some (.t (.tup (plT al))), some (.loc wp)] μ _
  unfold b_Maker_goal_for
  try walk_at "gw"
  refine fld_at S.at_.ob (by simp) rfl ?_
  refine ⟨keyA_isN _ _, _, S.at_.found, ?_⟩
  show blK (.t (.bl (!(valN gf (keyN (keyA (Ms.length - k) al))).isSome))) _
  cases e : valN gf (keyN (keyA (Ms.length - k) al)) with
  | some y =>
    obtain ⟨e1, e2⟩ := S.memo k hk al y e
    try walk_at "gw"
    rw [if_neg (by simp)]
    refine fld_at S.at_.ob (by simp) rfl ⟨keyA_isN _ _, _, _, S.at_.found, e, ?_⟩
    rw [e1]
    have z := q μ [] gf (by rw [List.append_nil]; exact S) (Nat.zero_le _) (Nat.le_add_right _ _) (by rw [List.append_nil]; exact e2) (Ch.refl S.cl3)
    rw [List.append_nil] at z
    exact .inl z
  | none =>
    try walk_at "gw"
    rw [if_pos (by simp)]
    refine meth_at S.at_.ob rfl ?_
    refine hΨ al hal μ ts gf _ S (by omega) (by omega) fun μ' us gf' S' l1 l2 i1 ch => ?_
    refine fld_at S'.at_.ob (by simp) rfl ?_
    refine ⟨keyA_isN _ _, _, S'.at_.found, by rw [sizeLine_eq]; omega, ?_⟩
    show fldD _ _ _ _ _
    rw [show T.tup [T.int (Ms.length - k : Nat), T.tup (plT al)] = keyA (Ms.length - k) al from rfl]
    generalize hS : μ'.set h (kdM Wd.w (putN gf' (keyA (Ms.length - k) al) (.t (encG (ts ++ us) ((mkr Ms boxes wk).goal k al))))) = S2
    have A2 : MkAt S2 p s r g a b h Ms boxes (ts ++ us) (putN gf' (keyA (Ms.length - k) al) (.t (encG (ts ++ us) ((mkr Ms boxes wk).goal k al)))) := by
      rw [← hS]
      have A := S'.at_
      refine ⟨?_, ?_, ?_, ⟨?_, ?_, ?_⟩, set_hit A.found⟩
      · rw [set_off (at_ne A.ob A.found fun e => by cases e)]; exact A.ob
      · rw [set_off (at_ne A.sides A.found fun e => by cases e)]; exact A.sides
      · rw [set_off (at_ne A.rooms A.found fun e => by cases e)]; exact A.rooms
      · rw [set_off (at_ne A.gr.gr A.found fun e => by cases e)]; exact A.gr.gr
      · rw [set_off (at_ne A.gr.grown A.found fun e => by cases e)]; exact A.gr.grown
      · rw [set_off F.bh]; exact A.gr.num
    have ch2 : Ch [a, b, h] μ' S2 := by
      rw [← hS]
      exact Ch.set (o := kdM _ _) True.intro (by simp) S'.cl3
    have m2 := S'.memo.put (k := k) hk i1
    have S3 := S'.step F ch2 A2 m2 S'.cl
    refine fld_at A2.ob (by simp) rfl ⟨keyA_isN _ _, _, .t (encG (ts ++ us) ((mkr Ms boxes wk).goal k al)), A2.found, by rw [valN_put, if_pos rfl], ?_⟩
    refine .inl (q S2 us _ S3 (by omega) ?_ i1 (ch.trans ch2))
    have := putN_len gf' (keyA (Ms.length - k) al) (.t (encG (ts ++ us) ((mkr Ms boxes wk).goal k al)))
    omega
theorem ro_setT (ps : List Pr) : ro (setT ps) = setT ps := by
  show T.tup (ros (ps.map eP)) = _
  rw [ros_pairs]
theorem goal_step (O : MkOk d B Ms boxes wk) (F : Far μ0 s r a b h wp) {Ψ : DFn} {k c : Nat} (hk : k + 1 ≤ Ms.length) (hc : B * c < 1000000) (hΨ : GoalC d Ms boxes wk p s r g a b h wp μ0 Ψ k c) : GoalC d Ms boxes wk p s r g a b h wp μ0 (bodyG 4 9 (b_Maker_goal_behind Ψ)) (k + 1) (B * c + 1) := by
  intro al hal μ ts gf Q S st sg q
  generalize hf : Ms.length - (k + 1) = f at *
  have lf : f < Ms.length := by omega
  refine ⟨rfl, ?_⟩
  show b_Maker_goal_behind _ [some (.loc p), some (.t (.int f)), some (.t (.tup (plT al))), some (.loc wp), none, none, none, none, none] μ _
  unfold b_Maker_goal_behind
  try walk_at "gw"
  refine fld_at S.at_.ob (by simp) rfl (len_list S.at_.sides ?_)
  try walk_at "gw"
  rw [if_neg (by simp; omega)]
  simp only [pushK]
  have S1 := S.push (S.le F) (o := MO.lst []) True.intro
  have e1 : Ms[f]? = some (Ms.getD f 0) := by
    rw [List.getD_eq_getElem?_getD, List.getElem?_eq_getElem lf]
    rfl
  refine fld_at S1.at_.ob (by simp) rfl (ix_list S1.at_.sides (atI_nat (by rw [List.getElem?_map, List.getElem?_map, e1]; rfl)) ?_)
  have lal := hal.len
  have few := O.few
  refine ⟨by unfold plT; rw [List.length_map, sizeLine_eq]; omega, ?_⟩
  refine lc_allM (fun x : Nat => T.int (x : Int)) (fun x => setT ((mkr Ms boxes wk).room x f)) ?_ ?_
  · intro x hx N hN
    simp only [wipeE, List.set_cons_zero, List.set_cons_succ]
    try walk_at "gw"
    obtain ⟨r1, r2, r3⟩ := room_at O (hal.lt x hx) lf
    refine fld_at S1.at_.ob (by simp) rfl (ix_list S1.at_.rooms (atI_nat (by rw [List.getElem?_map, r1]; rfl)) ?_)
    try walk_at "gw"
    exact ⟨_, atI_nat r2, _, rfl, hN⟩
  try walk_at "gw"
  have sets : ros [T.int (Ms.getD f 0), T.lst (al.map fun x => setT ((mkr Ms boxes wk).room x f))] = [T.int (Ms.getD f 0), T.ro ((al.map fun x => (mkr Ms boxes wk).room x f).map setT)] := by
    show [T.int (Ms.getD f 0), T.ro (ros (al.map fun x => setT ((mkr Ms boxes wk).room x f)))] = _
    rw [ros_map, List.map_map, List.map_map]
    congr 3
    refine List.map_congr_left fun x _ => ?_
    exact ro_setT _
  refine ⟨_, ⟨_, al.map fun x => (mkr Ms boxes wk).room x f, _, by rw [List.length_map]; omega, ?_, sets, borders_ok _ _, rfl⟩, ?_⟩
  · intro z hz
    obtain ⟨x, hx, rfl⟩ := List.mem_map.mp hz
    exact (room_at O (hal.lt x hx) lf).2.2
  have hways := O.ways f lf al hal
  have bd := O.bd
  show forD _ _ _ _ (((partsOf (Ms.getD f 0) (al.map fun x => (mkr Ms boxes wk).room x f)).map eP).map D.t) _ _
  have hP : (partsOf (Ms.getD f 0) (al.map fun x => (mkr Ms boxes wk).room x f)).length ≤ B := hways
  generalize hPP : partsOf (Ms.getD f 0) (al.map fun x => (mkr Ms boxes wk).room x f) = P at hP
  have hgoal : (mkr Ms boxes wk).goal (k + 1) al = mkT f (P.map fun z => (z.2, (mkr Ms boxes wk).goal k ((mkr Ms boxes wk).later f al z.1))) := by
    rw [← hPP, ← hf]
    rfl
  refine for_mapM eP (fun rest env m => ∃ dn o5 o6 o7 us gf', dn ++ rest = P ∧ env = [some (.loc p), some (.t (.int f)), some (.t (.tup (plT al))), some (.loc wp), some (.loc μ.length), o5, o6, o7, none] ∧ us.length ≤ dn.length * c ∧ gf'.length ≤ gf.length + dn.length * c ∧
    m[μ.length]? = some (.lst (((dn.map fun z => (z.2, (mkr Ms boxes wk).goal k ((mkr Ms boxes wk).later f al z.1))).map (encW (ts ++ us))).map D.t)) ∧ St d Ms boxes wk p s r g a b h wp μ0 m (ts ++ us) gf' ∧ (∀ z ∈ dn, InG d (ts ++ us) ((mkr Ms boxes wk).goal k ((mkr Ms boxes wk).later f al z.1))) ∧ Ch [a, b, h, μ.length] (μ ++ [MO.lst []]) m) ?_ ?_ ⟨[], none, none, none, [], gf, rfl, rfl, Nat.zero_le _, Nat.le_add_right _ _, push_atb _ _, by rw [List.append_nil]; exact S1, fun z hz => (by cases hz), ?_⟩
  · rintro ⟨lo, hi⟩ rest env m N ⟨dn, o5, o6, o7, us, gf', h1, rfl, h2, h3, h4, h5, h6, h7⟩ hN
    refine ⟨trivial, ?_⟩
    have hdn : dn.length < B := by
      have : dn.length < P.length := by rw [← h1]; simp
      omega
    simp only [eP]
    try walk_at "gw"
    refine ⟨by unfold plT; rw [List.length_map, sizeLine_eq]; omega, ?_⟩
    have hm : dn.length * c + c ≤ B * c := by
      rw [← Nat.succ_mul]
      exact Nat.mul_le_mul_right _ hdn
    unfold plT
    rw [List.map_map]
    refine lc_filter (fun x : Nat => D.t (.int (x : Int))) (fun x => inB ((mkr Ms boxes wk).room x f) lo) (fun x : Nat => T.int (x : Int)) ?_ ?_
    · intro x hx N hN
      simp only [wipeE, List.set_cons_zero, List.set_cons_succ]
      try walk_at "gw"
      obtain ⟨r1, r2, r3⟩ := room_at O (hal.lt x hx) lf
      refine fld_at h5.at_.ob (by simp) rfl (ix_list h5.at_.rooms (atI_nat (by rw [List.getElem?_map, r1]; rfl)) ?_)
      try walk_at "gw"
      refine ⟨_, atI_nat r2, ?_⟩
      try walk_at "gw"
      refine ⟨_, ⟨(mkr Ms boxes wk).room x f, lo, by omega, by show [ro (setT _), ro (.int lo)] = _; rw [ro_setT]; rfl, rfl⟩, ?_⟩
      try walk_at "gw"
      cases e : inB ((mkr Ms boxes wk).room x f) lo with
      | true =>
        rw [if_pos rfl]
        rw [e] at hN
        exact ⟨_, rfl, hN⟩
      | false =>
        rw [if_neg (by decide)]
        rw [e] at hN
        exact hN
    rw [show (al.filter fun x => inB ((mkr Ms boxes wk).room x f) lo).map (fun x : Nat => T.int (x : Int)) = plT ((mkr Ms boxes wk).later f al lo) from rfl]
    refine xm_at h4 ?_
    try walk_at "gw"
    refine meth_at h5.at_.ob rfl ?_
    rw [show (f : Int) + 1 = ((Ms.length - k : Nat) : Int) by omega]
    have ltu : (ts ++ us).length + c < 1000000 := by rw [List.length_append]; omega
    refine hΨ _ (hal.later _ _ _) m (ts ++ us) gf' _ h5 ltu (by omega) fun μ' us2 gf2 S2 l1 l2 i1 ch => ?_
    rw [List.append_assoc] at S2 i1
    have hl4 := at_lt h4
    have pa := at_lt S.at_.gr.grown
    have pb := at_lt S.at_.gr.num
    have ph := at_lt S.at_.found
    have e4 : μ'[μ.length]? = some (.lst (((dn.map fun z => (z.2, (mkr Ms boxes wk).goal k ((mkr Ms boxes wk).later f al z.1))).map (encW (ts ++ (us ++ us2)))).map D.t)) := by
      rw [ch.2.1 _ hl4 (by simp; omega), h4, ← List.append_assoc]
      congr 3
      refine List.map_congr_left fun w hw => ?_
      obtain ⟨z, hz, rfl⟩ := List.mem_map.mp hw
      exact (encW_app (h6 z hz)).symm
    refine ⟨_, e4, by rw [List.length_map, List.length_map, List.length_map, sizeLine_eq]; omega, ?_⟩
    show N _ (List.set _ _ _)
    have ch7 : Ch [a, b, h, μ.length] (μ ++ [MO.lst []]) μ' := h7.trans (ch.more (fun i hi => by
      simp at hi ⊢
      rcases hi with h | h | h
      · exact .inl h
      · exact .inr (.inl h)
      · exact .inr (.inr (.inl h))) fun i hi ni o e => by
      have : i = μ.length := by
        simp at hi ni
        omega
      rw [this, e4] at e
      cases e
      exact True.intro)
    refine hN _ _ ⟨dn ++ [(lo, hi)], _, _, _, us ++ us2, gf2, by rw [List.append_assoc]; exact h1, rfl, ?_, ?_, ?_, S.off F S2 True.intro, ?_, ch7.trans (Ch.set (o := MO.lst _) True.intro (by simp) ?_)⟩
    · rw [List.length_append, List.length_append, Nat.add_mul]
      simp only [List.length_singleton]
      omega
    · rw [List.length_append, Nat.add_mul]
      simp only [List.length_singleton]
      omega
    · rw [set_hit e4, List.map_append, List.map_append, List.map_append]
      rw [← List.append_assoc ts us us2]
      rfl
    · intro z hz
      rcases List.mem_append.mp hz with hz | hz
      · rw [← List.append_assoc]
        exact (h6 z hz).app us2
      · rw [List.mem_singleton.mp hz]
        exact i1
    · intro i hi o e
      by_cases z : i = μ.length
      · rw [z, e4] at e
        cases e
        exact True.intro
      · exact S2.cl3 i (by simp at hi ⊢; omega) o e
  · rintro env m ⟨dn, o5, o6, o7, us, gf', h1, rfl, h2, h3, h4, h5, h6, h7⟩
    refine ⟨trivial, ?_⟩
    try walk_at "gw"
    rw [List.append_nil] at h1
    subst h1
    refine fld_at h5.at_.ob (by simp) rfl ?_
    try walk_at "gw"
    refine meth_at h5.at_.gr.gr rfl ?_
    have hne : dn ≠ [] := by
      obtain ⟨r, e⟩ := borders_head (most := Ms.getD f 0) (sets := al.map fun x => (mkr Ms boxes wk).room x f) (O.ok.most f lf) fun s hs => by
        obtain ⟨x, _, rfl⟩ := List.mem_map.mp hs
        exact O.ok.fair x f
      intro z
      rw [z] at hPP
      unfold partsOf partsF at hPP
      rw [e] at hPP
      have := congrArg List.length hPP
      rw [List.length_map, pieces_len] at this
      simp at this
    have hcb : dn.length * c ≤ B * c := Nat.mul_le_mul_right _ hP
    refine goal_of_ok O.dd h5.at_.gr h5.cl h4 (fun w hw => by
      obtain ⟨z, hz, rfl⟩ := List.mem_map.mp hw
      exact h6 z hz) (by simpa using hne) (by rw [List.length_map]; omega) (by rw [List.length_append]; omega) fun μ' us2 A2 c2 l2 i2 ch2 => ?_
    rw [← hgoal] at i2 ⊢
    rw [List.append_assoc] at A2 c2 i2 ⊢
    have nf : ∀ {i : Nat}, i ≠ a → i ≠ b → i ∉ [a, b] := fun h1 h2 => by simp [h1, h2]
    have A := h5.at_
    have A3 : MkAt μ' p s r g a b h Ms boxes (ts ++ (us ++ us2)) gf' := ⟨ch2.get A.ob (nf (at_ne A.ob A.gr.grown fun e => (by cases e)) (at_ne A.ob A.gr.num fun e => (by cases e))), ch2.get A.sides (nf F.sa (at_ne A.sides A.gr.num fun e => (by cases e))), ch2.get A.rooms (nf F.ra (at_ne A.rooms A.gr.num fun e => (by cases e))), A2, ch2.get A.found (nf (at_ne A.found A.gr.grown fun e => (by cases e)) F.bh.symm)⟩
    have ch3 : Ch [a, b, h] m μ' := ch2.more (fun i hi => by
      simp at hi ⊢
      omega) fun i hi ni o e => by
      have : i = h := by
        simp at hi ni
        omega
      rw [this, A3.found] at e
      cases e
      exact True.intro
    have m3 : Memo d (mkr Ms boxes wk) (ts ++ (us ++ us2)) gf' := by
      rw [← List.append_assoc]
      exact h5.memo.app
    have S3 := h5.step F ch3 A3 m3 c2
    refine .inl (q μ' (us ++ us2) gf' S3 (by rw [List.length_append]; omega) (by omega) i2 (Ch.pop (h7.trans (ch2.more (fun i hi => by
      simp at hi ⊢
      omega) fun i hi ni o e => ?_)) fun i => by simp [or_assoc]))
    by_cases z : i = μ.length
    · have lt4 := at_lt h4
      have pa := at_lt S.at_.gr.grown
      have pb := at_lt S.at_.gr.num
      rw [z, ch2.2.1 _ lt4 (by simp; omega), h4] at e
      cases e
      exact True.intro
    · exact S3.cl3 i (by simp at hi ⊢; omega) o e
  · exact Ch.refl fun i hi o e => by
      by_cases z : i = μ.length
      · rw [z, push_atb] at e
        cases e
        exact True.intro
      · exact S1.cl3 i (by simp at hi ⊢; omega) o e
end
end
end
section
section
variable {d B : Nat} {Ms : List Int} {boxes : List (List (List Pr))} {wk : List Nat → T}
variable [Wd] {p s r g a b h wp : Nat} {μ0 μ μ' : Store} {Q : D → Store → Prop}
theorem goal_level (O : MkOk d B Ms boxes wk) (F : Far μ0 s r a b h wp) (W : WkAt boxes.length wk wp μ0) (hE : ∀ j, j ≤ Ms.length → eB B j < 1000000) : ∀ k, k ≤ Ms.length → ∀ N, 2 * k + 1 ≤ N → ∃ c, c + 1 = eB B k ∧ GoalC d Ms boxes wk p s r g a b h wp μ0 (cM_Maker_goal_behind N).1 k c ∧ GoalC d Ms boxes wk p s r g a b h wp μ0 (cM_Maker_goal_behind (N + 1)).2 k (c + 1)
  | 0, _, N, le => by
    obtain ⟨N, rfl⟩ : ∃ j, N = j + 1 := ⟨N - 1, by omega⟩
    have h1 : GoalC d Ms boxes wk p s r g a b h wp μ0 (cM_Maker_goal_behind (N + 1)).1 0 0 := goal_leaf O F W _
    exact ⟨0, rfl, h1, goal_memo O F (Nat.zero_le _) h1⟩
  | k + 1, hk, N, le => by
    obtain ⟨N, rfl⟩ : ∃ j, N = j + 1 + 1 := ⟨N - 2, by omega⟩
    obtain ⟨c, e, _, h2⟩ := goal_level O F W hE k (by omega) N (by omega)
    have e2 : eB B (k + 1) = B * eB B k + 2 := rfl
    have lt := hE (k + 1) hk
    have h1 : GoalC d Ms boxes wk p s r g a b h wp μ0 (cM_Maker_goal_behind (N + 1 + 1)).1 (k + 1) (B * (c + 1) + 1) := goal_step O F hk (by rw [e]; omega) h2
    exact ⟨B * (c + 1) + 1, by rw [e, e2], h1, goal_memo O F hk h1⟩
theorem Ch.fresh {ps : List Nat} {μ μ1 μ2 : Store} (h1 : Ch [] μ μ1) (h2 : Ch ps μ1 μ2) (hp : ∀ i, i ∈ ps → μ.length ≤ i) : Ch [] μ μ2 := by
  refine ⟨Nat.le_trans h1.1 h2.1, fun i hi _ => ?_, fun i o e => ?_⟩
  · rw [h2.2.1 i (Nat.lt_of_lt_of_le hi h1.1) fun z => by have := hp i z; omega, h1.2.1 i hi (by simp)]
  · rcases h2.2.2 i o e with c | ⟨c1, c2⟩
    · exact .inl c
    · rw [h2.2.1 i c1 c2] at e
      exact h1.2.2 i o e
theorem ch_nil (μ : Store) : Ch [] μ μ := Ch.refl fun i hi => (by cases hi)
theorem Ch.add (h : Ch [] μ μ') {o : MO} (c : clean o) : Ch [] μ (μ' ++ [o]) := h.trans (Ch.push c fun i hi => (by cases hi))
theorem Ch.put (h : Ch [] μ μ') {o x : MO} {n : Nat} (c : clean o) (hn : μ.length ≤ n) (hx : μ'[n]? = some x) (cx : clean x) : Ch [] μ (μ'.set n o) := h.fresh (ps := [n]) (Ch.set c (by simp) fun i hi o' e => by
  rw [List.mem_singleton.mp hi, hx] at e
  cases e
  exact cx) fun i hi => by rw [List.mem_singleton.mp hi]; exact hn
theorem grower_init_ok {n : Nat} (hn : μ[n]? = some (.ins "Grower" [])) (hl : μ0.length ≤ n) (ch : Ch [] μ0 μ)
    (q : ∀ μ', GrAt μ' n μ.length (μ.length + 1) [] → Ch [] μ0 μ' → (∀ i x, i ≠ n → μ[i]? = some x → μ'[i]? = some x) → Q (.t .non) μ') : c_Grower_init [.loc n] μ Q := by
  refine ⟨rfl, ?_⟩
  show b_Grower_init [some (.loc n)] μ _
  unfold b_Grower_init
  try walk_at "gw"
  simp only [pushK]
  have ln := at_lt hn
  refine put_at (ap_get hn _) (by simp) (by show 0 < 1000; decide) ?_
  generalize h1 : (μ ++ [MO.lst []]).set n (.ins "Grower" (putA "grown" (D.loc μ.length) [])) = S1
  have a1 : S1[n]? = some (.ins "Grower" [("grown", .loc μ.length)]) := by rw [← h1]; exact set_hit (ap_get hn _)
  have b1 : S1[μ.length]? = some (.lst []) := by rw [← h1, set_off (by omega)]; exact push_atb _ _
  have k1 : ∀ i x, i ≠ n → μ[i]? = some x → S1[i]? = some x := fun i x ne e => by rw [← h1, set_off ne]; exact ap_get e _
  have c1 : Ch [] μ0 S1 := by
    rw [← h1]
    exact (ch.add (o := MO.lst []) True.intro).put (o := MO.ins _ _) True.intro hl (ap_get hn _) True.intro
  have l1 : S1.length = μ.length + 1 := by rw [← h1, List.length_set, one_len]
  refine put_at (ap_get a1 _) (by simp) (by show 1 < 1000; decide) ?_
  generalize h2 : (S1 ++ [kdM Wd.w []]).set n (.ins "Grower" (putA "numbered" (D.loc S1.length) [("grown", .loc μ.length)])) = S2
  refine .inl (q S2 ⟨?_, ?_, ?_⟩ ?_ fun i x ne e => ?_)
  · rw [← h2, ← l1]; exact set_hit (ap_get a1 _)
  · rw [← h2, set_off (by omega)]; exact ap_get b1 _
  · rw [← h2, ← l1, set_off (by omega)]; exact push_atb _ _
  · rw [← h2]
    exact (c1.add (o := kdM _ _) True.intro).put (o := MO.ins _ _) True.intro hl (ap_get a1 _) True.intro
  · rw [← h2, set_off ne]
    exact ap_get (k1 i x ne e) _
theorem maker_init_ok {sd bd : D} (hs : IsL sd (Ms.map T.int)) (hb : IsL bd (boxes.map boxT)) (hp : μ[p]? = some (.ins "Maker" [])) (hl : μ0.length ≤ p) (ch : Ch [] μ0 μ)
    (q : ∀ μ' s r g a b h, MkAt μ' p s r g a b h Ms boxes [] [] → μ0.length ≤ s → μ0.length ≤ r → μ0.length ≤ a → μ0.length ≤ b → μ0.length ≤ h → b ≠ h → s ≠ a → r ≠ a → Ch [] μ0 μ' → Q (.t .non) μ') : c_Maker_init [.loc p, sd, bd] μ Q := by
  refine ⟨rfl, ?_⟩
  show b_Maker_init [some (.loc p), some sd, some bd] μ _
  unfold b_Maker_init
  try walk_at "gw"
  have lp := at_lt hp
  refine hs _ _ ?_
  simp only [pushK]
  refine put_at (ap_get hp _) (by simp) (by show 0 < 1000; decide) ?_
  generalize h1 : (μ ++ [MO.lst ((Ms.map T.int).map D.t)]).set p (.ins "Maker" (putA "sides" (D.loc μ.length) [])) = S1
  have a1 : S1[p]? = some (.ins "Maker" [("sides", .loc μ.length)]) := by rw [← h1]; exact set_hit (ap_get hp _)
  have b1 : S1[μ.length]? = some (.lst ((Ms.map T.int).map D.t)) := by rw [← h1, set_off (by omega)]; exact push_atb _ _
  have c1 : Ch [] μ0 S1 := by
    rw [← h1]
    exact (ch.add (o := MO.lst _) True.intro).put (o := MO.ins _ _) True.intro hl (ap_get hp _) True.intro
  have l1 : S1.length = μ.length + 1 := by rw [← h1, List.length_set, one_len]
  refine hb _ _ ?_
  refine put_at (ap_get a1 _) (by simp) (by show 1 < 1000; decide) ?_
  generalize h2 : (S1 ++ [MO.lst ((boxes.map boxT).map D.t)]).set p (.ins "Maker" (putA "rooms" (D.loc S1.length) [("sides", .loc μ.length)])) = S2
  have a2 : S2[p]? = some (.ins "Maker" [("sides", .loc μ.length), ("rooms", .loc S1.length)]) := by rw [← h2]; exact set_hit (ap_get a1 _)
  have b2 : S2[μ.length]? = some (.lst ((Ms.map T.int).map D.t)) := by rw [← h2, set_off (by omega)]; exact ap_get b1 _
  have r2 : S2[S1.length]? = some (.lst ((boxes.map boxT).map D.t)) := by rw [← h2, set_off (by omega)]; exact push_atb _ _
  have c2 : Ch [] μ0 S2 := by
    rw [← h2]
    exact (c1.add (o := MO.lst _) True.intro).put (o := MO.ins _ _) True.intro hl (ap_get a1 _) True.intro
  have l2 : S2.length = μ.length + 2 := by rw [← h2, List.length_set, one_len]; omega
  have lm := ch.1
  refine grower_init_ok (μ0 := μ0) (push_atb _ _) (by omega) (c2.add (o := MO.ins _ _) True.intro) fun S3 G c3 k3 => ⟨rfl, ?_⟩
  rw [one_len] at G
  have a3 : S3[p]? = some (.ins "Maker" [("sides", .loc μ.length), ("rooms", .loc S1.length)]) := k3 _ _ (by omega) (ap_get a2 _)
  have b3 : S3[μ.length]? = some (.lst ((Ms.map T.int).map D.t)) := k3 _ _ (by omega) (ap_get b2 _)
  have r3 : S3[S1.length]? = some (.lst ((boxes.map boxT).map D.t)) := k3 _ _ (by omega) (ap_get r2 _)
  refine put_at a3 (by simp) (by show 2 < 1000; decide) ?_
  generalize h4 : S3.set p (.ins "Maker" (putA "grower" (D.loc S2.length) [("sides", .loc μ.length), ("rooms", .loc S1.length)])) = S4
  have a4 : S4[p]? = some (.ins "Maker" [("sides", .loc μ.length), ("rooms", .loc S1.length), ("grower", .loc S2.length)]) := by rw [← h4]; exact set_hit a3
  have b4 : S4[μ.length]? = some (.lst ((Ms.map T.int).map D.t)) := by rw [← h4, set_off (by omega)]; exact b3
  have r4 : S4[S1.length]? = some (.lst ((boxes.map boxT).map D.t)) := by rw [← h4, set_off (by omega)]; exact r3
  have G4 : GrAt S4 S2.length (S2.length + 1) (S2.length + 1 + 1) [] := by
    rw [← h4]
    exact G.keep (set_off (by omega)) (set_off (by omega)) (set_off (by omega))
  have c4 : Ch [] μ0 S4 := by
    rw [← h4]
    exact c3.put (o := MO.ins _ _) True.intro hl a3 True.intro
  have g4 := at_lt G4.num
  refine put_at (ap_get a4 _) (by simp) (by show 3 < 1000; decide) ?_
  generalize h5 : (S4 ++ [kdM Wd.w []]).set p (.ins "Maker" (putA "goals_found" (D.loc S4.length) [("sides", .loc μ.length), ("rooms", .loc S1.length), ("grower", .loc S2.length)])) = S5
  refine .inl (q S5 μ.length S1.length S2.length (S2.length + 1) (S2.length + 1 + 1) S4.length ⟨?_, ?_, ?_, ?_, ?_⟩ (by omega) (by omega) (by omega) (by omega) (by omega) (by omega) (by omega) (by omega) ?_)
  · rw [← h5]; exact set_hit (ap_get a4 _)
  · rw [← h5, set_off (by omega)]; exact ap_get b4 _
  · rw [← h5, set_off (by omega)]; exact ap_get r4 _
  · rw [← h5]
    exact (G4.push [kdM Wd.w []]).keep (set_off (by omega)) (set_off (by omega)) (set_off (by omega))
  · rw [← h5, set_off (by omega)]; exact push_atb _ _
  · rw [← h5]
    exact (c4.add (o := kdM _ _) True.intro).put (o := MO.ins _ _) True.intro hl (ap_get a4 _) True.intro
theorem made_ok (O : MkOk d B Ms boxes wk) (hE : ∀ j, j ≤ Ms.length → eB B j < 1000000) (hn : Ms.length ≤ 4) {sd bd : D} (hs : IsL sd (Ms.map T.int)) (hb : bd = .t (.ro (boxes.map boxT)) ∨ bd = .t (.lst (boxes.map boxT))) (W : WkAt boxes.length wk wp μ) (hw : wp < μ.length) (cl : ∀ (i : Nat) (o : MO), μ[i]? = some o → i ≠ wp → clean o)
    (q : ∀ μ' n top, top = (mkr Ms boxes wk).goal Ms.length (List.range boxes.length) → TabAt μ' n (Ms.map T.int) (encG (testsG Ms.length top) top) ((testsG Ms.length top).map (encT (testsG Ms.length top))) → μ.length ≤ n → Ch [] μ μ' → Q (.loc n) μ') : c_made [sd, bd, .loc wp] μ Q := by
  have hb2 : IsL bd (boxes.map boxT) := by
    rcases hb with rfl | rfl
    · exact isL_ro _
    · exact isL_lst _
  refine ⟨rfl, ?_⟩
  show b_made [some sd, some bd, some (.loc wp), none, none] μ _
  unfold b_made
  try walk_at "gw"
  refine maker_init_ok (μ0 := μ) hs hb2 (push_atb _ _) (Nat.le_refl _) ((ch_nil μ).add (o := MO.ins _ _) True.intro) fun S s r g a b h A l1 l2 l3 l4 l5 n1 n2 n3 ch => ⟨rfl, ?_⟩
  refine meth_at A.ob rfl ?_
  have few := O.few
  have hlen : ∀ (R : D → Prop), R (.t (.int boxes.length)) → wLen S [bd] R := fun R hR => by
    rcases hb with rfl | rfl
    · show R (.t (.int (boxes.map boxT).length))
      rw [List.length_map]
      exact hR
    · show R (.t (.int (boxes.map boxT).length))
      rw [List.length_map]
      exact hR
  refine hlen _ ⟨boxes.length, rfl, by omega, by omega, ?_⟩
  rw [show T.tup (rgT (boxes.length : Int).toNat) = T.tup (plT (List.range boxes.length)) from rfl]
  have F : Far μ s r a b h wp := ⟨l3, l4, l5, hw, n1, n2, n3⟩
  have S0 : St d Ms boxes wk μ.length s r g a b h wp μ S [] [] := ⟨A, fun k _ al y e => (by rw [valN_nil] at e; cases e), cl_nil, fun i hi => ch.2.1 i hi (by simp), ch.all cl⟩
  obtain ⟨c, e, _, hG⟩ := goal_level O F W hE Ms.length (Nat.le_refl _) 9 (by omega)
  have lt := hE Ms.length (Nat.le_refl _)
  have key := hG (List.range boxes.length) (List.Sublist.refl _) S [] []
  rw [Nat.sub_self] at key
  refine key _ S0 (by rw [e, List.length_nil]; omega) (by rw [e, List.length_nil]; omega) fun S' us gf' S1 u1 u2 i1 ch1 => ?_
  rw [List.nil_append] at S1 i1 ⊢
  refine fld_at S1.at_.ob (by simp) rfl ?_
  try walk_at "gw"
  refine meth_at S1.at_.gr.gr rfl ?_
  refine table_behind_ok S1.at_.gr S1.cl (by rw [e] at u1; omega) (O.lv (Nat.le_refl _) (List.Sublist.refl _)) (by omega) i1 hs fun S2 n TA ln ch2 => ?_
  have c2 := ch.fresh ch1 fun i hi => by
    simp at hi
    omega
  exact .inl (q S2 n _ rfl TA (Nat.le_trans c2.1 ln) (c2.trans ch2))
end
end
section
theorem maxI_eq (i j : Int) : maxI i j = max i j := by
  unfold maxI
  omega
theorem minI_eq (i j : Int) : minI i j = min i j := by
  unfold minI
  omega
theorem mulR {i j : Int} (h1 : -(2 ^ 64) < j) (h2 : j < 2 ^ 64) : MulOk i j := .inl (.inr ⟨h1, h2⟩)
theorem mulL {i j : Int} (h1 : -(2 ^ 64) < i) (h2 : i < 2 ^ 64) : MulOk i j := .inl (.inl ⟨h1, h2⟩)
theorem mixN_bd (c k : Int) : 0 ≤ mixN c k ∧ mixN c k < 1000003 := ⟨Int.emod_nonneg _ (by decide), Int.emod_lt_of_pos _ (by decide)⟩
theorem greatF_bd (c k : Int) : 0 ≤ greatF c k ∧ greatF c k < 1000000000000 := ⟨Int.emod_nonneg _ (by decide), Int.emod_lt_of_pos _ (by decide)⟩
theorem p12 : (10 : Int) ^ Int.toNat 12 = 1000000000000 := by decide
theorem cp12 : CPow 10 12 := ⟨by decide, by decide, by decide⟩
theorem sem_law_mixed : ∀ xs y, Phi_law_mixed xs y → b_law_mixed (startD ["_law_cell", "_law_k", "_law_number"] xs) [] { nx := fun _ _ => y = .non, rt := fun d _ => d = .t y } := by
  rintro _ _ ⟨c, k, rfl, rfl⟩
  show b_law_mixed [some (.t (.int c)), some (.t (.int k)), none] [] _
  unfold b_law_mixed
  walk_at "gw"
  have h := mixN_bd c k
  have h' : 0 ≤ mixN c k * mixN c k % 1000003 ∧ mixN c k * mixN c k % 1000003 < 1000003 := ⟨Int.emod_nonneg _ (by decide), Int.emod_lt_of_pos _ (by decide)⟩
  unfold mixN at h h'
  exact ⟨mulR (by decide) (by decide), mulL (by decide) (by decide), by decide, mulR (by omega) (by omega), by decide, mulR (by omega) (by omega), by decide, rfl⟩
theorem sem_law_great : ∀ xs y, Phi_law_great xs y → b_law_great (startD ["_law_cell", "_law_k"] xs) [] { nx := fun _ _ => y = .non, rt := fun d _ => d = .t y } := by
  rintro _ _ ⟨c, k, rfl, rfl⟩
  show b_law_great [some (.t (.int c)), some (.t (.int k))] [] _
  unfold b_law_great
  walk_at "gw"
  refine ⟨_, ⟨c, k, rfl, rfl⟩, ?_⟩
  walk_at "gw"
  refine ⟨mulR (by decide) (by decide), _, ⟨c, k + 500, rfl, rfl⟩, ?_⟩
  walk_at "gw"
  rw [p12]
  exact ⟨cp12, by decide, rfl⟩
theorem evT_map {α β : Type} (f : α → β) : ∀ l : List α, evT (l.map f) = (evT l).map f
  | [] => by simp [evT]
  | [x] => by simp [evT]
  | x :: y :: r => by
    rw [List.map_cons, List.map_cons, evT, evT_map f r, evT, List.map_cons]
theorem odT_map {α β : Type} (f : α → β) (l : List α) : odT (l.map f) = (odT l).map f := by
  cases l with
  | nil => rfl
  | cons x r => exact evT_map f r
theorem evT_cons {α : Type} (b : α) (r : List α) : evT (b :: r) = b :: odT r := by
  cases r with
  | nil => simp [evT, odT]
  | cons c r => rw [evT, odT]
theorem pairs_zip : ∀ l : List Int, pairsF l = ((evT l).zip (odT l)).map fun p => (p.1, p.2 - 1)
  | [] => by simp [pairsF, evT]
  | [x] => by simp [pairsF, evT, odT]
  | a :: b :: r => by
    rw [pairsF, pairs_zip r, evT, odT, evT_cons b r]
    rfl
theorem zipD_ints : ∀ l m : List Int, zipD (l.map T.int) (m.map T.int) = (l.zip m).map (D.t ∘ eP)
  | [], m => by simp [zipD]
  | a :: l, [] => by simp [zipD]
  | a :: l, b :: m => by
    have := zipD_ints l m
    unfold zipD at this ⊢
    rw [List.map_cons, List.map_cons, List.zipWith_cons_cons, this, List.zip_cons_cons, List.map_cons]
    rfl
theorem evT_le {α : Type} (l : List α) : (evT l).length ≤ l.length := ev_le l
def bd (ks : List Int) : List (Key × D) := ks.map fun k => (Sum.inl k, D.t (.bl true))
def addK (ks : List Int) (k : Int) : List Int := if k ∈ ks then ks else ks ++ [k]
theorem bd_any (ks : List Int) (k : Int) : ((bd ks).any fun kv => decide (kv.1 = (Sum.inl k : Key))) = decide (k ∈ ks) := by
  unfold bd
  rw [List.any_map]
  induction ks with
  | nil => simp
  | cons a r ih =>
    rw [List.any_cons, ih]
    by_cases e : a = k
    · subst e
      simp
    · have e' : ¬ k = a := fun z => e z.symm
      simp [e, e']
theorem putD_bd (ks : List Int) (k : Int) : putD (bd ks) (.inl k) (.t (.bl true)) = bd (addK ks k) := by
  unfold putD addK
  rw [bd_any]
  by_cases h : k ∈ ks
  · rw [if_pos (by simpa using h), if_pos h]
    unfold bd
    rw [List.map_map]
    refine List.map_congr_left fun a _ => ?_
    show (if (Sum.inl a : Key) = Sum.inl k then (Sum.inl a, D.t (.bl true)) else (Sum.inl a, D.t (.bl true))) = _
    split <;> rfl
  · rw [if_neg (by simpa using h), if_neg h]
    simp [bd]
theorem addK_mem (ks : List Int) (k j : Int) : j ∈ addK ks k ↔ j ∈ ks ∨ j = k := by
  unfold addK
  split
  · rename_i h
    exact ⟨.inl, fun z => z.elim id fun e => by rw [e]; exact h⟩
  · simp
theorem addK_nd {ks : List Int} (h : ks.Nodup) (k : Int) : (addK ks k).Nodup := by
  unfold addK
  split
  · exact h
  · rename_i c
    rw [List.nodup_append]
    refine ⟨h, by simp, fun a ha b hb e => c ?_⟩
    rw [List.mem_singleton.mp hb] at e
    rw [← e]
    exact ha
theorem addK_len (ks : List Int) (k : Int) : (addK ks k).length ≤ ks.length + 1 := by
  unfold addK
  split
  · omega
  · simp
theorem setW_bd {ks : List Int} {k : Int} {r : Store} {Q : Store → Prop} (h : ks.length < sizeLine) (q : Q (.dic (bd (addK ks k)) :: r)) : setW (.dic (bd ks) :: r) (.loc 0) (.t (.int k)) (.t (.bl true)) Q :=
  .inr ⟨bd ks, .inl k, rfl, rfl, by unfold bd; rw [List.length_map]; exact h, by rw [putD_bd]; exact q⟩
theorem enumD_ints (ms : List Int) : enumD (ms.map T.int) = ms.zipIdx.map fun z => D.t (.tup [.int z.2, .int z.1]) := by
  unfold enumD
  rw [List.zipIdx_map, List.map_map]
  rfl
theorem cut_tail {α : Type} (xs : List α) : cutT xs (some 1) none = xs.drop 1 := by
  unfold cutT HT.sIx
  cases xs with
  | nil => simp
  | cons x r => simp
theorem parts_zip (most : Int) : ∀ ms : List Int, List.zipWith (fun x y => T.tup [x, y]) (ms.map T.int) (((ms.drop 1).map fun k => T.int (k - 1)) ++ [T.int most]) = (partsF most ms).map eP
  | [] => rfl
  | [a] => by
    simp [partsF, pieces, eP]
    try omega
  | a :: b :: r => by
    have ih := parts_zip most (b :: r)
    simp only [partsF, pieces, List.drop_one, List.tail_cons, List.map_cons, List.cons_append, List.zipWith_cons_cons] at ih ⊢
    rw [ih]
    rfl
theorem sem_parts : ∀ xs y, Phi_parts xs y → b_parts (startD ["most", "some", "begins", "one", "low", "high", "lows", "begin"] xs) [] { nx := fun _ _ => False, rt := fun d μ => ∃ n, d = .loc n ∧ μ[n]? = some (.lst (y.map D.t)) } := by
  rintro _ _ ⟨most, sets, ms, h1, h2, rfl, h3, rfl⟩
  show b_parts [some (.t (.int most)), some (.t (.ro (sets.map setT))), none, none, none, none, none, none] [] _
  unfold b_parts xDisp dpCons dpNil
  walk_at "gw"
  refine ⟨bd [0], rfl, by decide, ?_⟩
  simp only [List.nil_append, List.length_nil, show mergeD [] (bd [0]) = bd [0] from rfl]
  try walk_at "gw"
  refine for_mapM setT (fun r env μ => ∃ ks o1 o2 o3, env = [some (.t (.int most)), some (.t (.ro (sets.map setT))), some (.loc 0), o1, o2, o3, none, none] ∧ μ = [.dic (bd ks)] ∧ ks.Nodup ∧ (∀ s ∈ r, s.length ≤ 1000) ∧ ks.length + r.length * 2000 ≤ 2000001 ∧
      ∀ k, (k ∈ ks ∨ ∃ s ∈ r, ∃ p ∈ s, k = p.1 ∨ k = p.2 + 1) ↔ (k = 0 ∨ ∃ s ∈ sets, ∃ p ∈ s, k = p.1 ∨ k = p.2 + 1)) ?_ ?_ ⟨[0], none, none, none, rfl, rfl, by simp, h2, by simp; omega, fun k => by simp⟩
  · rintro st r env μ N ⟨ks, o1, o2, o3, rfl, rfl, n1, n2, n3, n4⟩ hN
    rw [List.length_cons, Nat.succ_mul] at n3
    have sl := n2 st List.mem_cons_self
    refine ⟨trivial, ?_⟩
    simp only [setT]
    walk_at "gw"
    refine for_mapM eP (fun q env μ => ∃ ks o2 o3, env = [some (.t (.int most)), some (.t (.ro (sets.map setT))), some (.loc 0), some (.t (.tup (st.map eP))), o2, o3, none, none] ∧ μ = [.dic (bd ks)] ∧ ks.Nodup ∧ ks.length + q.length * 2 + r.length * 2000 ≤ 2000001 ∧
      ∀ k, (k ∈ ks ∨ (∃ p ∈ q, k = p.1 ∨ k = p.2 + 1) ∨ ∃ s ∈ r, ∃ p ∈ s, k = p.1 ∨ k = p.2 + 1) ↔ (k = 0 ∨ ∃ s ∈ sets, ∃ p ∈ s, k = p.1 ∨ k = p.2 + 1)) ?_ ?_ ⟨ks, o2, o3, rfl, rfl, n1, by omega, fun k => by rw [← n4 k]; simp⟩
    · rintro p q env μ N' ⟨ks, o2, o3, rfl, rfl, m1, m3, m4⟩ hN'
      rw [List.length_cons, Nat.succ_mul] at m3
      refine ⟨trivial, ?_⟩
      walk_at "gw"
      have a1 := addK_len ks p.1
      have a2 := addK_len (addK ks p.1) (p.2 + 1)
      refine setW_bd (by rw [sizeLine_eq]; omega) (setW_bd (by rw [sizeLine_eq]; omega) ?_)
      refine hN' _ _ ⟨addK (addK ks p.1) (p.2 + 1), _, _, rfl, rfl, addK_nd (addK_nd m1 _) _, by omega, fun k => ?_⟩
      rw [← m4 k, addK_mem, addK_mem]
      constructor
      · rintro (((h | h) | h) | h | h)
        · exact .inl h
        · exact .inr (.inl ⟨p, List.mem_cons_self, .inl h⟩)
        · exact .inr (.inl ⟨p, List.mem_cons_self, .inr h⟩)
        · obtain ⟨x, hx, h⟩ := h
          exact .inr (.inl ⟨x, List.mem_cons_of_mem _ hx, h⟩)
        · exact .inr (.inr h)
      · rintro (h | ⟨x, hx, h⟩ | h)
        · exact .inl (.inl (.inl h))
        · rcases List.mem_cons.mp hx with rfl | hx
          · exact h.elim (fun h => .inl (.inl (.inr h))) fun h => .inl (.inr h)
          · exact .inr (.inl ⟨x, hx, h⟩)
        · exact .inr (.inr h)
    · rintro env μ ⟨ks, o2, o3, rfl, rfl, m1, m3, m4⟩
      refine ⟨trivial, hN _ _ ⟨ks, _, o2, o3, rfl, rfl, m1, fun s hs => n2 s (List.mem_cons_of_mem _ hs), by simp at m3; omega, fun k => by rw [← m4 k]; simp⟩⟩
  · rintro env μ ⟨ks, o1, o2, o3, rfl, rfl, n1, n2, n3, n4⟩
    have n4 : ∀ k, k ∈ ks ↔ (k = 0 ∨ ∃ s ∈ sets, ∃ p ∈ s, k = p.1 ∨ k = p.2 + 1) := fun k => by rw [← n4 k]; simp
    have hz : ks.length ≤ 2000001 := by simp at n3; omega
    refine ⟨trivial, ?_⟩
    walk_at "gw"
    refine ⟨0, bd ks, rfl, fun z => ?_⟩
    simp only [List.set_cons_zero]
    refine ⟨z, bd ks, rfl, by unfold bd; rw [List.length_map, sizeLine_eq]; omega, ?_⟩
    rw [show (bd ks).map (fun kv => kD kv.1) = ks.map (D.t ∘ T.int) by unfold bd; rw [List.map_map]; rfl]
    refine lc_filter (D.t ∘ T.int) (fun k => decide (k ≤ most)) T.int (fun k _ N hN => ?_) ?_
    · simp only [Function.comp, wipeE, List.set_cons_zero, List.set_cons_succ]
      walk_at "gw"
      by_cases c : k ≤ most
      · rw [if_pos (by simpa using c)] at hN ⊢
        exact ⟨_, rfl, hN⟩
      · rw [if_neg (by simpa using c)] at hN ⊢
        exact hN
    · refine .inl (.inl ?_)
      show ∃ ns : List Int, _
      refine ⟨_, rfl, fun os hp hs => ?_⟩
      have nd : os.Nodup := hp.nodup_iff.mpr (n1.filter _)
      have up : Up os := (List.pairwise_and_iff.mpr ⟨hs, nd⟩).imp fun {a b} h => by have := h.1; have := h.2; omega
      have e : os = ms := up_unique up h3.1 fun k => by
        rw [hp.mem_iff, List.mem_filter, h3.2 k, n4 k]
        simp
        exact and_comm
      have ol : os.length ≤ 2000001 := by
        rw [hp.length_eq]
        exact Nat.le_trans (List.length_filter_le _ _) hz
      subst e
      walk_at "gw"
      have ct : cutT (os.map T.int) (some 1) none = (os.drop 1).map T.int := by rw [cut_tail, List.map_drop]
      rw [ct]
      refine ⟨by rw [List.length_map, List.length_drop, sizeLine_eq]; omega, lc_allM T.int (fun k => T.int (k - 1)) (fun k _ N hN => ?_) ?_⟩
      · simp only [wipeE, List.set_cons_zero, List.set_cons_succ]
        walk_at "gw"
        exact ⟨_, rfl, hN⟩
      walk_at "gw"
      rw [parts_zip]
      refine ⟨by rw [List.length_drop, sizeLine_eq]; omega, by rw [sizeLine_eq]; omega, 1, rfl, rfl⟩
theorem sem_has : ∀ xs y, Phi_has xs y → b_has (startD ["one", "number", "low", "high"] xs) [] { nx := fun _ _ => y = .non, rt := fun d _ => d = .t y } := by
  rintro _ _ ⟨ps, n, h1, rfl, rfl⟩
  show b_has [some (.t (setT ps)), some (.t (.int n)), none, none] [] _
  unfold b_has setT
  walk_at "gw"
  refine ⟨by rw [sizeLine_eq]; omega, ?_⟩
  rw [List.map_map]
  refine lc_all (D.t ∘ eP) (fun p => T.bl (iLe p.1 n && iLe n p.2)) (fun p _ N hN => ?_) ?_
  · simp only [Function.comp, wipeE, List.set_cons_zero, List.set_cons_succ]
    walk_at "gw"
    cases e : iLe p.1 n with
    | true =>
      rw [e] at hN
      exact ⟨_, rfl, hN⟩
    | false =>
      rw [e] at hN
      exact ⟨_, rfl, hN⟩
  · rw [show ps.map (fun p => T.bl (iLe p.1 n && iLe n p.2)) = (ps.map fun p => iLe p.1 n && iLe n p.2).map T.bl by rw [List.map_map]; rfl]
    walk_at "gw"
    rw [List.any_map]
    rfl
end
section
theorem three_at {α : Type} {x y z : α} {w : α} {i : Int} {Q : α → Prop} (h0 : 0 ≤ i) (h1 : i < 3) (q : Q ([x, y, z].getD i.toNat w)) : ∃ v, atI [x, y, z] i = some v ∧ Q v := by
  have : i = 0 ∨ i = 1 ∨ i = 2 := by omega
  rcases this with rfl | rfl | rfl
  · exact ⟨_, atI_nat (i := 0) rfl, q⟩
  · exact ⟨_, atI_nat (i := 1) rfl, q⟩
  · exact ⟨_, atI_nat (i := 2) rfl, q⟩
theorem sem_law_mosts : ∀ xs y, Phi_law_mosts xs y → b_law_mosts (startD ["_law_cell", "_law_many", "_law_is_small", "_law_found", "_law_k", "_law_great_here"] xs) [] { nx := fun _ _ => False, rt := fun d μ => ∃ n, d = .loc n ∧ μ[n]? = some (.lst (y.map D.t)) } := by
  rintro _ _ ⟨c, m, b, hm, rfl, rfl⟩
  show b_law_mosts [some (.t (.int c)), some (.t (.int m)), some (.t (.bl b)), none, none, none] [] _
  unfold b_law_mosts
  walk_at "gw"
  refine ⟨⟨by omega, by omega⟩, ?_⟩
  rw [Int.toNat_natCast]
  refine for_map (fun i : Nat => D.t (T.int i)) (fun r env μ => ∃ dn o4 o5, dn ++ r = List.range m ∧ env = [some (.t (.int c)), some (.t (.int m)), some (.t (.bl b)), some (.loc 0), o4, o5] ∧ μ = [.lst (((dn.map (mostF c b)).map T.int).map D.t)]) ?_ ?_ ⟨[], none, none, rfl, rfl, rfl⟩
  · rintro k r env μ N ⟨dn, o4, o5, h1, rfl, rfl⟩ hN
    refine ⟨trivial, ?_⟩
    have hk : dn.length < m := by
      have := congrArg List.length h1
      rw [List.length_append, List.length_cons, List.length_range] at this
      omega
    walk_at "gw"
    refine ⟨_, ⟨c, 700 + k, rfl, rfl⟩, ?_⟩
    walk_at "gw"
    rw [p12]
    refine ⟨cp12, _, ⟨c, 720 + k, rfl, rfl⟩, ?_⟩
    walk_at "gw"
    refine ⟨by decide, _, ⟨c, 710 + k, rfl, rfl⟩, ?_⟩
    walk_at "gw"
    refine ⟨by decide, three_at (w := .non) (Int.emod_nonneg _ (by decide)) (Int.emod_lt_of_pos _ (by decide)) ?_⟩
    have e3 : [T.int (greatF c (700 + k)), T.int 1000000000000, T.int (mixF c (720 + k) % 9)].getD (mixF c (710 + k) % 3).toNat .non = T.int ([greatF c (700 + k), 1000000000000, mixF c (720 + k) % 9].getD (mixF c (710 + k) % 3).toNat 0) := by
      have h0 := Int.emod_nonneg (mixF c (710 + k)) (b := 3) (by decide)
      have h1 := Int.emod_lt_of_pos (mixF c (710 + k)) (b := 3) (by decide)
      generalize mixF c (710 + k) % 3 = j at h0 h1
      have : j = 0 ∨ j = 1 ∨ j = 2 := by omega
      rcases this with rfl | rfl | rfl <;> rfl
    rw [e3]
    walk_at "gw"
    cases b with
    | true =>
      walk_at "gw"
      refine ⟨_, ⟨c, 720 + k, rfl, rfl⟩, ?_⟩
      walk_at "gw"
      refine ⟨by decide, by rw [sizeLine_eq]; omega, ?_⟩
      refine hN _ _ ⟨dn ++ [k], _, _, by rw [List.append_assoc]; exact h1, rfl, ?_⟩
      simp only [List.map_append]
      rfl
    | false =>
      walk_at "gw"
      refine ⟨by rw [sizeLine_eq]; omega, ?_⟩
      refine hN _ _ ⟨dn ++ [k], _, _, by rw [List.append_assoc]; exact h1, rfl, ?_⟩
      simp only [List.map_append]
      rfl
  · rintro env μ ⟨dn, o4, o5, h1, rfl, rfl⟩
    refine ⟨trivial, ?_⟩
    walk_at "gw"
    rw [List.append_nil] at h1
    subst h1
    exact ⟨0, rfl, rfl⟩
theorem sem_law_leaf : ∀ xs y, Phi_law_leaf xs y → b_law_leaf (startD ["_law_places", "_law_way"] xs) [] { nx := fun _ _ => y = .non, rt := fun d _ => d = .t y } := by
  rintro _ _ ⟨ps, way, rfl, rfl⟩
  show b_law_leaf [some (.t (.ro (ps.map T.int))), some (.t (.int way))] [] _
  unfold b_law_leaf
  walk_at "gw"
  unfold leafF
  by_cases h0 : way % 5 = 0
  · rw [if_pos h0]
    exact ⟨by decide, by rw [if_pos (by rw [h0]; rfl)]⟩
  rw [if_neg h0, if_neg (by simpa using h0)]
  refine ⟨by decide, by decide, ?_⟩
  by_cases h1 : way % 5 = 1
  · rw [if_pos h1, if_pos (by rw [h1]; rfl)]
    cases ps with
    | nil => rfl
    | cons p ps =>
      rw [if_pos (by rfl)]
      exact ⟨_, atI_0 _ _, rfl⟩
  rw [if_neg h1, if_neg (by simpa using h1)]
  refine ⟨by decide, ?_⟩
  by_cases h2 : way % 5 = 2
  · rw [if_pos h2, if_pos (by rw [h2]; rfl)]
    refine ⟨by decide, three_at (w := .non) (by omega) (by omega) ?_⟩
    rw [show ((ps.length : Int) % 3).toNat = ps.length % 3 by omega]
  rw [if_neg h2, if_neg (by simpa using h2)]
  refine ⟨by decide, ?_⟩
  by_cases h3 : way % 5 = 3
  · rw [if_pos h3, if_pos (by rw [h3]; rfl)]
    rcases snoc_or ps with rfl | ⟨qs, q, rfl⟩
    · rfl
    · rw [if_pos (by simp)]
      rw [List.map_append]
      refine ⟨_, atI_last _ _, ?_⟩
      walk_at "gw"
      rw [List.getLast?_concat]
  rw [if_neg h3, if_neg (by simpa using h3)]
theorem sem_law_some_set : ∀ xs y, Phi_law_some_set xs y → b_law_some_set (startD ["_law_cell", "_law_most", "_law_pairs", "_law_way", "_law_rows", "_law_low", "_law_behind", "_law_k"] xs) [] { nx := fun _ _ => y = .non, rt := fun d _ => d = .t y } := by
  rintro _ _ ⟨c, most, pairs, h0, hp, rfl, rfl⟩
  show b_law_some_set [some (.t (.int c)), some (.t (.int most)), some (.t (.int pairs)), none, none, none, none, none] [] _
  unfold b_law_some_set
  walk_at "gw"
  refine ⟨_, ⟨c, 730, rfl, rfl⟩, ?_⟩
  walk_at "gw"
  unfold someF
  have w0 := Int.emod_nonneg (mixF c 730) (b := 7) (by decide)
  generalize mixF c 730 % 7 = w at w0
  refine ⟨by decide, ?_⟩
  by_cases c0 : w = 0
  · subst c0
    rw [if_pos (by decide), if_pos rfl]
    exact ⟨_, atI_0 _ _, rfl⟩
  by_cases c1 : w = 1
  · subst c1
    rw [if_pos (by decide), if_neg (by decide), if_pos rfl]
    exact ⟨_, atI_1 _ _ _, rfl⟩
  rw [if_neg c0, if_neg c1, if_neg (by simp; omega)]
  unfold fSoSet
  walk_at "gw"
  refine ⟨mulL (by decide) (by decide), ⟨by omega, by omega⟩, by rw [List.length_range, sizeLine_eq]; omega, ?_⟩
  rw [show (2 * (pairs : Int)).toNat = 2 * pairs by omega]
  refine lc_all (fun i : Nat => D.t (T.int i)) (fun i => T.int (greatF c (740 + i) % (most + 2))) (fun i _ N hN => ?_) ?_
  · simp only [wipeE, List.set_cons_zero, List.set_cons_succ]
    walk_at "gw"
    refine ⟨_, ⟨c, 740 + i, rfl, rfl⟩, ?_⟩
    walk_at "gw"
    exact ⟨by omega, _, rfl, hN⟩
  generalize hL : (List.range (2 * pairs)).map (fun k : Nat => greatF c (740 + k) % (most + 2)) = L
  have e1 : (List.range (2 * pairs)).map (fun i : Nat => T.int (greatF c (740 + i) % (most + 2))) = L.map T.int := by
    rw [← hL, List.map_map]
    rfl
  have hl : L.length = 2 * pairs := by rw [← hL, List.length_map, List.length_range]
  rw [e1]
  refine ⟨L, rfl, by omega, fun ms hu hm => ?_⟩
  have e : ms = sdI L := up_unique hu (sdI_up L) fun k => by rw [hm k, sdI_mem]
  subst e
  have hs := sdI_len L
  rw [evT_map, odT_map, zipD_ints]
  refine ⟨by rw [List.length_map, List.length_zip, sizeLine_eq]; have := evT_le (sdI L); omega, ?_⟩
  refine lc_all (D.t ∘ eP) (fun p => eP (p.1, p.2 - 1)) (fun p _ N hN => ?_) ?_
  · simp only [Function.comp, wipeE, List.set_cons_zero, List.set_cons_succ]
    walk_at "gw"
    exact ⟨_, rfl, hN⟩
  · rw [pairs_zip, setT, List.map_map]
    rfl
end
section
theorem sem_law_boxes : ∀ xs y, Phi_law_boxes xs y → b_law_boxes (startD ["_law_cells", "_law_mosts_here", "_law_pairs", "_law_found", "_law_k", "_law_cell", "_law_some", "_law_j", "_law_most"] xs) [] { nx := fun _ _ => False, rt := fun d μ => ∃ n, d = .loc n ∧ μ[n]? = some (.lst (y.map D.t)) } := by
  rintro _ _ ⟨cells, mosts, pairs, h1, h2, h3, h4, rfl, rfl⟩
  show b_law_boxes [some (.t (.ro (cells.map T.int))), some (.t (.ro (mosts.map T.int))), some (.t (.int pairs)), none, none, none, none, none, none] [] _
  unfold b_law_boxes
  try walk_at "gw"
  rw [enumD_ints]
  refine for_map (fun z : Int × Nat => D.t (.tup [.int z.2, .int z.1])) (fun r env μ => ∃ dn o4 o5 o6, dn ++ r = cells.zipIdx ∧ env = [some (.t (.ro (cells.map T.int))), some (.t (.ro (mosts.map T.int))), some (.t (.int pairs)), some (.loc 0), o4, o5, o6, none, none] ∧ μ = [.lst (((dn.map fun z => boxF z.1 z.2 mosts pairs).map boxT).map D.t)]) ?_ ?_ ⟨[], none, none, none, rfl, rfl, rfl⟩
  · rintro ⟨c, k⟩ r env μ N ⟨dn, o4, o5, o6, e1, rfl, rfl⟩ hN
    refine ⟨trivial, ?_⟩
    have hk : dn.length < cells.length := by
      have := congrArg List.length e1
      rw [List.length_append, List.length_cons, List.length_zipIdx] at this
      omega
    try walk_at "gw"
    rw [enumD_ints]
    refine ⟨by rw [List.length_map, List.length_zipIdx, sizeLine_eq]; omega, ?_⟩
    refine lc_all (fun z : Int × Nat => D.t (.tup [.int z.2, .int z.1])) (fun z => setT (someF (mixF c (750 + 5 * k + z.2)) z.1 pairs)) (fun z hz N' hN' => ?_) ?_
    · obtain ⟨m, j⟩ := z
      have hm : m ∈ mosts := by
        obtain ⟨_, _, e⟩ := List.mem_zipIdx hz
        rw [e]
        exact List.getElem_mem _
      simp only [wipeE, List.set_cons_zero, List.set_cons_succ]
      try walk_at "gw"
      refine ⟨mulL (by decide) (by decide), _, ⟨c, 750 + 5 * (k : Int) + j, rfl, rfl⟩, ?_⟩
      try walk_at "gw"
      exact ⟨_, ⟨_, m, pairs, h3 m hm, h4, rfl, rfl⟩, _, rfl, hN'⟩
    try walk_at "gw"
    refine ⟨by rw [sizeLine_eq]; omega, ?_⟩
    refine hN _ _ ⟨dn ++ [(c, k)], _, _, _, by rw [List.append_assoc]; exact e1, rfl, ?_⟩
    have e : T.tup (mosts.zipIdx.map fun z => setT (someF (mixF c (750 + 5 * k + z.2)) z.1 pairs)) = boxT (boxF c k mosts pairs) := by
      unfold boxF boxT
      rw [List.map_map]
      rfl
    rw [e]
    simp only [List.map_append]
    rfl
  · rintro env μ ⟨dn, o4, o5, o6, e1, rfl, rfl⟩
    refine ⟨trivial, ?_⟩
    try walk_at "gw"
    rw [List.append_nil] at e1
    subst e1
    exact ⟨0, rfl, rfl⟩
theorem int_at {α : Type} {xs : List α} {i : Int} {w : α} {Q : α → Prop} (h0 : 0 ≤ i) (h1 : i < xs.length) (q : Q (xs.getD i.toNat w)) : ∃ v, atI xs i = some v ∧ Q v := by
  obtain ⟨n, rfl⟩ := Int.eq_ofNat_of_zero_le h0
  have hn : n < xs.length := by omega
  refine ⟨xs.getD n w, atI_nat ?_, q⟩
  rw [List.getD_eq_getElem?_getD, List.getElem?_eq_getElem hn]
  rfl
theorem getD_map {α β : Type} (f : α → β) (xs : List α) (i : Nat) (w : α) : (xs.map f).getD i (f w) = f (xs.getD i w) := by
  rw [List.getD_eq_getElem?_getD, List.getD_eq_getElem?_getD, List.getElem?_map]
  cases xs[i]? <;> rfl
theorem getD_mem {α : Type} {xs : List α} {i : Nat} {w : α} (h : i < xs.length) : xs.getD i w ∈ xs := by
  rw [List.getD_eq_getElem?_getD, List.getElem?_eq_getElem h]
  exact List.getElem_mem _
theorem cut_take {α : Type} (xs : List α) (n : Nat) : cutT xs none (some (n : Int)) = xs.take n := by
  unfold cutT
  rw [HT.sIx_nat, HT.sIx_none, List.drop_zero, Nat.sub_zero]
  rw [← List.take_eq_take_min]
theorem cut_drop {α : Type} (xs : List α) (n : Nat) : cutT xs (some (n : Int)) none = xs.drop n := by
  unfold cutT
  rw [HT.sIx_nat, HT.sIx_none]
  by_cases h : n ≤ xs.length
  · rw [Nat.min_eq_left h]
    exact List.take_of_length_le (by rw [List.length_drop]; omega)
  · rw [Nat.min_eq_right (by omega), Nat.sub_self, List.take_zero, List.drop_eq_nil_of_le (by omega)]
theorem cut_both {α : Type} (xs : List α) (a b : Nat) : cutT xs (some (a : Int)) (some (b : Int)) = (xs.drop a).take (b - a) := by
  unfold cutT
  rw [HT.sIx_nat, HT.sIx_nat]
  by_cases h : a ≤ xs.length
  · rw [Nat.min_eq_left h]
    by_cases h2 : b ≤ xs.length
    · rw [Nat.min_eq_left h2]
    · rw [Nat.min_eq_right (a := b) (by omega), List.take_of_length_le (by rw [List.length_drop]; omega), List.take_of_length_le (by rw [List.length_drop]; omega)]
  · have h' : xs.length ≤ a := by omega
    rw [Nat.min_eq_right h', List.drop_eq_nil_of_le (Nat.le_refl xs.length), List.drop_eq_nil_of_le h', List.take_nil, List.take_nil]
theorem sl_tup {μ : Store} {xs : List T} {l h : Option Int} {Q : D → Prop} (q : Q (.t (.tup (cutT xs l h)))) : slW μ (.t (.tup xs)) l h Q := q
theorem add_tup {μ : Store} {xs ys : List T} {Q : D → Prop} (h : xs.length + ys.length ≤ sizeLine) (q : Q (.t (.tup (xs ++ ys)))) : addD μ (.t (.tup xs)) (.t (.tup ys)) Q := ⟨h, q⟩
def halvesEnd : DS := (sSeq (sAsg (xP (dBi (aCons (dF (fLc (iSq (dIx (dVar 2) (dVar 3))) (gTp 2 (gCons' (gNm 8) (gCons' (gNm 9) (gNil')))) (dTest (dLt (dVar 8) (dVar 4))) (dTup (aCons (dVar 8) (aCons (dBi (aCons (dVar 9) (aCons (dSub (dVar 4) (dC (.int 1))) (aNil))) (wMM minI)) (aNil)))) [8, 9])) (aNil)) wTuple)) (gNm 5))
  (sSeq (sAsg (xP (dBi (aCons (dF (fLc (iSq (dIx (dVar 2) (dVar 3))) (gTp 2 (gCons' (gNm 8) (gCons' (gNm 9) (gNil')))) (dTest (dGe (dVar 9) (dVar 4))) (dTup (aCons (dBi (aCons (dVar 8) (aCons (dVar 4) (aNil))) (wMM maxI)) (aCons (dVar 9) (aNil)))) [8, 9])) (aNil)) wTuple)) (gNm 6))
  (sSeq (sRet (xF (fLc (iSq (dTup (aCons (dVar 5) (aCons (dVar 6) (aNil))))) (gNm 7) (tYesD) (dAdd (dAdd (dSl (dVar 2) (oNo) (oSo (dVar 3))) (dTup (aCons (dVar 7) (aNil)))) (dSl (dVar 2) (oSo (dAdd (dVar 3) (dC (.int 1)))) (oNo))) [7])))
  (sNil))))
theorem b_halves_eq : b_law_halves = (sSeq (sAsg (xP (dMod (dCall Phi_law_mixed (aCons (dVar 0) (aCons (dC (.int 760)) (aNil)))) (dBi (aCons (dVar 1) (aNil)) (wLen)))) (gNm 3))
  (sSeq (sAsg (xP (dMod (dCall Phi_law_great (aCons (dVar 0) (aCons (dC (.int 761)) (aNil)))) (dAdd (dIx (dVar 1) (dVar 3)) (dC (.int 1))))) (gNm 4))
  (sSeq (sIf (dAnd (dTest (dGt (dMod (dCall Phi_law_mixed (aCons (dVar 0) (aCons (dC (.int 762)) (aNil)))) (dC (.int 3))) (dC (.int 0)))) (dTest (dNe (dIx (dVar 2) (dVar 3)) (dTup (aNil))))) (sSeq (sAsg (xP (dIx (dIx (dIx (dVar 2) (dVar 3)) (dMod (dCall Phi_law_mixed (aCons (dVar 0) (aCons (dC (.int 763)) (aNil)))) (dBi (aCons (dIx (dVar 2) (dVar 3)) (aNil)) (wLen)))) (dMod (dCall Phi_law_mixed (aCons (dVar 0) (aCons (dC (.int 764)) (aNil)))) (dC (.int 2))))) (gNm 4))
  (sNil)) (sNil)) halvesEnd))) := rfl
/-- the halves' end: both lists, then the boxes put together -/
theorem halves_end {c a : Int} {mosts : List Int} {box : List (List Pr)} {f : Nat} (hf : f < box.length) (h4 : box.length ≤ 4) (h5 : ∀ s ∈ box, s.length ≤ 100) {env : DEnv} {P : Post} (he : env = [some (.t (.int c)), some (.t (.ro (mosts.map T.int))), some (.t (boxT box)), some (.t (.int f)), some (.t (.int a)), none, none, none, none, none])
    (q : ∃ e, P.rt (.loc 0) e ∧ e = [MO.lst (([putF box f (lowerF a (box.getD f [])), putF box f (upperF a (box.getD f []))].map boxT).map D.t)]) : halvesEnd env [] P := by
  subst he
  obtain ⟨nx, rt, bk, ct, xc⟩ := P
  unfold halvesEnd
  have hs := h5 _ (getD_mem (w := []) hf)
  have hb : ∀ {Q : T → Prop}, Q (setT (box.getD f [])) → ∃ v, atI (box.map setT) (f : Int) = some v ∧ Q v := fun q => int_at (w := setT []) (by omega) (by rw [List.length_map]; omega) (by rw [Int.toNat_natCast, getD_map]; exact q)
  unfold boxT
  try walk_at "gw"
  refine hb ?_
  generalize hS : box.getD f [] = s at *
  have back : ∀ {Q : T → Prop}, Q (setT s) → atK (box.map fun ps => T.tup (ps.map eP)) (f : Int) fun d => ∃ x, d = .t x ∧ Q x := fun {Q} q => by
    obtain ⟨v, e, h⟩ := hb q
    exact ⟨_, e, _, rfl, h⟩
  unfold setT
  try walk_at "gw"
  refine ⟨by rw [sizeLine_eq]; omega, ?_⟩
  rw [List.map_map]
  refine lc_filter (D.t ∘ eP) (fun p => decide (p.1 < a)) (fun p => eP (p.1, min p.2 (a - 1))) (fun p _ N hN => ?_) ?_
  · simp only [Function.comp, wipeE, List.set_cons_zero, List.set_cons_succ]
    try walk_at "gw"
    by_cases z : p.1 < a
    · rw [if_pos (by simpa using z)] at hN ⊢
      try walk_at "gw"
      rw [minI_eq]
      exact ⟨_, rfl, hN⟩
    · rw [if_neg (by simpa using z)] at hN ⊢
      exact hN
  obtain ⟨v, ev, hv⟩ := hb (Q := fun v => v = setT s) rfl
  refine ⟨v, ev, ?_⟩
  subst hv
  unfold setT
  try walk_at "gw"
  refine ⟨by rw [sizeLine_eq]; omega, ?_⟩
  rw [List.map_map]
  refine lc_filter (D.t ∘ eP) (fun p => decide (p.2 ≥ a)) (fun p => eP (max p.1 a, p.2)) (fun p _ N hN => ?_) ?_
  · simp only [Function.comp, wipeE, List.set_cons_zero, List.set_cons_succ]
    try walk_at "gw"
    by_cases z : p.2 ≥ a
    · rw [if_pos (by simpa using z)] at hN
      rw [if_pos (by simpa using z)]
      try walk_at "gw"
      rw [maxI_eq]
      exact ⟨_, rfl, hN⟩
    · rw [if_neg (by simpa using z)] at hN
      rw [if_neg (by simpa using z)]
      exact hN
  have e1 : T.tup ((s.filter fun p => decide (p.1 < a)).map fun p => T.tup [.int p.1, .int (min p.2 (a - 1))]) = setT (lowerF a s) := by
    unfold lowerF setT
    rw [List.map_map]
    rfl
  have e2 : T.tup ((s.filter fun p => decide (p.2 ≥ a)).map fun p => eP (max p.1 a, p.2)) = setT (upperF a s) := by
    unfold upperF setT
    rw [List.map_map]
    rfl
  rw [e1, e2]
  refine lc_all D.t (fun x => T.tup ((box.map setT).take f ++ [x] ++ (box.map setT).drop (f + 1))) (l := [setT (lowerF a s), setT (upperF a s)]) (fun x _ N hN => ?_) ?_
  · simp only [wipeE, List.set_cons_zero, List.set_cons_succ]
    try walk_at "gw"
    refine sl_tup ?_
    rw [cut_take]
    refine add_tup (by rw [List.length_take, List.length_map, List.length_singleton, sizeLine_eq]; omega) (sl_tup ?_)
    rw [show (f : Int) + 1 = ((f + 1 : Nat) : Int) by omega, cut_drop]
    exact add_tup (by rw [List.length_append, List.length_take, List.length_drop, List.length_map, List.length_singleton, sizeLine_eq]; omega) ⟨_, rfl, hN⟩
  · obtain ⟨e, q, rfl⟩ := q
    have e3 : ∀ x : List Pr, T.tup ((box.map setT).take f ++ [setT x] ++ (box.map setT).drop (f + 1)) = boxT (putF box f x) := fun x => by
      unfold boxT putF
      rw [List.map_append, List.map_append, List.map_take, List.map_drop]
      rfl
    simp only [List.map_cons, List.map_nil, e3]
    exact q
theorem sem_law_halves : ∀ xs y, Phi_law_halves xs y → b_law_halves (startD ["_law_cell", "_law_mosts_here", "_law_box", "_law_field", "_law_at", "_law_lower", "_law_upper", "_law_one", "_law_low", "_law_high"] xs) [] { nx := fun _ _ => False, rt := fun d μ => ∃ n, d = .loc n ∧ μ[n]? = some (.lst (y.map D.t)) } := by
  rintro _ _ ⟨c, mosts, box, h1, h2, h3, h4, h5, rfl, rfl⟩
  show b_law_halves [some (.t (.int c)), some (.t (.ro (mosts.map T.int))), some (.t (boxT box)), none, none, none, none, none, none, none] [] _
  rw [b_halves_eq]
  try walk_at "gw"
  refine ⟨_, ⟨c, 760, rfl, rfl⟩, ?_⟩
  try walk_at "gw"
  have f0 := Int.emod_nonneg (mixF c 760) (b := mosts.length) (by omega)
  have f1 := Int.emod_lt_of_pos (mixF c 760) (b := mosts.length) (by omega)
  have hfe : mixF c 760 % (mosts.length : Int) = (fieldF c mosts : Int) := by
    unfold fieldF
    omega
  have hff : fieldF c mosts < mosts.length := by omega
  rw [hfe]
  unfold halvesF atF
  generalize fieldF c mosts = f at *
  have hs := h5 _ (getD_mem (w := []) (show f < box.length by omega))
  have hb : ∀ {Q : T → Prop}, Q (setT (box.getD f [])) → ∃ v, atI (box.map setT) (f : Int) = some v ∧ Q v := fun q => int_at (w := setT []) (by omega) (by rw [List.length_map]; omega) (by rw [Int.toNat_natCast, getD_map]; exact q)
  refine ⟨by omega, _, ⟨c, 761, rfl, rfl⟩, ?_⟩
  try walk_at "gw"
  refine int_at (w := T.int 0) (by omega) (by rw [List.length_map]; omega) ?_
  rw [Int.toNat_natCast, getD_map]
  try walk_at "gw"
  have hm := h4 _ (getD_mem (w := 0) hff)
  refine ⟨by omega, _, ⟨c, 762, rfl, rfl⟩, ?_⟩
  try walk_at "gw"
  refine ⟨by decide, ?_⟩
  have fin : ∀ (a : Int) (nx bk ct : DEnv → Store → Prop) (xc : XD → DEnv → Store → Prop), halvesEnd [some (.t (.int c)), some (.t (.ro (mosts.map T.int))), some (.t (boxT box)), some (.t (.int f)), some (.t (.int a)), none, none, none, none, none] [] ⟨nx, fun d μ => ∃ n, d = .loc n ∧ μ[n]? = some (.lst (([putF box f (lowerF a (box.getD f [])), putF box f (upperF a (box.getD f []))].map boxT).map D.t)), bk, ct, xc⟩ := fun a nx bk ct xc => halves_end (by omega) (by omega) h5 rfl ⟨_, ⟨0, rfl, rfl⟩, rfl⟩
  by_cases z1 : 0 < mixF c 762 % 3
  · rw [if_pos (by simpa using z1)]
    have bx : ∀ {Q : D → Prop}, Q (.t (setT (box.getD f []))) → ixW [] (D.t (boxT box)) (D.t (T.int f)) Q := fun {Q} q => hb (Q := fun v => Q (.t v)) q
    refine bx ?_
    have ee : eqT (setT (box.getD f [])) (.tup []) = (box.getD f []).isEmpty := by
      unfold setT
      rw [eq_tnil, List.isEmpty_map]
    refine ⟨ok_set _, ?_⟩
    rw [ee]
    by_cases z2 : box.getD f [] = []
    · rw [if_neg (by rw [z2]; decide), if_neg fun z => z.2 z2]
      exact fin _ _ _ _ _
    · rw [if_pos (by cases e : box.getD f [] with | nil => exact (z2 e).elim | cons _ _ => rfl)]
      rw [if_pos ⟨z1, z2⟩]
      generalize hS : box.getD f [] = s at *
      have ls : 0 < s.length := List.length_pos_iff.mpr z2
      refine bx ⟨_, ⟨c, 763, rfl, rfl⟩, bx ?_⟩
      unfold setT
      try walk_at "gw"
      have i0 := Int.emod_nonneg (mixF c 763) (b := s.length) (by omega)
      have i1 := Int.emod_lt_of_pos (mixF c 763) (b := s.length) (by omega)
      refine ⟨by omega, int_at (w := eP (0, 0)) i0 (by rw [List.length_map]; exact i1) ?_⟩
      rw [getD_map]
      refine ⟨_, ⟨c, 764, rfl, rfl⟩, ?_⟩
      have j0 := Int.emod_nonneg (mixF c 764) (b := 2) (by decide)
      have j1 := Int.emod_lt_of_pos (mixF c 764) (b := 2) (by decide)
      generalize s.getD (mixF c 763 % s.length).toNat (0, 0) = p at *
      try walk_at "gw"
      generalize mixF c 764 % 2 = j at j0 j1
      refine ⟨by decide, ?_⟩
      have : j = 0 ∨ j = 1 := by omega
      rcases this with rfl | rfl
      · rw [if_pos rfl]
        exact ⟨_, atI_0 _ _, fin _ _ _ _ _⟩
      · rw [if_neg (by decide)]
        exact ⟨_, atI_1 _ _ _, fin _ _ _ _ _⟩
  · rw [if_neg (by simpa using z1)]
    rw [if_neg fun z => z1 z.1]
    exact fin _ _ _ _ _
end
section
section
variable [Wd] {μ : Store} {Q : D → Store → Prop}
theorem mosts_ok {n : Nat} {sides tests : List T} {top : T} (A : TabAt μ n sides top tests) (q : Q (.t (.lst sides)) μ) : c_Table_mosts [.loc n] μ Q := by
  obtain ⟨s, k, h1, h2, h3⟩ := A
  refine ⟨rfl, ?_⟩
  show b_Table_mosts [some (.loc n)] μ _
  unfold b_Table_mosts
  try walk_at "gw"
  exact fld_at h1 (by simp) rfl (listA_loc h2 (.inl q))
theorem top_ok {n : Nat} {sides tests : List T} {top : T} (A : TabAt μ n sides top tests) (q : Q (.t top) μ) : c_Table_top [.loc n] μ Q := by
  obtain ⟨s, k, h1, h2, h3⟩ := A
  refine ⟨rfl, ?_⟩
  show b_Table_top [some (.loc n)] μ _
  unfold b_Table_top
  try walk_at "gw"
  exact fld_at h1 (by simp) rfl (.inl q)
theorem tests_ok {n : Nat} {sides tests : List T} {top : T} (A : TabAt μ n sides top tests) (q : Q (.t (.lst tests)) μ) : c_Table_tests [.loc n] μ Q := by
  obtain ⟨s, k, h1, h2, h3⟩ := A
  refine ⟨rfl, ?_⟩
  show b_Table_tests [some (.loc n)] μ _
  unfold b_Table_tests
  try walk_at "gw"
  exact fld_at h1 (by simp) rfl (listA_loc h3 (.inl q))
theorem TabAt.meth {n : Nat} {sides tests : List T} {top : T} (A : TabAt μ n sides top tests) : ∃ fs, μ[n]? = some (.ins "Table" fs) ∧ fs.lookup ("mosts" : Str) = none ∧ fs.lookup ("top" : Str) = none ∧ fs.lookup ("tests" : Str) = none := by
  obtain ⟨s, k, h1, h2, h3⟩ := A
  exact ⟨_, h1, rfl, rfl, rfl⟩
theorem TabAt.app {n : Nat} {sides tests : List T} {top : T} (A : TabAt μ n sides top tests) (l : Store) : TabAt (μ ++ l) n sides top tests := A.keep fun _ _ e _ => ap_get e l
theorem lay_lst {n : Nat} {xs : List T} (h : ∀ x ∈ xs, plN n x = true) : (pd (.lst xs)).canLay0 = true ∧ (pd (.lst xs)).depth ≤ n + 1 := by
  have z := plN_lay (n := n + 1) (x := .tup xs) (by rw [plN_tup, List.all_eq_true]; exact h)
  exact z
theorem same_ok {n n' : Nat} {sides tests : List T} {top : T} {d : Nat} (A : TabAt μ n sides top tests) (A' : TabAt μ n' sides top tests) (hd : d ≤ 40) (h1 : ∀ x ∈ sides, plN d x = true) (h2 : plN d top = true) (h3 : ∀ x ∈ tests, plN d x = true) (q : Q (.t (.bl true)) μ) : c_law_same [.loc n, .loc n'] μ Q := by
  refine ⟨rfl, ?_⟩
  show b_law_same [some (.loc n), some (.loc n')] μ _
  unfold b_law_same
  try walk_at "gw"
  obtain ⟨fs, f1, f2, f3, f4⟩ := A.meth
  refine meth_at f1 f2 (mosts_ok A (meth_at f1 f3 (top_ok A (meth_at f1 f4 (tests_ok A ?_)))))
  simp only [pushK]
  have A2 := A'.app [MO.lst [.t (.lst sides), .t top, .t (.lst tests)]]
  obtain ⟨fs', g1, g2, g3, g4⟩ := A2.meth
  refine meth_at g1 g2 (mosts_ok A2 (meth_at g1 g3 (top_ok A2 (meth_at g1 g4 (tests_ok A2 ?_)))))
  rw [two_app, one_len]
  have ok : okT (.lst [.lst sides, top, .lst tests]) = true := ok_lst fun x hx => by
    simp at hx
    rcases hx with rfl | rfl | rfl
    · have := lay_lst h1
      exact ⟨this.1, by omega⟩
    · have := plN_lay h2
      exact ⟨this.1, by omega⟩
    · have := lay_lst h3
      exact ⟨this.1, by omega⟩
  refine vw_list (xs := [.lst sides, top, .lst tests]) two_get0 (vw_list (xs := [.lst sides, top, .lst tests]) two_get1 ⟨ok, ok, ?_⟩)
  rw [eq_self ok]
  exact .inr (.inl ⟨_, _, rfl, rfl, q⟩)
/-! ### the workers -/
def castN (al : List Nat) : List Int := al.map fun p : Nat => (p : Int)
theorem plT_cast (al : List Nat) : plT al = (castN al).map T.int := by
  unfold plT castN
  rw [List.map_map]
  rfl
theorem wk0_ok {L c : Addr} {way : Int} {al : List Nat} (q : Q (.t (leafF way (castN al))) μ) : c_wk (Wd.nf 0 L c) [.t (.int way)] [.t (.lst (plT al))] μ Q := by
  refine .inl ⟨L, c, rfl, rfl, ?_⟩
  show b_wk0 [some (.t (.lst (plT al))), some (.t (.int way))] μ _
  unfold b_wk0
  try walk_at "gw"
  refine ⟨_, ⟨castN al, way, ?_, rfl⟩, .inl q⟩
  show [T.ro (ros (plT al)), ro (.int way)] = _
  rw [plT_cast, ros_ints]
  rfl
def rowT (z : List (List Pr) × Nat) : T := .tup [boxT z.1, .int z.2]
theorem wk1_ok {L c : Addr} {way : Int} {al : List Nat} {r : Nat} {rows : List (List (List Pr) × Nat)} (hr : μ[r]? = some (.lst ((rows.map rowT).map D.t))) (ha : ∀ a ∈ al, a < rows.length) (hl : al.length < 64)
    (q : Q (.t (leafF way (sdI (al.map fun a => ((rows.getD a ([], 0)).2 : Int))))) μ) : c_wk (Wd.nf 1 L c) [.t (.int way), .loc r] [.t (.lst (plT al))] μ Q := by
  refine .inr ⟨L, c, rfl, rfl, ?_⟩
  show b_wk1 [some (.t (.lst (plT al))), some (.t (.int way)), some (.loc r), none] μ _
  unfold b_wk1
  try walk_at "gw"
  unfold fSoSet
  try walk_at "gw"
  refine ⟨by unfold plT; rw [List.length_map, sizeLine_eq]; omega, ?_⟩
  refine lc_allM (fun p : Nat => T.int (p : Int)) (fun a => T.int ((rows.getD a ([], 0)).2 : Int)) (fun a hm N hN => ?_) ?_
  · simp only [wipeE, List.set_cons_zero, List.set_cons_succ]
    try walk_at "gw"
    have hlt := ha a hm
    refine ix_list hr (atI_nat (by rw [List.getElem?_map, List.getElem?_map, List.getElem?_eq_getElem hlt]; rfl)) ?_
    have e : rows[a] = rows.getD a ([], 0) := by rw [List.getD_eq_getElem?_getD, List.getElem?_eq_getElem hlt]; rfl
    rw [e]
    exact ⟨_, atI_1 _ _ _, _, rfl, hN⟩
  refine ⟨al.map fun a => ((rows.getD a ([], 0)).2 : Int), by rw [List.map_map]; rfl, by rw [List.length_map]; exact hl, fun ms hu hm => ?_⟩
  have e : ms = sdI (al.map fun a => ((rows.getD a ([], 0)).2 : Int)) := up_unique hu (sdI_up _) fun k => by rw [hm k, sdI_mem]
  subst e
  refine ⟨_, ⟨_, way, ?_, rfl⟩, .inl q⟩
  show [T.ro (ros (_ : List T)), ro (.int way)] = _
  rw [ros_ints]
  rfl
end
end
section
/-! ### halves of boxes: the maths -/
theorem lower_in (a : Int) (s : List Pr) (v : Int) : inB (lowerF a s) v = true ↔ v < a ∧ inB s v = true := by
  rw [inB_iff, inB_iff]
  unfold lowerF InS
  constructor
  · rintro ⟨p, hp, h1, h2⟩
    obtain ⟨z, hz, rfl⟩ := List.mem_map.mp hp
    rw [List.mem_filter] at hz
    have h2 : v ≤ min z.2 (a - 1) := h2
    exact ⟨by omega, z, hz.1, h1, by omega⟩
  · rintro ⟨h, p, hp, h1, h2⟩
    refine ⟨(p.1, min p.2 (a - 1)), List.mem_map.mpr ⟨p, List.mem_filter.mpr ⟨hp, decide_eq_true (by omega)⟩, rfl⟩, h1, ?_⟩
    show v ≤ min p.2 (a - 1)
    omega
theorem upper_in (a : Int) (s : List Pr) (v : Int) : inB (upperF a s) v = true ↔ a ≤ v ∧ inB s v = true := by
  rw [inB_iff, inB_iff]
  unfold upperF InS
  constructor
  · rintro ⟨p, hp, h1, h2⟩
    obtain ⟨z, hz, rfl⟩ := List.mem_map.mp hp
    rw [List.mem_filter] at hz
    have h1 : max z.1 a ≤ v := h1
    exact ⟨by omega, z, hz.1, by omega, h2⟩
  · rintro ⟨h, p, hp, h1, h2⟩
    refine ⟨(max p.1 a, p.2), List.mem_map.mpr ⟨p, List.mem_filter.mpr ⟨hp, decide_eq_true (by omega)⟩, rfl⟩, ?_, h2⟩
    show max p.1 a ≤ v
    omega
theorem putF_set {box : List (List Pr)} {f : Nat} (h : f < box.length) (s : List Pr) : putF box f s = box.set f s := by
  unfold putF
  rw [List.set_eq_take_append_cons_drop, if_pos h, List.append_assoc]
  rfl
theorem putF_len {box : List (List Pr)} {f : Nat} (h : f < box.length) (s : List Pr) : (putF box f s).length = box.length := by
  rw [putF_set h, List.length_set]
theorem putF_at {box : List (List Pr)} {f : Nat} (h : f < box.length) (s : List Pr) (i : Nat) : (putF box f s).getD i [] = if i = f then s else box.getD i [] := by
  rw [putF_set h, List.getD_eq_getElem?_getD, List.getD_eq_getElem?_getD]
  by_cases e : i = f
  · rw [if_pos e, e, List.getElem?_set_self h]
    rfl
  · rw [if_neg e, List.getElem?_set_ne fun z => e z.symm]
theorem putF_mem {box : List (List Pr)} {f : Nat} (h : f < box.length) {s t : List Pr} (ht : t ∈ putF box f s) : t = s ∨ t ∈ box := by
  rw [putF_set h] at ht
  exact (List.mem_or_eq_of_mem_set ht).symm
def hasB (n : Nat) (box : List (List Pr)) : Nat → (Nat → Int) → Bool
  | 0, _ => true
  | k + 1, x => inB (box.getD (n - (k + 1)) []) (x (n - (k + 1))) && hasB n box k x
theorem has_eq {Ms : List Int} {boxes : List (List (List Pr))} {wk : List Nat → T} (a : Nat) (x : Nat → Int) : ∀ k, (mkr Ms boxes wk).has k a x = hasB Ms.length (boxes.getD a []) k x
  | 0 => rfl
  | k + 1 => by
    show (_ && (mkr Ms boxes wk).has k a x) = (_ && hasB _ _ k x)
    rw [has_eq a x k]
    rfl
theorem hasB_iff {n : Nat} {box : List (List Pr)} {x : Nat → Int} : ∀ k, k ≤ n → (hasB n box k x = true ↔ ∀ i, n - k ≤ i → i < n → inB (box.getD i []) (x i) = true)
  | 0, _ => ⟨fun _ i h1 h2 => by omega, fun _ => rfl⟩
  | k + 1, le => by
    show (_ && _) = true ↔ _
    rw [Bool.and_eq_true, hasB_iff k (by omega)]
    constructor
    · rintro ⟨h1, h2⟩ i a b
      by_cases e : i = n - (k + 1)
      · rw [e]; exact h1
      · exact h2 i (by omega) b
    · intro h
      exact ⟨h _ (Nat.le_refl _) (by omega), fun i a b => h i (by omega) b⟩
theorem has_halves {n : Nat} {box : List (List Pr)} {f : Nat} (hf : f < n) (hl : box.length = n) (a : Int) (x : Nat → Int) : hasB n box n x = true ↔ hasB n (putF box f (lowerF a (box.getD f []))) n x = true ∨ hasB n (putF box f (upperF a (box.getD f []))) n x = true := by
  rw [hasB_iff n (Nat.le_refl _), hasB_iff n (Nat.le_refl _), hasB_iff n (Nat.le_refl _)]
  simp only [putF_at (show f < box.length by omega)]
  constructor
  · intro h
    by_cases z : x f < a
    · refine .inl fun i h1 h2 => ?_
      by_cases e : i = f
      · rw [if_pos e, e, lower_in]
        exact ⟨z, h f (by omega) hf⟩
      · rw [if_neg e]
        exact h i h1 h2
    · refine .inr fun i h1 h2 => ?_
      by_cases e : i = f
      · rw [if_pos e, e, upper_in]
        exact ⟨by omega, h f (by omega) hf⟩
      · rw [if_neg e]
        exact h i h1 h2
  · rintro (h | h) i h1 h2
    · have z := h i h1 h2
      by_cases e : i = f
      · rw [if_pos e, e, lower_in] at z
        rw [e]
        exact z.2
      · rw [if_neg e] at z
        exact z
    · have z := h i h1 h2
      by_cases e : i = f
      · rw [if_pos e, e, upper_in] at z
        rw [e]
        exact z.2
      · rw [if_neg e] at z
        exact z
theorem up_cast {l : List Nat} (h : l.Pairwise (· < ·)) : Up (castN l) := by
  unfold castN Up
  rw [List.pairwise_map]
  exact h.imp fun h => by omega
/-- the places of the halves tell those of the boxes -/
theorem places_same {n : Nat} (hn : 0 < n) {cells mosts : List Int} {boxes : List (List (List Pr))} {rows : List (List (List Pr) × Nat)} (hb : ∀ b ∈ boxes, b.length = n) (hm : mosts.length = n) (hf : ∀ c, fieldF c mosts < n)
    (hr : ∀ z, z ∈ rows ↔ ∃ k, k < boxes.length ∧ z.2 = k ∧ z.1 ∈ halvesF (cells.getD k 0) mosts (boxes.getD k [])) (x : Nat → Int) :
    castN ((List.range boxes.length).filter fun a => hasB n (boxes.getD a []) n x) = sdI (((List.range rows.length).filter fun a => hasB n ((rows.map (·.1)).getD a []) n x).map fun a => ((rows.getD a ([], 0)).2 : Int)) := by
  refine up_unique (up_cast (List.pairwise_lt_range.filter _)) (sdI_up _) fun k => ?_
  rw [sdI_mem]
  unfold castN
  rw [List.mem_map, List.mem_map]
  have two : ∀ j, j < boxes.length → (hasB n (boxes.getD j []) n x = true ↔ ∃ h ∈ halvesF (cells.getD j 0) mosts (boxes.getD j []), hasB n h n x = true) := fun j hj => by
    have hl := hb _ (getD_mem (w := []) hj)
    unfold halvesF
    rw [has_halves (hf (cells.getD j 0)) hl (atF (cells.getD j 0) mosts (boxes.getD j []))]
    simp
  constructor
  · rintro ⟨j, hj, rfl⟩
    rw [List.mem_filter, List.mem_range] at hj
    obtain ⟨h, hh, hx⟩ := (two j hj.1).mp hj.2
    have hz : (h, j) ∈ rows := (hr (h, j)).mpr ⟨j, hj.1, rfl, hh⟩
    obtain ⟨a, ha, e⟩ := List.getElem_of_mem hz
    have e1 : rows.getD a ([], 0) = (h, j) := by rw [List.getD_eq_getElem?_getD, List.getElem?_eq_getElem ha, e]; rfl
    have e2 : (rows.map (·.1)).getD a [] = h := by rw [List.getD_eq_getElem?_getD, List.getElem?_map, List.getElem?_eq_getElem ha, e]; rfl
    refine ⟨a, List.mem_filter.mpr ⟨List.mem_range.mpr ha, by rw [e2]; exact hx⟩, by rw [e1]⟩
  · rintro ⟨a, ha, rfl⟩
    rw [List.mem_filter, List.mem_range] at ha
    have hz : rows.getD a ([], 0) ∈ rows := getD_mem ha.1
    obtain ⟨j, hj, e, hh⟩ := (hr _).mp hz
    have e2 : (rows.map (·.1)).getD a [] = (rows.getD a ([], 0)).1 := getD_map (·.1) rows a ([], 0)
    rw [e2] at ha
    refine ⟨j, List.mem_filter.mpr ⟨List.mem_range.mpr hj, (two j hj).mpr ⟨_, hh, ha.2⟩⟩, by rw [e]⟩
/-! ### what the sets are like -/
/-- at most m stretches, of numbers from 0 on -/
def Few (m : Nat) (s : List Pr) : Prop := s.length ≤ m ∧ ∀ p ∈ s, 0 ≤ p.1 ∧ p.1 ≤ p.2
theorem Few.fair {m : Nat} {s : List Pr} (h : Few m s) : Fair s := fun p hp => by
  have := h.2 p hp
  exact ⟨this.1, by omega⟩
theorem few_nil (m : Nat) : Few m [] := ⟨Nat.zero_le _, fun _ h => nomatch h⟩
theorem pairsF_len : ∀ l : List Int, 2 * (pairsF l).length ≤ l.length
  | [] => Nat.le_refl _
  | [_] => by simp [pairsF]
  | a :: b :: r => by
    have := pairsF_len r
    simp only [pairsF, List.length_cons]
    omega
theorem pairsF_good : ∀ {l : List Int}, Up l → (∀ x ∈ l, 0 ≤ x) → ∀ p ∈ pairsF l, 0 ≤ p.1 ∧ p.1 ≤ p.2
  | [], _, _, p, hp => nomatch hp
  | [_], _, _, p, hp => nomatch hp
  | a :: b :: r, u, h, p, hp => by
    obtain ⟨u1, u2⟩ := List.pairwise_cons.mp u
    obtain ⟨u3, u4⟩ := List.pairwise_cons.mp u2
    rcases List.mem_cons.mp hp with rfl | hp
    · have h1 := h a List.mem_cons_self
      have h2 := u1 b List.mem_cons_self
      exact ⟨h1, by show a ≤ b - 1; omega⟩
    · exact pairsF_good u4 (fun x hx => h x (List.mem_cons_of_mem _ (List.mem_cons_of_mem _ hx))) p hp
theorem some_few {c most : Int} {pairs : Nat} (h : 0 ≤ most) (hp : 1 ≤ pairs) : Few pairs (someF c most pairs) := by
  unfold someF
  split
  · exact few_nil _
  split
  · refine ⟨hp, fun p hp => ?_⟩
    rw [List.mem_singleton.mp hp]
    exact ⟨Int.le_refl _, h⟩
  · refine ⟨?_, pairsF_good (sdI_up _) fun x hx => ?_⟩
    · have h1 := pairsF_len (sdI ((List.range (2 * pairs)).map fun k : Nat => greatF c (740 + k) % (most + 2)))
      have h2 := sdI_len ((List.range (2 * pairs)).map fun k : Nat => greatF c (740 + k) % (most + 2))
      rw [List.length_map, List.length_range] at h2
      omega
    · rw [sdI_mem, List.mem_map] at hx
      obtain ⟨k, _, rfl⟩ := hx
      exact Int.emod_nonneg _ (by omega)
theorem lower_few {m : Nat} {a : Int} {s : List Pr} (h : Few m s) : Few m (lowerF a s) := by
  unfold lowerF
  refine ⟨by rw [List.length_map]; exact Nat.le_trans (List.length_filter_le _ _) h.1, fun p hp => ?_⟩
  obtain ⟨z, hz, rfl⟩ := List.mem_map.mp hp
  rw [List.mem_filter, decide_eq_true_eq] at hz
  have := h.2 z hz.1
  exact ⟨this.1, by show z.1 ≤ min z.2 (a - 1); omega⟩
theorem upper_few {m : Nat} {a : Int} {s : List Pr} (h : Few m s) : Few m (upperF a s) := by
  unfold upperF
  refine ⟨by rw [List.length_map]; exact Nat.le_trans (List.length_filter_le _ _) h.1, fun p hp => ?_⟩
  obtain ⟨z, hz, rfl⟩ := List.mem_map.mp hp
  rw [List.mem_filter, decide_eq_true_eq] at hz
  have := h.2 z hz.1
  exact ⟨by show 0 ≤ max z.1 a; omega, by show max z.1 a ≤ z.2; omega⟩
/-- the boxes that a table is made of -/
structure BxOk (n m : Nat) (boxes : List (List (List Pr))) : Prop where
  each : ∀ b ∈ boxes, b.length = n ∧ ∀ s ∈ b, Few m s
theorem BxOk.room {n m : Nat} {boxes : List (List (List Pr))} (h : BxOk n m boxes) (a i : Nat) : Few m ((boxes.getD a []).getD i []) := by
  by_cases ha : a < boxes.length
  · by_cases hi : i < (boxes.getD a []).length
    · exact (h.each _ (getD_mem ha)).2 _ (getD_mem hi)
    · rw [List.getD_eq_getElem?_getD (l := boxes.getD a []), List.getElem?_eq_none (by omega)]
      exact few_nil _
  · rw [List.getD_eq_getElem?_getD (l := boxes), List.getElem?_eq_none (by omega)]
    exact few_nil _
theorem borders_len {most : Int} {sets : List (List Pr)} {m : Nat} (h : ∀ s ∈ sets, s.length ≤ m) : (bordersF most sets).length ≤ 1 + sets.length * (2 * m) := by
  unfold bordersF
  refine Nat.le_trans (sdI_len _) (Nat.le_trans (List.length_filter_le _ _) ?_)
  rw [List.length_cons]
  have : (sets.flatMap fun s => s.flatMap fun p => [p.1, p.2 + 1]).length ≤ sets.length * (2 * m) := by
    induction sets with
    | nil => simp
    | cons s sets ih =>
      have h1 := ih fun z hz => h z (List.mem_cons_of_mem _ hz)
      have h2 := h s List.mem_cons_self
      have h3 : (s.flatMap fun p => [p.1, p.2 + 1]).length = 2 * s.length := by
        clear h ih h1 h2
        induction s with
        | nil => rfl
        | cons p s ih =>
          rw [List.flatMap_cons, List.length_append, ih, List.length_cons, List.length_cons, List.length_cons, List.length_nil]
          omega
      rw [List.flatMap_cons, List.length_append, h3, List.length_cons, Nat.add_mul, Nat.one_mul]
      omega
  omega
theorem mk_ok {n m : Nat} {Ms : List Int} {boxes : List (List (List Pr))} {wk : List Nat → T} (hn : Ms.length = n) (hM : ∀ x ∈ Ms, 0 ≤ x) (bx : BxOk n m boxes) (hm : m ≤ 1000) (few : boxes.length ≤ 1000) {d B : Nat} (hB : 1 + boxes.length * (2 * m) ≤ B) (hB2 : B ≤ 1000000) (hd : d ≤ 4) (leaf : ∀ al, Al boxes.length al → plN d (wk al) = true) : MkOk d B Ms boxes wk where
  ok := ⟨fun i hi => by
    show 0 ≤ Ms.getD i 0
    exact hM _ (getD_mem hi), fun a i => (bx.room a i).fair⟩
  each := fun b hb => ⟨by rw [hn]; exact (bx.each b hb).1, fun s hs => Nat.le_trans ((bx.each b hb).2 s hs).1 hm⟩
  few := few
  leaf := leaf
  ways := fun f hf al hal => by
    unfold partsOf partsF
    rw [List.length_map, pieces_len]
    refine Nat.le_trans (borders_len (m := m) fun s hs => ?_) (Nat.le_trans ?_ hB)
    · obtain ⟨a, _, rfl⟩ := List.mem_map.mp hs
      exact (bx.room a f).1
    · rw [List.length_map]
      exact Nat.add_le_add_left (Nat.mul_le_mul_right _ hal.len) 1
  bd := hB2
  dd := hd
theorem halves_few {n m : Nat} {c : Int} {mosts : List Int} {box : List (List Pr)} (hn : mosts.length = n) (h1 : 0 < n) (hl : box.length = n) (hf : ∀ s ∈ box, Few m s) : ∀ h ∈ halvesF c mosts box, h.length = n ∧ ∀ s ∈ h, Few m s := by
  have f1 := Int.emod_lt_of_pos (mixF c 760) (b := mosts.length) (by omega)
  have f0 := Int.emod_nonneg (mixF c 760) (b := mosts.length) (by omega)
  have hff : fieldF c mosts < box.length := by
    unfold fieldF
    omega
  have hs := hf _ (getD_mem (w := []) hff)
  intro h hh
  unfold halvesF at hh
  simp only [List.mem_cons, List.not_mem_nil, or_false] at hh
  rcases hh with rfl | rfl
  · refine ⟨by rw [putF_len hff, hl], fun s hs' => ?_⟩
    rcases putF_mem hff hs' with rfl | h
    · exact lower_few hs
    · exact hf s h
  · refine ⟨by rw [putF_len hff, hl], fun s hs' => ?_⟩
    rcases putF_mem hff hs' with rfl | h
    · exact upper_few hs
    · exact hf s h
theorem field_lt {n : Nat} {c : Int} {mosts : List Int} (hn : mosts.length = n) (h1 : 0 < n) : fieldF c mosts < n := by
  have f1 := Int.emod_lt_of_pos (mixF c 760) (b := mosts.length) (by omega)
  have f0 := Int.emod_nonneg (mixF c 760) (b := mosts.length) (by omega)
  unfold fieldF
  omega
/-- a box that has nothing, behind the others -/
theorem void_same {n : Nat} (hn : 0 < n) {ms : List Int} {boxes : List (List (List Pr))} (x : Nat → Int) : (List.range (boxes ++ [ms.map fun _ => ([] : List Pr)]).length).filter (fun a => hasB n ((boxes ++ [ms.map fun _ => ([] : List Pr)]).getD a []) n x) = (List.range boxes.length).filter fun a => hasB n (boxes.getD a []) n x := by
  have void : hasB n (ms.map fun _ => ([] : List Pr)) n x = false := by
    obtain ⟨k, rfl⟩ : ∃ k, n = k + 1 := ⟨n - 1, by omega⟩
    have e : (ms.map fun _ => ([] : List Pr)).getD (k + 1 - (k + 1)) [] = [] := getD_map (fun _ : Int => ([] : List Pr)) ms _ 0
    show (inB _ _ && _) = false
    rw [e]
    rfl
  rw [List.length_append, List.length_singleton, List.range_succ, List.filter_append]
  have e1 : (boxes ++ [ms.map fun _ => ([] : List Pr)]).getD boxes.length [] = ms.map fun _ => ([] : List Pr) := by
    rw [List.getD_eq_getElem?_getD, List.getElem?_append_right (Nat.le_refl _), Nat.sub_self]
    rfl
  rw [List.filter_cons, e1, void, if_neg (by decide), List.filter_nil, List.append_nil]
  refine List.filter_congr fun a ha => ?_
  rw [List.mem_range] at ha
  rw [List.getD_eq_getElem?_getD, List.getElem?_append_left ha, ← List.getD_eq_getElem?_getD]
theorem void_ok {n m : Nat} {ms : List Int} (hn : ms.length = n) {boxes : List (List (List Pr))} (bx : BxOk n m boxes) : BxOk n m (boxes ++ [ms.map fun _ => ([] : List Pr)]) := ⟨fun b hb => by
  rcases List.mem_append.mp hb with hb | hb
  · exact bx.each b hb
  · rw [List.mem_singleton.mp hb]
    refine ⟨by rw [List.length_map, hn], fun s hs => ?_⟩
    obtain ⟨_, _, rfl⟩ := List.mem_map.mp hs
    exact few_nil _⟩
end
section
section
variable [Wd] {μ : Store} {Q : D → Store → Prop}
/-- made, called by the def that owns the worker -/
theorem made_own {d B : Nat} {Ms : List Int} {boxes : List (List (List Pr))} {wk : List Nat → T} (O : MkOk d B Ms boxes wk) (hE : ∀ j, j ≤ Ms.length → eB B j < 1000000) (hn : Ms.length ≤ 4) {sd bd : D} (hs : IsL sd (Ms.map T.int)) (hb : bd = .t (.ro (boxes.map boxT)) ∨ bd = .t (.lst (boxes.map boxT))) {M : Store} {wp : Nat} {nf : NdefX.NF} {caps : List D} (hw : M[wp]? = some (.fn nf none)) (cl : ∀ (i : Nat) (o : MO), M[i]? = some o → clean o)
    (W : ∀ μ' : Store, (∀ i, i < M.length → i ≠ wp → μ'[i]? = M[i]?) → ∀ al, Al boxes.length al → ∀ Q : D → Store → Prop, Q (.t (wk al)) μ' → c_wk nf caps [.t (.lst (plT al))] μ' Q)
    {P : D → Store → Prop} (q : ∀ μ2 n top, μ2[wp]? = some (.fn nf (some caps)) → (∀ (i : Nat) (o : MO), μ2[i]? = some o → i ≠ wp → clean o) → top = (mkr Ms boxes wk).goal Ms.length (List.range boxes.length) → TabAt (μ2.set wp (.fn nf none)) n (Ms.map T.int) (encG (testsG Ms.length top) top) ((testsG Ms.length top).map (encT (testsG Ms.length top))) → M.length ≤ n → Ch [] M (μ2.set wp (.fn nf none)) → P (.loc n) μ2) :
    c_made [sd, bd, .loc wp] (M.set wp (.fn nf (some caps))) P := by
  have lw := at_lt hw
  have hw' : (M.set wp (.fn nf (some caps)))[wp]? = some (.fn nf (some caps)) := set_hit hw
  have lM : (M.set wp (.fn nf (some caps))).length = M.length := List.length_set
  have cl' : ∀ (i : Nat) (o : MO), (M.set wp (.fn nf (some caps)))[i]? = some o → i ≠ wp → clean o := fun i o e ne => by
    rw [set_off ne] at e
    exact cl i o e
  refine made_ok O hE hn hs hb ⟨nf, caps, hw', fun μ' h al hal R hR => W μ' (fun i hi ne => ?_) al hal R hR⟩ (by rw [lM]; exact lw) cl' fun μ' n top ht TA ln ch => ?_
  · rw [h i (by rw [lM]; exact hi) ne, set_off ne]
  · have hw2 : μ'[wp]? = some (.fn nf (some caps)) := by
      rw [ch.2.1 wp (by rw [lM]; exact lw) (by simp)]
      exact hw'
    rw [lM] at ln
    refine q _ n top hw2 (ch.all cl') ht (TA.keep fun i o e nf' => ?_) ln ⟨?_, fun i hi _ => ?_, fun i o e => ?_⟩
    · rw [set_off fun z => by
        rw [z, hw2] at e
        exact nf' _ _ (Option.some.inj e).symm]
      exact e
    · rw [List.length_set]
      have := ch.1
      rw [lM] at this
      exact this
    · by_cases z : i = wp
      · rw [z, set_hit hw2, hw]
      · rw [set_off z, ch.2.1 i (by rw [lM]; exact hi) (by simp), set_off z]
    · rcases set_at e with ⟨_, rfl⟩ | ⟨z, e⟩
      · exact .inl True.intro
      · exact .inl (ch.all cl' i o e z)
theorem enumD_map {α : Type} (f : α → T) (ms : List α) : enumD (ms.map f) = ms.zipIdx.map fun z => D.t (.tup [.int z.2, f z.1]) := by
  unfold enumD
  rw [List.zipIdx_map, List.map_map]
  rfl
theorem ch_ex {μ μ' : Store} (h : Ch [] μ μ') : ∃ ex, μ' = μ ++ ex := by
  refine ⟨μ'.drop μ.length, ?_⟩
  have e : μ'.take μ.length = μ := by
    apply List.ext_getElem?
    intro i
    by_cases hi : i < μ.length
    · rw [List.getElem?_take_of_lt hi, h.2.1 i hi (by simp)]
    · rw [List.getElem?_eq_none (by rw [List.length_take]; omega), List.getElem?_eq_none (by omega)]
  have := List.take_append_drop μ.length μ'
  rw [e] at this
  exact this.symm
theorem tab_pl {d n : Nat} {top : Go} (lv : Lv d n top) : plN (d + 4) (encG (testsG n top) top) = true ∧ ∀ x ∈ (testsG n top).map (encT (testsG n top)), plN (d + 4) x = true := by
  obtain ⟨h1, h2⟩ := testsG_cl lv
  refine ⟨plN_le (encG_pl h2) (by omega), fun x hx => ?_⟩
  obtain ⟨t, ht, rfl⟩ := List.mem_map.mp hx
  exact encT_pl (h1.2 t ht)
theorem leaf_pl (way : Int) (ps : List Int) : plN 2 (leafF way ps) = true := by
  have ll : ∀ m, plN m (.str "let") = true := fun m => by
    have z : (pd (.str "let")).canLay0 = true := by decide +kernel
    cases m <;> exact z
  have lr : ∀ m, plN m (.str "refuse") = true := fun m => by
    have z : (pd (.str "refuse")).canLay0 = true := by decide +kernel
    cases m <;> exact z
  have la : ∀ m, plN m (.str "a") = true := fun m => by
    have z : (pd (.str "a")).canLay0 = true := by decide +kernel
    cases m <;> exact z
  unfold leafF
  split
  · rw [plN_tup, List.all_eq_true]
    intro x hx
    obtain ⟨i, _, rfl⟩ := List.mem_map.mp hx
    exact plN_int
  split
  · split
    · exact plN_non
    · exact plN_int
  split
  · have h : ps.length % 3 < 3 := Nat.mod_lt _ (by decide)
    generalize ps.length % 3 = j at h
    have : j = 0 ∨ j = 1 ∨ j = 2 := by omega
    rcases this with rfl | rfl | rfl
    · exact ll 2
    · exact lr 2
    · exact plN_non
  split
  · rw [plN_tup, List.all_cons, List.all_cons, List.all_nil, plN_tup, List.all_cons, List.all_cons, List.all_nil, la, plN_int]
    split
    · rfl
    · rfl
  · exact plN_int
theorem eB_50 : ∀ j, j ≤ 3 → eB 50 j < 1000000 := fun j hj => by
  have : j = 0 ∨ j = 1 ∨ j = 2 ∨ j = 3 := by omega
  rcases this with rfl | rfl | rfl | rfl <;> decide
structure RightOk (n : Nat) (cells mosts : List Int) (boxes : List (List (List Pr))) : Prop where
  n1 : 1 ≤ n
  n3 : n ≤ 3
  ml : mosts.length = n
  m0 : ∀ m ∈ mosts, 0 ≤ m
  bx : BxOk n 2 boxes
  few : boxes.length ≤ 5
  cl : cells.length = boxes.length
theorem right_ok {n : Nat} {cells mosts : List Int} {boxes : List (List (List Pr))} (R : RightOk n cells mosts boxes) {way : Int} (ht : ∃ j : Nat, μ[j]? = some (.tab ("_law_right", none) nm_law_right)) (cl : ∀ (i : Nat) (o : MO), μ[i]? = some o → clean o)
    (q : Q (.t (.bl true)) μ) : c_law_right [.t (.lst (cells.map T.int)), .t (.lst (mosts.map T.int)), .t (.lst (boxes.map boxT)), .t (.int way)] μ Q := by
  refine ⟨rfl, fun L => ?_⟩
  show b_law_right L [some (.t (.lst (cells.map T.int))), some (.t (.lst (mosts.map T.int))), some (.t (.lst (boxes.map boxT))), some (.t (.int way)), none, none, none, none, none, none, none, none] μ _
  unfold b_law_right
  try walk_at "gw"
  simp only [pushK]
  rw [enumD_map]
  refine for_map (fun z : List (List Pr) × Nat => D.t (.tup [.int z.2, boxT z.1])) (fun r env m => ∃ dn o5 o6 o7 rows, dn ++ r = boxes.zipIdx ∧ env = [some (.t (.lst (cells.map T.int))), some (.t (.lst (mosts.map T.int))), some (.t (.lst (boxes.map boxT))), some (.t (.int way)), some (.loc μ.length), o5, o6, o7, none, none, none, none] ∧
    m = μ ++ [.lst (((rows : List (List (List Pr) × Nat)).map rowT).map D.t)] ∧ rows.length ≤ 2 * dn.length ∧ ∀ z, z ∈ rows ↔ ∃ y ∈ dn, z.2 = y.2 ∧ z.1 ∈ halvesF (cells.getD y.2 0) mosts y.1) ?_ ?_ ⟨[], none, none, none, [], rfl, rfl, rfl, Nat.le_refl _, fun z => by simp⟩
  · rintro ⟨b, k⟩ r env m N ⟨dn, o5, o6, o7, rows, h1, rfl, rfl, h2, h3⟩ hN
    refine ⟨trivial, ?_⟩
    try walk_at "gw"
    have hmem : (b, k) ∈ boxes.zipIdx := by rw [← h1]; simp
    have hdn : dn.length + 1 ≤ boxes.length := by
      have := congrArg List.length h1
      rw [List.length_append, List.length_cons, List.length_zipIdx] at this
      omega
    obtain ⟨_, hk, hbk⟩ := List.mem_zipIdx hmem
    rw [Nat.zero_add] at hk
    have hbm : b ∈ boxes := by
      have : b = boxes[k] := by simpa using hbk
      rw [this]
      exact List.getElem_mem _
    obtain ⟨b1, b2⟩ := R.bx.each b hbm
    have n1 := R.n1
    have n3 := R.n3
    have ml := R.ml
    have cn := R.cl
    have few := R.few
    have hcell : ∀ {P : D → Prop}, P (.t (.int (cells.getD k 0))) → atK (cells.map T.int) (k : Int) P := fun {P} h => int_at (w := T.int 0) (by omega) (by rw [List.length_map]; omega) (by rw [Int.toNat_natCast, getD_map]; exact h)
    refine hcell ?_
    try walk_at "gw"
    refine ⟨_, ⟨cells.getD k 0, mosts, b, by omega, by omega, by omega, R.m0, fun s hs => Nat.le_trans (b2 s hs).1 (by omega), ?_, rfl⟩, ?_⟩
    · show [ro (T.int _), T.ro (ros (mosts.map T.int)), ro (boxT b)] = _
      rw [ros_ints]
      have : ro (boxT b) = boxT b := by
        show T.tup (ros (b.map setT)) = _
        rw [ros_map, List.map_map]
        unfold boxT
        congr 1
        exact List.map_congr_left fun s _ => ro_setT s
      rw [this]
      rfl
    refine for_mapM boxT (fun r2 env m => ∃ dn2 o7 rows2, dn2 ++ r2 = halvesF (cells.getD k 0) mosts b ∧ env = [some (.t (.lst (cells.map T.int))), some (.t (.lst (mosts.map T.int))), some (.t (.lst (boxes.map boxT))), some (.t (.int way)), some (.loc μ.length), some (.t (.int k)), some (.t (boxT b)), o7, none, none, none, none] ∧
      m = μ ++ [.lst (((rows2 : List (List (List Pr) × Nat)).map rowT).map D.t)] ∧ rows2.length = rows.length + dn2.length ∧ ∀ z, z ∈ rows2 ↔ z ∈ rows ∨ (z.2 = k ∧ z.1 ∈ dn2)) ?_ ?_ ⟨[], _, rows, rfl, rfl, rfl, rfl, fun z => by simp⟩
    · rintro h r2 env m N2 ⟨dn2, o7, rows2, e1, rfl, rfl, e2, e3⟩ hN2
      refine ⟨trivial, ?_⟩
      have hd2 : dn2.length + 1 ≤ 2 := by
        have := congrArg List.length e1
        rw [List.length_append, List.length_cons] at this
        have h2 : (halvesF (cells.getD k 0) mosts b).length = 2 := rfl
        omega
      try walk_at "gw"
      refine xm_at (push_atb _ _) ?_
      try walk_at "gw"
      refine hcell ?_
      try walk_at "gw"
      refine ⟨_, ⟨_, 770, rfl, rfl⟩, len_list (push_atb _ _) ?_⟩
      try walk_at "gw"
      have i0 := Int.emod_nonneg (mixF (cells.getD k 0) 770) (b := rows2.length + 1) (by omega)
      have i1 := Int.emod_lt_of_pos (mixF (cells.getD k 0) 770) (b := rows2.length + 1) (by omega)
      generalize mixF (cells.getD k 0) 770 % (rows2.length + 1 : Int) = i at i0 i1
      refine ⟨by omega, _, push_atb _ _, by rw [List.length_map, List.length_map, sizeLine_eq]; omega, i0, by omega, ?_⟩
      show N2 _ (List.set _ _ _)
      rw [push_setb]
      refine hN2 _ _ ⟨dn2 ++ [h], _, rows2.take i.toNat ++ [(h, k)] ++ rows2.drop i.toNat, by rw [List.append_assoc]; exact e1, rfl, ?_, ?_, fun z => ?_⟩
      · rw [List.map_append, List.map_append, List.map_append, List.map_append, List.map_take, List.map_take, List.map_drop, List.map_drop]
        rfl
      · rw [List.length_append, List.length_append, List.length_append, List.length_take, List.length_drop, List.length_singleton, List.length_singleton]
        omega
      · have hz : z ∈ rows2.take i.toNat ++ [(h, k)] ++ rows2.drop i.toNat ↔ z ∈ rows2 ∨ z = (h, k) := by
          rw [List.append_assoc, List.mem_append, List.mem_append, List.mem_singleton]
          constructor
          · rintro (h | h | h)
            · exact .inl (List.mem_of_mem_take h)
            · exact .inr h
            · exact .inl (List.mem_of_mem_drop h)
          · rintro (h | h)
            · rw [← List.take_append_drop i.toNat rows2, List.mem_append] at h
              exact h.elim .inl fun h => .inr (.inr h)
            · exact .inr (.inl h)
        rw [hz, e3 z, List.mem_append, List.mem_singleton, Prod.ext_iff]
        constructor
        · rintro ((h | h) | h)
          · exact .inl h
          · exact .inr ⟨h.1, .inl h.2⟩
          · exact .inr ⟨h.2, .inr h.1⟩
        · rintro (h | ⟨h1, h | h⟩)
          · exact .inl (.inl h)
          · exact .inl (.inr ⟨h1, h⟩)
          · exact .inr ⟨h, h1⟩
    · rintro env m ⟨dn2, o7, rows2, e1, rfl, rfl, e2, e3⟩
      refine ⟨trivial, ?_⟩
      rw [List.append_nil] at e1
      have h2' : dn2.length = 2 := by rw [e1]; rfl
      refine hN _ _ ⟨dn ++ [(b, k)], _, _, _, rows2, by rw [List.append_assoc]; exact h1, rfl, rfl, by rw [List.length_append, List.length_singleton]; omega, fun z => ?_⟩
      rw [e3 z, h3 z]
      constructor
      · rintro (⟨y, hy, h⟩ | ⟨h, h'⟩)
        · exact ⟨y, List.mem_append_left _ hy, h⟩
        · exact ⟨(b, k), by simp, h, by rw [← e1]; exact h'⟩
      · rintro ⟨y, hy, h, h'⟩
        rcases List.mem_append.mp hy with hy | hy
        · exact .inl ⟨y, hy, h, h'⟩
        · rw [List.mem_singleton.mp hy] at h h'
          exact .inr ⟨h, by rw [e1]; exact h'⟩
  · rintro env m ⟨dn, o5, o6, o7, rows, h1, rfl, rfl, h2, h3⟩
    refine ⟨trivial, ?_⟩
    try walk_at "gw"
    rw [List.append_nil] at h1
    subst h1
    rw [List.length_zipIdx] at h2
    have n1 := R.n1
    have n3 := R.n3
    have ml := R.ml
    have few := R.few
    obtain ⟨jt, hjt⟩ := ht
    refine ⟨⟨jt, ap_get hjt _⟩, fun c0 => ⟨⟨jt, ap_get (ap_get hjt _) _⟩, fun c1 => ?_⟩⟩
    simp only [List.set_cons_zero, List.set_cons_succ]
    try walk_at "gw"
    have l1 : (μ ++ [MO.lst ((rows.map rowT).map D.t)]).length = μ.length + 1 := one_len
    have l2 : (μ ++ [MO.lst ((rows.map rowT).map D.t)] ++ [MO.fn (Wd.nf 0 L c0) none]).length = μ.length + 2 := by rw [one_len, one_len]
    rw [l1, l2]
    generalize hM : μ ++ [MO.lst ((rows.map rowT).map D.t)] ++ [MO.fn (Wd.nf 0 L c0) none] ++ [MO.fn (Wd.nf 1 L c1) none] = M
    have hr : M[μ.length]? = some (.lst ((rows.map rowT).map D.t)) := by rw [← hM]; exact ap_get (ap_get (push_atb _ _) _) _
    have hw0 : M[μ.length + 1]? = some (.fn (Wd.nf 0 L c0) none) := by rw [← hM, ← l1]; exact ap_get (push_atb _ _) _
    have hw1 : M[μ.length + 2]? = some (.fn (Wd.nf 1 L c1) none) := by rw [← hM, ← l2]; exact push_atb _ _
    have chM : Ch [] μ M := by
      rw [← hM]
      exact (((ch_nil μ).add (o := MO.lst _) True.intro).add (o := MO.fn _ none) True.intro).add (o := MO.fn _ none) True.intro
    have clM : ∀ (i : Nat) (o : MO), M[i]? = some o → clean o := fun i o e => by
      rcases chM.2.2 i o e with c | ⟨z1, z2⟩
      · exact c
      · rw [chM.2.1 i z1 z2] at e
        exact cl i o e
    have hE : ∀ j, j ≤ mosts.length → eB 50 j < 1000000 := fun j hj => eB_50 j (by omega)
    have O1 : MkOk 2 50 mosts boxes (fun al => leafF way (castN al)) := mk_ok ml R.m0 R.bx (by decide) (by omega) (by omega) (by decide) (by decide) fun al _ => leaf_pl _ _
    refine ⟨μ.length + 1, c0, [.t (.int way)], hw0, rfl, clM, ?_⟩
    refine made_own O1 hE (by omega) (isL_lst _) (.inr rfl) hw0 clM (fun μ' _ al _ R hR => wk0_ok hR) fun M1 t1 top1 hp1 hq1 ht1 T1 lt1 ch1 => ⟨hp1, hq1, ?_⟩
    clear hp1 hq1
    generalize M1.set (μ.length + 1) (.fn (Wd.nf 0 L c0) none) = M1 at T1 ch1 ⊢
    try walk_at "gw"
    have g1 : ∀ {i : Nat} {o : MO}, M[i]? = some o → M1[i]? = some o := fun e => ch1.get e (by simp)
    have clM1 : ∀ (i : Nat) (o : MO), M1[i]? = some o → clean o := fun i o e => by
      rcases ch1.2.2 i o e with c | ⟨z1, z2⟩
      · exact c
      · rw [ch1.2.1 i z1 z2] at e
        exact clM i o e
    have hlr : rows.length ≤ 10 := by omega
    refine src_list (g1 hr) ⟨by rw [List.length_map, List.length_map, sizeLine_eq]; omega, ?_⟩
    refine lc_allM rowT (fun z => boxT z.1) (fun z _ N hN => ?_) ?_
    · unfold rowT
      simp only [wipeE, List.set_cons_zero, List.set_cons_succ]
      try walk_at "gw"
      exact ⟨_, rfl, hN⟩
    refine ⟨μ.length + 2, c1, [.t (.int way), .loc μ.length], g1 hw1, rfl, clM1, ?_⟩
    have hz : ∀ z, z ∈ rows ↔ ∃ k, k < boxes.length ∧ z.2 = k ∧ z.1 ∈ halvesF (cells.getD k 0) mosts (boxes.getD k []) := fun z => by
      rw [h3 z]
      constructor
      · rintro ⟨⟨b, k⟩, hy, e1, e2⟩
        obtain ⟨_, hk, hb⟩ := List.mem_zipIdx hy
        rw [Nat.zero_add] at hk
        have e3 : b = boxes.getD k [] := by
          rw [List.getD_eq_getElem?_getD, List.getElem?_eq_getElem hk]
          simpa using hb
        exact ⟨k, hk, e1, by rw [← e3]; exact e2⟩
      · rintro ⟨k, hk, e1, e2⟩
        refine ⟨(boxes.getD k [], k), ?_, e1, e2⟩
        rw [List.mem_iff_getElem?]
        refine ⟨k, ?_⟩
        rw [List.getElem?_zipIdx, List.getD_eq_getElem?_getD, List.getElem?_eq_getElem hk]
        simp
    have bx2 : BxOk n 2 (rows.map (·.1)) := ⟨fun b hb => by
      obtain ⟨z, hzm, rfl⟩ := List.mem_map.mp hb
      obtain ⟨k, hk, _, e2⟩ := (hz z).mp hzm
      have hbk := R.bx.each _ (getD_mem (w := []) hk)
      exact halves_few ml (by omega) hbk.1 hbk.2 _ e2⟩
    have O2 : MkOk 2 50 mosts (rows.map (·.1)) (fun al => leafF way (sdI (al.map fun a => ((rows.getD a ([], 0)).2 : Int)))) := mk_ok ml R.m0 bx2 (by decide) (by rw [List.length_map]; omega) (by rw [List.length_map]; omega) (by decide) (by decide) fun al _ => leaf_pl _ _
    have eb : (rows.map fun z => boxT z.1) = (rows.map (·.1)).map boxT := by rw [List.map_map]; rfl
    rw [eb]
    refine made_own O2 hE (by omega) (isL_lst _) (.inr rfl) (g1 hw1) clM1 (fun μ' h al hal R hR => wk1_ok (rows := rows) (r := μ.length) (by rw [h _ (at_lt (g1 hr)) (by omega)]; exact g1 hr) (fun a ha => by
      have := hal.lt a ha
      rw [List.length_map] at this
      exact this) (by
      have := hal.len
      rw [List.length_map] at this
      omega) hR) fun M2 t2 top2 hp2 hq2 ht2 T2 lt2 ch2 => ⟨hp2, hq2, ?_⟩
    clear hp2 hq2
    generalize M2.set (μ.length + 2) (.fn (Wd.nf 1 L c1) none) = M2 at T2 ch2 ⊢
    have e12 : top2 = top1 := by
      rw [ht1, ht2]
      refine (Mkr.same O1.ok O2.ok rfl (fun _ _ => rfl) fun x hx => ?_).symm
      show leafF way (castN _) = leafF way (sdI _)
      congr 1
      have := places_same (n := n) (by omega) (cells := cells) (mosts := mosts) (boxes := boxes) (rows := rows) (fun b hb => (R.bx.each b hb).1) ml (fun c => field_lt ml (by omega)) hz x
      rw [← ml] at this
      simp only [has_eq]
      rw [List.length_map]
      exact this
    rw [e12] at T2
    have T1' : TabAt M2 t1 _ _ _ := T1.keep fun i o e _ => ch2.get e (by simp)
    have lv1 : Lv 2 mosts.length top1 := by rw [ht1]; exact O1.lv (Nat.le_refl _) (List.Sublist.refl _)
    obtain ⟨p1, p2⟩ := tab_pl lv1
    have p0 : ∀ x ∈ mosts.map T.int, plN 6 x = true := fun x hx => by
      obtain ⟨i, _, rfl⟩ := List.mem_map.mp hx
      exact plN_int
    refine same_ok T1' T2 (by decide) p0 p1 p2 ?_
    try walk_at "gw"
    have g2 : ∀ {i : Nat} {o : MO}, M1[i]? = some o → M2[i]? = some o := fun e => ch2.get e (by simp)
    have clM2 : ∀ (i : Nat) (o : MO), M2[i]? = some o → clean o := fun i o e => by
      rcases ch2.2.2 i o e with c | ⟨z1, z2⟩
      · exact c
      · rw [ch2.2.1 i z1 z2] at e
        exact clM1 i o e
    refine ⟨by rw [sizeLine_eq]; omega, ?_⟩
    refine lc_allM T.int (fun _ => T.tup []) (fun z _ N hN => ?_) ?_
    · simp only [wipeE, List.set_cons_zero, List.set_cons_succ]
      try walk_at "gw"
      exact ⟨_, rfl, hN⟩
    refine ⟨by rw [sizeLine_eq]; omega, μ.length + 1, c0, [.t (.int way)], g2 (g1 hw0), rfl, clM2, ?_⟩
    have O3 : MkOk 2 50 mosts (boxes ++ [mosts.map fun _ => ([] : List Pr)]) (fun al => leafF way (castN al)) := mk_ok ml R.m0 (void_ok ml R.bx) (by decide) (by rw [List.length_append, List.length_singleton]; omega) (by rw [List.length_append, List.length_singleton]; omega) (by decide) (by decide) fun al _ => leaf_pl _ _
    have eb3 : boxes.map boxT ++ [T.tup (mosts.map fun _ => T.tup [])] = (boxes ++ [mosts.map fun _ => ([] : List Pr)]).map boxT := by
      rw [List.map_append, List.map_cons, List.map_nil]
      congr 2
      unfold boxT
      rw [List.map_map]
      rfl
    rw [eb3]
    refine made_own O3 hE (by omega) (isL_lst _) (.inr rfl) (g2 (g1 hw0)) clM2 (fun μ' _ al _ R hR => wk0_ok hR) fun M3 t3 top3 hp3 hq3 ht3 T3 lt3 ch3 => ⟨hp3, hq3, ?_⟩
    clear hp3 hq3
    generalize M3.set (μ.length + 1) (.fn (Wd.nf 0 L c0) none) = M3 at T3 ch3 ⊢
    have e13 : top3 = top1 := by
      rw [ht1, ht3]
      refine (Mkr.same O1.ok O3.ok rfl (fun _ _ => rfl) fun x hx => ?_).symm
      show leafF way (castN _) = leafF way (castN _)
      congr 2
      have := void_same (n := n) (by omega) (ms := mosts) (boxes := boxes) x
      rw [← ml] at this
      simp only [has_eq]
      exact this.symm
    rw [e13] at T3
    have T1'' : TabAt M3 t1 _ _ _ := T1'.keep fun i o e _ => ch3.get e (by simp)
    refine same_ok T1'' T3 (by decide) p0 p1 p2 ?_
    obtain ⟨ex, hex⟩ := ch_ex (((chM.trans ch1).trans ch2).trans ch3)
    exact .inr (.inl ⟨_, ex, rfl, hex, q⟩)
end
end
section
theorem rg_small : ∀ m : Fin 51, Builtin.Range.small 0 ((m.val : Int) + 1) 5 = true := by decide +kernel
theorem rg_size : ∀ m : Fin 51, Builtin.Range.rangeSize 0 ((m.val : Int) + 1) 5 = ((m.val / 5 + 1 : Nat) : Int) := by decide +kernel
theorem mosts_pos (c : Int) (n : Nat) (b : Bool) : ∀ x ∈ mostsF c n b, 0 ≤ x := fun x hx => by
  unfold mostsF at hx
  obtain ⟨k, _, rfl⟩ := List.mem_map.mp hx
  unfold mostF
  split
  · exact Int.emod_nonneg _ (by decide)
  · have g := (greatF_bd c (700 + k)).1
    have m := Int.emod_nonneg (mixF c (720 + k)) (b := 9) (by decide)
    have i0 := Int.emod_nonneg (mixF c (710 + k)) (b := 3) (by decide)
    have i1 := Int.emod_lt_of_pos (mixF c (710 + k)) (b := 3) (by decide)
    generalize mixF c (710 + k) % 3 = j at i0 i1
    have : j = 0 ∨ j = 1 ∨ j = 2 := by omega
    rcases this with rfl | rfl | rfl
    · exact g
    · show (0 : Int) ≤ 1000000000000
      decide
    · exact m
theorem law_ok [Wd] (ns : List Int) (h : ns.length ≤ 63) : c_law [.t (.ro (ns.map T.int))] (tabM [(("_law_right", none), nm_law_right)]) fun d _ => d = .t (.bl true) := by
  refine ⟨rfl, ?_⟩
  show b_law [some (.t (.ro (ns.map T.int))), none, none, none, none, none, none] _ _
  have ht : ∃ j : Nat, (tabM [(("_law_right", none), nm_law_right)])[j]? = some (.tab ("_law_right", none) nm_law_right) := ⟨0, rfl⟩
  have cl : ∀ (i : Nat) (o : MO), (tabM [(("_law_right", none), nm_law_right)])[i]? = some o → clean o := fun i o e => by
    match i, e with
    | 0, e => cases e; exact True.intro
    | i + 1, e => cases e
  generalize tabM [(("_law_right", none), nm_law_right)] = μ at *
  unfold b_law
  try walk_at "gw"
  have e0 : cutT (ns.map T.int) none (some 50) = (ns.take 50).map T.int := by
    have := cut_take (ns.map T.int) 50
    rw [List.map_take]
    exact this
  rw [e0]
  generalize hL : ns.take 50 = L
  have lL : L.length ≤ 50 := by rw [← hL, List.length_take]; omega
  rw [List.length_map]
  refine ⟨_, _, _, _, rfl, rfl, rfl, ⟨by decide, by decide, rg_small ⟨L.length, by omega⟩, rg_size ⟨L.length, by omega⟩⟩, ?_⟩
  refine for_map (fun k : Nat => D.t (.int (0 + (k : Int) * 5))) (fun r env m => m = μ ∧ ∃ o2 o3 o4 o5, env = [some (.t (.ro (ns.map T.int))), some (.t (.lst (L.map T.int))), o2, o3, o4, o5, none]) ?_ ?_ ⟨rfl, none, none, none, none, rfl⟩
  · rintro k r env m N ⟨rfl, o2, o3, o4, o5, rfl⟩ hN
    refine ⟨trivial, ?_⟩
    try walk_at "gw"
    have e1 : cutT (L.map T.int) (some (0 + (k : Int) * 5)) (some (0 + (k : Int) * 5 + 5)) = ((L.drop (5 * k)).take 5).map T.int := by
      rw [show (0 : Int) + (k : Int) * 5 = ((5 * k : Nat) : Int) by omega, show ((5 * k : Nat) : Int) + 5 = ((5 * k + 5 : Nat) : Int) by omega, cut_both, List.map_take, List.map_drop, Nat.add_sub_cancel_left]
    rw [e1]
    generalize hS : (L.drop (5 * k)).take 5 = S
    have lS : S.length ≤ 5 := by rw [← hS, List.length_take]; omega
    refine ⟨by rw [List.length_map, sizeLine_eq]; omega, ?_⟩
    refine lc_allM T.int (fun c => T.int (mixF c 17)) (fun c _ N' hN' => ?_) ?_
    · simp only [wipeE, List.set_cons_zero, List.set_cons_succ]
      try walk_at "gw"
      exact ⟨_, ⟨c, 17, rfl, rfl⟩, _, rfl, hN'⟩
    have e2 : (S.map fun c => T.int (mixF c 17)) = (S.map fun c => mixF c 17).map T.int := by rw [List.map_map]; rfl
    rw [e2]
    refine ⟨_, rfl, ?_⟩
    try walk_at "gw"
    refine ⟨_, ⟨_, _, rfl, rfl⟩, ?_⟩
    try walk_at "gw"
    generalize mixF _ _ = F
    have f0 := Int.emod_nonneg F (b := 3) (by decide)
    have f1 := Int.emod_lt_of_pos F (b := 3) (by decide)
    refine ⟨by decide, .inl ⟨by decide, by decide⟩, by decide, ?_⟩
    have hn : (1 + F % 3) = (((1 + F % 3).toNat : Nat) : Int) := by omega
    have n1 : 1 ≤ (1 + F % 3).toNat := by omega
    have n3 : (1 + F % 3).toNat ≤ 3 := by omega
    rw [hn]
    generalize (1 + F % 3).toNat = n at n1 n3
    refine ⟨_, ⟨F, n, _, by omega, rfl, rfl⟩, ?_⟩
    generalize (F / 3 % 2 == 1) = b
    have m0 : ∀ x ∈ mostsF F n b, 0 ≤ x := mosts_pos F n b
    have ml : (mostsF F n b).length = n := by unfold mostsF; rw [List.length_map, List.length_range]
    generalize mostsF F n b = ms at m0 ml
    refine ⟨_, ⟨S, ms, 2, by omega, by omega, m0, by decide, ?_, rfl⟩, .inl ⟨by decide, by decide⟩, ?_⟩
    · show [T.ro (ros (S.map T.int)), T.ro (ros (ms.map T.int)), ro (.int 2)] = _
      rw [ros_ints, ros_ints]
      rfl
    have hb : (boxesF S ms 2).length = S.length := by unfold boxesF; rw [List.length_map, List.length_zipIdx]
    have R : RightOk n S ms (boxesF S ms 2) := ⟨n1, n3, ml, m0, ⟨fun b hbm => by
      unfold boxesF at hbm
      obtain ⟨⟨c, k⟩, _, rfl⟩ := List.mem_map.mp hbm
      unfold boxF
      refine ⟨by rw [List.length_map, List.length_zipIdx, ml], fun s hs => ?_⟩
      obtain ⟨⟨x, j⟩, hj, rfl⟩ := List.mem_map.mp hs
      obtain ⟨_, _, e⟩ := List.mem_zipIdx hj
      exact some_few (m0 x (by rw [e]; exact List.getElem_mem _)) (by decide)⟩, by omega, by omega⟩
    refine right_ok R ht cl ?_
    try walk_at "gw"
    exact hN _ _ ⟨rfl, _, _, _, _, rfl⟩
  · rintro env m ⟨rfl, o2, o3, o4, o5, rfl⟩
    refine ⟨trivial, ?_⟩
    try walk_at "gw"
    exact .inl rfl
end
section
theorem nro_set (ps : List Pr) : nro (setT ps) = true := nros_pairs ps
theorem nro_boxT (b : List (List Pr)) : nro (boxT b) = true := by
  show nros (b.map setT) = true
  rw [nros_all, List.all_eq_true]
  intro x hx
  obtain ⟨s, _, rfl⟩ := List.mem_map.mp hx
  exact nro_set s
theorem nros_boxes (bs : List (List (List Pr))) : nros (bs.map boxT) = true := by
  rw [nros_all, List.all_eq_true]
  intro x hx
  obtain ⟨s, _, rfl⟩ := List.mem_map.mp hx
  exact nro_boxT s
theorem nro_leafF (way : Int) (ps : List Int) : nro (leafF way ps) = true := by
  unfold leafF
  split
  · exact nros_ints ps
  split
  · split <;> rfl
  split
  · have h : ps.length % 3 < 3 := Nat.mod_lt _ (by decide)
    generalize ps.length % 3 = j at h
    have : j = 0 ∨ j = 1 ∨ j = 2 := by omega
    rcases this with rfl | rfl | rfl <;> rfl
  split
  · split <;> rfl
  · rfl
theorem len_has : ∀ (xs : List T) (y : T), Phi_has xs y → xs.length = 2 := by
  rintro _ _ ⟨_, _, _, rfl, _⟩
  rfl
theorem nro_has : ∀ (xs : List T) (y : T), Phi_has xs y → nro y = true := by
  rintro _ _ ⟨_, _, _, _, rfl⟩
  rfl
theorem len_parts : ∀ (xs : List T) (y : List T), Phi_parts xs y → xs.length = 2 := by
  rintro _ _ ⟨_, _, _, _, _, rfl, _, _⟩
  rfl
theorem nro_parts : ∀ (xs : List T) (y : List T), Phi_parts xs y → nros y = true := by
  rintro _ _ ⟨_, _, _, _, _, _, _, rfl⟩
  exact nros_pairs _
theorem len_law_mixed : ∀ (xs : List T) (y : T), Phi_law_mixed xs y → xs.length = 2 := by
  rintro _ _ ⟨_, _, rfl, _⟩
  rfl
theorem nro_law_mixed : ∀ (xs : List T) (y : T), Phi_law_mixed xs y → nro y = true := by
  rintro _ _ ⟨_, _, _, rfl⟩
  rfl
theorem len_law_great : ∀ (xs : List T) (y : T), Phi_law_great xs y → xs.length = 2 := by
  rintro _ _ ⟨_, _, rfl, _⟩
  rfl
theorem nro_law_great : ∀ (xs : List T) (y : T), Phi_law_great xs y → nro y = true := by
  rintro _ _ ⟨_, _, _, rfl⟩
  rfl
theorem len_law_mosts : ∀ (xs : List T) (y : List T), Phi_law_mosts xs y → xs.length = 3 := by
  rintro _ _ ⟨_, _, _, _, rfl, _⟩
  rfl
theorem nro_law_mosts : ∀ (xs : List T) (y : List T), Phi_law_mosts xs y → nros y = true := by
  rintro _ _ ⟨_, _, _, _, _, rfl⟩
  exact nros_ints _
theorem len_law_some_set : ∀ (xs : List T) (y : T), Phi_law_some_set xs y → xs.length = 3 := by
  rintro _ _ ⟨_, _, _, _, _, rfl, _⟩
  rfl
theorem nro_law_some_set : ∀ (xs : List T) (y : T), Phi_law_some_set xs y → nro y = true := by
  rintro _ _ ⟨_, _, _, _, _, _, rfl⟩
  exact nro_set _
theorem len_law_boxes : ∀ (xs : List T) (y : List T), Phi_law_boxes xs y → xs.length = 3 := by
  rintro _ _ ⟨_, _, _, _, _, _, _, rfl, _⟩
  rfl
theorem nro_law_boxes : ∀ (xs : List T) (y : List T), Phi_law_boxes xs y → nros y = true := by
  rintro _ _ ⟨_, _, _, _, _, _, _, _, rfl⟩
  exact nros_boxes _
theorem len_law_leaf : ∀ (xs : List T) (y : T), Phi_law_leaf xs y → xs.length = 2 := by
  rintro _ _ ⟨_, _, rfl, _⟩
  rfl
theorem nro_law_leaf : ∀ (xs : List T) (y : T), Phi_law_leaf xs y → nro y = true := by
  rintro _ _ ⟨_, _, _, rfl⟩
  exact nro_leafF _ _
theorem len_law_halves : ∀ (xs : List T) (y : List T), Phi_law_halves xs y → xs.length = 3 := by
  rintro _ _ ⟨_, _, _, _, _, _, _, _, rfl, _⟩
  rfl
theorem nro_law_halves : ∀ (xs : List T) (y : List T), Phi_law_halves xs y → nros y = true := by
  rintro _ _ ⟨_, _, _, _, _, _, _, _, _, rfl⟩
  exact nros_boxes _
end
end Gw
namespace Gw
open PySem PySem.Spec PyProof.Rows L2 RZ
/-! printed by gw.py: the walks of law_k43_made_otherwise -/
theorem sc_has : FnScope ["one", "number", "low", "high"] ["one", "number"] (defScope st_has) := ⟨rfl, rfl, rfl, by decide +kernel, rfl, by decide +kernel, by decide +kernel⟩
theorem sc_parts : FnScope ["most", "some", "begins", "one", "low", "high", "lows", "begin"] ["most", "some"] (defScope st_parts) := ⟨rfl, rfl, rfl, by decide +kernel, rfl, by decide +kernel, by decide +kernel⟩
theorem sc_Table_init : FnScope ["self", "sides", "first_goal", "kept_tests"] ["self", "sides", "first_goal", "kept_tests"] (defScope st_Table_init) := ⟨rfl, rfl, rfl, by decide +kernel, rfl, by decide +kernel, by decide +kernel⟩
theorem sc_Table_mosts : FnScope ["self"] ["self"] (defScope st_Table_mosts) := ⟨rfl, rfl, rfl, by decide +kernel, rfl, by decide +kernel, by decide +kernel⟩
theorem sc_Table_top : FnScope ["self"] ["self"] (defScope st_Table_top) := ⟨rfl, rfl, rfl, by decide +kernel, rfl, by decide +kernel, by decide +kernel⟩
theorem sc_Table_tests : FnScope ["self"] ["self"] (defScope st_Table_tests) := ⟨rfl, rfl, rfl, by decide +kernel, rfl, by decide +kernel, by decide +kernel⟩
theorem sc_number_tests : FnScope ["tests", "goal", "found", "high", "behind"] ["tests", "goal", "found"] (defScope st_number_tests) := ⟨rfl, rfl, rfl, by decide +kernel, rfl, by decide +kernel, by decide +kernel⟩
theorem sc_goal_by : FnScope ["goal", "found"] ["goal", "found"] (defScope st_goal_by) := ⟨rfl, rfl, rfl, by decide +kernel, rfl, by decide +kernel, by decide +kernel⟩
theorem sc_Grower_init : FnScope ["self"] ["self"] (defScope st_Grower_init) := ⟨rfl, rfl, rfl, by decide +kernel, rfl, by decide +kernel, by decide +kernel⟩
theorem sc_Grower_goal_of : FnScope ["self", "field", "ways", "fewer", "high", "goal", "test"] ["self", "field", "ways"] (defScope st_Grower_goal_of) := ⟨rfl, rfl, rfl, by decide +kernel, rfl, by decide +kernel, by decide +kernel⟩
theorem sc_Grower_table_behind : FnScope ["self", "sides", "goal", "found", "tests", "number", "field", "ways", "high", "behind"] ["self", "sides", "goal"] (defScope st_Grower_table_behind) := ⟨rfl, rfl, rfl, by decide +kernel, rfl, by decide +kernel, by decide +kernel⟩
theorem sc_Maker_init : FnScope ["self", "sides", "rooms"] ["self", "sides", "rooms"] (defScope st_Maker_init) := ⟨rfl, rfl, rfl, by decide +kernel, rfl, by decide +kernel, by decide +kernel⟩
theorem sc_Maker_goal_for : FnScope ["self", "field", "alive", "worker"] ["self", "field", "alive", "worker"] (defScope st_Maker_goal_for) := ⟨rfl, rfl, rfl, by decide +kernel, rfl, by decide +kernel, by decide +kernel⟩
theorem sc_law_mixed : FnScope ["_law_cell", "_law_k", "_law_number"] ["_law_cell", "_law_k"] (defScope st_law_mixed) := ⟨rfl, rfl, rfl, by decide +kernel, rfl, by decide +kernel, by decide +kernel⟩
theorem sc_law_great : FnScope ["_law_cell", "_law_k"] ["_law_cell", "_law_k"] (defScope st_law_great) := ⟨rfl, rfl, rfl, by decide +kernel, rfl, by decide +kernel, by decide +kernel⟩
theorem sc_law_mosts : FnScope ["_law_cell", "_law_many", "_law_is_small", "_law_found", "_law_k", "_law_great_here"] ["_law_cell", "_law_many", "_law_is_small"] (defScope st_law_mosts) := ⟨rfl, rfl, rfl, by decide +kernel, rfl, by decide +kernel, by decide +kernel⟩
theorem sc_law_some_set : FnScope ["_law_cell", "_law_most", "_law_pairs", "_law_way", "_law_rows", "_law_low", "_law_behind", "_law_k"] ["_law_cell", "_law_most", "_law_pairs"] (defScope st_law_some_set) := ⟨rfl, rfl, rfl, by decide +kernel, rfl, by decide +kernel, by decide +kernel⟩
theorem sc_law_boxes : FnScope ["_law_cells", "_law_mosts_here", "_law_pairs", "_law_found", "_law_k", "_law_cell", "_law_some", "_law_j", "_law_most"] ["_law_cells", "_law_mosts_here", "_law_pairs"] (defScope st_law_boxes) := ⟨rfl, rfl, rfl, by decide +kernel, rfl, by decide +kernel, by decide +kernel⟩
theorem sc_law_leaf : FnScope ["_law_places", "_law_way"] ["_law_places", "_law_way"] (defScope st_law_leaf) := ⟨rfl, rfl, rfl, by decide +kernel, rfl, by decide +kernel, by decide +kernel⟩
theorem sc_law_halves : FnScope ["_law_cell", "_law_mosts_here", "_law_box", "_law_field", "_law_at", "_law_lower", "_law_upper", "_law_one", "_law_low", "_law_high"] ["_law_cell", "_law_mosts_here", "_law_box"] (defScope st_law_halves) := ⟨rfl, rfl, rfl, by decide +kernel, rfl, by decide +kernel, by decide +kernel⟩
theorem sc_law_same : FnScope ["_law_one", "_law_other"] ["_law_one", "_law_other"] (defScope st_law_same) := ⟨rfl, rfl, rfl, by decide +kernel, rfl, by decide +kernel, by decide +kernel⟩
theorem sc_wk0 : NdefX.NScope ["_law_places", "_law_way"] ["_law_places"] ["_law_way"] (defScope st_wk0) := NdefX.nscope_by (by decide +kernel)
theorem nd_wk0 : NdefX.ndefB (defScope (topS 20)) (defScope st_wk0) ["_law_way"] = true := by decide +kernel
theorem sc_wk1 : NdefX.NScope ["_law_places", "_law_way", "_law_rows", "_law_place"] ["_law_places"] ["_law_way", "_law_rows"] (defScope st_wk1) := NdefX.nscope_by (by decide +kernel)
theorem nd_wk1 : NdefX.ndefB (defScope (topS 20)) (defScope st_wk1) ["_law_way", "_law_rows"] = true := by decide +kernel
theorem sc_Maker_goal_behind : FnScope ["self", "field", "alive", "worker", "ways", "low", "high", "later", "place"] ["self", "field", "alive", "worker"] (defScope st_Maker_goal_behind) := ⟨rfl, rfl, rfl, by decide +kernel, rfl, by decide +kernel, by decide +kernel⟩
theorem sc_made : FnScope ["mosts", "boxes", "worker", "maker", "goal"] ["mosts", "boxes", "worker"] (defScope st_made) := ⟨rfl, rfl, rfl, by decide +kernel, rfl, by decide +kernel, by decide +kernel⟩
theorem sc_law_right : FnScope ["_law_cells", "_law_mosts_here", "_law_boxes_here", "_law_way", "_law_rows", "_law_k", "_law_box", "_law_half", "_law_worker", "_law_other_worker", "_law_table", "_law_most"] ["_law_cells", "_law_mosts_here", "_law_boxes_here", "_law_way"] (defScope st_law_right) := ⟨rfl, rfl, rfl, by decide +kernel, rfl, by decide +kernel, by decide +kernel⟩
theorem sc_law : FnScope ["_law_script", "_law_cells", "_law_k", "_law_some", "_law_first", "_law_mosts_here", "_law_cell"] ["_law_script"] (defScope st_law) := ⟨rfl, rfl, rfl, by decide +kernel, rfl, by decide +kernel, by decide +kernel⟩
def nfL : Nat → Addr → Addr → NdefX.NF
  | 0, L, c => ⟨"_law_worker", "_law_right.<locals>._law_worker", defArgs st_wk0, defBody st_wk0, defScope st_wk0, cloFrom (envOfC "_law_right" (defScope st_law_right) L 0 .none).cells (defScope st_wk0).names [], c⟩
  | 1, L, c => ⟨"_law_other_worker", "_law_right.<locals>._law_other_worker", defArgs st_wk1, defBody st_wk1, defScope st_wk1, cloFrom (envOfC "_law_right" (defScope st_law_right) L 0 .none).cells (defScope st_wk1).names [], c⟩
  | _ + 2, L, c => ⟨"", "", defArgs st_wk0, [], defScope st_wk0, [], c⟩
@[reducible] def wdL (w : World) : Wd := ⟨w, nfL⟩
structure TopC (K : PySem.W.Frag) (mg : Str → Option Value) where
  C_Table : Addr
  C_Grower : Addr
  C_Maker : Addr
structure TopA0 (K : PySem.W.Frag) (mg : Str → Option Value) (c : TopC K mg) where
  n_Table : PySem.W.nsIn K mainGlobals "Table" = some (some (.ref c.C_Table))
  g_Table : mg "Table" = some (.ref c.C_Table)
  cl_Table : Cls K c.C_Table
  a_Table_first_goal : NoAttr K c.C_Table "first_goal"
  a_Table_kept_tests : NoAttr K c.C_Table "kept_tests"
  a_Table_sides : NoAttr K c.C_Table "sides"
  n_Grower : PySem.W.nsIn K mainGlobals "Grower" = some (some (.ref c.C_Grower))
  g_Grower : mg "Grower" = some (.ref c.C_Grower)
  cl_Grower : Cls K c.C_Grower
  a_Grower_grown : NoAttr K c.C_Grower "grown"
  a_Grower_numbered : NoAttr K c.C_Grower "numbered"
  n_Maker : PySem.W.nsIn K mainGlobals "Maker" = some (some (.ref c.C_Maker))
  g_Maker : mg "Maker" = some (.ref c.C_Maker)
  cl_Maker : Cls K c.C_Maker
  a_Maker_sides : NoAttr K c.C_Maker "sides"
  a_Maker_goals_found : NoAttr K c.C_Maker "goals_found"
  a_Maker_grower : NoAttr K c.C_Maker "grower"
  a_Maker_rooms : NoAttr K c.C_Maker "rooms"
structure TopV0 (K : PySem.W.Frag) (mg : Str → Option Value) where
  z_any : mg "any" = none
  z_enumerate : mg "enumerate" = none
  z_len : mg "len" = none
  z_list : mg "list" = none
  z_max : mg "max" = none
  z_min : mg "min" = none
  z_range : mg "range" = none
  z_set : mg "set" = none
  z_sorted : mg "sorted" = none
  z_sum : mg "sum" = none
  z_tuple : mg "tuple" = none
  z_zip : mg "zip" = none
structure TopF_has (K : PySem.W.Frag) (mg : Str → Option Value) where
  f_has : Addr
  d_has : FuncData
  F_has : Fun K "has" "has" st_has f_has d_has
  g_has : mg "has" = some (.ref f_has)
  b_has : L2.Binds K d_has ["one", "number"] []
structure TopF_parts (K : PySem.W.Frag) (mg : Str → Option Value) where
  f_parts : Addr
  d_parts : FuncData
  F_parts : Fun K "parts" "parts" st_parts f_parts d_parts
  g_parts : mg "parts" = some (.ref f_parts)
  b_parts : L2.Binds K d_parts ["most", "some"] []
structure TopF_Table_init (K : PySem.W.Frag) (mg : Str → Option Value) where
  f_Table_init : Addr
  d_Table_init : FuncData
  F_Table_init : Fun K "__init__" "Table.__init__" st_Table_init f_Table_init d_Table_init
  b_Table_init : L2.Binds K d_Table_init ["self", "sides", "first_goal", "kept_tests"] []
structure TopF_Table_mosts (K : PySem.W.Frag) (mg : Str → Option Value) where
  f_Table_mosts : Addr
  d_Table_mosts : FuncData
  F_Table_mosts : Fun K "mosts" "Table.mosts" st_Table_mosts f_Table_mosts d_Table_mosts
  b_Table_mosts : L2.Binds K d_Table_mosts ["self"] []
structure TopF_Table_top (K : PySem.W.Frag) (mg : Str → Option Value) where
  f_Table_top : Addr
  d_Table_top : FuncData
  F_Table_top : Fun K "top" "Table.top" st_Table_top f_Table_top d_Table_top
  b_Table_top : L2.Binds K d_Table_top ["self"] []
structure TopF_Table_tests (K : PySem.W.Frag) (mg : Str → Option Value) where
  f_Table_tests : Addr
  d_Table_tests : FuncData
  F_Table_tests : Fun K "tests" "Table.tests" st_Table_tests f_Table_tests d_Table_tests
  b_Table_tests : L2.Binds K d_Table_tests ["self"] []
structure TopF_number_tests (K : PySem.W.Frag) (mg : Str → Option Value) where
  f_number_tests : Addr
  d_number_tests : FuncData
  F_number_tests : Fun K "number_tests" "number_tests" st_number_tests f_number_tests d_number_tests
  g_number_tests : mg "number_tests" = some (.ref f_number_tests)
  b_number_tests : L2.Binds K d_number_tests ["tests", "goal", "found"] []
structure TopF_goal_by (K : PySem.W.Frag) (mg : Str → Option Value) where
  f_goal_by : Addr
  d_goal_by : FuncData
  F_goal_by : Fun K "goal_by" "goal_by" st_goal_by f_goal_by d_goal_by
  g_goal_by : mg "goal_by" = some (.ref f_goal_by)
  b_goal_by : L2.Binds K d_goal_by ["goal", "found"] []
structure TopF_Grower_init (K : PySem.W.Frag) (mg : Str → Option Value) where
  f_Grower_init : Addr
  d_Grower_init : FuncData
  F_Grower_init : Fun K "__init__" "Grower.__init__" st_Grower_init f_Grower_init d_Grower_init
  b_Grower_init : L2.Binds K d_Grower_init ["self"] []
structure TopF_Grower_goal_of (K : PySem.W.Frag) (mg : Str → Option Value) where
  f_Grower_goal_of : Addr
  d_Grower_goal_of : FuncData
  F_Grower_goal_of : Fun K "goal_of" "Grower.goal_of" st_Grower_goal_of f_Grower_goal_of d_Grower_goal_of
  b_Grower_goal_of : L2.Binds K d_Grower_goal_of ["self", "field", "ways"] []
structure TopF_Grower_table_behind (K : PySem.W.Frag) (mg : Str → Option Value) where
  f_Grower_table_behind : Addr
  d_Grower_table_behind : FuncData
  F_Grower_table_behind : Fun K "table_behind" "Grower.table_behind" st_Grower_table_behind f_Grower_table_behind d_Grower_table_behind
  b_Grower_table_behind : L2.Binds K d_Grower_table_behind ["self", "sides", "goal"] []
structure TopF_Maker_init (K : PySem.W.Frag) (mg : Str → Option Value) where
  f_Maker_init : Addr
  d_Maker_init : FuncData
  F_Maker_init : Fun K "__init__" "Maker.__init__" st_Maker_init f_Maker_init d_Maker_init
  b_Maker_init : L2.Binds K d_Maker_init ["self", "sides", "rooms"] []
structure TopF_Maker_goal_for (K : PySem.W.Frag) (mg : Str → Option Value) where
  f_Maker_goal_for : Addr
  d_Maker_goal_for : FuncData
  F_Maker_goal_for : Fun K "goal_for" "Maker.goal_for" st_Maker_goal_for f_Maker_goal_for d_Maker_goal_for
  b_Maker_goal_for : L2.Binds K d_Maker_goal_for ["self", "field", "alive", "worker"] []
structure TopF_law_mixed (K : PySem.W.Frag) (mg : Str → Option Value) where
  f_law_mixed : Addr
  d_law_mixed : FuncData
  F_law_mixed : Fun K "_law_mixed" "_law_mixed" st_law_mixed f_law_mixed d_law_mixed
  g_law_mixed : mg "_law_mixed" = some (.ref f_law_mixed)
  b_law_mixed : L2.Binds K d_law_mixed ["_law_cell", "_law_k"] []
structure TopF_law_great (K : PySem.W.Frag) (mg : Str → Option Value) where
  f_law_great : Addr
  d_law_great : FuncData
  F_law_great : Fun K "_law_great" "_law_great" st_law_great f_law_great d_law_great
  g_law_great : mg "_law_great" = some (.ref f_law_great)
  b_law_great : L2.Binds K d_law_great ["_law_cell", "_law_k"] []
structure TopF_law_mosts (K : PySem.W.Frag) (mg : Str → Option Value) where
  f_law_mosts : Addr
  d_law_mosts : FuncData
  F_law_mosts : Fun K "_law_mosts" "_law_mosts" st_law_mosts f_law_mosts d_law_mosts
  g_law_mosts : mg "_law_mosts" = some (.ref f_law_mosts)
  b_law_mosts : L2.Binds K d_law_mosts ["_law_cell", "_law_many", "_law_is_small"] []
structure TopF_law_some_set (K : PySem.W.Frag) (mg : Str → Option Value) where
  f_law_some_set : Addr
  d_law_some_set : FuncData
  F_law_some_set : Fun K "_law_some_set" "_law_some_set" st_law_some_set f_law_some_set d_law_some_set
  g_law_some_set : mg "_law_some_set" = some (.ref f_law_some_set)
  b_law_some_set : L2.Binds K d_law_some_set ["_law_cell", "_law_most", "_law_pairs"] []
structure TopF_law_boxes (K : PySem.W.Frag) (mg : Str → Option Value) where
  f_law_boxes : Addr
  d_law_boxes : FuncData
  F_law_boxes : Fun K "_law_boxes" "_law_boxes" st_law_boxes f_law_boxes d_law_boxes
  g_law_boxes : mg "_law_boxes" = some (.ref f_law_boxes)
  b_law_boxes : L2.Binds K d_law_boxes ["_law_cells", "_law_mosts_here", "_law_pairs"] []
structure TopF_law_leaf (K : PySem.W.Frag) (mg : Str → Option Value) where
  f_law_leaf : Addr
  d_law_leaf : FuncData
  F_law_leaf : Fun K "_law_leaf" "_law_leaf" st_law_leaf f_law_leaf d_law_leaf
  g_law_leaf : mg "_law_leaf" = some (.ref f_law_leaf)
  b_law_leaf : L2.Binds K d_law_leaf ["_law_places", "_law_way"] []
structure TopF_law_halves (K : PySem.W.Frag) (mg : Str → Option Value) where
  f_law_halves : Addr
  d_law_halves : FuncData
  F_law_halves : Fun K "_law_halves" "_law_halves" st_law_halves f_law_halves d_law_halves
  g_law_halves : mg "_law_halves" = some (.ref f_law_halves)
  b_law_halves : L2.Binds K d_law_halves ["_law_cell", "_law_mosts_here", "_law_box"] []
structure TopF_law_same (K : PySem.W.Frag) (mg : Str → Option Value) where
  f_law_same : Addr
  d_law_same : FuncData
  F_law_same : Fun K "_law_same" "_law_same" st_law_same f_law_same d_law_same
  g_law_same : mg "_law_same" = some (.ref f_law_same)
  b_law_same : L2.Binds K d_law_same ["_law_one", "_law_other"] []
structure TopF_Maker_goal_behind (K : PySem.W.Frag) (mg : Str → Option Value) where
  f_Maker_goal_behind : Addr
  d_Maker_goal_behind : FuncData
  F_Maker_goal_behind : Fun K "goal_behind" "Maker.goal_behind" st_Maker_goal_behind f_Maker_goal_behind d_Maker_goal_behind
  b_Maker_goal_behind : L2.Binds K d_Maker_goal_behind ["self", "field", "alive", "worker"] []
structure TopF_made (K : PySem.W.Frag) (mg : Str → Option Value) where
  f_made : Addr
  d_made : FuncData
  F_made : Fun K "made" "made" st_made f_made d_made
  g_made : mg "made" = some (.ref f_made)
  b_made : L2.Binds K d_made ["mosts", "boxes", "worker"] []
structure TopF_law_right (K : PySem.W.Frag) (mg : Str → Option Value) where
  f_law_right : Addr
  d_law_right : FuncData
  F_law_right : Fun K "_law_right" "_law_right" st_law_right f_law_right d_law_right
  g_law_right : mg "_law_right" = some (.ref f_law_right)
  b_law_right : L2.Binds K d_law_right ["_law_cells", "_law_mosts_here", "_law_boxes_here", "_law_way"] []
  co_law_right : d_law_right.code = .ref (He.cT K ("_law_right", none)).1
structure TopF_law (K : PySem.W.Frag) (mg : Str → Option Value) where
  f_law : Addr
  d_law : FuncData
  F_law : Fun K "law" "law" st_law f_law d_law
  g_law : mg "law" = some (.ref f_law)
  b_law : L2.Binds K d_law ["_law_script"] []
structure TopD0 (K : PySem.W.Frag) (mg : Str → Option Value) where
  x_has : TopF_has K mg
  x_parts : TopF_parts K mg
  x_Table_init : TopF_Table_init K mg
  x_Table_mosts : TopF_Table_mosts K mg
  x_Table_top : TopF_Table_top K mg
  x_Table_tests : TopF_Table_tests K mg
  x_number_tests : TopF_number_tests K mg
  x_goal_by : TopF_goal_by K mg
  x_Grower_init : TopF_Grower_init K mg
  x_Grower_goal_of : TopF_Grower_goal_of K mg
  x_Grower_table_behind : TopF_Grower_table_behind K mg
  x_Maker_init : TopF_Maker_init K mg
  x_Maker_goal_for : TopF_Maker_goal_for K mg
  x_law_mixed : TopF_law_mixed K mg
  x_law_great : TopF_law_great K mg
  x_law_mosts : TopF_law_mosts K mg
structure TopD1 (K : PySem.W.Frag) (mg : Str → Option Value) where
  x_law_some_set : TopF_law_some_set K mg
  x_law_boxes : TopF_law_boxes K mg
  x_law_leaf : TopF_law_leaf K mg
  x_law_halves : TopF_law_halves K mg
  x_law_same : TopF_law_same K mg
  x_Maker_goal_behind : TopF_Maker_goal_behind K mg
  x_made : TopF_made K mg
  x_law_right : TopF_law_right K mg
  x_law : TopF_law K mg
structure TopM0 (K : PySem.W.Frag) (mg : Str → Option Value) (c : TopC K mg) (d0 : TopD0 K mg) (d1 : TopD1 K mg) where
  k_Table : Mk K c.C_Table d0.x_Table_init.f_Table_init
  m_Table_mosts : Meth K c.C_Table "mosts" d0.x_Table_mosts.f_Table_mosts
  m_Table_top : Meth K c.C_Table "top" d0.x_Table_top.f_Table_top
  m_Table_tests : Meth K c.C_Table "tests" d0.x_Table_tests.f_Table_tests
  k_Grower : Mk K c.C_Grower d0.x_Grower_init.f_Grower_init
  m_Grower_goal_of : Meth K c.C_Grower "goal_of" d0.x_Grower_goal_of.f_Grower_goal_of
  m_Grower_table_behind : Meth K c.C_Grower "table_behind" d0.x_Grower_table_behind.f_Grower_table_behind
  k_Maker : Mk K c.C_Maker d0.x_Maker_init.f_Maker_init
  m_Maker_goal_for : Meth K c.C_Maker "goal_for" d0.x_Maker_goal_for.f_Maker_goal_for
  m_Maker_goal_behind : Meth K c.C_Maker "goal_behind" d1.x_Maker_goal_behind.f_Maker_goal_behind
structure Tops (K : PySem.W.Frag) (mg : Str → Option Value) where
  c : TopC K mg
  a0 : TopA0 K mg c
  v0 : TopV0 K mg
  d0 : TopD0 K mg
  d1 : TopD1 K mg
  m0 : TopM0 K mg c d0 d1
section
variable {K : PySem.W.Frag} {mg : Str → Option Value}
abbrev Tops.C_Table (Z : Tops K mg) : Addr := Z.c.C_Table
abbrev Tops.n_Table (Z : Tops K mg) : PySem.W.nsIn K mainGlobals "Table" = some (some (.ref Z.C_Table)) := Z.a0.n_Table
abbrev Tops.g_Table (Z : Tops K mg) : mg "Table" = some (.ref Z.C_Table) := Z.a0.g_Table
abbrev Tops.cl_Table (Z : Tops K mg) : Cls K Z.C_Table := Z.a0.cl_Table
abbrev Tops.a_Table_first_goal (Z : Tops K mg) : NoAttr K Z.C_Table "first_goal" := Z.a0.a_Table_first_goal
abbrev Tops.a_Table_kept_tests (Z : Tops K mg) : NoAttr K Z.C_Table "kept_tests" := Z.a0.a_Table_kept_tests
abbrev Tops.a_Table_sides (Z : Tops K mg) : NoAttr K Z.C_Table "sides" := Z.a0.a_Table_sides
abbrev Tops.C_Grower (Z : Tops K mg) : Addr := Z.c.C_Grower
abbrev Tops.n_Grower (Z : Tops K mg) : PySem.W.nsIn K mainGlobals "Grower" = some (some (.ref Z.C_Grower)) := Z.a0.n_Grower
abbrev Tops.g_Grower (Z : Tops K mg) : mg "Grower" = some (.ref Z.C_Grower) := Z.a0.g_Grower
abbrev Tops.cl_Grower (Z : Tops K mg) : Cls K Z.C_Grower := Z.a0.cl_Grower
abbrev Tops.a_Grower_grown (Z : Tops K mg) : NoAttr K Z.C_Grower "grown" := Z.a0.a_Grower_grown
abbrev Tops.a_Grower_numbered (Z : Tops K mg) : NoAttr K Z.C_Grower "numbered" := Z.a0.a_Grower_numbered
abbrev Tops.C_Maker (Z : Tops K mg) : Addr := Z.c.C_Maker
abbrev Tops.n_Maker (Z : Tops K mg) : PySem.W.nsIn K mainGlobals "Maker" = some (some (.ref Z.C_Maker)) := Z.a0.n_Maker
abbrev Tops.g_Maker (Z : Tops K mg) : mg "Maker" = some (.ref Z.C_Maker) := Z.a0.g_Maker
abbrev Tops.cl_Maker (Z : Tops K mg) : Cls K Z.C_Maker := Z.a0.cl_Maker
abbrev Tops.a_Maker_sides (Z : Tops K mg) : NoAttr K Z.C_Maker "sides" := Z.a0.a_Maker_sides
abbrev Tops.a_Maker_goals_found (Z : Tops K mg) : NoAttr K Z.C_Maker "goals_found" := Z.a0.a_Maker_goals_found
abbrev Tops.a_Maker_grower (Z : Tops K mg) : NoAttr K Z.C_Maker "grower" := Z.a0.a_Maker_grower
abbrev Tops.a_Maker_rooms (Z : Tops K mg) : NoAttr K Z.C_Maker "rooms" := Z.a0.a_Maker_rooms
abbrev Tops.f_has (Z : Tops K mg) : Addr := Z.d0.x_has.f_has
abbrev Tops.d_has (Z : Tops K mg) : FuncData := Z.d0.x_has.d_has
abbrev Tops.F_has (Z : Tops K mg) : Fun K "has" "has" st_has Z.f_has Z.d_has := Z.d0.x_has.F_has
abbrev Tops.g_has (Z : Tops K mg) : mg "has" = some (.ref Z.f_has) := Z.d0.x_has.g_has
abbrev Tops.b_has (Z : Tops K mg) : L2.Binds K Z.d_has ["one", "number"] [] := Z.d0.x_has.b_has
abbrev Tops.f_parts (Z : Tops K mg) : Addr := Z.d0.x_parts.f_parts
abbrev Tops.d_parts (Z : Tops K mg) : FuncData := Z.d0.x_parts.d_parts
abbrev Tops.F_parts (Z : Tops K mg) : Fun K "parts" "parts" st_parts Z.f_parts Z.d_parts := Z.d0.x_parts.F_parts
abbrev Tops.g_parts (Z : Tops K mg) : mg "parts" = some (.ref Z.f_parts) := Z.d0.x_parts.g_parts
abbrev Tops.b_parts (Z : Tops K mg) : L2.Binds K Z.d_parts ["most", "some"] [] := Z.d0.x_parts.b_parts
abbrev Tops.f_Table_init (Z : Tops K mg) : Addr := Z.d0.x_Table_init.f_Table_init
abbrev Tops.d_Table_init (Z : Tops K mg) : FuncData := Z.d0.x_Table_init.d_Table_init
abbrev Tops.F_Table_init (Z : Tops K mg) : Fun K "__init__" "Table.__init__" st_Table_init Z.f_Table_init Z.d_Table_init := Z.d0.x_Table_init.F_Table_init
abbrev Tops.b_Table_init (Z : Tops K mg) : L2.Binds K Z.d_Table_init ["self", "sides", "first_goal", "kept_tests"] [] := Z.d0.x_Table_init.b_Table_init
abbrev Tops.k_Table (Z : Tops K mg) : Mk K Z.C_Table Z.f_Table_init := Z.m0.k_Table
abbrev Tops.f_Table_mosts (Z : Tops K mg) : Addr := Z.d0.x_Table_mosts.f_Table_mosts
abbrev Tops.d_Table_mosts (Z : Tops K mg) : FuncData := Z.d0.x_Table_mosts.d_Table_mosts
abbrev Tops.F_Table_mosts (Z : Tops K mg) : Fun K "mosts" "Table.mosts" st_Table_mosts Z.f_Table_mosts Z.d_Table_mosts := Z.d0.x_Table_mosts.F_Table_mosts
abbrev Tops.b_Table_mosts (Z : Tops K mg) : L2.Binds K Z.d_Table_mosts ["self"] [] := Z.d0.x_Table_mosts.b_Table_mosts
abbrev Tops.m_Table_mosts (Z : Tops K mg) : Meth K Z.C_Table "mosts" Z.f_Table_mosts := Z.m0.m_Table_mosts
abbrev Tops.f_Table_top (Z : Tops K mg) : Addr := Z.d0.x_Table_top.f_Table_top
abbrev Tops.d_Table_top (Z : Tops K mg) : FuncData := Z.d0.x_Table_top.d_Table_top
abbrev Tops.F_Table_top (Z : Tops K mg) : Fun K "top" "Table.top" st_Table_top Z.f_Table_top Z.d_Table_top := Z.d0.x_Table_top.F_Table_top
abbrev Tops.b_Table_top (Z : Tops K mg) : L2.Binds K Z.d_Table_top ["self"] [] := Z.d0.x_Table_top.b_Table_top
abbrev Tops.m_Table_top (Z : Tops K mg) : Meth K Z.C_Table "top" Z.f_Table_top := Z.m0.m_Table_top
abbrev Tops.f_Table_tests (Z : Tops K mg) : Addr := Z.d0.x_Table_tests.f_Table_tests
abbrev Tops.d_Table_tests (Z : Tops K mg) : FuncData := Z.d0.x_Table_tests.d_Table_tests
abbrev Tops.F_Table_tests (Z : Tops K mg) : Fun K "tests" "Table.tests" st_Table_tests Z.f_Table_tests Z.d_Table_tests := Z.d0.x_Table_tests.F_Table_tests
abbrev Tops.b_Table_tests (Z : Tops K mg) : L2.Binds K Z.d_Table_tests ["self"] [] := Z.d0.x_Table_tests.b_Table_tests
abbrev Tops.m_Table_tests (Z : Tops K mg) : Meth K Z.C_Table "tests" Z.f_Table_tests := Z.m0.m_Table_tests
abbrev Tops.f_number_tests (Z : Tops K mg) : Addr := Z.d0.x_number_tests.f_number_tests
abbrev Tops.d_number_tests (Z : Tops K mg) : FuncData := Z.d0.x_number_tests.d_number_tests
abbrev Tops.F_number_tests (Z : Tops K mg) : Fun K "number_tests" "number_tests" st_number_tests Z.f_number_tests Z.d_number_tests := Z.d0.x_number_tests.F_number_tests
abbrev Tops.g_number_tests (Z : Tops K mg) : mg "number_tests" = some (.ref Z.f_number_tests) := Z.d0.x_number_tests.g_number_tests
abbrev Tops.b_number_tests (Z : Tops K mg) : L2.Binds K Z.d_number_tests ["tests", "goal", "found"] [] := Z.d0.x_number_tests.b_number_tests
abbrev Tops.f_goal_by (Z : Tops K mg) : Addr := Z.d0.x_goal_by.f_goal_by
abbrev Tops.d_goal_by (Z : Tops K mg) : FuncData := Z.d0.x_goal_by.d_goal_by
abbrev Tops.F_goal_by (Z : Tops K mg) : Fun K "goal_by" "goal_by" st_goal_by Z.f_goal_by Z.d_goal_by := Z.d0.x_goal_by.F_goal_by
abbrev Tops.g_goal_by (Z : Tops K mg) : mg "goal_by" = some (.ref Z.f_goal_by) := Z.d0.x_goal_by.g_goal_by
abbrev Tops.b_goal_by (Z : Tops K mg) : L2.Binds K Z.d_goal_by ["goal", "found"] [] := Z.d0.x_goal_by.b_goal_by
abbrev Tops.f_Grower_init (Z : Tops K mg) : Addr := Z.d0.x_Grower_init.f_Grower_init
abbrev Tops.d_Grower_init (Z : Tops K mg) : FuncData := Z.d0.x_Grower_init.d_Grower_init
abbrev Tops.F_Grower_init (Z : Tops K mg) : Fun K "__init__" "Grower.__init__" st_Grower_init Z.f_Grower_init Z.d_Grower_init := Z.d0.x_Grower_init.F_Grower_init
abbrev Tops.b_Grower_init (Z : Tops K mg) : L2.Binds K Z.d_Grower_init ["self"] [] := Z.d0.x_Grower_init.b_Grower_init
abbrev Tops.k_Grower (Z : Tops K mg) : Mk K Z.C_Grower Z.f_Grower_init := Z.m0.k_Grower
abbrev Tops.f_Grower_goal_of (Z : Tops K mg) : Addr := Z.d0.x_Grower_goal_of.f_Grower_goal_of
abbrev Tops.d_Grower_goal_of (Z : Tops K mg) : FuncData := Z.d0.x_Grower_goal_of.d_Grower_goal_of
abbrev Tops.F_Grower_goal_of (Z : Tops K mg) : Fun K "goal_of" "Grower.goal_of" st_Grower_goal_of Z.f_Grower_goal_of Z.d_Grower_goal_of := Z.d0.x_Grower_goal_of.F_Grower_goal_of
abbrev Tops.b_Grower_goal_of (Z : Tops K mg) : L2.Binds K Z.d_Grower_goal_of ["self", "field", "ways"] [] := Z.d0.x_Grower_goal_of.b_Grower_goal_of
abbrev Tops.m_Grower_goal_of (Z : Tops K mg) : Meth K Z.C_Grower "goal_of" Z.f_Grower_goal_of := Z.m0.m_Grower_goal_of
abbrev Tops.f_Grower_table_behind (Z : Tops K mg) : Addr := Z.d0.x_Grower_table_behind.f_Grower_table_behind
abbrev Tops.d_Grower_table_behind (Z : Tops K mg) : FuncData := Z.d0.x_Grower_table_behind.d_Grower_table_behind
abbrev Tops.F_Grower_table_behind (Z : Tops K mg) : Fun K "table_behind" "Grower.table_behind" st_Grower_table_behind Z.f_Grower_table_behind Z.d_Grower_table_behind := Z.d0.x_Grower_table_behind.F_Grower_table_behind
abbrev Tops.b_Grower_table_behind (Z : Tops K mg) : L2.Binds K Z.d_Grower_table_behind ["self", "sides", "goal"] [] := Z.d0.x_Grower_table_behind.b_Grower_table_behind
abbrev Tops.m_Grower_table_behind (Z : Tops K mg) : Meth K Z.C_Grower "table_behind" Z.f_Grower_table_behind := Z.m0.m_Grower_table_behind
abbrev Tops.f_Maker_init (Z : Tops K mg) : Addr := Z.d0.x_Maker_init.f_Maker_init
abbrev Tops.d_Maker_init (Z : Tops K mg) : FuncData := Z.d0.x_Maker_init.d_Maker_init
abbrev Tops.F_Maker_init (Z : Tops K mg) : Fun K "__init__" "Maker.__init__" st_Maker_init Z.f_Maker_init Z.d_Maker_init := Z.d0.x_Maker_init.F_Maker_init
abbrev Tops.b_Maker_init (Z : Tops K mg) : L2.Binds K Z.d_Maker_init ["self", "sides", "rooms"] [] := Z.d0.x_Maker_init.b_Maker_init
abbrev Tops.k_Maker (Z : Tops K mg) : Mk K Z.C_Maker Z.f_Maker_init := Z.m0.k_Maker
abbrev Tops.f_Maker_goal_for (Z : Tops K mg) : Addr := Z.d0.x_Maker_goal_for.f_Maker_goal_for
abbrev Tops.d_Maker_goal_for (Z : Tops K mg) : FuncData := Z.d0.x_Maker_goal_for.d_Maker_goal_for
abbrev Tops.F_Maker_goal_for (Z : Tops K mg) : Fun K "goal_for" "Maker.goal_for" st_Maker_goal_for Z.f_Maker_goal_for Z.d_Maker_goal_for := Z.d0.x_Maker_goal_for.F_Maker_goal_for
abbrev Tops.b_Maker_goal_for (Z : Tops K mg) : L2.Binds K Z.d_Maker_goal_for ["self", "field", "alive", "worker"] [] := Z.d0.x_Maker_goal_for.b_Maker_goal_for
abbrev Tops.m_Maker_goal_for (Z : Tops K mg) : Meth K Z.C_Maker "goal_for" Z.f_Maker_goal_for := Z.m0.m_Maker_goal_for
abbrev Tops.f_law_mixed (Z : Tops K mg) : Addr := Z.d0.x_law_mixed.f_law_mixed
abbrev Tops.d_law_mixed (Z : Tops K mg) : FuncData := Z.d0.x_law_mixed.d_law_mixed
abbrev Tops.F_law_mixed (Z : Tops K mg) : Fun K "_law_mixed" "_law_mixed" st_law_mixed Z.f_law_mixed Z.d_law_mixed := Z.d0.x_law_mixed.F_law_mixed
abbrev Tops.g_law_mixed (Z : Tops K mg) : mg "_law_mixed" = some (.ref Z.f_law_mixed) := Z.d0.x_law_mixed.g_law_mixed
abbrev Tops.b_law_mixed (Z : Tops K mg) : L2.Binds K Z.d_law_mixed ["_law_cell", "_law_k"] [] := Z.d0.x_law_mixed.b_law_mixed
abbrev Tops.f_law_great (Z : Tops K mg) : Addr := Z.d0.x_law_great.f_law_great
abbrev Tops.d_law_great (Z : Tops K mg) : FuncData := Z.d0.x_law_great.d_law_great
abbrev Tops.F_law_great (Z : Tops K mg) : Fun K "_law_great" "_law_great" st_law_great Z.f_law_great Z.d_law_great := Z.d0.x_law_great.F_law_great
abbrev Tops.g_law_great (Z : Tops K mg) : mg "_law_great" = some (.ref Z.f_law_great) := Z.d0.x_law_great.g_law_great
abbrev Tops.b_law_great (Z : Tops K mg) : L2.Binds K Z.d_law_great ["_law_cell", "_law_k"] [] := Z.d0.x_law_great.b_law_great
abbrev Tops.f_law_mosts (Z : Tops K mg) : Addr := Z.d0.x_law_mosts.f_law_mosts
abbrev Tops.d_law_mosts (Z : Tops K mg) : FuncData := Z.d0.x_law_mosts.d_law_mosts
abbrev Tops.F_law_mosts (Z : Tops K mg) : Fun K "_law_mosts" "_law_mosts" st_law_mosts Z.f_law_mosts Z.d_law_mosts := Z.d0.x_law_mosts.F_law_mosts
abbrev Tops.g_law_mosts (Z : Tops K mg) : mg "_law_mosts" = some (.ref Z.f_law_mosts) := Z.d0.x_law_mosts.g_law_mosts
abbrev Tops.b_law_mosts (Z : Tops K mg) : L2.Binds K Z.d_law_mosts ["_law_cell", "_law_many", "_law_is_small"] [] := Z.d0.x_law_mosts.b_law_mosts
abbrev Tops.f_law_some_set (Z : Tops K mg) : Addr := Z.d1.x_law_some_set.f_law_some_set
abbrev Tops.d_law_some_set (Z : Tops K mg) : FuncData := Z.d1.x_law_some_set.d_law_some_set
abbrev Tops.F_law_some_set (Z : Tops K mg) : Fun K "_law_some_set" "_law_some_set" st_law_some_set Z.f_law_some_set Z.d_law_some_set := Z.d1.x_law_some_set.F_law_some_set
abbrev Tops.g_law_some_set (Z : Tops K mg) : mg "_law_some_set" = some (.ref Z.f_law_some_set) := Z.d1.x_law_some_set.g_law_some_set
abbrev Tops.b_law_some_set (Z : Tops K mg) : L2.Binds K Z.d_law_some_set ["_law_cell", "_law_most", "_law_pairs"] [] := Z.d1.x_law_some_set.b_law_some_set
abbrev Tops.f_law_boxes (Z : Tops K mg) : Addr := Z.d1.x_law_boxes.f_law_boxes
abbrev Tops.d_law_boxes (Z : Tops K mg) : FuncData := Z.d1.x_law_boxes.d_law_boxes
abbrev Tops.F_law_boxes (Z : Tops K mg) : Fun K "_law_boxes" "_law_boxes" st_law_boxes Z.f_law_boxes Z.d_law_boxes := Z.d1.x_law_boxes.F_law_boxes
abbrev Tops.g_law_boxes (Z : Tops K mg) : mg "_law_boxes" = some (.ref Z.f_law_boxes) := Z.d1.x_law_boxes.g_law_boxes
abbrev Tops.b_law_boxes (Z : Tops K mg) : L2.Binds K Z.d_law_boxes ["_law_cells", "_law_mosts_here", "_law_pairs"] [] := Z.d1.x_law_boxes.b_law_boxes
abbrev Tops.f_law_leaf (Z : Tops K mg) : Addr := Z.d1.x_law_leaf.f_law_leaf
abbrev Tops.d_law_leaf (Z : Tops K mg) : FuncData := Z.d1.x_law_leaf.d_law_leaf
abbrev Tops.F_law_leaf (Z : Tops K mg) : Fun K "_law_leaf" "_law_leaf" st_law_leaf Z.f_law_leaf Z.d_law_leaf := Z.d1.x_law_leaf.F_law_leaf
abbrev Tops.g_law_leaf (Z : Tops K mg) : mg "_law_leaf" = some (.ref Z.f_law_leaf) := Z.d1.x_law_leaf.g_law_leaf
abbrev Tops.b_law_leaf (Z : Tops K mg) : L2.Binds K Z.d_law_leaf ["_law_places", "_law_way"] [] := Z.d1.x_law_leaf.b_law_leaf
abbrev Tops.f_law_halves (Z : Tops K mg) : Addr := Z.d1.x_law_halves.f_law_halves
abbrev Tops.d_law_halves (Z : Tops K mg) : FuncData := Z.d1.x_law_halves.d_law_halves
abbrev Tops.F_law_halves (Z : Tops K mg) : Fun K "_law_halves" "_law_halves" st_law_halves Z.f_law_halves Z.d_law_halves := Z.d1.x_law_halves.F_law_halves
abbrev Tops.g_law_halves (Z : Tops K mg) : mg "_law_halves" = some (.ref Z.f_law_halves) := Z.d1.x_law_halves.g_law_halves
abbrev Tops.b_law_halves (Z : Tops K mg) : L2.Binds K Z.d_law_halves ["_law_cell", "_law_mosts_here", "_law_box"] [] := Z.d1.x_law_halves.b_law_halves
abbrev Tops.f_law_same (Z : Tops K mg) : Addr := Z.d1.x_law_same.f_law_same
abbrev Tops.d_law_same (Z : Tops K mg) : FuncData := Z.d1.x_law_same.d_law_same
abbrev Tops.F_law_same (Z : Tops K mg) : Fun K "_law_same" "_law_same" st_law_same Z.f_law_same Z.d_law_same := Z.d1.x_law_same.F_law_same
abbrev Tops.g_law_same (Z : Tops K mg) : mg "_law_same" = some (.ref Z.f_law_same) := Z.d1.x_law_same.g_law_same
abbrev Tops.b_law_same (Z : Tops K mg) : L2.Binds K Z.d_law_same ["_law_one", "_law_other"] [] := Z.d1.x_law_same.b_law_same
abbrev Tops.f_Maker_goal_behind (Z : Tops K mg) : Addr := Z.d1.x_Maker_goal_behind.f_Maker_goal_behind
abbrev Tops.d_Maker_goal_behind (Z : Tops K mg) : FuncData := Z.d1.x_Maker_goal_behind.d_Maker_goal_behind
abbrev Tops.F_Maker_goal_behind (Z : Tops K mg) : Fun K "goal_behind" "Maker.goal_behind" st_Maker_goal_behind Z.f_Maker_goal_behind Z.d_Maker_goal_behind := Z.d1.x_Maker_goal_behind.F_Maker_goal_behind
abbrev Tops.b_Maker_goal_behind (Z : Tops K mg) : L2.Binds K Z.d_Maker_goal_behind ["self", "field", "alive", "worker"] [] := Z.d1.x_Maker_goal_behind.b_Maker_goal_behind
abbrev Tops.m_Maker_goal_behind (Z : Tops K mg) : Meth K Z.C_Maker "goal_behind" Z.f_Maker_goal_behind := Z.m0.m_Maker_goal_behind
abbrev Tops.f_made (Z : Tops K mg) : Addr := Z.d1.x_made.f_made
abbrev Tops.d_made (Z : Tops K mg) : FuncData := Z.d1.x_made.d_made
abbrev Tops.F_made (Z : Tops K mg) : Fun K "made" "made" st_made Z.f_made Z.d_made := Z.d1.x_made.F_made
abbrev Tops.g_made (Z : Tops K mg) : mg "made" = some (.ref Z.f_made) := Z.d1.x_made.g_made
abbrev Tops.b_made (Z : Tops K mg) : L2.Binds K Z.d_made ["mosts", "boxes", "worker"] [] := Z.d1.x_made.b_made
abbrev Tops.f_law_right (Z : Tops K mg) : Addr := Z.d1.x_law_right.f_law_right
abbrev Tops.d_law_right (Z : Tops K mg) : FuncData := Z.d1.x_law_right.d_law_right
abbrev Tops.F_law_right (Z : Tops K mg) : Fun K "_law_right" "_law_right" st_law_right Z.f_law_right Z.d_law_right := Z.d1.x_law_right.F_law_right
abbrev Tops.g_law_right (Z : Tops K mg) : mg "_law_right" = some (.ref Z.f_law_right) := Z.d1.x_law_right.g_law_right
abbrev Tops.b_law_right (Z : Tops K mg) : L2.Binds K Z.d_law_right ["_law_cells", "_law_mosts_here", "_law_boxes_here", "_law_way"] [] := Z.d1.x_law_right.b_law_right
abbrev Tops.co_law_right (Z : Tops K mg) : Z.d_law_right.code = .ref (He.cT K ("_law_right", none)).1 := Z.d1.x_law_right.co_law_right
abbrev Tops.f_law (Z : Tops K mg) : Addr := Z.d1.x_law.f_law
abbrev Tops.d_law (Z : Tops K mg) : FuncData := Z.d1.x_law.d_law
abbrev Tops.F_law (Z : Tops K mg) : Fun K "law" "law" st_law Z.f_law Z.d_law := Z.d1.x_law.F_law
abbrev Tops.z_any (Z : Tops K mg) : mg "any" = none := Z.v0.z_any
abbrev Tops.z_enumerate (Z : Tops K mg) : mg "enumerate" = none := Z.v0.z_enumerate
abbrev Tops.z_len (Z : Tops K mg) : mg "len" = none := Z.v0.z_len
abbrev Tops.z_list (Z : Tops K mg) : mg "list" = none := Z.v0.z_list
abbrev Tops.z_max (Z : Tops K mg) : mg "max" = none := Z.v0.z_max
abbrev Tops.z_min (Z : Tops K mg) : mg "min" = none := Z.v0.z_min
abbrev Tops.z_range (Z : Tops K mg) : mg "range" = none := Z.v0.z_range
abbrev Tops.z_set (Z : Tops K mg) : mg "set" = none := Z.v0.z_set
abbrev Tops.z_sorted (Z : Tops K mg) : mg "sorted" = none := Z.v0.z_sorted
abbrev Tops.z_sum (Z : Tops K mg) : mg "sum" = none := Z.v0.z_sum
abbrev Tops.z_tuple (Z : Tops K mg) : mg "tuple" = none := Z.v0.z_tuple
abbrev Tops.z_zip (Z : Tops K mg) : mg "zip" = none := Z.v0.z_zip
end
end Gw
namespace Gw
open PySem PySem.Spec PyProof.Rows L2 RZ
section
theorem w_has {P : Program} {w : World} {K : PySem.W.Frag} {mg : Str → Option Value} {base : Heap} (Z : Tops K mg)  (cdv : Value) (A : Around) (outer : List Env) (sh : Shared) (H : Hp) (E : XK) (hr : Room 0 (A.deeper (envOfC "has" (defScope st_has) sh.heap.objs.size Z.f_has cdv))) :
    SsX (cxOf CX0 P w K mg base ["one", "number", "low", "high"] "has" (defScope st_has) Z.f_has cdv A outer sh H E).nox (defBody st_has) b_has :=
  ssx_cons (sx_ret (xx_p (ex_bi ((cr_any rfl)) (wAny_ok) (by decide +kernel) Z.z_any (ax_cons (ex_f (ef_lc [("low", 2), ("high", 3)] rfl sc_has.nd (ix_seq (ex_var 0)) (blkOk_by (N := ["one", "number", "low", "high"]) (sc := defScope st_has) (by decide +kernel)) (by decide) (fun _ _ _ _ _ => gx_tup rfl (gsx_cons (gx_name 2 sc_has.nd) (gsx_cons (gx_name 3 sc_has.nd) (gsx_nil)))) (fun _ _ _ _ _ => tsx_nil) (fun _ _ _ _ _ => ex_chain .le .le (ex_var 2) (ex_var 1) (ex_var 3)))) (ax_nil)))))
  (ssx_nil)
theorem w_parts {P : Program} {w : World} {K : PySem.W.Frag} {mg : Str → Option Value} {base : Heap} (Z : Tops K mg)  (cdv : Value) (A : Around) (outer : List Env) (sh : Shared) (H : Hp) (E : XK) (hr : Room 0 (A.deeper (envOfC "parts" (defScope st_parts) sh.heap.objs.size Z.f_parts cdv))) :
    SsX (cxOf CX0 P w K mg base ["most", "some", "begins", "one", "low", "high", "lows", "begin"] "parts" (defScope st_parts) Z.f_parts cdv A outer sh H E).nox (defBody st_parts) b_parts :=
  ssx_cons (sx_set 2 (xx_disp (dpx_cons (ex_int) (ex_bl) (dpx_nil)) rfl rfl (fun z => by cases z) (by decide)) sc_parts.nd)
  (ssx_cons (sx_for PassesOwn.never rfl (ix_seq (ex_var 1)) (gx_name 3 sc_parts.nd) (ssx_cons (sx_for PassesOwn.never rfl (ix_seq (ex_var 3)) (gx_tup rfl (gsx_cons (gx_name 4 sc_parts.nd) (gsx_cons (gx_name 5 sc_parts.nd) (gsx_nil)))) (ssx_cons (sx_setIx (hu_of hr) (xx_p (ex_bl)) (ex_var 2) (ex_var 4))
  (ssx_cons (sx_setIx (hu_of hr) (xx_p (ex_bl)) (ex_var 2) (ex_add (ex_var 5) (ex_int)))
  (ssx_nil))))
  (ssx_nil)))
  (ssx_cons (sx_set 6 (xx_p (ex_f (ef_bi (cr_sortU rfl) wSortU_ok (by decide +kernel) Z.z_sorted (ax_cons (ex_f (ef_lockN (ef_lc [("begin", 7)] rfl sc_parts.nd (ix_keys (ex_var 2)) (blkOk_by (N := ["most", "some", "begins", "one", "low", "high", "lows", "begin"]) (sc := defScope st_parts) (by decide +kernel)) (by decide) (fun _ _ _ _ _ => gx_name 7 sc_parts.nd) (fun _ _ _ _ _ => tsx_one (tx_le (ex_var 7) (ex_var 0))) (fun _ _ _ _ _ => ex_var 7)))) (ax_nil))))) sc_parts.nd)
  (ssx_cons (sx_ret (xx_f (ef_lzip rfl Z.z_list Z.z_zip (ex_var 6) (ex_add (ex_f (ef_lc [("low", 4)] rfl sc_parts.nd (ix_seq (ex_sl (ex_var 6) (ox_some (ex_int)) (ox_none))) (blkOk_by (N := ["most", "some", "begins", "one", "low", "high", "lows", "begin"]) (sc := defScope st_parts) (by decide +kernel)) (by decide) (fun _ _ _ _ _ => gx_name 4 sc_parts.nd) (fun _ _ _ _ _ => tsx_nil) (fun _ _ _ _ _ => ex_sub (ex_var 4) (ex_int)))) (ex_lst (ax_cons (ex_var 0) (ax_nil)))))))
  (ssx_nil))))
theorem w_Table_init {P : Program} {w : World} {K : PySem.W.Frag} {mg : Str → Option Value} {base : Heap} (Z : Tops K mg)  (cdv : Value) (A : Around) (outer : List Env) (sh : Shared) (H : Hp) (E : XK) (hr : Room 0 (A.deeper (envOfC "Table.__init__" (defScope st_Table_init) sh.heap.objs.size Z.f_Table_init cdv))) :
    SsX (cxOf CX0 P w K mg base ["self", "sides", "first_goal", "kept_tests"] "Table.__init__" (defScope st_Table_init) Z.f_Table_init cdv A outer sh H E).nox (defBody st_Table_init) b_Table_init :=
  ssx_cons (sx_put (clsT_cons Z.n_Table Z.cl_Table Z.a_Table_sides (clsT_cons Z.n_Maker Z.cl_Maker Z.a_Maker_sides clsT_nil)) (xx_f (ef_ty (cr_listA rfl) wListA_ok (by decide +kernel) Z.z_list (ax_cons (ex_var 1) (ax_nil)))) (ex_var 0))
  (ssx_cons (sx_put (clsT_cons Z.n_Table Z.cl_Table Z.a_Table_first_goal clsT_nil) (xx_p (ex_var 2)) (ex_var 0))
  (ssx_cons (sx_put (clsT_cons Z.n_Table Z.cl_Table Z.a_Table_kept_tests clsT_nil) (xx_f (ef_ty (cr_listA rfl) wListA_ok (by decide +kernel) Z.z_list (ax_cons (ex_var 3) (ax_nil)))) (ex_var 0))
  (ssx_nil)))
theorem w_Table_mosts {P : Program} {w : World} {K : PySem.W.Frag} {mg : Str → Option Value} {base : Heap} (Z : Tops K mg)  (cdv : Value) (A : Around) (outer : List Env) (sh : Shared) (H : Hp) (E : XK) (hr : Room 0 (A.deeper (envOfC "Table.mosts" (defScope st_Table_mosts) sh.heap.objs.size Z.f_Table_mosts cdv))) :
    SsX (cxOf CX0 P w K mg base ["self"] "Table.mosts" (defScope st_Table_mosts) Z.f_Table_mosts cdv A outer sh H E).nox (defBody st_Table_mosts) b_Table_mosts :=
  ssx_cons (sx_ret (xx_p (ex_f (ef_ty (cr_listA rfl) wListA_ok (by decide +kernel) Z.z_list (ax_cons (ex_fld (clsT_cons Z.n_Table Z.cl_Table Z.a_Table_sides (clsT_cons Z.n_Maker Z.cl_Maker Z.a_Maker_sides clsT_nil)) (ex_var 0)) (ax_nil))))))
  (ssx_nil)
theorem w_Table_top {P : Program} {w : World} {K : PySem.W.Frag} {mg : Str → Option Value} {base : Heap} (Z : Tops K mg)  (cdv : Value) (A : Around) (outer : List Env) (sh : Shared) (H : Hp) (E : XK) (hr : Room 0 (A.deeper (envOfC "Table.top" (defScope st_Table_top) sh.heap.objs.size Z.f_Table_top cdv))) :
    SsX (cxOf CX0 P w K mg base ["self"] "Table.top" (defScope st_Table_top) Z.f_Table_top cdv A outer sh H E).nox (defBody st_Table_top) b_Table_top :=
  ssx_cons (sx_ret (xx_p (ex_fld (clsT_cons Z.n_Table Z.cl_Table Z.a_Table_first_goal clsT_nil) (ex_var 0))))
  (ssx_nil)
theorem w_Table_tests {P : Program} {w : World} {K : PySem.W.Frag} {mg : Str → Option Value} {base : Heap} (Z : Tops K mg)  (cdv : Value) (A : Around) (outer : List Env) (sh : Shared) (H : Hp) (E : XK) (hr : Room 0 (A.deeper (envOfC "Table.tests" (defScope st_Table_tests) sh.heap.objs.size Z.f_Table_tests cdv))) :
    SsX (cxOf CX0 P w K mg base ["self"] "Table.tests" (defScope st_Table_tests) Z.f_Table_tests cdv A outer sh H E).nox (defBody st_Table_tests) b_Table_tests :=
  ssx_cons (sx_ret (xx_p (ex_f (ef_ty (cr_listA rfl) wListA_ok (by decide +kernel) Z.z_list (ax_cons (ex_fld (clsT_cons Z.n_Table Z.cl_Table Z.a_Table_kept_tests clsT_nil) (ex_var 0)) (ax_nil))))))
  (ssx_nil)
theorem w_number_tests {P : Program} {w : World} {K : PySem.W.Frag} {mg : Str → Option Value} {base : Heap} (Z : Tops K mg)  {n : Nat} {Ψ : DFn} (G_self : FnOk P w K mg base CX0 (0 + n) Z.f_number_tests Z.d_number_tests ["tests", "goal", "found"] (spG K Ψ)) (cdv : Value) (A : Around) (outer : List Env) (sh : Shared) (H : Hp) (E : XK) (hr : Room (0 + n) (A.deeper (envOfC "number_tests" (defScope st_number_tests) sh.heap.objs.size Z.f_number_tests cdv))) :
    SsX (cxOf CX0 P w K mg base ["tests", "goal", "found", "high", "behind"] "number_tests" (defScope st_number_tests) Z.f_number_tests cdv A outer sh H E).nox (defBody st_number_tests) (b_number_tests Ψ) :=
  ssx_cons (sx_if (tx_w (wx_and (tx_eq hr.units (ex_ix (hu_of hr) (ex_var 1) (ex_int)) (ex_str)) (wx_and1 (tx_nin (un65 hr) (ex_ix (hu_of hr) (ex_var 1) (ex_int)) (ex_var 2))))) (ssx_cons (sx_setIx (hu_of hr) (xx_p (ex_bi ((CallR.or call_len call_lenD)) (wLen_ok) (by decide +kernel) Z.z_len (ax_cons (ex_var 2) (ax_nil)))) (ex_var 2) (ex_ix (hu_of hr) (ex_var 1) (ex_int)))
  (ssx_cons (sx_for PassesOwn.never rfl (ix_seq (ex_ix (hu_of hr) (ex_ix (hu_of hr) (ex_var 0) (ex_ix (hu_of hr) (ex_var 1) (ex_int))) (ex_int))) (gx_tup rfl (gsx_cons (gx_name 3 sc_number_tests.nd) (gsx_cons (gx_name 4 sc_number_tests.nd) (gsx_nil)))) (ssx_cons (sx_drop (xx_call G_self (hr.mono (by omega)) Z.g_number_tests Z.F_number_tests.kp Z.b_number_tests pass0 (axx_cons (xx_p (ex_var 0)) (axx_cons (xx_p (ex_var 4)) (axx_cons (xx_p (ex_var 2)) (axx_nil))))))
  (ssx_nil)))
  (ssx_nil))) (ssx_nil))
  (ssx_nil)
theorem w_goal_by {P : Program} {w : World} {K : PySem.W.Frag} {mg : Str → Option Value} {base : Heap} (Z : Tops K mg)  (cdv : Value) (A : Around) (outer : List Env) (sh : Shared) (H : Hp) (E : XK) (hr : Room 0 (A.deeper (envOfC "goal_by" (defScope st_goal_by) sh.heap.objs.size Z.f_goal_by cdv))) :
    SsX (cxOf CX0 P w K mg base ["goal", "found"] "goal_by" (defScope st_goal_by) Z.f_goal_by cdv A outer sh H E).nox (defBody st_goal_by) b_goal_by :=
  ssx_cons (sx_ret (xx_p (ex_if (tx_eq hr.units (ex_ix (hu_of hr) (ex_var 0) (ex_int)) (ex_str)) (ex_tup (ax_cons (ex_str) (ax_cons (ex_ix (hu_of hr) (ex_var 1) (ex_ix (hu_of hr) (ex_var 0) (ex_int))) (ax_nil)))) (ex_var 0))))
  (ssx_nil)
theorem w_Grower_init {P : Program} {w : World} {K : PySem.W.Frag} {mg : Str → Option Value} {base : Heap} (Z : Tops K mg)  (cdv : Value) (A : Around) (outer : List Env) (sh : Shared) (H : Hp) (E : XK) (hr : Room 0 (A.deeper (envOfC "Grower.__init__" (defScope st_Grower_init) sh.heap.objs.size Z.f_Grower_init cdv))) :
    SsX (cxOf CX0 P w K mg base ["self"] "Grower.__init__" (defScope st_Grower_init) Z.f_Grower_init cdv A outer sh H E).nox (defBody st_Grower_init) (@b_Grower_init (wdL w)) :=
  ssx_cons (sx_put (clsT_cons Z.n_Grower Z.cl_Grower Z.a_Grower_grown clsT_nil) (xx_lst (axx_nil)) (ex_var 0))
  (ssx_cons (sx_put (clsT_cons Z.n_Grower Z.cl_Grower Z.a_Grower_numbered clsT_nil) (xx_kd) (ex_var 0))
  (ssx_nil))
theorem w_Grower_goal_of {P : Program} {w : World} {K : PySem.W.Frag} {mg : Str → Option Value} {base : Heap} (Z : Tops K mg)  (cdv : Value) (A : Around) (outer : List Env) (sh : Shared) (H : Hp) (E : XK) (hr : Room 0 (A.deeper (envOfC "Grower.goal_of" (defScope st_Grower_goal_of) sh.heap.objs.size Z.f_Grower_goal_of cdv))) :
    SsX (cxOf CX0 P w K mg base ["self", "field", "ways", "fewer", "high", "goal", "test"] "Grower.goal_of" (defScope st_Grower_goal_of) Z.f_Grower_goal_of cdv A outer sh H E).nox (defBody st_Grower_goal_of) (@b_Grower_goal_of (wdL w)) :=
  ssx_cons (sx_set 3 (xx_lst (axx_nil)) sc_Grower_goal_of.nd)
  (ssx_cons (sx_for PassesOwn.never rfl (ix_seq (ex_var 2)) (gx_tup rfl (gsx_cons (gx_name 4 sc_Grower_goal_of.nd) (gsx_cons (gx_name 5 sc_Grower_goal_of.nd) (gsx_nil)))) (ssx_cons (sx_if (tx_w (wx_and (tx_neNil (Nat.lt_of_le_of_lt (Nat.le_add_right _ 65) (un65 hr)) (ex_var 3) (ex_lst (ax_nil))) (wx_and1 (tx_eq hr.units (ex_ix (hu_of hr) (ex_ix (hu_of hr) (ex_var 3) (ex_neg (ex_int))) (ex_int)) (ex_var 5))))) (ssx_cons (sx_drop (xx_m0 PySem.F.plainAttrs_list PySem.F.slot_list_pop PySem.F.type_list_pop mt_pop wPop_ok (ex_var 3)))
  (ssx_nil)) (ssx_nil))
  (ssx_cons (sx_drop (xx_m PySem.F.plainAttrs_list PySem.F.slot_list_append PySem.F.type_list_append mt_append wAppend_ok (ex_var 3) (axx_cons (xx_p (ex_tup (ax_cons (ex_var 4) (ax_cons (ex_var 5) (ax_nil))))) axx_nil)))
  (ssx_nil))))
  (ssx_cons (sx_if (tx_eq hr.units (ex_bi ((CallR.or call_len call_lenD)) (wLen_ok) (by decide +kernel) Z.z_len (ax_cons (ex_var 3) (ax_nil))) (ex_int)) (ssx_cons (sx_ret (xx_p (ex_ix (hu_of hr) (ex_ix (hu_of hr) (ex_var 3) (ex_int)) (ex_int))))
  (ssx_nil)) (ssx_nil))
  (ssx_cons (sx_set 6 (xx_p (ex_tup (ax_cons (ex_var 1) (ax_cons (ex_ty call_tuple_of wTuple_ok (by decide +kernel) Z.z_tuple (ax_cons (ex_var 3) (ax_nil))) (ax_nil))))) sc_Grower_goal_of.nd)
  (ssx_cons (sx_if (tx_knin (un65 hr) (ex_var 6) (ex_fld (clsT_cons Z.n_Grower Z.cl_Grower Z.a_Grower_numbered clsT_nil) (ex_var 0))) (ssx_cons (sx_kset (un65 hr) (xx_p (ex_bi ((CallR.or call_len call_lenD)) (wLen_ok) (by decide +kernel) Z.z_len (ax_cons (ex_fld (clsT_cons Z.n_Grower Z.cl_Grower Z.a_Grower_grown clsT_nil) (ex_var 0)) (ax_nil)))) (ex_fld (clsT_cons Z.n_Grower Z.cl_Grower Z.a_Grower_numbered clsT_nil) (ex_var 0)) (ex_var 6))
  (ssx_cons (sx_drop (xx_m PySem.F.plainAttrs_list PySem.F.slot_list_append PySem.F.type_list_append mt_append wAppend_ok (ex_fld (clsT_cons Z.n_Grower Z.cl_Grower Z.a_Grower_grown clsT_nil) (ex_var 0)) (axx_cons (xx_p (ex_var 6)) axx_nil)))
  (ssx_nil))) (ssx_nil))
  (ssx_cons (sx_ret (xx_p (ex_tup (ax_cons (ex_str) (ax_cons (ex_kix (un65 hr) (ex_fld (clsT_cons Z.n_Grower Z.cl_Grower Z.a_Grower_numbered clsT_nil) (ex_var 0)) (ex_var 6)) (ax_nil))))))
  (ssx_nil))))))
theorem w_Grower_table_behind {P : Program} {w : World} {K : PySem.W.Frag} {mg : Str → Option Value} {base : Heap} (Z : Tops K mg) (G_Table_init : FnOk P w K mg base CX0 1 Z.f_Table_init Z.d_Table_init ["self", "sides", "first_goal", "kept_tests"] (spG K c_Table_init)) (G_number_tests : FnOk P w K mg base CX0 6 Z.f_number_tests Z.d_number_tests ["tests", "goal", "found"] (spG K c_number_tests)) (G_goal_by : FnOk P w K mg base CX0 1 Z.f_goal_by Z.d_goal_by ["goal", "found"] (spG K c_goal_by)) (cdv : Value) (A : Around) (outer : List Env) (sh : Shared) (H : Hp) (E : XK) (hr : Room 6 (A.deeper (envOfC "Grower.table_behind" (defScope st_Grower_table_behind) sh.heap.objs.size Z.f_Grower_table_behind cdv))) :
    SsX (cxOf CX0 P w K mg base ["self", "sides", "goal", "found", "tests", "number", "field", "ways", "high", "behind"] "Grower.table_behind" (defScope st_Grower_table_behind) Z.f_Grower_table_behind cdv A outer sh H E).nox (defBody st_Grower_table_behind) b_Grower_table_behind :=
  ssx_cons (sx_set 3 (xx_dic) sc_Grower_table_behind.nd)
  (ssx_cons (sx_drop (xx_call G_number_tests (hr.mono (by decide)) Z.g_number_tests Z.F_number_tests.kp Z.b_number_tests pass0 (axx_cons (xx_p (ex_fld (clsT_cons Z.n_Grower Z.cl_Grower Z.a_Grower_grown clsT_nil) (ex_var 0))) (axx_cons (xx_p (ex_var 2)) (axx_cons (xx_p (ex_var 3)) (axx_nil))))))
  (ssx_cons (sx_set 4 (xx_lst (axx_nil)) sc_Grower_table_behind.nd)
  (ssx_cons (sx_lockN (sx_for PassesOwn.never rfl (ix_keys (ex_var 3)) (gx_name 5 sc_Grower_table_behind.nd) (ssx_cons (sx_asg (xx_p (ex_ix (hu_of hr) (ex_fld (clsT_cons Z.n_Grower Z.cl_Grower Z.a_Grower_grown clsT_nil) (ex_var 0)) (ex_var 5))) (gx_tup rfl (gsx_cons (gx_name 6 sc_Grower_table_behind.nd) (gsx_cons (gx_name 7 sc_Grower_table_behind.nd) (gsx_nil)))))
  (ssx_cons (sx_drop (xx_m PySem.F.plainAttrs_list PySem.F.slot_list_append PySem.F.type_list_append mt_append wAppend_ok (ex_var 4) (axx_cons (xx_tup (axx_cons (xx_p (ex_var 6)) (axx_cons (xx_ty call_tuple_of wTuple_ok (by decide +kernel) Z.z_tuple (axx_cons (xx_lc [("high", 8), ("behind", 9)] rfl sc_Grower_table_behind.nd (ixx_p (ix_seq (ex_var 7))) (blkOk_by (N := ["self", "sides", "goal", "found", "tests", "number", "field", "ways", "high", "behind"]) (sc := defScope st_Grower_table_behind) (by decide +kernel)) (by decide) (fun _ _ _ _ _ => gx_tup rfl (gsx_cons (gx_name 8 sc_Grower_table_behind.nd) (gsx_cons (gx_name 9 sc_Grower_table_behind.nd) (gsx_nil)))) (fun _ _ _ _ _ => tsxx_nil) (fun _ _ _ _ _ => xx_tup (axx_cons (xx_p (ex_var 8)) (axx_cons (xx_call G_goal_by (hr.mono (by decide)) Z.g_goal_by Z.F_goal_by.kp Z.b_goal_by pass0 (axx_cons (xx_p (ex_var 9)) (axx_cons (xx_p (ex_var 3)) (axx_nil)))) (axx_nil))))) (axx_nil))) (axx_nil)))) axx_nil)))
  (ssx_nil)))))
  (ssx_cons (sx_ret (xx_make (k := 1) ⟨Z.n_Table, Z.k_Table⟩ G_Table_init (hr.mono (by decide)) Z.g_Table Z.b_Table_init pass0 (axx_cons (xx_p (ex_var 1)) (axx_cons (xx_call G_goal_by (hr.mono (by decide)) Z.g_goal_by Z.F_goal_by.kp Z.b_goal_by pass0 (axx_cons (xx_p (ex_var 2)) (axx_cons (xx_p (ex_var 3)) (axx_nil)))) (axx_cons (xx_p (ex_var 4)) (axx_nil))))))
  (ssx_nil)))))
theorem w_Maker_init {P : Program} {w : World} {K : PySem.W.Frag} {mg : Str → Option Value} {base : Heap} (Z : Tops K mg) (G_Grower_init : FnOk P w K mg base CX0 1 Z.f_Grower_init Z.d_Grower_init ["self"] (spG K (@c_Grower_init (wdL w)))) (cdv : Value) (A : Around) (outer : List Env) (sh : Shared) (H : Hp) (E : XK) (hr : Room 2 (A.deeper (envOfC "Maker.__init__" (defScope st_Maker_init) sh.heap.objs.size Z.f_Maker_init cdv))) :
    SsX (cxOf CX0 P w K mg base ["self", "sides", "rooms"] "Maker.__init__" (defScope st_Maker_init) Z.f_Maker_init cdv A outer sh H E).nox (defBody st_Maker_init) (@b_Maker_init (wdL w)) :=
  ssx_cons (sx_put (clsT_cons Z.n_Table Z.cl_Table Z.a_Table_sides (clsT_cons Z.n_Maker Z.cl_Maker Z.a_Maker_sides clsT_nil)) (xx_f (ef_ty (cr_listA rfl) wListA_ok (by decide +kernel) Z.z_list (ax_cons (ex_var 1) (ax_nil)))) (ex_var 0))
  (ssx_cons (sx_put (clsT_cons Z.n_Maker Z.cl_Maker Z.a_Maker_rooms clsT_nil) (xx_f (ef_ty (cr_listA rfl) wListA_ok (by decide +kernel) Z.z_list (ax_cons (ex_var 2) (ax_nil)))) (ex_var 0))
  (ssx_cons (sx_put (clsT_cons Z.n_Maker Z.cl_Maker Z.a_Maker_grower clsT_nil) (xx_make0 (k := 1) ⟨Z.n_Grower, Z.k_Grower⟩ G_Grower_init (hr.mono (by decide)) Z.g_Grower Z.b_Grower_init pass0) (ex_var 0))
  (ssx_cons (sx_put (clsT_cons Z.n_Maker Z.cl_Maker Z.a_Maker_goals_found clsT_nil) (xx_kd) (ex_var 0))
  (ssx_nil))))
theorem w_Maker_goal_for {P : Program} {w : World} {K : PySem.W.Frag} {mg : Str → Option Value} {base : Heap} (Z : Tops K mg)  {n : Nat} {Ψ_Maker_goal_behind : DFn} (G_Maker_goal_behind : FnOk P w K mg base CX0 (3 + n) Z.f_Maker_goal_behind Z.d_Maker_goal_behind ["self", "field", "alive", "worker"] (spG K Ψ_Maker_goal_behind)) (cdv : Value) (A : Around) (outer : List Env) (sh : Shared) (H : Hp) (E : XK) (hr : Room (3 + n) (A.deeper (envOfC "Maker.goal_for" (defScope st_Maker_goal_for) sh.heap.objs.size Z.f_Maker_goal_for cdv))) :
    SsX (cxOf CX0 P w K mg base ["self", "field", "alive", "worker"] "Maker.goal_for" (defScope st_Maker_goal_for) Z.f_Maker_goal_for cdv A outer sh H E).nox (defBody st_Maker_goal_for) (@b_Maker_goal_for (wdL w) Ψ_Maker_goal_behind) :=
  ssx_cons (sx_if (tx_knin (un65 hr) (ex_tup (ax_cons (ex_var 1) (ax_cons (ex_var 2) (ax_nil)))) (ex_fld (clsT_cons Z.n_Maker Z.cl_Maker Z.a_Maker_goals_found clsT_nil) (ex_var 0))) (ssx_cons (sx_kset (un65 hr) (xx_meth (k := 3 + n) (xx_p (ex_var 0)) (methT_cons Z.n_Maker Z.cl_Maker Z.m_Maker_goal_behind G_Maker_goal_behind (by omega) Z.b_Maker_goal_behind (methT_nil)) (hr.mono (by omega)) pass0 (axx_cons (xx_p (ex_var 1)) (axx_cons (xx_p (ex_var 2)) (axx_cons (xx_p (ex_var 3)) (axx_nil))))) (ex_fld (clsT_cons Z.n_Maker Z.cl_Maker Z.a_Maker_goals_found clsT_nil) (ex_var 0)) (ex_tup (ax_cons (ex_var 1) (ax_cons (ex_var 2) (ax_nil)))))
  (ssx_nil)) (ssx_nil))
  (ssx_cons (sx_ret (xx_p (ex_kix (un65 hr) (ex_fld (clsT_cons Z.n_Maker Z.cl_Maker Z.a_Maker_goals_found clsT_nil) (ex_var 0)) (ex_tup (ax_cons (ex_var 1) (ax_cons (ex_var 2) (ax_nil)))))))
  (ssx_nil))
theorem w_law_mixed {P : Program} {w : World} {K : PySem.W.Frag} {mg : Str → Option Value} {base : Heap} (Z : Tops K mg)  (cdv : Value) (A : Around) (outer : List Env) (sh : Shared) (H : Hp) (E : XK) (hr : Room 0 (A.deeper (envOfC "_law_mixed" (defScope st_law_mixed) sh.heap.objs.size Z.f_law_mixed cdv))) :
    SsX (cxOf CX0 P w K mg base ["_law_cell", "_law_k", "_law_number"] "_law_mixed" (defScope st_law_mixed) Z.f_law_mixed cdv A outer sh H E).nox (defBody st_law_mixed) b_law_mixed :=
  ssx_cons (sx_set 2 (xx_p (ex_mod (ex_add (ex_add (ex_mul (ex_var 0) (ex_int)) (ex_mul (ex_int) (ex_var 1))) (ex_int)) (ex_int))) sc_law_mixed.nd)
  (ssx_cons (sx_ret (xx_p (ex_mod (ex_mul (ex_mod (ex_mul (ex_var 2) (ex_var 2)) (ex_int)) (ex_var 2)) (ex_int))))
  (ssx_nil))
theorem w_law_great {P : Program} {w : World} {K : PySem.W.Frag} {mg : Str → Option Value} {base : Heap} (Z : Tops K mg) (G_law_mixed : FnOk P w K mg base CX0 1 Z.f_law_mixed Z.d_law_mixed ["_law_cell", "_law_k"] (spT K Phi_law_mixed)) (cdv : Value) (A : Around) (outer : List Env) (sh : Shared) (H : Hp) (E : XK) (hr : Room 1 (A.deeper (envOfC "_law_great" (defScope st_law_great) sh.heap.objs.size Z.f_law_great cdv))) :
    SsX (cxOf CX0 P w K mg base ["_law_cell", "_law_k"] "_law_great" (defScope st_law_great) Z.f_law_great cdv A outer sh H E).nox (defBody st_law_great) b_law_great :=
  ssx_cons (sx_ret (xx_p (ex_mod (ex_add (ex_mul (ex_call G_law_mixed (hr.mono (by decide)) Z.g_law_mixed Z.F_law_mixed.kp Z.b_law_mixed pass0 (ax_cons (ex_var 0) (ax_cons (ex_var 1) (ax_nil)))) (ex_int)) (ex_call G_law_mixed (hr.mono (by decide)) Z.g_law_mixed Z.F_law_mixed.kp Z.b_law_mixed pass0 (ax_cons (ex_var 0) (ax_cons (ex_add (ex_var 1) (ex_int)) (ax_nil))))) (ex_pow (ex_int) (ex_int)))))
  (ssx_nil)
theorem w_law_mosts {P : Program} {w : World} {K : PySem.W.Frag} {mg : Str → Option Value} {base : Heap} (Z : Tops K mg) (G_law_mixed : FnOk P w K mg base CX0 1 Z.f_law_mixed Z.d_law_mixed ["_law_cell", "_law_k"] (spT K Phi_law_mixed)) (G_law_great : FnOk P w K mg base CX0 2 Z.f_law_great Z.d_law_great ["_law_cell", "_law_k"] (spT K Phi_law_great)) (cdv : Value) (A : Around) (outer : List Env) (sh : Shared) (H : Hp) (E : XK) (hr : Room 2 (A.deeper (envOfC "_law_mosts" (defScope st_law_mosts) sh.heap.objs.size Z.f_law_mosts cdv))) :
    SsX (cxOf CX0 P w K mg base ["_law_cell", "_law_many", "_law_is_small", "_law_found", "_law_k", "_law_great_here"] "_law_mosts" (defScope st_law_mosts) Z.f_law_mosts cdv A outer sh H E).nox (defBody st_law_mosts) b_law_mosts :=
  ssx_cons (sx_set 3 (xx_lst (axx_nil)) sc_law_mosts.nd)
  (ssx_cons (sx_for PassesOwn.never rfl (ix_range1 rfl Z.z_range (ex_var 1)) (gx_name 4 sc_law_mosts.nd) (ssx_cons (sx_set 5 (xx_p (ex_ix (hu_of hr) (ex_lst (ax_cons (ex_call G_law_great (hr.mono (by decide)) Z.g_law_great Z.F_law_great.kp Z.b_law_great pass0 (ax_cons (ex_var 0) (ax_cons (ex_add (ex_int) (ex_var 4)) (ax_nil)))) (ax_cons (ex_pow (ex_int) (ex_int)) (ax_cons (ex_mod (ex_call G_law_mixed (hr.mono (by decide)) Z.g_law_mixed Z.F_law_mixed.kp Z.b_law_mixed pass0 (ax_cons (ex_var 0) (ax_cons (ex_add (ex_int) (ex_var 4)) (ax_nil)))) (ex_int)) (ax_nil))))) (ex_mod (ex_call G_law_mixed (hr.mono (by decide)) Z.g_law_mixed Z.F_law_mixed.kp Z.b_law_mixed pass0 (ax_cons (ex_var 0) (ax_cons (ex_add (ex_int) (ex_var 4)) (ax_nil)))) (ex_int)))) sc_law_mosts.nd)
  (ssx_cons (sx_drop (xx_m PySem.F.plainAttrs_list PySem.F.slot_list_append PySem.F.type_list_append mt_append wAppend_ok (ex_var 3) (axx_cons (xx_p (ex_if (tx_val (ex_var 2)) (ex_mod (ex_call G_law_mixed (hr.mono (by decide)) Z.g_law_mixed Z.F_law_mixed.kp Z.b_law_mixed pass0 (ax_cons (ex_var 0) (ax_cons (ex_add (ex_int) (ex_var 4)) (ax_nil)))) (ex_int)) (ex_var 5))) axx_nil)))
  (ssx_nil))))
  (ssx_cons (sx_ret (xx_p (ex_var 3)))
  (ssx_nil)))
theorem w_law_some_set {P : Program} {w : World} {K : PySem.W.Frag} {mg : Str → Option Value} {base : Heap} (Z : Tops K mg) (G_law_mixed : FnOk P w K mg base CX0 1 Z.f_law_mixed Z.d_law_mixed ["_law_cell", "_law_k"] (spT K Phi_law_mixed)) (G_law_great : FnOk P w K mg base CX0 2 Z.f_law_great Z.d_law_great ["_law_cell", "_law_k"] (spT K Phi_law_great)) (cdv : Value) (A : Around) (outer : List Env) (sh : Shared) (H : Hp) (E : XK) (hr : Room 2 (A.deeper (envOfC "_law_some_set" (defScope st_law_some_set) sh.heap.objs.size Z.f_law_some_set cdv))) :
    SsX (cxOf CX0 P w K mg base ["_law_cell", "_law_most", "_law_pairs", "_law_way", "_law_rows", "_law_low", "_law_behind", "_law_k"] "_law_some_set" (defScope st_law_some_set) Z.f_law_some_set cdv A outer sh H E).nox (defBody st_law_some_set) b_law_some_set :=
  ssx_cons (sx_set 3 (xx_p (ex_mod (ex_call G_law_mixed (hr.mono (by decide)) Z.g_law_mixed Z.F_law_mixed.kp Z.b_law_mixed pass0 (ax_cons (ex_var 0) (ax_cons (ex_int) (ax_nil)))) (ex_int))) sc_law_some_set.nd)
  (ssx_cons (sx_if (tx_lt (ex_var 3) (ex_int)) (ssx_cons (sx_ret (xx_p (ex_ix (hu_of hr) (ex_lst (ax_cons (ex_tup (ax_nil)) (ax_cons (ex_tup (ax_cons (ex_tup (ax_cons (ex_int) (ax_cons (ex_var 1) (ax_nil)))) (ax_nil))) (ax_nil)))) (ex_var 3))))
  (ssx_nil)) (ssx_nil))
  (ssx_cons (sx_set 4 (xx_p (ex_f (ef_soset rfl Z.z_sorted Z.z_set (ex_f (ef_lc [("_law_k", 7)] rfl sc_law_some_set.nd (ix_range1 rfl Z.z_range (ex_mul (ex_int) (ex_var 2))) (blkOk_by (N := ["_law_cell", "_law_most", "_law_pairs", "_law_way", "_law_rows", "_law_low", "_law_behind", "_law_k"]) (sc := defScope st_law_some_set) (by decide +kernel)) (by decide) (fun _ _ _ _ _ => gx_name 7 sc_law_some_set.nd) (fun _ _ _ _ _ => tsx_nil) (fun _ _ _ _ _ => ex_mod (ex_call G_law_great (hr.mono (by decide)) Z.g_law_great Z.F_law_great.kp Z.b_law_great pass0 (ax_cons (ex_var 0) (ax_cons (ex_add (ex_int) (ex_var 7)) (ax_nil)))) (ex_add (ex_var 1) (ex_int)))))))) sc_law_some_set.nd)
  (ssx_cons (sx_ret (xx_p (ex_ty call_tuple_of wTuple_ok (by decide +kernel) Z.z_tuple (ax_cons (ex_f (ef_lc [("_law_low", 5), ("_law_behind", 6)] rfl sc_law_some_set.nd (ix_zip2 rfl Z.z_zip (ex_f (ef_ev (ex_var 4))) (ex_f (ef_od (ex_var 4)))) (blkOk_by (N := ["_law_cell", "_law_most", "_law_pairs", "_law_way", "_law_rows", "_law_low", "_law_behind", "_law_k"]) (sc := defScope st_law_some_set) (by decide +kernel)) (by decide) (fun _ _ _ _ _ => gx_tup rfl (gsx_cons (gx_name 5 sc_law_some_set.nd) (gsx_cons (gx_name 6 sc_law_some_set.nd) (gsx_nil)))) (fun _ _ _ _ _ => tsx_nil) (fun _ _ _ _ _ => ex_tup (ax_cons (ex_var 5) (ax_cons (ex_sub (ex_var 6) (ex_int)) (ax_nil)))))) (ax_nil)))))
  (ssx_nil))))
theorem w_law_boxes {P : Program} {w : World} {K : PySem.W.Frag} {mg : Str → Option Value} {base : Heap} (Z : Tops K mg) (G_law_mixed : FnOk P w K mg base CX0 1 Z.f_law_mixed Z.d_law_mixed ["_law_cell", "_law_k"] (spT K Phi_law_mixed)) (G_law_some_set : FnOk P w K mg base CX0 3 Z.f_law_some_set Z.d_law_some_set ["_law_cell", "_law_most", "_law_pairs"] (spT K Phi_law_some_set)) (cdv : Value) (A : Around) (outer : List Env) (sh : Shared) (H : Hp) (E : XK) (hr : Room 3 (A.deeper (envOfC "_law_boxes" (defScope st_law_boxes) sh.heap.objs.size Z.f_law_boxes cdv))) :
    SsX (cxOf CX0 P w K mg base ["_law_cells", "_law_mosts_here", "_law_pairs", "_law_found", "_law_k", "_law_cell", "_law_some", "_law_j", "_law_most"] "_law_boxes" (defScope st_law_boxes) Z.f_law_boxes cdv A outer sh H E).nox (defBody st_law_boxes) b_law_boxes :=
  ssx_cons (sx_set 3 (xx_lst (axx_nil)) sc_law_boxes.nd)
  (ssx_cons (sx_for PassesOwn.never rfl (ix_enum rfl Z.z_enumerate (ex_var 0)) (gx_tup rfl (gsx_cons (gx_name 4 sc_law_boxes.nd) (gsx_cons (gx_name 5 sc_law_boxes.nd) (gsx_nil)))) (ssx_cons ((by first | exact sx_setLc 6 [("_law_j", 7), ("_law_most", 8)] rfl sc_law_boxes.nd rfl rfl (sw_true rfl rfl rfl (by decide +kernel)) (ix_enum rfl Z.z_enumerate (ex_var 1)) (blkOk_by (N := ["_law_cells", "_law_mosts_here", "_law_pairs", "_law_found", "_law_k", "_law_cell", "_law_some", "_law_j", "_law_most"]) (sc := defScope st_law_boxes) (by decide +kernel)) (by decide) (fun _ _ _ _ _ => gx_tup rfl (gsx_cons (gx_name 7 sc_law_boxes.nd) (gsx_cons (gx_name 8 sc_law_boxes.nd) (gsx_nil)))) (fun _ _ _ _ _ => tsx_nil) (fun _ _ _ _ _ => ex_call G_law_some_set (hr.mono (by decide)) Z.g_law_some_set Z.F_law_some_set.kp Z.b_law_some_set pass0 (ax_cons (ex_call G_law_mixed (hr.mono (by decide)) Z.g_law_mixed Z.F_law_mixed.kp Z.b_law_mixed pass0 (ax_cons (ex_var 5) (ax_cons (ex_add (ex_add (ex_int) (ex_mul (ex_int) (ex_var 4))) (ex_var 7)) (ax_nil)))) (ax_cons (ex_var 8) (ax_cons (ex_var 2) (ax_nil))))) | exact sx_set 6 (xx_p (ex_f (ef_lc [("_law_j", 7), ("_law_most", 8)] rfl sc_law_boxes.nd (ix_enum rfl Z.z_enumerate (ex_var 1)) (blkOk_by (N := ["_law_cells", "_law_mosts_here", "_law_pairs", "_law_found", "_law_k", "_law_cell", "_law_some", "_law_j", "_law_most"]) (sc := defScope st_law_boxes) (by decide +kernel)) (by decide) (fun _ _ _ _ _ => gx_tup rfl (gsx_cons (gx_name 7 sc_law_boxes.nd) (gsx_cons (gx_name 8 sc_law_boxes.nd) (gsx_nil)))) (fun _ _ _ _ _ => tsx_nil) (fun _ _ _ _ _ => ex_call G_law_some_set (hr.mono (by decide)) Z.g_law_some_set Z.F_law_some_set.kp Z.b_law_some_set pass0 (ax_cons (ex_call G_law_mixed (hr.mono (by decide)) Z.g_law_mixed Z.F_law_mixed.kp Z.b_law_mixed pass0 (ax_cons (ex_var 5) (ax_cons (ex_add (ex_add (ex_int) (ex_mul (ex_int) (ex_var 4))) (ex_var 7)) (ax_nil)))) (ax_cons (ex_var 8) (ax_cons (ex_var 2) (ax_nil)))))))) sc_law_boxes.nd))
  (ssx_cons (sx_drop (xx_m PySem.F.plainAttrs_list PySem.F.slot_list_append PySem.F.type_list_append mt_append wAppend_ok (ex_var 3) (axx_cons (xx_p (ex_ty call_tuple_of wTuple_ok (by decide +kernel) Z.z_tuple (ax_cons (ex_var 6) (ax_nil)))) axx_nil)))
  (ssx_nil))))
  (ssx_cons (sx_ret (xx_p (ex_var 3)))
  (ssx_nil)))
theorem w_law_leaf {P : Program} {w : World} {K : PySem.W.Frag} {mg : Str → Option Value} {base : Heap} (Z : Tops K mg)  (cdv : Value) (A : Around) (outer : List Env) (sh : Shared) (H : Hp) (E : XK) (hr : Room 0 (A.deeper (envOfC "_law_leaf" (defScope st_law_leaf) sh.heap.objs.size Z.f_law_leaf cdv))) :
    SsX (cxOf CX0 P w K mg base ["_law_places", "_law_way"] "_law_leaf" (defScope st_law_leaf) Z.f_law_leaf cdv A outer sh H E).nox (defBody st_law_leaf) b_law_leaf :=
  ssx_cons (sx_if (tx_eq hr.units (ex_mod (ex_var 1) (ex_int)) (ex_int)) (ssx_cons (sx_ret (xx_p (ex_ty call_tuple_of wTuple_ok (by decide +kernel) Z.z_tuple (ax_cons (ex_var 0) (ax_nil)))))
  (ssx_nil)) (ssx_nil))
  (ssx_cons (sx_if (tx_eq hr.units (ex_mod (ex_var 1) (ex_int)) (ex_int)) (ssx_cons (sx_ret (xx_p (ex_if (tx_ne hr.units (ex_var 0) (ex_lst (ax_nil))) (ex_ix (hu_of hr) (ex_var 0) (ex_int)) (ex_non))))
  (ssx_nil)) (ssx_nil))
  (ssx_cons (sx_if (tx_eq hr.units (ex_mod (ex_var 1) (ex_int)) (ex_int)) (ssx_cons (sx_ret (xx_p (ex_ix (hu_of hr) (ex_lst (ax_cons (ex_str) (ax_cons (ex_str) (ax_cons (ex_non) (ax_nil))))) (ex_mod (ex_bi ((CallR.or call_len call_lenD)) (wLen_ok) (by decide +kernel) Z.z_len (ax_cons (ex_var 0) (ax_nil))) (ex_int)))))
  (ssx_nil)) (ssx_nil))
  (ssx_cons (sx_if (tx_eq hr.units (ex_mod (ex_var 1) (ex_int)) (ex_int)) (ssx_cons (sx_ret (xx_p (ex_tup (ax_cons (ex_tup (ax_cons (ex_str) (ax_cons (ex_bi ((CallR.or call_len call_lenD)) (wLen_ok) (by decide +kernel) Z.z_len (ax_cons (ex_var 0) (ax_nil))) (ax_nil)))) (ax_cons (ex_if (tx_ne hr.units (ex_var 0) (ex_lst (ax_nil))) (ex_ix (hu_of hr) (ex_var 0) (ex_neg (ex_int))) (ex_non)) (ax_nil))))))
  (ssx_nil)) (ssx_nil))
  (ssx_cons (sx_ret (xx_p (ex_bi ((CallR.or call_len call_lenD)) (wLen_ok) (by decide +kernel) Z.z_len (ax_cons (ex_var 0) (ax_nil)))))
  (ssx_nil)))))
theorem w_law_halves {P : Program} {w : World} {K : PySem.W.Frag} {mg : Str → Option Value} {base : Heap} (Z : Tops K mg) (G_law_mixed : FnOk P w K mg base CX0 1 Z.f_law_mixed Z.d_law_mixed ["_law_cell", "_law_k"] (spT K Phi_law_mixed)) (G_law_great : FnOk P w K mg base CX0 2 Z.f_law_great Z.d_law_great ["_law_cell", "_law_k"] (spT K Phi_law_great)) (cdv : Value) (A : Around) (outer : List Env) (sh : Shared) (H : Hp) (E : XK) (hr : Room 2 (A.deeper (envOfC "_law_halves" (defScope st_law_halves) sh.heap.objs.size Z.f_law_halves cdv))) :
    SsX (cxOf CX0 P w K mg base ["_law_cell", "_law_mosts_here", "_law_box", "_law_field", "_law_at", "_law_lower", "_law_upper", "_law_one", "_law_low", "_law_high"] "_law_halves" (defScope st_law_halves) Z.f_law_halves cdv A outer sh H E).nox (defBody st_law_halves) b_law_halves :=
  ssx_cons (sx_set 3 (xx_p (ex_mod (ex_call G_law_mixed (hr.mono (by decide)) Z.g_law_mixed Z.F_law_mixed.kp Z.b_law_mixed pass0 (ax_cons (ex_var 0) (ax_cons (ex_int) (ax_nil)))) (ex_bi ((CallR.or call_len call_lenD)) (wLen_ok) (by decide +kernel) Z.z_len (ax_cons (ex_var 1) (ax_nil))))) sc_law_halves.nd)
  (ssx_cons (sx_set 4 (xx_p (ex_mod (ex_call G_law_great (hr.mono (by decide)) Z.g_law_great Z.F_law_great.kp Z.b_law_great pass0 (ax_cons (ex_var 0) (ax_cons (ex_int) (ax_nil)))) (ex_add (ex_ix (hu_of hr) (ex_var 1) (ex_var 3)) (ex_int)))) sc_law_halves.nd)
  (ssx_cons (sx_if (tx_w (wx_and (tx_gt (ex_mod (ex_call G_law_mixed (hr.mono (by decide)) Z.g_law_mixed Z.F_law_mixed.kp Z.b_law_mixed pass0 (ax_cons (ex_var 0) (ax_cons (ex_int) (ax_nil)))) (ex_int)) (ex_int)) (wx_and1 (tx_ne hr.units (ex_ix (hu_of hr) (ex_var 2) (ex_var 3)) (ex_tup (ax_nil)))))) (ssx_cons (sx_set 4 (xx_p (ex_ix (hu_of hr) (ex_ix (hu_of hr) (ex_ix (hu_of hr) (ex_var 2) (ex_var 3)) (ex_mod (ex_call G_law_mixed (hr.mono (by decide)) Z.g_law_mixed Z.F_law_mixed.kp Z.b_law_mixed pass0 (ax_cons (ex_var 0) (ax_cons (ex_int) (ax_nil)))) (ex_bi ((CallR.or call_len call_lenD)) (wLen_ok) (by decide +kernel) Z.z_len (ax_cons (ex_ix (hu_of hr) (ex_var 2) (ex_var 3)) (ax_nil))))) (ex_mod (ex_call G_law_mixed (hr.mono (by decide)) Z.g_law_mixed Z.F_law_mixed.kp Z.b_law_mixed pass0 (ax_cons (ex_var 0) (ax_cons (ex_int) (ax_nil)))) (ex_int)))) sc_law_halves.nd)
  (ssx_nil)) (ssx_nil))
  (ssx_cons (sx_set 5 (xx_p (ex_ty call_tuple_of wTuple_ok (by decide +kernel) Z.z_tuple (ax_cons (ex_f (ef_lc [("_law_low", 8), ("_law_high", 9)] rfl sc_law_halves.nd (ix_seq (ex_ix (hu_of hr) (ex_var 2) (ex_var 3))) (blkOk_by (N := ["_law_cell", "_law_mosts_here", "_law_box", "_law_field", "_law_at", "_law_lower", "_law_upper", "_law_one", "_law_low", "_law_high"]) (sc := defScope st_law_halves) (by decide +kernel)) (by decide) (fun _ _ _ _ _ => gx_tup rfl (gsx_cons (gx_name 8 sc_law_halves.nd) (gsx_cons (gx_name 9 sc_law_halves.nd) (gsx_nil)))) (fun _ _ _ _ _ => tsx_one (tx_lt (ex_var 8) (ex_var 4))) (fun _ _ _ _ _ => ex_tup (ax_cons (ex_var 8) (ax_cons (ex_bi (call_min2 rfl) (wMM_ok) (by decide +kernel) Z.z_min (ax_cons (ex_var 9) (ax_cons (ex_sub (ex_var 4) (ex_int)) (ax_nil)))) (ax_nil)))))) (ax_nil)))) sc_law_halves.nd)
  (ssx_cons (sx_set 6 (xx_p (ex_ty call_tuple_of wTuple_ok (by decide +kernel) Z.z_tuple (ax_cons (ex_f (ef_lc [("_law_low", 8), ("_law_high", 9)] rfl sc_law_halves.nd (ix_seq (ex_ix (hu_of hr) (ex_var 2) (ex_var 3))) (blkOk_by (N := ["_law_cell", "_law_mosts_here", "_law_box", "_law_field", "_law_at", "_law_lower", "_law_upper", "_law_one", "_law_low", "_law_high"]) (sc := defScope st_law_halves) (by decide +kernel)) (by decide) (fun _ _ _ _ _ => gx_tup rfl (gsx_cons (gx_name 8 sc_law_halves.nd) (gsx_cons (gx_name 9 sc_law_halves.nd) (gsx_nil)))) (fun _ _ _ _ _ => tsx_one (tx_ge (ex_var 9) (ex_var 4))) (fun _ _ _ _ _ => ex_tup (ax_cons (ex_bi (call_max2 rfl) (wMM_ok) (by decide +kernel) Z.z_max (ax_cons (ex_var 8) (ax_cons (ex_var 4) (ax_nil)))) (ax_cons (ex_var 9) (ax_nil)))))) (ax_nil)))) sc_law_halves.nd)
  (ssx_cons (sx_ret (xx_f (ef_lc [("_law_one", 7)] rfl sc_law_halves.nd (ix_seq (ex_tup (ax_cons (ex_var 5) (ax_cons (ex_var 6) (ax_nil))))) (blkOk_by (N := ["_law_cell", "_law_mosts_here", "_law_box", "_law_field", "_law_at", "_law_lower", "_law_upper", "_law_one", "_law_low", "_law_high"]) (sc := defScope st_law_halves) (by decide +kernel)) (by decide) (fun _ _ _ _ _ => gx_name 7 sc_law_halves.nd) (fun _ _ _ _ _ => tsx_nil) (fun _ _ _ _ _ => ex_add (ex_add (ex_sl (ex_var 2) (ox_none) (ox_some (ex_var 3))) (ex_tup (ax_cons (ex_var 7) (ax_nil)))) (ex_sl (ex_var 2) (ox_some (ex_add (ex_var 3) (ex_int))) (ox_none))))))
  (ssx_nil))))))
theorem w_law_same {P : Program} {w : World} {K : PySem.W.Frag} {mg : Str → Option Value} {base : Heap} (Z : Tops K mg) (G_Table_mosts : FnOk P w K mg base CX0 1 Z.f_Table_mosts Z.d_Table_mosts ["self"] (spG K c_Table_mosts)) (G_Table_top : FnOk P w K mg base CX0 1 Z.f_Table_top Z.d_Table_top ["self"] (spG K c_Table_top)) (G_Table_tests : FnOk P w K mg base CX0 1 Z.f_Table_tests Z.d_Table_tests ["self"] (spG K c_Table_tests)) (cdv : Value) (A : Around) (outer : List Env) (sh : Shared) (H : Hp) (E : XK) (hr : Room 1 (A.deeper (envOfC "_law_same" (defScope st_law_same) sh.heap.objs.size Z.f_law_same cdv))) :
    SsX (cxOf CX0 P w K mg base ["_law_one", "_law_other"] "_law_same" (defScope st_law_same) Z.f_law_same cdv A outer sh H E).nox (defBody st_law_same) b_law_same :=
  ssx_cons (sx_ret (xx_cmp (op_eqD hr.units) w_eq (xx_lst (axx_cons (xx_meth0 (k := 1) (xx_p (ex_var 0)) (methT_cons Z.n_Table Z.cl_Table Z.m_Table_mosts G_Table_mosts (by decide) Z.b_Table_mosts (methT_nil)) (hr.mono (by decide)) pass0) (axx_cons (xx_meth0 (k := 1) (xx_p (ex_var 0)) (methT_cons Z.n_Table Z.cl_Table Z.m_Table_top G_Table_top (by decide) Z.b_Table_top (methT_nil)) (hr.mono (by decide)) pass0) (axx_cons (xx_meth0 (k := 1) (xx_p (ex_var 0)) (methT_cons Z.n_Table Z.cl_Table Z.m_Table_tests G_Table_tests (by decide) Z.b_Table_tests (methT_nil)) (hr.mono (by decide)) pass0) (axx_nil))))) (xx_lst (axx_cons (xx_meth0 (k := 1) (xx_p (ex_var 1)) (methT_cons Z.n_Table Z.cl_Table Z.m_Table_mosts G_Table_mosts (by decide) Z.b_Table_mosts (methT_nil)) (hr.mono (by decide)) pass0) (axx_cons (xx_meth0 (k := 1) (xx_p (ex_var 1)) (methT_cons Z.n_Table Z.cl_Table Z.m_Table_top G_Table_top (by decide) Z.b_Table_top (methT_nil)) (hr.mono (by decide)) pass0) (axx_cons (xx_meth0 (k := 1) (xx_p (ex_var 1)) (methT_cons Z.n_Table Z.cl_Table Z.m_Table_tests G_Table_tests (by decide) Z.b_Table_tests (methT_nil)) (hr.mono (by decide)) pass0) (axx_nil))))) (nomark _)))
  (ssx_nil)
theorem w_wk0 {P : Program} {w : World} {K : PySem.W.Frag} {mg : Str → Option Value} {base : Heap} (Z : Tops K mg) (G_law_leaf : FnOk P w K mg base CX0 1 Z.f_law_leaf Z.d_law_leaf ["_law_places", "_law_way"] (spT K Phi_law_leaf)) (L c f : Addr) (A : Around) (outer : List Env) (sh : Shared) (H : Hp) (E : XK) (hr : Room 1 (A.deeper (NdefX.envF (nfL 0 L c) f sh.heap.objs.size))) :
    SsX (NdefX.ncx CX0 P w K mg base ["_law_places", "_law_way"] (nfL 0 L c) f A outer sh H E).nox (defBody st_wk0) b_wk0 :=
  ssx_cons (sx_ret (xx_p (ex_call G_law_leaf (hr.mono (by decide)) Z.g_law_leaf Z.F_law_leaf.kp Z.b_law_leaf pass0 (ax_cons (ex_var 0) (ax_cons (ex_var 1) (ax_nil))))))
  (ssx_nil)
theorem w_wk1 {P : Program} {w : World} {K : PySem.W.Frag} {mg : Str → Option Value} {base : Heap} (Z : Tops K mg) (G_law_leaf : FnOk P w K mg base CX0 1 Z.f_law_leaf Z.d_law_leaf ["_law_places", "_law_way"] (spT K Phi_law_leaf)) (L c f : Addr) (A : Around) (outer : List Env) (sh : Shared) (H : Hp) (E : XK) (hr : Room 1 (A.deeper (NdefX.envF (nfL 1 L c) f sh.heap.objs.size))) :
    SsX (NdefX.ncx CX0 P w K mg base ["_law_places", "_law_way", "_law_rows", "_law_place"] (nfL 1 L c) f A outer sh H E).nox (defBody st_wk1) b_wk1 :=
  ssx_cons (sx_ret (xx_p (ex_call G_law_leaf (hr.mono (by decide)) Z.g_law_leaf Z.F_law_leaf.kp Z.b_law_leaf pass0 (ax_cons (ex_f (ef_soset rfl Z.z_sorted Z.z_set (ex_f (ef_lc [("_law_place", 3)] rfl sc_wk1.nd (ix_seq (ex_var 0)) (blkOk_by (N := ["_law_places", "_law_way", "_law_rows", "_law_place"]) (sc := defScope st_wk1) (by decide +kernel)) (by decide) (fun _ _ _ _ _ => gx_name 3 sc_wk1.nd) (fun _ _ _ _ _ => tsx_nil) (fun _ _ _ _ _ => ex_ix (hu_of hr) (ex_ix (hu_of hr) (ex_var 2) (ex_var 3)) (ex_int)))))) (ax_cons (ex_var 1) (ax_nil))))))
  (ssx_nil)
theorem w_Maker_goal_behind {P : Program} {w : World} {K : PySem.W.Frag} {mg : Str → Option Value} {base : Heap} (Z : Tops K mg) (G_has : FnOk P w K mg base CX0 1 Z.f_has Z.d_has ["one", "number"] (spT K Phi_has)) (G_parts : FnOk P w K mg base CX0 1 Z.f_parts Z.d_parts ["most", "some"] (spN K Phi_parts)) (G_Grower_goal_of : FnOk P w K mg base CX0 1 Z.f_Grower_goal_of Z.d_Grower_goal_of ["self", "field", "ways"] (spG K (@c_Grower_goal_of (wdL w)))) (G_wk : ∀ f nf, WkOk P w K mg base 2 f nf (spGW K (@c_wk (wdL w) nf))) {n : Nat} {Ψ_Maker_goal_for : DFn} (G_Maker_goal_for : FnOk P w K mg base CX0 (3 + n) Z.f_Maker_goal_for Z.d_Maker_goal_for ["self", "field", "alive", "worker"] (spG K Ψ_Maker_goal_for)) (cdv : Value) (A : Around) (outer : List Env) (sh : Shared) (H : Hp) (E : XK) (hr : Room (3 + n) (A.deeper (envOfC "Maker.goal_behind" (defScope st_Maker_goal_behind) sh.heap.objs.size Z.f_Maker_goal_behind cdv))) :
    SsX (cxOf CX0 P w K mg base ["self", "field", "alive", "worker", "ways", "low", "high", "later", "place"] "Maker.goal_behind" (defScope st_Maker_goal_behind) Z.f_Maker_goal_behind cdv A outer sh H E).nox (defBody st_Maker_goal_behind) (@b_Maker_goal_behind (wdL w) Ψ_Maker_goal_for) :=
  ssx_cons (sx_if (tx_eq hr.units (ex_var 1) (ex_bi ((CallR.or call_len call_lenD)) (wLen_ok) (by decide +kernel) Z.z_len (ax_cons (ex_fld (clsT_cons Z.n_Table Z.cl_Table Z.a_Table_sides (clsT_cons Z.n_Maker Z.cl_Maker Z.a_Maker_sides clsT_nil)) (ex_var 0)) (ax_nil)))) (ssx_cons (sx_ret (xx_tup (axx_cons (xx_p (ex_str)) (axx_cons (xx_callW (c := @c_wk (wdL w)) G_wk hr (by omega) (axx_cons (xx_p (ex_f (ef_ty (cr_listA rfl) wListA_ok (by decide +kernel) Z.z_list (ax_cons (ex_var 2) (ax_nil))))) (axx_nil))) (axx_nil)))))
  (ssx_nil)) (ssx_nil))
  (ssx_cons (sx_set 4 (xx_lst (axx_nil)) sc_Maker_goal_behind.nd)
  (ssx_cons (sx_for PassesOwn.never rfl (ix_seq (ex_f (ef_call G_parts (hr.mono (by omega)) Z.g_parts Z.F_parts.kp Z.b_parts pass0 (ax_cons (ex_ix (hu_of hr) (ex_fld (clsT_cons Z.n_Table Z.cl_Table Z.a_Table_sides (clsT_cons Z.n_Maker Z.cl_Maker Z.a_Maker_sides clsT_nil)) (ex_var 0)) (ex_var 1)) (ax_cons (ex_f (ef_lc [("place", 8)] rfl sc_Maker_goal_behind.nd (ix_seq (ex_var 2)) (blkOk_by (N := ["self", "field", "alive", "worker", "ways", "low", "high", "later", "place"]) (sc := defScope st_Maker_goal_behind) (by decide +kernel)) (by decide) (fun _ _ _ _ _ => gx_name 8 sc_Maker_goal_behind.nd) (fun _ _ _ _ _ => tsx_nil) (fun _ _ _ _ _ => ex_ix (hu_of hr) (ex_ix (hu_of hr) (ex_fld (clsT_cons Z.n_Maker Z.cl_Maker Z.a_Maker_rooms clsT_nil) (ex_var 0)) (ex_var 8)) (ex_var 1)))) (ax_nil)))))) (gx_tup rfl (gsx_cons (gx_name 5 sc_Maker_goal_behind.nd) (gsx_cons (gx_name 6 sc_Maker_goal_behind.nd) (gsx_nil)))) (ssx_cons (sx_set 7 (xx_p (ex_ty call_tuple_of wTuple_ok (by decide +kernel) Z.z_tuple (ax_cons (ex_f (ef_lc [("place", 8)] rfl sc_Maker_goal_behind.nd (ix_seq (ex_var 2)) (blkOk_by (N := ["self", "field", "alive", "worker", "ways", "low", "high", "later", "place"]) (sc := defScope st_Maker_goal_behind) (by decide +kernel)) (by decide) (fun _ _ _ _ _ => gx_name 8 sc_Maker_goal_behind.nd) (fun _ _ _ _ _ => tsx_one (tx_val (ex_call G_has (hr.mono (by omega)) Z.g_has Z.F_has.kp Z.b_has pass0 (ax_cons (ex_ix (hu_of hr) (ex_ix (hu_of hr) (ex_fld (clsT_cons Z.n_Maker Z.cl_Maker Z.a_Maker_rooms clsT_nil) (ex_var 0)) (ex_var 8)) (ex_var 1)) (ax_cons (ex_var 5) (ax_nil)))))) (fun _ _ _ _ _ => ex_var 8))) (ax_nil)))) sc_Maker_goal_behind.nd)
  (ssx_cons (sx_drop (xx_m PySem.F.plainAttrs_list PySem.F.slot_list_append PySem.F.type_list_append mt_append wAppend_ok (ex_var 4) (axx_cons (xx_tup (axx_cons (xx_p (ex_var 6)) (axx_cons (xx_meth (k := 3 + n) (xx_p (ex_var 0)) (methT_cons Z.n_Maker Z.cl_Maker Z.m_Maker_goal_for G_Maker_goal_for (by omega) Z.b_Maker_goal_for (methT_nil)) (hr.mono (by omega)) pass0 (axx_cons (xx_p (ex_add (ex_var 1) (ex_int))) (axx_cons (xx_p (ex_var 7)) (axx_cons (xx_p (ex_var 3)) (axx_nil))))) (axx_nil)))) axx_nil)))
  (ssx_nil))))
  (ssx_cons (sx_ret (xx_meth (k := 1) (xx_p (ex_fld (clsT_cons Z.n_Maker Z.cl_Maker Z.a_Maker_grower clsT_nil) (ex_var 0))) (methT_cons Z.n_Grower Z.cl_Grower Z.m_Grower_goal_of G_Grower_goal_of (by omega) Z.b_Grower_goal_of (methT_nil)) (hr.mono (by omega)) pass0 (axx_cons (xx_p (ex_var 1)) (axx_cons (xx_p (ex_var 4)) (axx_nil)))))
  (ssx_nil))))
theorem w_made {P : Program} {w : World} {K : PySem.W.Frag} {mg : Str → Option Value} {base : Heap} (Z : Tops K mg) (G_Grower_table_behind : FnOk P w K mg base CX0 7 Z.f_Grower_table_behind Z.d_Grower_table_behind ["self", "sides", "goal"] (spG K c_Grower_table_behind)) (G_Maker_init : FnOk P w K mg base CX0 3 Z.f_Maker_init Z.d_Maker_init ["self", "sides", "rooms"] (spG K (@c_Maker_init (wdL w)))) (G_Maker_goal_for : FnOk P w K mg base CX0 13 Z.f_Maker_goal_for Z.d_Maker_goal_for ["self", "field", "alive", "worker"] (spG K (@c_Maker_goal_for (wdL w)))) (cdv : Value) (A : Around) (outer : List Env) (sh : Shared) (H : Hp) (E : XK) (hr : Room 13 (A.deeper (envOfC "made" (defScope st_made) sh.heap.objs.size Z.f_made cdv))) :
    SsX (cxOf CX0 P w K mg base ["mosts", "boxes", "worker", "maker", "goal"] "made" (defScope st_made) Z.f_made cdv A outer sh H E).nox (defBody st_made) (@b_made (wdL w)) :=
  ssx_cons (sx_set 3 (xx_make (k := 3) ⟨Z.n_Maker, Z.k_Maker⟩ G_Maker_init (hr.mono (by decide)) Z.g_Maker Z.b_Maker_init pass0 (axx_cons (xx_p (ex_var 0)) (axx_cons (xx_p (ex_var 1)) (axx_nil)))) sc_made.nd)
  (ssx_cons (sx_set 4 (xx_meth (k := 13) (xx_p (ex_var 3)) (methT_cons Z.n_Maker Z.cl_Maker Z.m_Maker_goal_for G_Maker_goal_for (by decide) Z.b_Maker_goal_for (methT_nil)) (hr.mono (by decide)) pass0 (axx_cons (xx_p (ex_int)) (axx_cons (xx_p (ex_tupRg rfl Z.z_tuple Z.z_range (ex_bi ((CallR.or call_len call_lenD)) (wLen_ok) (by decide +kernel) Z.z_len (ax_cons (ex_var 1) (ax_nil))))) (axx_cons (xx_p (ex_var 2)) (axx_nil))))) sc_made.nd)
  (ssx_cons (sx_ret (xx_meth (k := 7) (xx_p (ex_fld (clsT_cons Z.n_Maker Z.cl_Maker Z.a_Maker_grower clsT_nil) (ex_var 3))) (methT_cons Z.n_Grower Z.cl_Grower Z.m_Grower_table_behind G_Grower_table_behind (by decide) Z.b_Grower_table_behind (methT_nil)) (hr.mono (by decide)) pass0 (axx_cons (xx_p (ex_var 0)) (axx_cons (xx_p (ex_var 4)) (axx_nil)))))
  (ssx_nil)))
theorem w_law_right {P : Program} {w : World} {K : PySem.W.Frag} {mg : Str → Option Value} {base : Heap} (Z : Tops K mg) (G_made : FnOk P w K mg base CX0 14 Z.f_made Z.d_made ["mosts", "boxes", "worker"] (spG K (@c_made (wdL w)))) (G_law_mixed : FnOk P w K mg base CX0 1 Z.f_law_mixed Z.d_law_mixed ["_law_cell", "_law_k"] (spT K Phi_law_mixed)) (G_law_halves : FnOk P w K mg base CX0 3 Z.f_law_halves Z.d_law_halves ["_law_cell", "_law_mosts_here", "_law_box"] (spN K Phi_law_halves)) (G_law_same : FnOk P w K mg base CX0 2 Z.f_law_same Z.d_law_same ["_law_one", "_law_other"] (spG K c_law_same)) (TB : LamX.TabB base mg (He.cT K ("_law_right", none)).1 (He.cT K ("_law_right", none)).2) (A : Around) (outer : List Env) (sh : Shared) (H : Hp) (E : XK) (hr : Room 14 (A.deeper (envOfC "_law_right" (defScope st_law_right) sh.heap.objs.size Z.f_law_right (.ref (He.cT K ("_law_right", none)).1)))) :
    SsX (cxOf CX0 P w K mg base ["_law_cells", "_law_mosts_here", "_law_boxes_here", "_law_way", "_law_rows", "_law_k", "_law_box", "_law_half", "_law_worker", "_law_other_worker", "_law_table", "_law_most"] "_law_right" (defScope st_law_right) Z.f_law_right (.ref (He.cT K ("_law_right", none)).1) A outer sh H E).nox (defBody st_law_right) (@b_law_right (wdL w) sh.heap.objs.size) :=
  ssx_cons (sx_set 4 (xx_lst (axx_nil)) sc_law_right.nd)
  (ssx_cons (sx_for PassesOwn.never rfl (ix_enum rfl Z.z_enumerate (ex_var 2)) (gx_tup rfl (gsx_cons (gx_name 5 sc_law_right.nd) (gsx_cons (gx_name 6 sc_law_right.nd) (gsx_nil)))) (ssx_cons (sx_for PassesOwn.never rfl (ix_seq (ex_f (ef_call G_law_halves (hr.mono (by decide)) Z.g_law_halves Z.F_law_halves.kp Z.b_law_halves pass0 (ax_cons (ex_ix (hu_of hr) (ex_var 0) (ex_var 5)) (ax_cons (ex_var 1) (ax_cons (ex_var 6) (ax_nil))))))) (gx_name 7 sc_law_right.nd) (ssx_cons (sx_drop (xx_m PySem.F.plainAttrs_list PySem.F.slot_list_insert PySem.F.type_list_insert mt_insert wInsert_ok (ex_var 4) (axx_cons (xx_p (ex_mod (ex_call G_law_mixed (hr.mono (by decide)) Z.g_law_mixed Z.F_law_mixed.kp Z.b_law_mixed pass0 (ax_cons (ex_ix (hu_of hr) (ex_var 0) (ex_var 5)) (ax_cons (ex_int) (ax_nil)))) (ex_add (ex_bi ((CallR.or call_len call_lenD)) (wLen_ok) (by decide +kernel) Z.z_len (ax_cons (ex_var 4) (ax_nil))) (ex_int)))) (axx_cons (xx_p (ex_tup (ax_cons (ex_var 7) (ax_cons (ex_var 5) (ax_nil))))) axx_nil))))
  (ssx_nil)))
  (ssx_nil)))
  (ssx_cons (sx_ndef (i := 8) (d := ("_law_right", none)) (nm := nm_law_right) (q := "_law_right.<locals>._law_worker") (by decide +kernel) TB rfl (by rfl) (by decide +kernel) (NdefX.ndef_free nd_wk0) rfl rfl (by rfl) sc_law_right.nd rfl (by first | exact .inl (by rfl) | exact .inr (by rfl)) (.inl rfl))
  (ssx_cons (sx_ndef (i := 9) (d := ("_law_right", none)) (nm := nm_law_right) (q := "_law_right.<locals>._law_other_worker") (by decide +kernel) TB rfl (by rfl) (by decide +kernel) (NdefX.ndef_free nd_wk1) rfl rfl (by rfl) sc_law_right.nd rfl (by first | exact .inl (by rfl) | exact .inr (by rfl)) (.inl rfl))
  (ssx_cons (sx_set 10 (xx_callO (W := nfL 0 sh.heap.objs.size) G_made (hr.mono (by decide)) Z.g_made Z.F_made.kp Z.b_made (fun c o => cap_of o (NdefX.ndef_free nd_wk0) (NdefX.ndef_fr nd_wk0) rfl rfl) (axx_cons (xx_p (ex_var 1)) (axx_cons (xx_p (ex_var 2)) (axx_cons (xx_p (ex_var 8)) (axx_nil))))) sc_law_right.nd)
  (ssx_cons (sx_ifX (txx_not (txx_val (xx_call G_law_same (hr.mono (by decide)) Z.g_law_same Z.F_law_same.kp Z.b_law_same pass0 (axx_cons (xx_p (ex_var 10)) (axx_cons (xx_callO (W := nfL 1 sh.heap.objs.size) G_made (hr.mono (by decide)) Z.g_made Z.F_made.kp Z.b_made (fun c o => cap_of o (NdefX.ndef_free nd_wk1) (NdefX.ndef_fr nd_wk1) rfl rfl) (axx_cons (xx_p (ex_var 1)) (axx_cons (xx_p (ex_f (ef_lc [("_law_half", 7), ("_law_k", 5)] rfl sc_law_right.nd (ix_seq (ex_var 4)) (blkOk_by (N := ["_law_cells", "_law_mosts_here", "_law_boxes_here", "_law_way", "_law_rows", "_law_k", "_law_box", "_law_half", "_law_worker", "_law_other_worker", "_law_table", "_law_most"]) (sc := defScope st_law_right) (by decide +kernel)) (by decide) (fun _ _ _ _ _ => gx_tup rfl (gsx_cons (gx_name 7 sc_law_right.nd) (gsx_cons (gx_name 5 sc_law_right.nd) (gsx_nil)))) (fun _ _ _ _ _ => tsx_nil) (fun _ _ _ _ _ => ex_var 7)))) (axx_cons (xx_p (ex_var 9)) (axx_nil))))) (axx_nil)))))) (ssx_cons (sx_ret (xx_p (ex_bl)))
  (ssx_nil)) (ssx_nil))
  (ssx_cons (sx_ret (xx_call G_law_same (hr.mono (by decide)) Z.g_law_same Z.F_law_same.kp Z.b_law_same pass0 (axx_cons (xx_p (ex_var 10)) (axx_cons (xx_callO (W := nfL 0 sh.heap.objs.size) G_made (hr.mono (by decide)) Z.g_made Z.F_made.kp Z.b_made (fun c o => cap_of o (NdefX.ndef_free nd_wk0) (NdefX.ndef_fr nd_wk0) rfl rfl) (axx_cons (xx_p (ex_var 1)) (axx_cons (xx_p (ex_add (ex_var 2) (ex_lst (ax_cons (ex_ty call_tuple_of wTuple_ok (by decide +kernel) Z.z_tuple (ax_cons (ex_f (ef_lc [("_law_most", 11)] rfl sc_law_right.nd (ix_seq (ex_var 1)) (blkOk_by (N := ["_law_cells", "_law_mosts_here", "_law_boxes_here", "_law_way", "_law_rows", "_law_k", "_law_box", "_law_half", "_law_worker", "_law_other_worker", "_law_table", "_law_most"]) (sc := defScope st_law_right) (by decide +kernel)) (by decide) (fun _ _ _ _ _ => gx_name 11 sc_law_right.nd) (fun _ _ _ _ _ => tsx_nil) (fun _ _ _ _ _ => ex_tup (ax_nil)))) (ax_nil))) (ax_nil))))) (axx_cons (xx_p (ex_var 8)) (axx_nil))))) (axx_nil)))))
  (ssx_nil)))))))
theorem w_law {P : Program} {w : World} {K : PySem.W.Frag} {mg : Str → Option Value} {base : Heap} (Z : Tops K mg) (G_law_mixed : FnOk P w K mg base CX0 1 Z.f_law_mixed Z.d_law_mixed ["_law_cell", "_law_k"] (spT K Phi_law_mixed)) (G_law_mosts : FnOk P w K mg base CX0 3 Z.f_law_mosts Z.d_law_mosts ["_law_cell", "_law_many", "_law_is_small"] (spN K Phi_law_mosts)) (G_law_boxes : FnOk P w K mg base CX0 4 Z.f_law_boxes Z.d_law_boxes ["_law_cells", "_law_mosts_here", "_law_pairs"] (spN K Phi_law_boxes)) (G_law_right : FnOk P w K mg base CX0 15 Z.f_law_right Z.d_law_right ["_law_cells", "_law_mosts_here", "_law_boxes_here", "_law_way"] (spG K (@c_law_right (wdL w)))) (cdv : Value) (A : Around) (outer : List Env) (sh : Shared) (H : Hp) (E : XK) (hr : Room 15 (A.deeper (envOfC "law" (defScope st_law) sh.heap.objs.size Z.f_law cdv))) :
    SsX (cxOf CX0 P w K mg base ["_law_script", "_law_cells", "_law_k", "_law_some", "_law_first", "_law_mosts_here", "_law_cell"] "law" (defScope st_law) Z.f_law cdv A outer sh H E).nox (defBody st_law) (@b_law (wdL w)) :=
  ssx_cons (sx_set 1 (xx_p (ex_f (ef_ty (cr_listA rfl) wListA_ok (by decide +kernel) Z.z_list (ax_cons (ex_sl (ex_var 0) (ox_none) (ox_some (ex_int))) (ax_nil))))) sc_law.nd)
  (ssx_cons (sx_for PassesOwn.never rfl (ix_range3 rfl Z.z_range (ex_int) (ex_add (ex_bi ((CallR.or call_len call_lenD)) (wLen_ok) (by decide +kernel) Z.z_len (ax_cons (ex_var 1) (ax_nil))) (ex_int)) (ex_int)) (gx_name 2 sc_law.nd) (ssx_cons (sx_set 3 (xx_p (ex_sl (ex_var 1) (ox_some (ex_var 2)) (ox_some (ex_add (ex_var 2) (ex_int))))) sc_law.nd)
  (ssx_cons (sx_set 4 (xx_p (ex_call G_law_mixed (hr.mono (by decide)) Z.g_law_mixed Z.F_law_mixed.kp Z.b_law_mixed pass0 (ax_cons (ex_bi ((cr_sum rfl)) (wSum_ok) (by decide +kernel) Z.z_sum (ax_cons (ex_f (ef_lc [("_law_cell", 6)] rfl sc_law.nd (ix_seq (ex_var 3)) (blkOk_by (N := ["_law_script", "_law_cells", "_law_k", "_law_some", "_law_first", "_law_mosts_here", "_law_cell"]) (sc := defScope st_law) (by decide +kernel)) (by decide) (fun _ _ _ _ _ => gx_name 6 sc_law.nd) (fun _ _ _ _ _ => tsx_nil) (fun _ _ _ _ _ => ex_call G_law_mixed (hr.mono (by decide)) Z.g_law_mixed Z.F_law_mixed.kp Z.b_law_mixed pass0 (ax_cons (ex_var 6) (ax_cons (ex_int) (ax_nil)))))) (ax_nil))) (ax_cons (ex_var 2) (ax_nil))))) sc_law.nd)
  (ssx_cons (sx_set 5 (xx_p (ex_f (ef_call G_law_mosts (hr.mono (by decide)) Z.g_law_mosts Z.F_law_mosts.kp Z.b_law_mosts pass0 (ax_cons (ex_var 4) (ax_cons (ex_add (ex_int) (ex_mod (ex_var 4) (ex_int))) (ax_cons (ex_eq hr.units (ex_mod (ex_div (ex_var 4) (ex_int)) (ex_int)) (ex_int)) (ax_nil))))))) sc_law.nd)
  (ssx_cons (sx_ifX (txx_not (txx_val (xx_call G_law_right (hr.mono (by decide)) Z.g_law_right Z.F_law_right.kp Z.b_law_right pass0 (axx_cons (xx_p (ex_var 3)) (axx_cons (xx_p (ex_var 5)) (axx_cons (xx_p (ex_f (ef_call G_law_boxes (hr.mono (by decide)) Z.g_law_boxes Z.F_law_boxes.kp Z.b_law_boxes pass0 (ax_cons (ex_var 3) (ax_cons (ex_var 5) (ax_cons (ex_int) (ax_nil))))))) (axx_cons (xx_p (ex_div (ex_var 4) (ex_int))) (axx_nil)))))))) (ssx_cons (sx_ret (xx_p (ex_bl)))
  (ssx_nil)) (ssx_nil))
  (ssx_nil))))))
  (ssx_cons (sx_ret (xx_p (ex_bl)))
  (ssx_nil)))
end
end Gw
namespace Gw
open PySem PySem.Spec PyProof.Rows L2 RZ
def hTabs : TabL := [(("_law_right", none), nm_law_right)]
theorem ok_has {P : Program} {w : World} {K : PySem.W.Frag} {mg : Str → Option Value} {base : Heap} (Z : Tops K mg) (TB : ∀ p ∈ hTabs, LamX.TabB base mg (He.cT K p.1).1 (He.cT K p.1).2) : FnOk P w K mg base CX0 1 Z.f_has Z.d_has ["one", "number"] (spT K Phi_has) :=
  fn_T Z.F_has sc_has len_has nro_has (w_has Z ) sem_has
theorem ok_parts {P : Program} {w : World} {K : PySem.W.Frag} {mg : Str → Option Value} {base : Heap} (Z : Tops K mg) (TB : ∀ p ∈ hTabs, LamX.TabB base mg (He.cT K p.1).1 (He.cT K p.1).2) : FnOk P w K mg base CX0 1 Z.f_parts Z.d_parts ["most", "some"] (spN K Phi_parts) :=
  fn_N Z.F_parts sc_parts len_parts nro_parts (w_parts Z ) sem_parts
theorem ok_Table_init {P : Program} {w : World} {K : PySem.W.Frag} {mg : Str → Option Value} {base : Heap} (Z : Tops K mg) (TB : ∀ p ∈ hTabs, LamX.TabB base mg (He.cT K p.1).1 (He.cT K p.1).2) : FnOk P w K mg base CX0 1 Z.f_Table_init Z.d_Table_init ["self", "sides", "first_goal", "kept_tests"] (spG K c_Table_init) :=
  fn_G Z.F_Table_init sc_Table_init (w_Table_init Z )
theorem ok_Table_mosts {P : Program} {w : World} {K : PySem.W.Frag} {mg : Str → Option Value} {base : Heap} (Z : Tops K mg) (TB : ∀ p ∈ hTabs, LamX.TabB base mg (He.cT K p.1).1 (He.cT K p.1).2) : FnOk P w K mg base CX0 1 Z.f_Table_mosts Z.d_Table_mosts ["self"] (spG K c_Table_mosts) :=
  fn_G Z.F_Table_mosts sc_Table_mosts (w_Table_mosts Z )
theorem ok_Table_top {P : Program} {w : World} {K : PySem.W.Frag} {mg : Str → Option Value} {base : Heap} (Z : Tops K mg) (TB : ∀ p ∈ hTabs, LamX.TabB base mg (He.cT K p.1).1 (He.cT K p.1).2) : FnOk P w K mg base CX0 1 Z.f_Table_top Z.d_Table_top ["self"] (spG K c_Table_top) :=
  fn_G Z.F_Table_top sc_Table_top (w_Table_top Z )
theorem ok_Table_tests {P : Program} {w : World} {K : PySem.W.Frag} {mg : Str → Option Value} {base : Heap} (Z : Tops K mg) (TB : ∀ p ∈ hTabs, LamX.TabB base mg (He.cT K p.1).1 (He.cT K p.1).2) : FnOk P w K mg base CX0 1 Z.f_Table_tests Z.d_Table_tests ["self"] (spG K c_Table_tests) :=
  fn_G Z.F_Table_tests sc_Table_tests (w_Table_tests Z )
theorem okd_number_tests {P : Program} {w : World} {K : PySem.W.Frag} {mg : Str → Option Value} {base : Heap} (Z : Tops K mg) (TB : ∀ p ∈ hTabs, LamX.TabB base mg (He.cT K p.1).1 (He.cT K p.1).2) : ∀ n : Nat, FnOk P w K mg base CX0 (0 + n) Z.f_number_tests Z.d_number_tests ["tests", "goal", "found"] (spG K (cD_number_tests n))
  | 0 => fnG_none
  | n + 1 => fn_G Z.F_number_tests sc_number_tests (w_number_tests Z  (okd_number_tests Z TB n))
theorem ok_number_tests {P : Program} {w : World} {K : PySem.W.Frag} {mg : Str → Option Value} {base : Heap} (Z : Tops K mg) (TB : ∀ p ∈ hTabs, LamX.TabB base mg (He.cT K p.1).1 (He.cT K p.1).2) : FnOk P w K mg base CX0 6 Z.f_number_tests Z.d_number_tests ["tests", "goal", "found"] (spG K c_number_tests) := okd_number_tests Z TB 6
theorem ok_goal_by {P : Program} {w : World} {K : PySem.W.Frag} {mg : Str → Option Value} {base : Heap} (Z : Tops K mg) (TB : ∀ p ∈ hTabs, LamX.TabB base mg (He.cT K p.1).1 (He.cT K p.1).2) : FnOk P w K mg base CX0 1 Z.f_goal_by Z.d_goal_by ["goal", "found"] (spG K c_goal_by) :=
  fn_G Z.F_goal_by sc_goal_by (w_goal_by Z )
theorem ok_Grower_init {P : Program} {w : World} {K : PySem.W.Frag} {mg : Str → Option Value} {base : Heap} (Z : Tops K mg) (TB : ∀ p ∈ hTabs, LamX.TabB base mg (He.cT K p.1).1 (He.cT K p.1).2) : FnOk P w K mg base CX0 1 Z.f_Grower_init Z.d_Grower_init ["self"] (spG K (@c_Grower_init (wdL w))) :=
  fn_G Z.F_Grower_init sc_Grower_init (w_Grower_init Z )
theorem ok_Grower_goal_of {P : Program} {w : World} {K : PySem.W.Frag} {mg : Str → Option Value} {base : Heap} (Z : Tops K mg) (TB : ∀ p ∈ hTabs, LamX.TabB base mg (He.cT K p.1).1 (He.cT K p.1).2) : FnOk P w K mg base CX0 1 Z.f_Grower_goal_of Z.d_Grower_goal_of ["self", "field", "ways"] (spG K (@c_Grower_goal_of (wdL w))) :=
  fn_G Z.F_Grower_goal_of sc_Grower_goal_of (w_Grower_goal_of Z )
theorem ok_Grower_table_behind {P : Program} {w : World} {K : PySem.W.Frag} {mg : Str → Option Value} {base : Heap} (Z : Tops K mg) (TB : ∀ p ∈ hTabs, LamX.TabB base mg (He.cT K p.1).1 (He.cT K p.1).2) : FnOk P w K mg base CX0 7 Z.f_Grower_table_behind Z.d_Grower_table_behind ["self", "sides", "goal"] (spG K c_Grower_table_behind) :=
  fn_G Z.F_Grower_table_behind sc_Grower_table_behind (w_Grower_table_behind Z (ok_Table_init Z TB) (ok_number_tests Z TB) (ok_goal_by Z TB))
theorem ok_Maker_init {P : Program} {w : World} {K : PySem.W.Frag} {mg : Str → Option Value} {base : Heap} (Z : Tops K mg) (TB : ∀ p ∈ hTabs, LamX.TabB base mg (He.cT K p.1).1 (He.cT K p.1).2) : FnOk P w K mg base CX0 3 Z.f_Maker_init Z.d_Maker_init ["self", "sides", "rooms"] (spG K (@c_Maker_init (wdL w))) :=
  fn_G Z.F_Maker_init sc_Maker_init (w_Maker_init Z (ok_Grower_init Z TB))
theorem ok_law_mixed {P : Program} {w : World} {K : PySem.W.Frag} {mg : Str → Option Value} {base : Heap} (Z : Tops K mg) (TB : ∀ p ∈ hTabs, LamX.TabB base mg (He.cT K p.1).1 (He.cT K p.1).2) : FnOk P w K mg base CX0 1 Z.f_law_mixed Z.d_law_mixed ["_law_cell", "_law_k"] (spT K Phi_law_mixed) :=
  fn_T Z.F_law_mixed sc_law_mixed len_law_mixed nro_law_mixed (w_law_mixed Z ) sem_law_mixed
theorem ok_law_great {P : Program} {w : World} {K : PySem.W.Frag} {mg : Str → Option Value} {base : Heap} (Z : Tops K mg) (TB : ∀ p ∈ hTabs, LamX.TabB base mg (He.cT K p.1).1 (He.cT K p.1).2) : FnOk P w K mg base CX0 2 Z.f_law_great Z.d_law_great ["_law_cell", "_law_k"] (spT K Phi_law_great) :=
  fn_T Z.F_law_great sc_law_great len_law_great nro_law_great (w_law_great Z (ok_law_mixed Z TB)) sem_law_great
theorem ok_law_mosts {P : Program} {w : World} {K : PySem.W.Frag} {mg : Str → Option Value} {base : Heap} (Z : Tops K mg) (TB : ∀ p ∈ hTabs, LamX.TabB base mg (He.cT K p.1).1 (He.cT K p.1).2) : FnOk P w K mg base CX0 3 Z.f_law_mosts Z.d_law_mosts ["_law_cell", "_law_many", "_law_is_small"] (spN K Phi_law_mosts) :=
  fn_N Z.F_law_mosts sc_law_mosts len_law_mosts nro_law_mosts (w_law_mosts Z (ok_law_mixed Z TB) (ok_law_great Z TB)) sem_law_mosts
theorem ok_law_some_set {P : Program} {w : World} {K : PySem.W.Frag} {mg : Str → Option Value} {base : Heap} (Z : Tops K mg) (TB : ∀ p ∈ hTabs, LamX.TabB base mg (He.cT K p.1).1 (He.cT K p.1).2) : FnOk P w K mg base CX0 3 Z.f_law_some_set Z.d_law_some_set ["_law_cell", "_law_most", "_law_pairs"] (spT K Phi_law_some_set) :=
  fn_T Z.F_law_some_set sc_law_some_set len_law_some_set nro_law_some_set (w_law_some_set Z (ok_law_mixed Z TB) (ok_law_great Z TB)) sem_law_some_set
theorem ok_law_boxes {P : Program} {w : World} {K : PySem.W.Frag} {mg : Str → Option Value} {base : Heap} (Z : Tops K mg) (TB : ∀ p ∈ hTabs, LamX.TabB base mg (He.cT K p.1).1 (He.cT K p.1).2) : FnOk P w K mg base CX0 4 Z.f_law_boxes Z.d_law_boxes ["_law_cells", "_law_mosts_here", "_law_pairs"] (spN K Phi_law_boxes) :=
  fn_N Z.F_law_boxes sc_law_boxes len_law_boxes nro_law_boxes (w_law_boxes Z (ok_law_mixed Z TB) (ok_law_some_set Z TB)) sem_law_boxes
theorem ok_law_leaf {P : Program} {w : World} {K : PySem.W.Frag} {mg : Str → Option Value} {base : Heap} (Z : Tops K mg) (TB : ∀ p ∈ hTabs, LamX.TabB base mg (He.cT K p.1).1 (He.cT K p.1).2) : FnOk P w K mg base CX0 1 Z.f_law_leaf Z.d_law_leaf ["_law_places", "_law_way"] (spT K Phi_law_leaf) :=
  fn_T Z.F_law_leaf sc_law_leaf len_law_leaf nro_law_leaf (w_law_leaf Z ) sem_law_leaf
theorem ok_law_halves {P : Program} {w : World} {K : PySem.W.Frag} {mg : Str → Option Value} {base : Heap} (Z : Tops K mg) (TB : ∀ p ∈ hTabs, LamX.TabB base mg (He.cT K p.1).1 (He.cT K p.1).2) : FnOk P w K mg base CX0 3 Z.f_law_halves Z.d_law_halves ["_law_cell", "_law_mosts_here", "_law_box"] (spN K Phi_law_halves) :=
  fn_N Z.F_law_halves sc_law_halves len_law_halves nro_law_halves (w_law_halves Z (ok_law_mixed Z TB) (ok_law_great Z TB)) sem_law_halves
theorem ok_law_same {P : Program} {w : World} {K : PySem.W.Frag} {mg : Str → Option Value} {base : Heap} (Z : Tops K mg) (TB : ∀ p ∈ hTabs, LamX.TabB base mg (He.cT K p.1).1 (He.cT K p.1).2) : FnOk P w K mg base CX0 2 Z.f_law_same Z.d_law_same ["_law_one", "_law_other"] (spG K c_law_same) :=
  fn_G Z.F_law_same sc_law_same (w_law_same Z (ok_Table_mosts Z TB) (ok_Table_top Z TB) (ok_Table_tests Z TB))
theorem ok_wk0 {P : Program} {w : World} {K : PySem.W.Frag} {mg : Str → Option Value} {base : Heap} (Z : Tops K mg) (TB : ∀ p ∈ hTabs, LamX.TabB base mg (He.cT K p.1).1 (He.cT K p.1).2) (L c f : Addr) : WkOk P w K mg base 2 f (nfL 0 L c) (spGW K (bodyW 1 2 b_wk0)) :=
  fn_W (nf := nfL 0 L c) sc_wk0 ((freeK_eq _ _ _).trans (by decide +kernel)) (fun doc pm ctv uu h => match uu, h with | [_], _ => rfl) fun A outer sh H E hr => w_wk0 Z (ok_law_leaf Z TB) L c f A outer sh H E hr
theorem ok_wk1 {P : Program} {w : World} {K : PySem.W.Frag} {mg : Str → Option Value} {base : Heap} (Z : Tops K mg) (TB : ∀ p ∈ hTabs, LamX.TabB base mg (He.cT K p.1).1 (He.cT K p.1).2) (L c f : Addr) : WkOk P w K mg base 2 f (nfL 1 L c) (spGW K (bodyW 1 4 b_wk1)) :=
  fn_W (nf := nfL 1 L c) sc_wk1 ((freeK_eq _ _ _).trans (by decide +kernel)) (fun doc pm ctv uu h => match uu, h with | [_], _ => rfl) fun A outer sh H E hr => w_wk1 Z (ok_law_leaf Z TB) L c f A outer sh H E hr
theorem ok_wk {P : Program} {w : World} {K : PySem.W.Frag} {mg : Str → Option Value} {base : Heap} (Z : Tops K mg) (TB : ∀ p ∈ hTabs, LamX.TabB base mg (He.cT K p.1).1 (He.cT K p.1).2) (f : Addr) (nf : NdefX.NF) : WkOk P w K mg base 2 f nf (spGW K (@c_wk (wdL w) nf)) :=
  wk_or (c1 := bodyW 1 2 b_wk0) (c2 := bodyW 1 4 b_wk1) fun caps ds μ Q q => by
    rcases q with ⟨L, c, rfl, q⟩ | ⟨L, c, rfl, q⟩
    · exact .inl ⟨q, (ok_wk0 Z TB L c f).mono (by decide)⟩
    · exact .inr ⟨q, (ok_wk1 Z TB L c f).mono (by decide)⟩
theorem okm_Maker_goal_behind {P : Program} {w : World} {K : PySem.W.Frag} {mg : Str → Option Value} {base : Heap} (Z : Tops K mg) (TB : ∀ p ∈ hTabs, LamX.TabB base mg (He.cT K p.1).1 (He.cT K p.1).2) : ∀ n : Nat, FnOk P w K mg base CX0 (3 + n) Z.f_Maker_goal_behind Z.d_Maker_goal_behind ["self", "field", "alive", "worker"] (spG K (@cM_Maker_goal_behind (wdL w) n).1) ∧ FnOk P w K mg base CX0 (3 + n) Z.f_Maker_goal_for Z.d_Maker_goal_for ["self", "field", "alive", "worker"] (spG K (@cM_Maker_goal_behind (wdL w) n).2)
  | 0 => ⟨fn_none, fn_none⟩
  | n + 1 => ⟨fn_G Z.F_Maker_goal_behind sc_Maker_goal_behind (w_Maker_goal_behind Z (ok_has Z TB) (ok_parts Z TB) (ok_Grower_goal_of Z TB) (ok_wk Z TB) (okm_Maker_goal_behind Z TB n).2),
    fn_G Z.F_Maker_goal_for sc_Maker_goal_for (w_Maker_goal_for Z  (okm_Maker_goal_behind Z TB n).1)⟩
theorem ok_Maker_goal_for {P : Program} {w : World} {K : PySem.W.Frag} {mg : Str → Option Value} {base : Heap} (Z : Tops K mg) (TB : ∀ p ∈ hTabs, LamX.TabB base mg (He.cT K p.1).1 (He.cT K p.1).2) : FnOk P w K mg base CX0 13 Z.f_Maker_goal_for Z.d_Maker_goal_for ["self", "field", "alive", "worker"] (spG K (@c_Maker_goal_for (wdL w))) := (okm_Maker_goal_behind Z TB 10).2
theorem ok_made {P : Program} {w : World} {K : PySem.W.Frag} {mg : Str → Option Value} {base : Heap} (Z : Tops K mg) (TB : ∀ p ∈ hTabs, LamX.TabB base mg (He.cT K p.1).1 (He.cT K p.1).2) : FnOk P w K mg base CX0 14 Z.f_made Z.d_made ["mosts", "boxes", "worker"] (spG K (@c_made (wdL w))) :=
  fn_G Z.F_made sc_made (w_made Z (ok_Grower_table_behind Z TB) (ok_Maker_init Z TB) (ok_Maker_goal_for Z TB))
theorem ok_law_right {P : Program} {w : World} {K : PySem.W.Frag} {mg : Str → Option Value} {base : Heap} (Z : Tops K mg) (TB : ∀ p ∈ hTabs, LamX.TabB base mg (He.cT K p.1).1 (He.cT K p.1).2) : FnOk P w K mg base CX0 15 Z.f_law_right Z.d_law_right ["_law_cells", "_law_mosts_here", "_law_boxes_here", "_law_way"] (spG K (@c_law_right (wdL w))) :=
  fn_GLC Z.F_law_right Z.co_law_right sc_law_right (w_law_right Z (ok_made Z TB) (ok_law_mixed Z TB) (ok_law_halves Z TB) (ok_law_same Z TB) (TB _ List.mem_cons_self))
theorem ok_law {P : Program} {w : World} {K : PySem.W.Frag} {mg : Str → Option Value} {base : Heap} (Z : Tops K mg) (TB : ∀ p ∈ hTabs, LamX.TabB base mg (He.cT K p.1).1 (He.cT K p.1).2) : FnOk P w K mg base CX0 16 Z.f_law Z.d_law ["_law_script"] (spG K (@c_law (wdL w))) :=
  fn_G Z.F_law sc_law (w_law Z (ok_law_mixed Z TB) (ok_law_mosts Z TB) (ok_law_boxes Z TB) (ok_law_right Z TB))
theorem hAll {w : World} {K : PySem.W.Frag} {h : Heap} {mg : Str → Option Value} {fa : Addr} (X : K.In h) (G : h.Ns mainGlobals mg) (hfa : mg "law" = some (.ref fa)) (g : hEx K = true) (c : He.SaysE hFa hFn K)
    : ∃ fd : FuncData, (∀ (s : Shared) (v : Value), BindsTo s fd ⟨[v], []⟩ [("_law_script", v)]) ∧ ∀ base : Heap, K.In base → base.Ns mainGlobals mg → (∀ p ∈ hTabs, LamX.TabB base mg (He.cT K p.1).1 (He.cT K p.1).2) → FnOk (PySem.Challenge.rw_gatewright_k43_made_otherwise).prog w K mg base CX0 16 fa fd ["_law_script"] (spG K (@c_law (wdL w))) := by
  have g : (hGx.all fun z => z.ok K) = true := g
  have e := hfa.symm.trans (He.glo_ok X G (c.fact 57 (f := .glo "law") rfl))
  have e : fa = He.fAd K ("law", none) := by injection e with e; injection e
  subst e
  obtain ⟨_, F0, _, _, _, _, _, _, rfl⟩ := fun_told c 0 (p := ("has", none)) (name := "has") (qual := "has") (st := st_has) rfl (He.keep_ok (c.fact 15 (f := .keep "has") rfl))
  have b0 := F0.binds (ps := ["one", "number"]) fun _ _ _ _ _ _ us hl => match us, hl with | [_, _], _ => rfl
  obtain ⟨_, F1, _, _, _, _, _, _, rfl⟩ := fun_told c 1 (p := ("parts", none)) (name := "parts") (qual := "parts") (st := st_parts) rfl (He.keep_ok (c.fact 17 (f := .keep "parts") rfl))
  have b1 := F1.binds (ps := ["most", "some"]) fun _ _ _ _ _ _ us hl => match us, hl with | [_, _], _ => rfl
  obtain ⟨_, F2, _, _, _, _, _, _, rfl⟩ := fun_told c 2 (p := ("Table", some "__init__")) (name := "__init__") (qual := "Table.__init__") (st := st_Table_init) rfl (He.meth_ok (c.fact 19 (f := .meth "Table" "__init__") rfl)).kp
  have b2 := F2.binds (ps := ["self", "sides", "first_goal", "kept_tests"]) fun _ _ _ _ _ _ us hl => match us, hl with | [_, _, _, _], _ => rfl
  obtain ⟨_, F3, _, _, _, _, _, _, rfl⟩ := fun_told c 3 (p := ("Table", some "mosts")) (name := "mosts") (qual := "Table.mosts") (st := st_Table_mosts) rfl (He.meth_ok (c.fact 21 (f := .meth "Table" "mosts") rfl)).kp
  have b3 := F3.binds (ps := ["self"]) fun _ _ _ _ _ _ us hl => match us, hl with | [_], _ => rfl
  obtain ⟨_, F4, _, _, _, _, _, _, rfl⟩ := fun_told c 4 (p := ("Table", some "top")) (name := "top") (qual := "Table.top") (st := st_Table_top) rfl (He.meth_ok (c.fact 22 (f := .meth "Table" "top") rfl)).kp
  have b4 := F4.binds (ps := ["self"]) fun _ _ _ _ _ _ us hl => match us, hl with | [_], _ => rfl
  obtain ⟨_, F5, _, _, _, _, _, _, rfl⟩ := fun_told c 5 (p := ("Table", some "tests")) (name := "tests") (qual := "Table.tests") (st := st_Table_tests) rfl (He.meth_ok (c.fact 23 (f := .meth "Table" "tests") rfl)).kp
  have b5 := F5.binds (ps := ["self"]) fun _ _ _ _ _ _ us hl => match us, hl with | [_], _ => rfl
  obtain ⟨_, F6, _, _, _, _, _, _, rfl⟩ := fun_told c 6 (p := ("number_tests", none)) (name := "number_tests") (qual := "number_tests") (st := st_number_tests) rfl (He.keep_ok (c.fact 24 (f := .keep "number_tests") rfl))
  have b6 := F6.binds (ps := ["tests", "goal", "found"]) fun _ _ _ _ _ _ us hl => match us, hl with | [_, _, _], _ => rfl
  obtain ⟨_, F7, _, _, _, _, _, _, rfl⟩ := fun_told c 7 (p := ("goal_by", none)) (name := "goal_by") (qual := "goal_by") (st := st_goal_by) rfl (He.keep_ok (c.fact 26 (f := .keep "goal_by") rfl))
  have b7 := F7.binds (ps := ["goal", "found"]) fun _ _ _ _ _ _ us hl => match us, hl with | [_, _], _ => rfl
  obtain ⟨_, F8, _, _, _, _, _, _, rfl⟩ := fun_told c 8 (p := ("Grower", some "__init__")) (name := "__init__") (qual := "Grower.__init__") (st := st_Grower_init) rfl (He.meth_ok (c.fact 28 (f := .meth "Grower" "__init__") rfl)).kp
  have b8 := F8.binds (ps := ["self"]) fun _ _ _ _ _ _ us hl => match us, hl with | [_], _ => rfl
  obtain ⟨_, F9, _, _, _, _, _, _, rfl⟩ := fun_told c 9 (p := ("Grower", some "goal_of")) (name := "goal_of") (qual := "Grower.goal_of") (st := st_Grower_goal_of) rfl (He.meth_ok (c.fact 30 (f := .meth "Grower" "goal_of") rfl)).kp
  have b9 := F9.binds (ps := ["self", "field", "ways"]) fun _ _ _ _ _ _ us hl => match us, hl with | [_, _, _], _ => rfl
  obtain ⟨_, F10, _, _, _, _, _, _, rfl⟩ := fun_told c 10 (p := ("Grower", some "table_behind")) (name := "table_behind") (qual := "Grower.table_behind") (st := st_Grower_table_behind) rfl (He.meth_ok (c.fact 31 (f := .meth "Grower" "table_behind") rfl)).kp
  have b10 := F10.binds (ps := ["self", "sides", "goal"]) fun _ _ _ _ _ _ us hl => match us, hl with | [_, _, _], _ => rfl
  obtain ⟨_, F11, _, _, _, _, _, _, rfl⟩ := fun_told c 11 (p := ("Maker", some "__init__")) (name := "__init__") (qual := "Maker.__init__") (st := st_Maker_init) rfl (He.meth_ok (c.fact 32 (f := .meth "Maker" "__init__") rfl)).kp
  have b11 := F11.binds (ps := ["self", "sides", "rooms"]) fun _ _ _ _ _ _ us hl => match us, hl with | [_, _, _], _ => rfl
  obtain ⟨_, F12, _, _, _, _, _, _, rfl⟩ := fun_told c 12 (p := ("Maker", some "goal_for")) (name := "goal_for") (qual := "Maker.goal_for") (st := st_Maker_goal_for) rfl (He.meth_ok (c.fact 34 (f := .meth "Maker" "goal_for") rfl)).kp
  have b12 := F12.binds (ps := ["self", "field", "alive", "worker"]) fun _ _ _ _ _ _ us hl => match us, hl with | [_, _, _, _], _ => rfl
  obtain ⟨_, F13, _, _, _, _, _, _, rfl⟩ := fun_told c 13 (p := ("_law_mixed", none)) (name := "_law_mixed") (qual := "_law_mixed") (st := st_law_mixed) rfl (He.keep_ok (c.fact 35 (f := .keep "_law_mixed") rfl))
  have b13 := F13.binds (ps := ["_law_cell", "_law_k"]) fun _ _ _ _ _ _ us hl => match us, hl with | [_, _], _ => rfl
  obtain ⟨_, F14, _, _, _, _, _, _, rfl⟩ := fun_told c 14 (p := ("_law_great", none)) (name := "_law_great") (qual := "_law_great") (st := st_law_great) rfl (He.keep_ok (c.fact 37 (f := .keep "_law_great") rfl))
  have b14 := F14.binds (ps := ["_law_cell", "_law_k"]) fun _ _ _ _ _ _ us hl => match us, hl with | [_, _], _ => rfl
  obtain ⟨_, F15, _, _, _, _, _, _, rfl⟩ := fun_told c 15 (p := ("_law_mosts", none)) (name := "_law_mosts") (qual := "_law_mosts") (st := st_law_mosts) rfl (He.keep_ok (c.fact 39 (f := .keep "_law_mosts") rfl))
  have b15 := F15.binds (ps := ["_law_cell", "_law_many", "_law_is_small"]) fun _ _ _ _ _ _ us hl => match us, hl with | [_, _, _], _ => rfl
  obtain ⟨_, F16, _, _, _, _, _, _, rfl⟩ := fun_told c 16 (p := ("_law_some_set", none)) (name := "_law_some_set") (qual := "_law_some_set") (st := st_law_some_set) rfl (He.keep_ok (c.fact 41 (f := .keep "_law_some_set") rfl))
  have b16 := F16.binds (ps := ["_law_cell", "_law_most", "_law_pairs"]) fun _ _ _ _ _ _ us hl => match us, hl with | [_, _, _], _ => rfl
  obtain ⟨_, F17, _, _, _, _, _, _, rfl⟩ := fun_told c 17 (p := ("_law_boxes", none)) (name := "_law_boxes") (qual := "_law_boxes") (st := st_law_boxes) rfl (He.keep_ok (c.fact 43 (f := .keep "_law_boxes") rfl))
  have b17 := F17.binds (ps := ["_law_cells", "_law_mosts_here", "_law_pairs"]) fun _ _ _ _ _ _ us hl => match us, hl with | [_, _, _], _ => rfl
  obtain ⟨_, F18, _, _, _, _, _, _, rfl⟩ := fun_told c 18 (p := ("_law_leaf", none)) (name := "_law_leaf") (qual := "_law_leaf") (st := st_law_leaf) rfl (He.keep_ok (c.fact 45 (f := .keep "_law_leaf") rfl))
  have b18 := F18.binds (ps := ["_law_places", "_law_way"]) fun _ _ _ _ _ _ us hl => match us, hl with | [_, _], _ => rfl
  obtain ⟨_, F19, _, _, _, _, _, _, rfl⟩ := fun_told c 19 (p := ("_law_halves", none)) (name := "_law_halves") (qual := "_law_halves") (st := st_law_halves) rfl (He.keep_ok (c.fact 47 (f := .keep "_law_halves") rfl))
  have b19 := F19.binds (ps := ["_law_cell", "_law_mosts_here", "_law_box"]) fun _ _ _ _ _ _ us hl => match us, hl with | [_, _, _], _ => rfl
  obtain ⟨_, F20, _, _, _, _, _, _, rfl⟩ := fun_told c 20 (p := ("_law_same", none)) (name := "_law_same") (qual := "_law_same") (st := st_law_same) rfl (He.keep_ok (c.fact 49 (f := .keep "_law_same") rfl))
  have b20 := F20.binds (ps := ["_law_one", "_law_other"]) fun _ _ _ _ _ _ us hl => match us, hl with | [_, _], _ => rfl
  obtain ⟨_, F21, _, _, _, _, _, _, rfl⟩ := fun_told c 21 (p := ("Maker", some "goal_behind")) (name := "goal_behind") (qual := "Maker.goal_behind") (st := st_Maker_goal_behind) rfl (He.meth_ok (c.fact 51 (f := .meth "Maker" "goal_behind") rfl)).kp
  have b21 := F21.binds (ps := ["self", "field", "alive", "worker"]) fun _ _ _ _ _ _ us hl => match us, hl with | [_, _, _, _], _ => rfl
  obtain ⟨_, F22, _, _, _, _, _, _, rfl⟩ := fun_told c 22 (p := ("made", none)) (name := "made") (qual := "made") (st := st_made) rfl (He.keep_ok (c.fact 52 (f := .keep "made") rfl))
  have b22 := F22.binds (ps := ["mosts", "boxes", "worker"]) fun _ _ _ _ _ _ us hl => match us, hl with | [_, _, _], _ => rfl
  obtain ⟨_, F23, co23, _, _, _, _, _, _, rfl⟩ := fun_tab c 23 (p := ("_law_right", none)) (name := "_law_right") (qual := "_law_right") (st := st_law_right) rfl (He.keep_ok (c.fact 54 (f := .keep "_law_right") rfl))
  have b23 := F23.binds (ps := ["_law_cells", "_law_mosts_here", "_law_boxes_here", "_law_way"]) fun _ _ _ _ _ _ us hl => match us, hl with | [_, _, _, _], _ => rfl
  obtain ⟨_, F24, _, _, _, _, _, _, rfl⟩ := fun_told c 24 (p := ("law", none)) (name := "law") (qual := "law") (st := st_law) rfl (He.keep_ok (c.fact 56 (f := .keep "law") rfl))
  have b24 := F24.binds (ps := ["_law_script"]) fun _ _ _ _ _ _ us hl => match us, hl with | [_], _ => rfl
  let tc : TopC K mg := { C_Table := He.ga K "Table", C_Grower := He.ga K "Grower", C_Maker := He.ga K "Maker" }
  let ta0 : TopA0 K mg tc := { n_Table := He.eqO_ok (c.fact 0 (f := .glo "Table") rfl), g_Table := He.glo_ok X G (c.fact 0 (f := .glo "Table") rfl), cl_Table := He.cls_ok (c.fact 3 (f := .cls "Table") rfl), a_Table_first_goal := He.noat_ok (c.fact 4 (f := .noat "Table" "first_goal") rfl), a_Table_kept_tests := He.noat_ok (c.fact 5 (f := .noat "Table" "kept_tests") rfl), a_Table_sides := He.noat_ok (c.fact 6 (f := .noat "Table" "sides") rfl), n_Grower := He.eqO_ok (c.fact 1 (f := .glo "Grower") rfl), g_Grower := He.glo_ok X G (c.fact 1 (f := .glo "Grower") rfl), cl_Grower := He.cls_ok (c.fact 7 (f := .cls "Grower") rfl), a_Grower_grown := He.noat_ok (c.fact 8 (f := .noat "Grower" "grown") rfl), a_Grower_numbered := He.noat_ok (c.fact 9 (f := .noat "Grower" "numbered") rfl), n_Maker := He.eqO_ok (c.fact 2 (f := .glo "Maker") rfl), g_Maker := He.glo_ok X G (c.fact 2 (f := .glo "Maker") rfl), cl_Maker := He.cls_ok (c.fact 10 (f := .cls "Maker") rfl), a_Maker_sides := He.noat_ok (c.fact 11 (f := .noat "Maker" "sides") rfl), a_Maker_goals_found := He.noat_ok (c.fact 12 (f := .noat "Maker" "goals_found") rfl), a_Maker_grower := He.noat_ok (c.fact 13 (f := .noat "Maker" "grower") rfl), a_Maker_rooms := He.noat_ok (c.fact 14 (f := .noat "Maker" "rooms") rfl) }
  let tv0 : TopV0 K mg := { z_any := He.free_ok X G (c.fact 58 (f := .free "any") rfl), z_enumerate := He.free_ok X G (c.fact 59 (f := .free "enumerate") rfl), z_len := He.free_ok X G (c.fact 60 (f := .free "len") rfl), z_list := He.free_ok X G (c.fact 61 (f := .free "list") rfl), z_max := He.free_ok X G (c.fact 62 (f := .free "max") rfl), z_min := He.free_ok X G (c.fact 63 (f := .free "min") rfl), z_range := He.free_ok X G (c.fact 64 (f := .free "range") rfl), z_set := He.free_ok X G (c.fact 65 (f := .free "set") rfl), z_sorted := He.free_ok X G (c.fact 66 (f := .free "sorted") rfl), z_sum := He.free_ok X G (c.fact 67 (f := .free "sum") rfl), z_tuple := He.free_ok X G (c.fact 68 (f := .free "tuple") rfl), z_zip := He.free_ok X G (c.fact 69 (f := .free "zip") rfl) }
  let x_has : TopF_has K mg := { f_has := He.fAd K ("has", none), d_has := _, F_has := F0, g_has := He.glo_ok X G (c.fact 16 (f := .glo "has") rfl), b_has := b0 }
  let x_parts : TopF_parts K mg := { f_parts := He.fAd K ("parts", none), d_parts := _, F_parts := F1, g_parts := He.glo_ok X G (c.fact 18 (f := .glo "parts") rfl), b_parts := b1 }
  let x_Table_init : TopF_Table_init K mg := { f_Table_init := He.fAd K ("Table", some "__init__"), d_Table_init := _, F_Table_init := F2, b_Table_init := b2 }
  let x_Table_mosts : TopF_Table_mosts K mg := { f_Table_mosts := He.fAd K ("Table", some "mosts"), d_Table_mosts := _, F_Table_mosts := F3, b_Table_mosts := b3 }
  let x_Table_top : TopF_Table_top K mg := { f_Table_top := He.fAd K ("Table", some "top"), d_Table_top := _, F_Table_top := F4, b_Table_top := b4 }
  let x_Table_tests : TopF_Table_tests K mg := { f_Table_tests := He.fAd K ("Table", some "tests"), d_Table_tests := _, F_Table_tests := F5, b_Table_tests := b5 }
  let x_number_tests : TopF_number_tests K mg := { f_number_tests := He.fAd K ("number_tests", none), d_number_tests := _, F_number_tests := F6, g_number_tests := He.glo_ok X G (c.fact 25 (f := .glo "number_tests") rfl), b_number_tests := b6 }
  let x_goal_by : TopF_goal_by K mg := { f_goal_by := He.fAd K ("goal_by", none), d_goal_by := _, F_goal_by := F7, g_goal_by := He.glo_ok X G (c.fact 27 (f := .glo "goal_by") rfl), b_goal_by := b7 }
  let x_Grower_init : TopF_Grower_init K mg := { f_Grower_init := He.fAd K ("Grower", some "__init__"), d_Grower_init := _, F_Grower_init := F8, b_Grower_init := b8 }
  let x_Grower_goal_of : TopF_Grower_goal_of K mg := { f_Grower_goal_of := He.fAd K ("Grower", some "goal_of"), d_Grower_goal_of := _, F_Grower_goal_of := F9, b_Grower_goal_of := b9 }
  let x_Grower_table_behind : TopF_Grower_table_behind K mg := { f_Grower_table_behind := He.fAd K ("Grower", some "table_behind"), d_Grower_table_behind := _, F_Grower_table_behind := F10, b_Grower_table_behind := b10 }
  let x_Maker_init : TopF_Maker_init K mg := { f_Maker_init := He.fAd K ("Maker", some "__init__"), d_Maker_init := _, F_Maker_init := F11, b_Maker_init := b11 }
  let x_Maker_goal_for : TopF_Maker_goal_for K mg := { f_Maker_goal_for := He.fAd K ("Maker", some "goal_for"), d_Maker_goal_for := _, F_Maker_goal_for := F12, b_Maker_goal_for := b12 }
  let x_law_mixed : TopF_law_mixed K mg := { f_law_mixed := He.fAd K ("_law_mixed", none), d_law_mixed := _, F_law_mixed := F13, g_law_mixed := He.glo_ok X G (c.fact 36 (f := .glo "_law_mixed") rfl), b_law_mixed := b13 }
  let x_law_great : TopF_law_great K mg := { f_law_great := He.fAd K ("_law_great", none), d_law_great := _, F_law_great := F14, g_law_great := He.glo_ok X G (c.fact 38 (f := .glo "_law_great") rfl), b_law_great := b14 }
  let x_law_mosts : TopF_law_mosts K mg := { f_law_mosts := He.fAd K ("_law_mosts", none), d_law_mosts := _, F_law_mosts := F15, g_law_mosts := He.glo_ok X G (c.fact 40 (f := .glo "_law_mosts") rfl), b_law_mosts := b15 }
  let td0 : TopD0 K mg := { x_has := x_has, x_parts := x_parts, x_Table_init := x_Table_init, x_Table_mosts := x_Table_mosts, x_Table_top := x_Table_top, x_Table_tests := x_Table_tests, x_number_tests := x_number_tests, x_goal_by := x_goal_by, x_Grower_init := x_Grower_init, x_Grower_goal_of := x_Grower_goal_of, x_Grower_table_behind := x_Grower_table_behind, x_Maker_init := x_Maker_init, x_Maker_goal_for := x_Maker_goal_for, x_law_mixed := x_law_mixed, x_law_great := x_law_great, x_law_mosts := x_law_mosts }
  let x_law_some_set : TopF_law_some_set K mg := { f_law_some_set := He.fAd K ("_law_some_set", none), d_law_some_set := _, F_law_some_set := F16, g_law_some_set := He.glo_ok X G (c.fact 42 (f := .glo "_law_some_set") rfl), b_law_some_set := b16 }
  let x_law_boxes : TopF_law_boxes K mg := { f_law_boxes := He.fAd K ("_law_boxes", none), d_law_boxes := _, F_law_boxes := F17, g_law_boxes := He.glo_ok X G (c.fact 44 (f := .glo "_law_boxes") rfl), b_law_boxes := b17 }
  let x_law_leaf : TopF_law_leaf K mg := { f_law_leaf := He.fAd K ("_law_leaf", none), d_law_leaf := _, F_law_leaf := F18, g_law_leaf := He.glo_ok X G (c.fact 46 (f := .glo "_law_leaf") rfl), b_law_leaf := b18 }
  let x_law_halves : TopF_law_halves K mg := { f_law_halves := He.fAd K ("_law_halves", none), d_law_halves := _, F_law_halves := F19, g_law_halves := He.glo_ok X G (c.fact 48 (f := .glo "_law_halves") rfl), b_law_halves := b19 }
  let x_law_same : TopF_law_same K mg := { f_law_same := He.fAd K ("_law_same", none), d_law_same := _, F_law_same := F20, g_law_same := He.glo_ok X G (c.fact 50 (f := .glo "_law_same") rfl), b_law_same := b20 }
  let x_Maker_goal_behind : TopF_Maker_goal_behind K mg := { f_Maker_goal_behind := He.fAd K ("Maker", some "goal_behind"), d_Maker_goal_behind := _, F_Maker_goal_behind := F21, b_Maker_goal_behind := b21 }
  let x_made : TopF_made K mg := { f_made := He.fAd K ("made", none), d_made := _, F_made := F22, g_made := He.glo_ok X G (c.fact 53 (f := .glo "made") rfl), b_made := b22 }
  let x_law_right : TopF_law_right K mg := { f_law_right := He.fAd K ("_law_right", none), d_law_right := _, F_law_right := F23, g_law_right := He.glo_ok X G (c.fact 55 (f := .glo "_law_right") rfl), b_law_right := b23, co_law_right := co23 }
  let x_law : TopF_law K mg := { f_law := He.fAd K ("law", none), d_law := _, F_law := F24, g_law := He.glo_ok X G (c.fact 57 (f := .glo "law") rfl), b_law := b24 }
  let td1 : TopD1 K mg := { x_law_some_set := x_law_some_set, x_law_boxes := x_law_boxes, x_law_leaf := x_law_leaf, x_law_halves := x_law_halves, x_law_same := x_law_same, x_Maker_goal_behind := x_Maker_goal_behind, x_made := x_made, x_law_right := x_law_right, x_law := x_law }
  let tm0 : TopM0 K mg tc td0 td1 := { k_Table := He.mkr_ok (c.fact 20 (f := .mkr "Table") rfl), m_Table_mosts := He.meth_ok (c.fact 21 (f := .meth "Table" "mosts") rfl), m_Table_top := He.meth_ok (c.fact 22 (f := .meth "Table" "top") rfl), m_Table_tests := He.meth_ok (c.fact 23 (f := .meth "Table" "tests") rfl), k_Grower := He.mkr_ok (c.fact 29 (f := .mkr "Grower") rfl), m_Grower_goal_of := He.meth_ok (c.fact 30 (f := .meth "Grower" "goal_of") rfl), m_Grower_table_behind := He.meth_ok (c.fact 31 (f := .meth "Grower" "table_behind") rfl), k_Maker := He.mkr_ok (c.fact 33 (f := .mkr "Maker") rfl), m_Maker_goal_for := He.meth_ok (c.fact 34 (f := .meth "Maker" "goal_for") rfl), m_Maker_goal_behind := He.meth_ok (c.fact 51 (f := .meth "Maker" "goal_behind") rfl) }
  let Z : Tops K mg := { c := tc, a0 := ta0, v0 := tv0, d0 := td0, d1 := td1, m0 := tm0 }
  exact ⟨_, fun s v => .of_eq rfl, fun base _ _ TB => ok_law Z TB⟩
end Gw
open PySem PySem.W PySem.Calls PyProof.Rows
set_option maxHeartbeats 0 in
theorem PySem.Challenge.cw_gatewright_k43_made_otherwise_holds : PySem.Challenge.rw_gatewright_k43_made_otherwise.Holds := by
  w_on; o_law
  refine HandSHeadRun.head_any (r := Gw.hRow) (q := view Gw.hRow.prog [21]) (H := Gw.hookT 11 Gw.hFa Gw.hEx Gw.hFn Gw.hTf) (ob := Gw.seeT 11 Gw.hFa Gw.hEx Gw.hFn Gw.hTf) (M := 40000) (loose := Gw.hNm) (d := HandSHeadRun.topDef Gw.hRow.prog 21) (kwd := []) Gw.seeT_eq
    (by kernel_rfl) (fun s => by kernel_rfl) Gw.hRun (by kernel_rfl) (by kernel_rfl) (by kernel_rfl) (by rfl) (by first | assumption | decide +kernel) (by decide +kernel) ⟨rfl, rfl, rfl, rfl, rfl, by decide +kernel⟩ ?hw ?hc
  case hw => w_witness2
  case hc =>
    refine Gw.walk_ofT (l := PySem.Challenge.rw_gatewright_k43_made_otherwise) (n := 63) (j := 16) (x := "_law_script") (CX := L2.CX0) (ts := Gw.hTabs) rfl (by decide) (by kernel_rfl) ⟨⟨rfl, by decide, by decide⟩, rfl⟩ ?F (fun _ _ _ _ z => z)
    intro w mg fa h Y G hmg0
    obtain ⟨K, KX, ⟨g, c⟩, tk⟩ := Y
    have hmg : mg ("law" : PySem.Str) = some (.ref fa) := by
      have e : (HandSHeadRun.topDef Gw.hRow.prog 21).name = ("law" : PySem.Str) := by kernel_rfl
      rw [← e]
      exact hmg0
    obtain ⟨fd, hb, hF⟩ := Gw.hAll (w := w) KX G hmg g c
    exact ⟨K, fd, (@Gw.c_law (Gw.wdL w)), KX, Gw.tabs_of (ts := Gw.hTabs) tk, hb, fun ns hl => @Gw.law_ok (Gw.wdL w) ns hl, hF⟩
