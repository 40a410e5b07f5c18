import PyProof.Rows.All
import Wide.All
import OpenK.AllK
import Wide.FinOn
import KE.KStateDown
import HandS.Words
import HandS.ExcField
import HandS.Head0
import HandS.Head1
import HandS.Head2
import HandS.HeadHook4
import HandS.ForMost
import HandS.Exc
import HandS.TryOnly
import HandS.ExcOwn
import HandS.Walk
import HandS.More
import HandS.Wide
import HandS.Lambda
import HandS.TupAny
import HandS.IsInst
import HandS.Strs
import HandS.Defaults
import KE.GoesEnum
import HandS.Rev
import HandS.Comp
import HandS.Dict
import HandS.DictComp
import KE.SortData
import HandS.SetFor
import HandS.WideBits
import HandS.TupSets
import KE.KEqNest
import KE.KDictDisplayH
import PyProof.Rows.TupDisplay
import HandS.Conv
import KE.SortKeyHeap
import KE.KSortKey
import HandS.TryMany
import HandS.ExcInit
import PyProof.TupleOfSeq
import HandS.Replace
import PyProof.ReprRoads
import PyProof.ReprLen
import PyProof.InstNe
import PyProof.P3Eq
import HandS.MakeKwOnly
import HandS.HeadWalk
import HandS.NestedK
import PySem.Challenge.RW_twothreads_k63_whole_editors_along_histo
set_option Elab.async false
set_option linter.all false
set_option maxRecDepth 100000
set_option maxHeartbeats 4000000
namespace Tw
open PySem PySem.Spec PyProof.Rows L2
/-! ### the head comes first: its run wants the most memory -/
def top (i : Nat) : Stmt := PySem.Challenge.pw_twothreads_k63_whole_editors_along_histo.main.body.getD i (.Pass ⟨0, 0, 0, 0⟩)
def letters : Str := "abcdefghijklmnopqrstuvwxyz"
def wordsL : List Str := ["lock", "share", "free", "read", "write", "work"]
/-! ### what the head tells of the module -/
def dN (x : Str) (i : Nat) : He.DefD := ⟨(x, none), x, x, defArgs (top i), defBody (top i), defScope (top i), [], []⟩
def dA (x nm : Str) (i : Nat) : He.DefD := ⟨(x, none), nm, nm, defArgs (top i), defBody (top i), defScope (top i), [], []⟩
def dM (C m q : Str) (i j : Nat) : He.DefD := ⟨(C, some m), m, q, defArgs (inClass (top i) j), defBody (inClass (top i) j), defScope (inClass (top i) j), [], []⟩
def hFn0 : List He.DefD := [dN "is_integer" 19, dN "is_name" 20, dN "is_step" 21, dN "are_steps" 22, dN "is_thread" 23, dN "sections" 24, dN "accesses" 25, dN "lock_contests" 29, dN "data_contests" 30, dN "is_pair" 33, dN "forces" 34, dN "leads_in" 35, dN "holdings" 37, dN "index_of" 57, dN "check_place" 58, dN "_law_start" 61, dN "_law_draw" 62, dN "_law_choice" 63, dN "_law_names" 64, dN "_law_thread" 65, dN "_law_parts" 66, dN "_law_contests" 67, dN "_law_forces" 68, dN "_law_led" 69, dN "_law_pieces" 70, dN "_law_is_step" 71, dN "_law_is_thread" 72, dN "_law_is_pair" 73, dN "_law_with" 74, dN "_law_desk" 75]
def hFn1 : List He.DefD := [dN "_law_small_steps" 76, dN "_law_edit" 77, dN "_law_called" 78, dN "_law_met" 79, dN "_law_edited" 80, dN "_law_undone" 81, dN "_law_same_editor" 82, dN "_law_answers_right" 83, dN "law" 84, dA "contests_contests" "contests" 31, dA "deadlocks_states" "deadlocks" 39, dA "pieces_pieces" "pieces" 43, dA "is_serial_pieces" "is_serial" 45, dA "count_runs_counting" "count_runs" 49, dA "races_races" "races" 53, dM "Blocks" "__init__" "Blocks.__init__" 42 0, dM "Blocks" "ends_before" "Blocks.ends_before" 42 2, dM "Ways" "__init__" "Ways.__init__" 48 0, dM "Ways" "earlier_of" "Ways.earlier_of" 48 1, dM "Ways" "ways" "Ways.ways" 48 2, dM "Plane" "__init__" "Plane.__init__" 38 0, dM "Plane" "is_open_at" "Plane.is_open_at" 38 1, dM "Plane" "next_states" "Plane.next_states" 38 3, dM "Plane" "reached_from" "Plane.reached_from" 38 4, dM "Editor" "__init__" "Editor.__init__" 59 0, dM "Editor" "__eq__" "Editor.__eq__" 59 1, dM "Editor" "__len__" "Editor.__len__" 59 2, dM "Editor" "change" "Editor.change" 59 3, dM "Editor" "insert" "Editor.insert" 59 4, dM "Editor" "remove" "Editor.remove" 59 5]
def hFn2 : List He.DefD := [dM "Editor" "replace" "Editor.replace" 59 6, dM "Editor" "undo" "Editor.undo" 59 7, dM "Editor" "steps_back" "Editor.steps_back" 59 8, dM "Editor" "pair" "Editor.pair" 59 9, dM "Editor" "contests" "Editor.contests" 59 10, dM "Editor" "pieces" "Editor.pieces" 59 11, dM "Editor" "count_runs" "Editor.count_runs" 59 12, dM "Editor" "is_serial" "Editor.is_serial" 59 13, dM "Editor" "deadlocks" "Editor.deadlocks" 59 14, dM "Editor" "races" "Editor.races" 59 15, dM "BadPair" "__init__" "BadPair.__init__" 3 0, dM "NothingToUndo" "__init__" "NothingToUndo.__init__" 7 0]
def hFn : List He.DefD := hFn0 ++ (hFn1 ++ (hFn2))
def hFr : List Str := ["len", "isinstance", "all", "sum", "max", "min", "abs", "repr", "sorted", "int", "str", "bool", "tuple", "dict", "set", "range", "enumerate"]
def hCi : List (Str × Int) := [("MOST_LETTERS", 8), ("MOST_STEPS", 40), ("STEP_PARTS", 2), ("PAIR", 2), ("MOST_CONTESTS", 120)]
def hCs : List (Str × Str) := [("LOCK", "lock"), ("SHARE", "share"), ("FREE", "free"), ("READ", "read"), ("WRITE", "write"), ("DATA", "data")]
def hFb : List He.Fa := hFr.map He.Fa.free ++ ((hCi.map fun p => He.Fa.int p.1 p.2) ++ hCs.map fun p => He.Fa.str p.1 p.2)
def hFc0 : List He.Fa := [.glo "is_integer", .glo "is_name", .glo "is_step", .glo "are_steps", .glo "is_thread", .glo "sections", .glo "accesses", .glo "lock_contests", .glo "data_contests", .glo "is_pair", .glo "forces", .glo "leads_in", .glo "holdings", .glo "index_of", .glo "check_place", .glo "_law_start", .glo "_law_draw", .glo "_law_choice", .glo "_law_names", .glo "_law_thread", .glo "_law_parts", .glo "_law_contests", .glo "_law_forces", .glo "_law_led", .glo "_law_pieces", .glo "_law_is_step", .glo "_law_is_thread", .glo "_law_is_pair", .glo "_law_with", .glo "_law_desk"]
def hFc1 : List He.Fa := [.glo "_law_small_steps", .glo "_law_edit", .glo "_law_called", .glo "_law_met", .glo "_law_edited", .glo "_law_undone", .glo "_law_same_editor", .glo "_law_answers_right", .glo "law", .glo "contests_contests", .glo "deadlocks_states", .glo "pieces_pieces", .glo "is_serial_pieces", .glo "count_runs_counting", .glo "races_races", .meth "Blocks" "__init__", .meth "Blocks" "ends_before", .meth "Ways" "__init__", .meth "Ways" "earlier_of", .meth "Ways" "ways", .meth "Plane" "__init__", .meth "Plane" "is_open_at", .meth "Plane" "next_states", .meth "Plane" "reached_from", .meth "Editor" "__init__", .meth "Editor" "__eq__", .meth "Editor" "__len__", .meth "Editor" "change", .meth "Editor" "insert", .meth "Editor" "remove"]
def hFc2 : List He.Fa := [.meth "Editor" "replace", .meth "Editor" "undo", .meth "Editor" "steps_back", .meth "Editor" "pair", .meth "Editor" "contests", .meth "Editor" "pieces", .meth "Editor" "count_runs", .meth "Editor" "is_serial", .meth "Editor" "deadlocks", .meth "Editor" "races", .meth "BadPair" "__init__", .meth "NothingToUndo" "__init__", .glo "Editor", .cls "Editor", .glo "Blocks", .cls "Blocks", .glo "Ways", .cls "Ways", .glo "Plane", .cls "Plane", .mkr "Editor", .mkr "Blocks", .mkr "Ways", .mkr "Plane", .glo "BadPair", .glo "NothingToUndo", .glo "BadLetter", .glo "BadPlace", .glo "BadSteps", .glo "ThreadError"]
def hFc3 : List He.Fa := [.keep "BadPair", .keep "NothingToUndo", .noat "Editor" "kept", .noat "Editor" "past", .noat "Blocks" "known", .noat "Blocks" "led", .noat "Blocks" "parts", .noat "Ways" "piece_at", .noat "Ways" "after", .noat "Ways" "ahead", .noat "Ways" "earlier", .noat "Plane" "sizes", .noat "Plane" "end", .noat "Plane" "held_by", .noat "BadPair" "value", .str "LETTERS_threads" letters, .glo "WORDS", .glo "LETTERS_editor", .exm "BadPair" "BadLetter" false, .exm "BadPair" "BadPlace" false, .exm "BadPair" "BadSteps" false, .exm "BadPair" "BadPair" true, .exm "NothingToUndo" "BadLetter" false, .exm "NothingToUndo" "BadPlace" false, .exm "NothingToUndo" "BadSteps" false, .exm "NothingToUndo" "BadPair" false, .exm "NothingToUndo" "NothingToUndo" true]
def hFc : List He.Fa := hFc0 ++ (hFc1 ++ (hFc2 ++ (hFc3)))
def hFa : List He.Fa := hFb ++ hFc
def hTf : List He.Defn := [("Ways", some "ways"), ("_law_edited", none), ("_law_undone", none)]
/-! ### .. and by Bools of its own -/
-- an own exception's class
def oexB (K : PySem.W.Frag) (C : Addr) : Bool :=
  (match K.lookup C with
    | some ⟨.type t, _, .cls cd, sl⟩ => decide (t = "type") && (match cd.mro, sl.toList with
      | .ref C2 :: bm, [_, _, _, _, some (.builtin n), _] => decide (C2 = C) && (decide (n = "ValueError.__new__") && (!cd.hasDel && (cd.hasDict && PySem.HandSPX.refsVE bm)))
      | _, _ => false)
    | _ => false) &&
  (He.eqO (PySem.W.findIn K (.ref C) "__setattr__") (some (some (.builtin "object.__setattr__"))) && (decide (PySem.W.subIn K (.ref C) (.type "BaseException") = some true) && (decide (PySem.W.typeIn K (.ref C) = some (.type "type")) && PySem.W.keepIn K (.ref C))))
def terB (K : PySem.W.Frag) (C : Addr) : Bool := PySem.W.readsIn K C (.type "type") && (He.eqO (PySem.W.specialIn K (.ref C) "__getattribute__") (some (some (.builtin "type.__getattribute__"))) && (match PySem.W.findCls K (.ref C) (.type "type") "__init__" with
  | some (.val (.builtin s)) => decide (s = "ValueError.__init__")
  | _ => false))
def eqfB (K : PySem.W.Frag) (C : Addr) : Bool := He.eqO (PySem.W.findIn K (.ref C) "__ne__") (some (some (.builtin "object.__ne__"))) && (He.eqO (PySem.W.findIn K (.ref C) "__class__") (some (some (.builtin "object.__class__"))) && (He.eqO (PySem.W.specialIn K (.builtin "object.__class__") "__get__") (some (some (.builtin "getset_descriptor.__get__"))) &&
  (decide (PySem.W.takesIn K (.builtin "object.__class__") = some true) && decide (PySem.W.mroIn K C (.type "object") = some true))))
def abB (K : PySem.W.Frag) : Bool := match K.lookup (He.ga K "LETTERS_editor") with
  | some ⟨.type t, none, _, _⟩ => decide (t = "tuple")
  | _ => false
def tabNs (K : PySem.W.Frag) : List Addr := hTf.map fun p => (He.cT K p).2
def hEx (K : PySem.W.Frag) : Bool := oexB K (He.ga K "BadPair") && (oexB K (He.ga K "NothingToUndo") && (terB K (He.ga K "ThreadError") && (eqfB K (He.ga K "Editor") && (abB K && (xfB K (He.ga K "BadPair") &&
  (He.tupB K "WORDS" (wordsL.map He.Dv.str) && (He.tupB K "LETTERS_editor" [.str "a", .str "b"] && decide (tabNs K).Nodup)))))))
-- what is told of the heap h, by the fragment K
structure SaysH (h : Heap) (K : PySem.W.Frag) : Prop where
  d : He.SaysD hFa hFn K
  ex : hEx K = true
  hd : ∀ p ∈ hTf, PySem.W.codeHdIn K (He.cT K p).1 (He.cT K p).2 = true
  out : ∀ p ∈ hTf, K.lookup (He.cT K p).2 = none
  em : ∀ p ∈ hTf, h.get? (He.cT K p).2 = some { cls := .none, data := .fields #[] }
def hN : Nat := 5
def asH (g : Addr → Option Obj) : List Addr := He.asD g hN ++ [cStatics]
def kH (g : Addr → Option Obj) : PySem.W.Frag := He.frT g (asH g)
def obH (g : Addr → Option Obj) : He.AlD × Bool := (He.obsD hFa hFn (kH g), hEx (kH g) && He.tabsB g hTf (kH g))
theorem saysH_of {h : Heap} (e : obH h.get? = (He.valD hFn, true)) : SaysH h (kH h.get?) := by
  have e1 : He.obsD hFa hFn (kH h.get?) = He.valD hFn := congrArg Prod.fst e
  have e2 : (hEx (kH h.get?) && He.tabsB h.get? hTf (kH h.get?)) = true := congrArg Prod.snd e
  obtain ⟨h1, h2⟩ := He.ba e2
  have each : ∀ p ∈ hTf, PySem.W.codeHdIn (kH h.get?) (He.cT (kH h.get?) p).1 (He.cT (kH h.get?) p).2 = true ∧ ∃ o, h.get? (He.cT (kH h.get?) p).2 = some o ∧ He.emptyTab o = true := fun p hp => by
    have q := List.all_eq_true.mp h2 p hp
    obtain ⟨h3, h4⟩ := He.ba q
    refine ⟨h3, ?_⟩
    split at h4
    · rename_i o ho
      exact ⟨o, ho, h4⟩
    · cases h4
  exact ⟨e1, h1, fun p hp => (each p hp).1, fun p hp => (each p hp).2.elim fun o q => He.frT_none q.1 q.2, fun p hp => (each p hp).2.elim fun o q => by rw [q.1, He.emptyTab_eq q.2]⟩
def hkH : PySem.W.Hook where
  α := He.AlD × Bool
  obs := fun s => obH s.heap.get?
  val := fun _ => (He.valD hFn, true)
  says := fun _ h => ∃ K : PySem.W.Frag, K.In h ∧ SaysH h K
  of := fun _ _ e => ⟨_, He.frT_in, saysH_of e⟩
  keeps := fun _ _ _ ⟨K, hK, c⟩ k => ⟨K, hK.keeps k, c.d, c.ex, c.hd, c.out, fun p hp => k _ _ (c.em p hp)⟩
def obT (s : PySem.W.SharedT) : He.AlD × Bool := obH (HandSHeadRun.getT s)
theorem obT_eq (s : PySem.W.SharedT) : obT s = hkH.obs s.abs := by
  have e : HandSHeadRun.getT s = s.abs.heap.get? := funext (HandSHeadRun.getT_eq s)
  unfold obT
  rw [e]
  rfl
abbrev hR : PySem.W.OpenRow := PySem.W.OpenLaw.row PySem.Challenge.rw_twothreads_k63_whole_editors_along_histo
abbrev hq : Program := PySem.W.view hR.prog [84]
def nm0 : List Str := ["_wall", "ThreadError", "BadPair", "BadLetter", "BadPlace", "BadSteps", "NothingToUndo", "LETTERS_threads", "MOST_LETTERS", "MOST_STEPS", "STEP_PARTS", "LOCK", "SHARE", "FREE", "READ", "WRITE", "WORDS", "is_integer", "is_name", "is_step", "are_steps", "is_thread", "sections", "accesses", "PAIR", "MOST_CONTESTS", "lock_contests", "data_contests", "contests", "contests_contests"]
def nm1 : List Str := ["is_pair", "forces", "leads_in", "holdings", "Plane", "deadlocks", "deadlocks_states", "Blocks", "pieces", "pieces_pieces", "is_serial", "is_serial_pieces", "Ways", "count_runs", "count_runs_counting", "DATA", "races", "races_races", "LETTERS_editor", "index_of", "check_place", "Editor", "_law_start", "_law_draw", "_law_choice", "_law_names", "_law_thread", "_law_parts", "_law_contests", "_law_forces"]
def nm2 : List Str := ["_law_led", "_law_pieces", "_law_is_step", "_law_is_thread", "_law_is_pair", "_law_with", "_law_desk", "_law_small_steps", "_law_edit", "_law_called", "_law_met", "_law_edited", "_law_undone", "_law_same_editor", "_law_answers_right"]
def names : List Str := nm0 ++ nm1 ++ nm2
theorem hrun (w : World) : HandSHeadRun.RunEq hR hq hkH obT 20000 names w := by
  intro os
  kernel_rfl
theorem top_name : (HandSHeadRun.topDef hR.prog 84).name = ("law" : Str) := by kernel_rfl
theorem top_dflt : (HandSHeadRun.topDef hR.prog 84).params.defaults = [] := by kernel_rfl
end Tw
section
open PySem PySem.W PySem.Calls PyProof.Rows
theorem Tw.head_goes (call : WalkO Tw.hq Tw.names (XL Tw.hq []) Tw.hkH.says Tw.hR.toRowW (HandSHeadRun.topDef Tw.hR.prog 84) [] fun f vs => PySem.call f vs) : PySem.Challenge.rw_twothreads_k63_whole_editors_along_histo.Holds := by
  w_on; o_law
  refine HandSHeadRun.head_any (r := Tw.hR) (q := Tw.hq) (H := Tw.hkH) (ob := Tw.obT) (M := 20000) (loose := Tw.names) (d := HandSHeadRun.topDef Tw.hR.prog 84) (kwd := []) Tw.obT_eq (by kernel_rfl) (fun s => by kernel_rfl) Tw.hrun (by kernel_rfl) (by kernel_rfl) (by kernel_rfl) (by rfl) (by first | assumption | decide +kernel) (by decide +kernel) ⟨rfl, rfl, rfl, rfl, rfl, by decide +kernel⟩ ?hw ?hc
  case hw => w_witness2
  case hc => exact call
end
namespace Tw
open PySem L2 LamX

/-! ### the standing part of the heap -/
def NotTbl (o : HO) : Prop := ∀ ps, o ≠ .tbl ps
def IsDic : HO → Prop
  | .dK _ => True
  | .dT _ => True
  | _ => False
-- F is a part of H that stands for ever (a dict perhaps locked by a walk)
def Sub (F H : Hp) : Prop := ∀ a o, F a = some o → NotTbl o ∧ (H a = some o ∨ (IsDic o ∧ ∃ ob, H a = some (.frz ob o)))
theorem Sub.at {F H : Hp} {a : Addr} {o : HO} (s : Sub F H) (h : F a = some o) (n : ¬ IsDic o := by exact fun z => z) : H a = some o := by
  rcases (s a o h).2 with q | q
  · exact q
  · exact absurd q.1 n
theorem Sub.rd {F H : Hp} {a : Addr} {o : HO} (s : Sub F H) (h : F a = some o) : Rd H a o := by
  rcases (s a o h).2 with q | ⟨_, ob, q⟩
  · exact .inl q
  · exact .inr ⟨ob, q⟩
theorem Sub.some {F H : Hp} {a : Addr} {o : HO} (s : Sub F H) (h : F a = some o) : H a ≠ none := by
  rcases (s a o h).2 with q | ⟨_, ob, q⟩ <;> rw [q] <;> exact fun z => nomatch z
def Ext (F F' : Hp) : Prop := ∀ a o, F a = some o → F' a = some o
theorem Ext.rfl {F : Hp} : Ext F F := fun _ _ h => h
theorem Ext.trans {F G H : Hp} (a : Ext F G) (b : Ext G H) : Ext F H := fun x o h => b x o (a x o h)
theorem Ext.rd {F G : Hp} {a : Addr} {o : HO} (e : Ext F G) (h : Rd F a o) : Rd G a o := by
  rcases h with q | ⟨ob, q⟩
  · exact .inl (e _ _ q)
  · exact .inr ⟨ob, e _ _ q⟩
theorem Sub.rdR {F H : Hp} {a : Addr} {o : HO} (s : Sub F H) (h : Rd F a o) : Rd H a o := by
  rcases h with q | ⟨ob, q⟩
  · exact s.rd q
  · exact .inr ⟨ob, s.at q⟩
structure Adv (T : List (Addr × Str)) (F H F' H' : Hp) : Prop where
  ff : Ext F F'
  sub : Sub F' H'
  hh : ExtN H H'
  sep : ∀ a o, F' a = some o → F a = some o ∨ (∀ u, H a = some u → ∃ ps, u = .tbl ps) ∨ ∃ xs, o = .tup xs ∧ H a = some (.tup xs)
  tab : Tabs T H → Tabs T H'
variable {T : List (Addr × Str)} {F H F' H' F1 H1 F2 H2 : Hp}
theorem Adv.refl (s : Sub F H) : Adv T F H F H := ⟨Ext.rfl, s, ExtN.refl H, fun _ _ h => .inl h, fun h => h⟩
theorem Adv.trans (a : Adv T F H F1 H1) (b : Adv T F1 H1 F2 H2) : Adv T F H F2 H2 where
  ff := a.ff.trans b.ff
  sub := b.sub
  hh := a.hh.trans b.hh
  sep := fun x o h => by
    rcases b.sep x o h with q | q | ⟨xs, q1, q2⟩
    · exact a.sep x o q
    · refine .inr (.inl fun u hu => ?_)
      by_cases n : ∃ ps, u = .tbl ps
      · exact n
      · exact absurd (q u (a.hh x u hu fun ps e => n ⟨ps, e⟩)) n
    · cases hu : H x with
      | none => exact .inr (.inl fun u e => by cases e)
      | some u =>
        by_cases n : ∃ ps, u = .tbl ps
        · exact .inr (.inl fun u' e => by cases e; exact n)
        · have := a.hh x u hu fun ps e => n ⟨ps, e⟩
          rw [q2] at this
          exact .inr (.inr ⟨xs, q1, this.symm⟩)
  tab := fun h => b.tab (a.tab h)
-- what is tracked beside the standing part stays beside it
theorem Adv.off (a : Adv T F H F' H') {l : Addr} {o : HO} (hF : F l = none) (hl : H l = some o) (n : NotTbl o) (nt : ∀ xs, o ≠ .tup xs := by exact fun _ z => nomatch z) : F' l = none ∧ H' l = some o := by
  refine ⟨?_, a.hh l o hl n⟩
  cases q : F' l with
  | none => rfl
  | some u =>
    rcases a.sep l u q with z | z | ⟨xs, z1, z2⟩
    · rw [hF] at z; cases z
    · obtain ⟨ps, e⟩ := z o hl
      exact absurd e (n ps)
    · rw [hl] at z2
      exact absurd (Option.some.inj z2) (nt xs)
-- a new object comes to stand
theorem Adv.new {p : Addr} {o : HO} (s : Sub F H) (hp : H p = none) (n : NotTbl o) : Adv T F H (upd F p o) (upd H p o) := by
  have fp : F p = none := by
    cases q : F p with
    | none => rfl
    | some u => exact absurd hp (s.some q)
  refine ⟨fun a u h => by rw [upd_ne (ne_of_none h fp)]; exact h, fun a u h => ?_, ExtN.of fun a u h => by rw [upd_ne (ne_of_none h hp)]; exact h, fun a u h => ?_, fun t => t.ext fun a u h => by rw [upd_ne (ne_of_none h hp)]; exact h⟩
  · by_cases e : a = p
    · subst e; rw [upd_same] at h ⊢; cases h; exact ⟨n, .inl rfl⟩
    · rw [upd_ne e] at h ⊢; exact s a u h
  · by_cases e : a = p
    · subst e; exact .inr (.inl fun u h => by rw [hp] at h; cases h)
    · rw [upd_ne e] at h; exact .inl h
-- a new object beside the standing part
theorem Adv.lay {p : Addr} {o : HO} (s : Sub F H) (hp : H p = none) : Adv T F H F (upd H p o) := by
  refine ⟨Ext.rfl, fun a u h => ?_, ExtN.of fun a u h => by rw [upd_ne (ne_of_none h hp)]; exact h, fun a u h => .inl h, fun t => t.ext fun a u h => by rw [upd_ne (ne_of_none h hp)]; exact h⟩
  rw [upd_ne fun z => s.some h (by rw [z]; exact hp)]
  exact s a u h
theorem Sub.offN (s : Sub F H) {p : Addr} (hp : H p = none) : F p = none := by
  cases q : F p with
  | none => rfl
  | some u => exact absurd hp (s.some q)
theorem Sub.updO (s : Sub F H) {p : Addr} {o : HO} (hp : F p = none) : Sub F (upd H p o) := fun a u h => by
  rw [upd_ne (ne_of_none h hp)]; exact s a u h

-- nothing stands at a but a table, perhaps
def Nw (H : Hp) (a : Addr) : Prop := ∀ u, H a = some u → ∃ ps, u = .tbl ps
theorem Nw.of {p : Addr} (h : H p = none) : Nw H p := fun u e => by rw [h] at e; cases e
theorem Nw.back {p : Addr} (a : Adv T F H F' H') (h : Nw H' p) : Nw H p := fun u e => by
  by_cases n : ∃ ps, u = .tbl ps
  · exact n
  · exact absurd (h u (a.hh p u e fun ps e => n ⟨ps, e⟩)) n
theorem Nw.ne {p q : Addr} {o : HO} (h : Nw H p) (hq : H q = some o) (n : NotTbl o) : q ≠ p := fun e => by
  subst e; obtain ⟨ps, z⟩ := h o hq; exact n ps z
theorem Adv.set {p : Addr} {o : HO} (a : Adv T F H F' H') (hp : Nw H p) (hp' : H' p = some o) (n : NotTbl o) (nf : ∀ ob u, o ≠ .frz ob u := by exact fun _ _ z => nomatch z) : Adv T F H (upd F' p o) H' := by
  refine ⟨fun x u h => ?_, fun x u h => ?_, a.hh, fun x u h => ?_, a.tab⟩
  · have h' := a.ff x u h
    by_cases e : x = p
    · subst e
      rcases (a.sub x u h').2 with q | ⟨_, ob, q⟩
      · rw [upd_same, ← q, hp']
      · rw [hp'] at q
        exact absurd (Option.some.inj q) (nf ob u)
    · rw [upd_ne e]; exact h'
  · by_cases e : x = p
    · subst e; rw [upd_same] at h; cases h; exact ⟨n, .inl hp'⟩
    · rw [upd_ne e] at h; exact a.sub x u h
  · by_cases e : x = p
    · subst e; exact .inr (.inl hp)
    · rw [upd_ne e] at h; exact a.sep x u h

-- a tuple, old or new, comes to stand
theorem Adv.tup {p : Addr} {xs : List V} (a : Adv T F H F' H') (hp : H' p = some (.tup xs)) : Adv T F H (upd F' p (.tup xs)) H' ∧ Ext F' (upd F' p (.tup xs)) := by
  have keep : ∀ x u, F' x = some u → upd F' p (.tup xs) x = some u := fun x u h => by
    by_cases e : x = p
    · subst e
      rcases (a.sub x u h).2 with q | ⟨i, ob, q⟩
      · rw [upd_same, ← q, hp]
      · rw [hp] at q; cases q
    · rw [upd_ne e]; exact h
  refine ⟨⟨fun x u h => keep x u (a.ff x u h), fun x u h => ?_, a.hh, fun x u h => ?_, a.tab⟩, keep⟩
  · by_cases e : x = p
    · subst e; rw [upd_same] at h; cases h; exact ⟨fun _ z => (by cases z), .inl hp⟩
    · rw [upd_ne e] at h; exact a.sub x u h
  · by_cases e : x = p
    · subst e
      rw [upd_same] at h
      cases h
      cases hu : H x with
      | none => exact .inr (.inl fun u e => by cases e)
      | some u =>
        by_cases n : ∃ ps, u = .tbl ps
        · exact .inr (.inl fun u' e => by cases e; exact n)
        · have := a.hh x u hu fun ps e => n ⟨ps, e⟩
          rw [hp] at this
          exact .inr (.inr ⟨xs, rfl, this.symm⟩)
    · rw [upd_ne e] at h; exact a.sep x u h

/-! ### data that stand -/
def kD : PyData → Option Key
  | .int i => some (.inl i)
  | .str x => some (.inr x)
  | _ => none
mutual
def Im (F : Hp) : PyData → V → Prop
  | .none, v => v = .non
  | .bool b, v => v = .bl b
  | .int i, v => v = .int i
  | .str x, v => v = .str x
  | .tuple ds, v => ∃ a xs, v = .ref a ∧ F a = some (.tup xs) ∧ ImL F ds xs
  | .list ds, v => ∃ a xs, v = .ref a ∧ F a = some (.lst xs) ∧ ImL F ds xs
  | .dict kvs, v => ∃ a ks, v = .ref a ∧ Rd F a (.dK ks) ∧ ImK F kvs ks
def ImL (F : Hp) : List PyData → List V → Prop
  | [], xs => xs = []
  | d :: ds, xs => ∃ v vs, xs = v :: vs ∧ Im F d v ∧ ImL F ds vs
def ImK (F : Hp) : List (PyData × PyData) → List (Key × V) → Prop
  | [], xs => xs = []
  | (k, d) :: ds, xs => ∃ q v vs, xs = (q, v) :: vs ∧ kD k = some q ∧ Im F d v ∧ ImK F ds vs
end
mutual
theorem Im.mono (e : Ext F F') : ∀ (d : PyData) (v : V), Im F d v → Im F' d v
  | .none, _, h => h
  | .bool _, _, h => h
  | .int _, _, h => h
  | .str _, _, h => h
  | .tuple ds, _, ⟨a, xs, e1, e2, e3⟩ => ⟨a, xs, e1, e _ _ e2, ImL.mono e ds xs e3⟩
  | .list ds, _, ⟨a, xs, e1, e2, e3⟩ => ⟨a, xs, e1, e _ _ e2, ImL.mono e ds xs e3⟩
  | .dict kvs, _, ⟨a, xs, e1, e2, e3⟩ => ⟨a, xs, e1, e.rd e2, ImK.mono e kvs xs e3⟩
theorem ImL.mono (e : Ext F F') : ∀ (ds : List PyData) (vs : List V), ImL F ds vs → ImL F' ds vs
  | [], _, h => h
  | d :: ds, _, ⟨v, vs, e1, e2, e3⟩ => ⟨v, vs, e1, Im.mono e d v e2, ImL.mono e ds vs e3⟩
theorem ImK.mono (e : Ext F F') : ∀ (ds : List (PyData × PyData)) (vs : List (Key × V)), ImK F ds vs → ImK F' ds vs
  | [], _, h => h
  | (k, d) :: ds, _, ⟨q, v, vs, e1, e0, e2, e3⟩ => ⟨q, v, vs, e1, e0, Im.mono e d v e2, ImK.mono e ds vs e3⟩
end
theorem Im.up {d : PyData} {v : V} (h : Im F d v) (e : Ext F F') : Im F' d v := Im.mono e d v h
theorem ImL.up {d : List PyData} {v : List V} (h : ImL F d v) (e : Ext F F') : ImL F' d v := ImL.mono e d v h
theorem ImK.up {d : List (PyData × PyData)} {v : List (Key × V)} (h : ImK F d v) (e : Ext F F') : ImK F' d v := ImK.mono e d v h
theorem ImL.length : ∀ {ds : List PyData} {vs : List V}, ImL F ds vs → vs.length = ds.length
  | [], _, h => by rw [h]; rfl
  | _ :: _, _, ⟨_, _, e, _, h⟩ => by rw [e, List.length_cons, List.length_cons, ImL.length h]
theorem ImL.at : ∀ {ds : List PyData} {vs : List V} {i : Nat} {d : PyData}, ImL F ds vs → ds[i]? = some d → ∃ v, vs[i]? = some v ∧ Im F d v
  | _ :: _, _, 0, _, ⟨v, vs, e, h, _⟩, q => by
    have := Option.some.inj q; subst this; subst e
    exact ⟨v, rfl, h⟩
  | _ :: ds, _, i + 1, _, ⟨v, vs, e, _, h⟩, q => by
    subst e
    exact ImL.at (i := i) h q
theorem ImL.get : ∀ {ds : List PyData} {vs : List V} {i : Nat} {v : V}, ImL F ds vs → vs[i]? = some v → ∃ d, ds[i]? = some d ∧ Im F d v
  | [], _, i, _, h, q => by rw [h] at q; simp at q
  | d :: _, _, 0, _, ⟨v, vs, e, h, _⟩, q => by
    subst e
    have := Option.some.inj q; subst this
    exact ⟨d, rfl, h⟩
  | _ :: ds, _, i + 1, _, ⟨v, vs, e, _, h⟩, q => by
    subst e
    exact ImL.get (i := i) h q
theorem ImL.append : ∀ {ds es : List PyData} {vs ws : List V}, ImL F ds vs → ImL F es ws → ImL F (ds ++ es) (vs ++ ws)
  | [], _, _, _, h, h' => by rw [h]; exact h'
  | _ :: _, _, _, _, ⟨v, vs, e, h1, h2⟩, h' => ⟨v, vs ++ _, by rw [e]; rfl, h1, ImL.append h2 h'⟩
theorem ImL.one {d : PyData} {v : V} (h : Im F d v) : ImL F [d] [v] := ⟨v, [], rfl, h, rfl⟩
theorem ImL.snoc {ds : List PyData} {vs : List V} {d : PyData} {v : V} (h : ImL F ds vs) (q : Im F d v) : ImL F (ds ++ [d]) (vs ++ [v]) := h.append (.one q)
theorem ImL.take : ∀ {ds : List PyData} {vs : List V} (n : Nat), ImL F ds vs → ImL F (ds.take n) (vs.take n)
  | _, _, 0, _ => rfl
  | [], _, _ + 1, h => by rw [h]; rfl
  | _ :: _, _, n + 1, ⟨v, vs, e, h1, h2⟩ => by rw [e]; exact ⟨v, _, rfl, h1, ImL.take n h2⟩
theorem ImL.drop : ∀ {ds : List PyData} {vs : List V} (n : Nat), ImL F ds vs → ImL F (ds.drop n) (vs.drop n)
  | _, _, 0, h => h
  | [], _, _ + 1, h => by rw [h]; rfl
  | _ :: _, _, n + 1, ⟨v, vs, e, h1, h2⟩ => by rw [e]; exact ImL.drop n h2
theorem ImL.set {d : PyData} {v : V} (q : Im F d v) : ∀ {ds : List PyData} {vs : List V} (n : Nat), ImL F ds vs → ImL F (ds.set n d) (vs.set n v)
  | [], _, _, h => by rw [h]; rfl
  | _ :: _, _, 0, ⟨_, vs, e, _, h2⟩ => by rw [e]; exact ⟨v, vs, rfl, q, h2⟩
  | _ :: _, _, n + 1, ⟨w, vs, e, h1, h2⟩ => by rw [e]; exact ⟨w, _, rfl, h1, ImL.set q n h2⟩
theorem ImL.ints : ∀ {ns : List Int} {vs : List V}, ImL F (ns.map .int) vs ↔ vs = ns.map V.int
  | [], _ => Iff.rfl
  | n :: ns, vs => ⟨fun ⟨v, r, e, h1, h2⟩ => by
      have h1 : v = .int n := h1
      rw [e, h1, ImL.ints.mp h2]; rfl, fun e => ⟨_, _, e, rfl, ImL.ints.mpr rfl⟩⟩
theorem ImL.strs : ∀ {ns : List Str} {vs : List V}, ImL F (ns.map .str) vs ↔ vs = ns.map V.str
  | [], _ => Iff.rfl
  | n :: ns, vs => ⟨fun ⟨v, r, e, h1, h2⟩ => by
      have h1 : v = .str n := h1
      rw [e, h1, ImL.strs.mp h2]; rfl, fun e => ⟨_, _, e, rfl, ImL.strs.mpr rfl⟩⟩
theorem ImL.bools : ∀ {ns : List Bool} {vs : List V}, ImL F (ns.map .bool) vs ↔ vs = ns.map V.bl
  | [], _ => Iff.rfl
  | n :: ns, vs => ⟨fun ⟨v, r, e, h1, h2⟩ => by
      have h1 : v = .bl n := h1
      rw [e, h1, ImL.bools.mp h2]; rfl, fun e => ⟨_, _, e, rfl, ImL.bools.mpr rfl⟩⟩
/-! as the library's own data, without dicts -/
mutual
theorem Im.dp {K : PySem.W.Frag} (s : Sub F H) : ∀ (d : PyData) (v : V), d.hasDict = false → Im F d v → Dp K H v d
  | .none, _, _, h => by cases h; exact .non
  | .bool _, _, _, h => by cases h; exact .bl _
  | .int _, _, _, h => by cases h; exact .int _
  | .str _, _, _, h => by cases h; exact .str _
  | .tuple ds, _, n, ⟨a, xs, e1, e2, e3⟩ => by
    subst e1
    exact .tup (SqT.of (s.at e2)) (ImL.dp s ds xs (by simpa [PyData.hasDict] using n) e3)
  | .list ds, _, n, ⟨a, xs, e1, e2, e3⟩ => by
    subst e1
    exact .lst (SqL.of (s.at e2)) (ImL.dp s ds xs (by simpa [PyData.hasDict] using n) e3)
  | .dict kvs, _, n, _ => by simp [PyData.hasDict] at n
theorem ImL.dp {K : PySem.W.Frag} (s : Sub F H) : ∀ (ds : List PyData) (vs : List V), PyData.hasDictAll ds = false → ImL F ds vs → DpAll K H vs ds
  | [], _, _, h => by cases h; exact .nil
  | d :: ds, _, n, ⟨v, vs, e1, e2, e3⟩ => by
    subst e1
    simp only [PyData.hasDictAll, Bool.or_eq_false_iff] at n
    exact .cons (Im.dp s d v n.1 e2) (ImL.dp s ds vs n.2 e3)
end
end Tw
namespace Tw
open PySem L2 LamX
/-! ### what code does, as a wish -/
def rE (X : Cx) (e : Expr) : TE := fun σ H Q => ∀ pins s, Inv X pins σ H s → wpAny (model X.prog X.w) X.A (eval e X.env) (EP X pins σ Q) X.xe s
def rT (X : Cx) (e : Expr) : TT := fun σ H Q => ∀ pins s, Inv X pins σ H s → wpAny (model X.prog X.w) X.A (isTrue e X.env (eval e X.env)) (TP X pins σ Q) X.xe s
def rW (X : Cx) (e : Expr) : TT := fun σ H Q => ∀ whole pins s, Inv X pins σ H s → wpAny (model X.prog X.w) X.A (isTrue e X.env whole) (TP X pins σ Q) X.xe s
def rA (X : Cx) (es : List Expr) : TA := fun σ H Q => ∀ pos pins s, Inv X pins σ H s → wpAny (model X.prog X.w) X.A (spliced (backTo pos (starEach es X.env))) (AP X pins σ Q) X.xe s
def rS (X : Cx) (st : Stmt) : TS := fun D σ H => ∀ pins s, Inv X pins σ H s → wpAny (model X.prog X.w) X.A (exec st X.env) (SP X pins D) X.xe s
def rB (X : Cx) (st : List Stmt) : TS := fun D σ H => ∀ pins s, Inv X pins σ H s → wpAny (model X.prog X.w) X.A (execs st X.env) (SP X pins D) X.xe s
section
variable {X : Cx} {e : Expr} {es : List Expr} {st : Stmt} {sts rest : List Stmt} {σ : St} {H : Hp} {D : Ends}
theorem pe_r : PE X e (rE X e) := ⟨fun pins s _ _ _ I h => h pins s I⟩
theorem pt_r : PT X e (rT X e) := ⟨fun pins s _ _ _ I h => h pins s I⟩
theorem pw_r : PW X e (rW X e) := ⟨fun wh pins s _ _ _ I h => h wh pins s I⟩
theorem pa_r : PA X es (rA X es) := ⟨fun pos pins s _ _ _ I h => h pos pins s I⟩
theorem ps_r : PS X st (rS X st) := ⟨fun pins s _ _ _ I h => h pins s I⟩
theorem pss_r : PSs X sts (rB X sts) := ⟨fun pins s _ _ _ I h => h pins s I⟩
theorem goE {t : TE} {Q : VK} (h : PE X e t) (q : t σ H Q) : rE X e σ H Q := fun pins s I => h.run pins s σ H Q I q
theorem goT {t : TT} {Q : Bool → Hp → Prop} (h : PT X e t) (q : t σ H Q) : rT X e σ H Q := fun pins s I => h.run pins s σ H Q I q
theorem goW {t : TT} {Q : Bool → Hp → Prop} (h : PW X e t) (q : t σ H Q) : rW X e σ H Q := fun wh pins s I => h.run wh pins s σ H Q I q
theorem goA {t : TA} {Q : List V → Hp → Prop} (h : PA X es t) (q : t σ H Q) : rA X es σ H Q := fun pos pins s I => h.run pos pins s σ H Q I q
theorem goS {t : TS} (h : PS X st t) (q : t D σ H) : rS X st D σ H := fun pins s I => h.run pins s σ H D I q
theorem goB {t : TS} (h : PSs X sts t) (q : t D σ H) : rB X sts D σ H := fun pins s I => h.run pins s σ H D I q
theorem goC {t : TS} (h : PS X st t) (q : t { D with nx := rB X rest D } σ H) : rB X (st :: rest) D σ H := goB (pss_cons h pss_r) q
theorem rB_nil (q : D.nx σ H) : rB X [] D σ H := goB pss_nil q
end

/-! ### what an expression comes to, from a standing part F of the heap H on -/
def Mono (P : V → Hp → Prop) : Prop := ∀ v F F', Ext F F' → P v F → P v F'
def MonoL (P : List V → Hp → Prop) : Prop := ∀ v F F', Ext F F' → P v F → P v F'
abbrev imP (d : PyData) : V → Hp → Prop := fun v F => Im F d v
abbrev eqP (v : V) : V → Hp → Prop := fun x _ => x = v
abbrev imsP (ds : List PyData) : List V → Hp → Prop := fun v F => ImL F ds v
theorem mono_im {d : PyData} : Mono (imP d) := fun _ _ _ e h => h.up e
theorem mono_eq {v : V} : Mono (eqP v) := fun _ _ _ _ h => h
theorem mono_ims {d : List PyData} : MonoL (imsP d) := fun _ _ _ e h => h.up e

def EX (T : List (Addr × Str)) (X : Cx) (e : Expr) (σ : St) (F H : Hp) (P : V → Hp → Prop) : Prop :=
  ∀ F1 H1, Adv T F H F1 H1 → ∀ Q : VK, (∀ v F2 H2, Adv T F1 H1 F2 H2 → P v F2 → Q v H2) → rE X e σ H1 Q
def ET (T : List (Addr × Str)) (X : Cx) (e : Expr) (σ : St) (F H : Hp) (b : Bool) : Prop :=
  ∀ F1 H1, Adv T F H F1 H1 → ∀ Q : Bool → Hp → Prop, (∀ F2 H2, Adv T F1 H1 F2 H2 → Q b H2) → rT X e σ H1 Q
def EW (T : List (Addr × Str)) (X : Cx) (e : Expr) (σ : St) (F H : Hp) (b : Bool) : Prop :=
  ∀ F1 H1, Adv T F H F1 H1 → ∀ Q : Bool → Hp → Prop, (∀ F2 H2, Adv T F1 H1 F2 H2 → Q b H2) → rW X e σ H1 Q
def EA (T : List (Addr × Str)) (X : Cx) (es : List Expr) (σ : St) (F H : Hp) (P : List V → Hp → Prop) : Prop :=
  ∀ F1 H1, Adv T F H F1 H1 → ∀ Q : List V → Hp → Prop, (∀ v F2 H2, Adv T F1 H1 F2 H2 → P v F2 → Q v H2) → rA X es σ H1 Q
-- a new list of these, beside the standing part
def EF (T : List (Addr × Str)) (X : Cx) (e : Expr) (σ : St) (F H : Hp) (ds : List PyData) : Prop :=
  ∀ F1 H1, Adv T F H F1 H1 → ∀ Q : VK, (∀ a xs F2 H2, Adv T F1 H1 F2 H2 → Nw H1 a → F2 a = none → H2 a = some (.lst xs) → ImL F2 ds xs → Q (.ref a) H2) → rE X e σ H1 Q
abbrev ED (T : List (Addr × Str)) (X : Cx) (e : Expr) (σ : St) (F H : Hp) (d : PyData) : Prop := EX T X e σ F H (imP d)
abbrev EV (T : List (Addr × Str)) (X : Cx) (e : Expr) (σ : St) (F H : Hp) (v : V) : Prop := EX T X e σ F H (eqP v)
abbrev EDs (T : List (Addr × Str)) (X : Cx) (es : List Expr) (σ : St) (F H : Hp) (ds : List PyData) : Prop := EA T X es σ F H (imsP ds)

theorem notTbl_lst {xs : List V} : NotTbl (.lst xs) := fun _ e => by cases e
theorem notTbl_tup {xs : List V} : NotTbl (.tup xs) := fun _ e => by cases e
theorem notTbl_dK {xs : List (Key × V)} : NotTbl (.dK xs) := fun _ e => by cases e
theorem notTbl_dT {xs : List (List Key × V)} : NotTbl (.dT xs) := fun _ e => by cases e
theorem notTbl_ins {C dx : Addr} {fs : List (Str × V)} : NotTbl (.ins C dx fs) := fun _ e => by cases e
theorem notTbl_own {x : Addr} : NotTbl (.own x) := fun _ e => by cases e

section
variable {T : List (Addr × Str)} {X : Cx} {e a b c : Expr} {es : List Expr} {σ : St} {F H F' H' : Hp} {P P1 P2 : V → Hp → Prop} {d d1 d2 d3 : PyData} {ds : List PyData} {v : V} {pos : Pos}
theorem EX.adv (h : EX T X e σ F H P) (a : Adv T F H F' H') : EX T X e σ F' H' P := fun F1 H1 a1 => h F1 H1 (a.trans a1)
theorem ET.adv {b : Bool} (h : ET T X e σ F H b) (a : Adv T F H F' H') : ET T X e σ F' H' b := fun F1 H1 a1 => h F1 H1 (a.trans a1)
theorem EF.adv (h : EF T X e σ F H ds) (a : Adv T F H F' H') : EF T X e σ F' H' ds := fun F1 H1 a1 => h F1 H1 (a.trans a1)
theorem EX.imp (h : EX T X e σ F H P) (q : ∀ v F, P v F → P1 v F) : EX T X e σ F H P1 := fun F1 H1 a1 Q k => h F1 H1 a1 Q fun v F2 H2 a2 p => k v F2 H2 a2 (q v F2 p)
theorem EX.run (h : EX T X e σ F H P) (s : Sub F H) {Q : VK} (k : ∀ v F2 H2, Adv T F H F2 H2 → P v F2 → Q v H2) : rE X e σ H Q := h F H (.refl s) Q k
theorem ED.to (h : ED T X e σ F H d) (q : d = d1) : ED T X e σ F H d1 := q ▸ h
theorem ET.to {b b' : Bool} (h : ET T X e σ F H b) (q : b = b') : ET T X e σ F H b' := q ▸ h
theorem EF.to {es : List PyData} (h : EF T X e σ F H ds) (q : ds = es) : EF T X e σ F H es := q ▸ h
-- a new list comes to stand
theorem EF.ed (h : EF T X e σ F H ds) : ED T X e σ F H (.list ds) := fun F1 H1 a1 Q k => h F1 H1 a1 Q fun a xs F2 H2 a2 hn hF hl hd =>
  k _ _ _ (a2.set hn hl notTbl_lst) ⟨a, xs, rfl, upd_same, hd.up fun x o q => by rw [upd_ne (fun z => by rw [z, hF] at q; cases q)]; exact q⟩

/-! ### names, constants -/
theorem ex_var {i : Nat} {x : Str} (hv : σ[i]? = some (some v)) (hp : P v F) (m : Mono P) (hN : X.N[i]? = some x := by rfl) (hs : Vis X.env.scope x := by first | exact .inl rfl | exact .inr (.inl rfl) | exact .inr (.inr rfl)) (hd : (x == ("__debug__" : Str)) = false := by decide) (hcd : (x == ("__classdict__" : Str)) = false := by decide) : EX T X (.Name x pos) σ F H P :=
  fun F1 H1 a1 Q k => goE (pe_var hN hs hd hcd) ⟨v, hv, k v F1 H1 (.refl a1.sub) (m _ _ _ a1.ff hp)⟩
theorem ed_var {i : Nat} {x : Str} (hv : σ[i]? = some (some v)) (hp : Im F d v) (hN : X.N[i]? = some x := by rfl) (hs : Vis X.env.scope x := by first | exact .inl rfl | exact .inr (.inl rfl) | exact .inr (.inr rfl)) (hd : (x == ("__debug__" : Str)) = false := by decide) (hcd : (x == ("__classdict__" : Str)) = false := by decide) : ED T X (.Name x pos) σ F H d := ex_var hv hp mono_im hN hs hd hcd
theorem ev_var {i : Nat} {x : Str} (hv : σ[i]? = some (some v)) (hN : X.N[i]? = some x := by rfl) (hs : Vis X.env.scope x := by first | exact .inl rfl | exact .inr (.inl rfl) | exact .inr (.inr rfl)) (hd : (x == ("__debug__" : Str)) = false := by decide) (hcd : (x == ("__classdict__" : Str)) = false := by decide) : EV T X (.Name x pos) σ F H v := ex_var hv rfl mono_eq hN hs hd hcd
theorem ex_c {t : V} (h : PE X e (tC t)) (hp : P t F) (m : Mono P) : EX T X e σ F H P := fun F1 H1 a1 Q k => goE h (k t F1 H1 (.refl a1.sub) (m _ _ _ a1.ff hp))
theorem ed_int {i : Int} {j : Nat} : ED T X (.Constant (.int i) j pos) σ F H (.int i) := ex_c pe_int rfl mono_im
theorem ed_str {x : Str} {j : Nat} : ED T X (.Constant (.str x) j pos) σ F H (.str x) := ex_c pe_str rfl mono_im
theorem ed_bool {x : Bool} {j : Nat} : ED T X (.Constant (.bool x) j pos) σ F H (.bool x) := ex_c pe_bl rfl mono_im
theorem ed_none {j : Nat} : ED T X (.Constant .none j pos) σ F H .none := ex_c pe_non rfl mono_im
theorem ed_gint {x : Str} {i : Int} (h : ∃ t, X.mg x = some (.int i t)) (hg : Gl X x := by rfl) (hd : (x == ("__debug__" : Str)) = false := by decide) : ED T X (.Name x pos) σ F H (.int i) := by
  obtain ⟨t, h⟩ := h
  exact ex_c (pe_glob (v := .int i) hg h ⟨t, rfl⟩ hd) rfl mono_im
theorem ed_gstr {x z : Str} (h : ∃ t, X.mg x = some (.str z t)) (hg : Gl X x := by rfl) (hd : (x == ("__debug__" : Str)) = false := by decide) : ED T X (.Name x pos) σ F H (.str z) := by
  obtain ⟨t, h⟩ := h
  exact ex_c (pe_glob (v := .str z) hg h ⟨t, rfl⟩ hd) rfl mono_im
theorem ev_gref {x : Str} {r : Addr} (h : X.mg x = some (.ref r)) (hg : Gl X x := by rfl) (hd : (x == ("__debug__" : Str)) = false := by decide) : EV T X (.Name x pos) σ F H (.ref r) := ex_c (pe_glob (v := .ref r) hg h rfl hd) rfl mono_eq
theorem ev_gty {x : Str} {n : String} (h : X.mg x = none) (hv : bootBuiltins x = some (.type n)) (hg : Gl X x := by rfl) (hn : x ≠ "__name__" := by decide) (hd : (x == ("__debug__" : Str)) = false := by decide) : EV T X (.Name x pos) σ F H (.ty n) := ex_c (pe_bltn (v := .ty n) hg h hv rfl hn hd) rfl mono_eq

/-! ### operators -/
-- by a rule of the values
def RX (T : List (Addr × Str)) (r : R2) (F H : Hp) (P1 P2 P : V → Hp → Prop) : Prop :=
  ∀ x y F1 H1, Adv T F H F1 H1 → P1 x F1 → P2 y F1 → ∀ Q : VK, (∀ v F2 H2, Adv T F1 H1 F2 H2 → P v F2 → Q v H2) → r x y H1 Q
theorem ex_op2 {r : R2} {ex : Expr} (he : PE X ex (tOp r (rE X a) (rE X b))) (ha : EX T X a σ F H P1) (hb : EX T X b σ F H P2) (m : Mono P1) (hr : RX T r F H P1 P2 P) : EX T X ex σ F H P :=
  fun F1 H1 a1 Q k => goE he (ha F1 H1 a1 _ fun x F2 H2 a2 p1 => hb F2 H2 (a1.trans a2) _ fun y F3 H3 a3 p2 => hr x y F3 H3 ((a1.trans a2).trans a3) (m _ _ _ a3.ff p1) p2 Q fun v F4 H4 a4 p => k v F4 H4 ((a2.trans a3).trans a4) p)
theorem ex_bin {op : Operator} {r : R2} (ho : OpR X (binaryOp op) r) (ha : EX T X a σ F H P1) (hb : EX T X b σ F H P2) (m : Mono P1) (hr : RX T r F H P1 P2 P) : EX T X (.BinOp a op b pos) σ F H P := ex_op2 (pe_op ho pe_r pe_r) ha hb m hr
theorem ex_cmp {op : CmpOp} {r : R2} (ho : OpR X (compareOp op) r) (ha : EX T X a σ F H P1) (hb : EX T X b σ F H P2) (m : Mono P1) (hr : RX T r F H P1 P2 P) (hm : behindInMarks op b = false) : EX T X (.Compare a [op] [b] pos) σ F H P := ex_op2 (pe_cmpR ho pe_r pe_r hm) ha hb m hr
theorem et_cmp {op : CmpOp} {r : R2} {k0 : Bool} (ho : OpR X (compareOp op) r) (ha : EX T X a σ F H P1) (hb : EX T X b σ F H P2) (m : Mono P1) (hr : RX T r F H P1 P2 (imP (.bool k0))) (hm : behindInMarks op b = false) : ET T X (.Compare a [op] [b] pos) σ F H k0 :=
  fun F1 H1 a1 Q k => goT (pt_cmpR ho pe_r pe_r hm) (ha F1 H1 a1 _ fun x F2 H2 a2 p1 => hb F2 H2 (a1.trans a2) _ fun y F3 H3 a3 p2 => hr x y F3 H3 ((a1.trans a2).trans a3) (m _ _ _ a3.ff p1) p2 _ fun v F4 H4 a4 p => ⟨k0, p, k F4 H4 ((a2.trans a3).trans a4)⟩)
theorem rx_I0 {g : Int → Int → V} {i j : Int} (h : P (g i j) F) (m : Mono P) : RX T (rI0 g) F H (imP (.int i)) (imP (.int j)) P := fun x y F1 H1 a1 h1 h2 Q k => ⟨i, j, h1, h2, k _ F1 H1 (.refl a1.sub) (m _ _ _ a1.ff h)⟩
theorem rx_I {C : Int → Int → Prop} {g : Int → Int → V} {i j : Int} (hc : C i j) (h : P (g i j) F) (m : Mono P) : RX T (rI C g) F H (imP (.int i)) (imP (.int j)) P := fun x y F1 H1 a1 h1 h2 Q k => ⟨i, j, h1, h2, hc, k _ F1 H1 (.refl a1.sub) (m _ _ _ a1.ff h)⟩
variable {i j : Int}
theorem ed_add (ha : ED T X a σ F H (.int i)) (hb : ED T X b σ F H (.int j)) : ED T X (.BinOp a .Add b pos) σ F H (.int (i + j)) := ex_bin op_add ha hb mono_im (rx_I0 rfl mono_im)
theorem ed_sub (ha : ED T X a σ F H (.int i)) (hb : ED T X b σ F H (.int j)) : ED T X (.BinOp a .Sub b pos) σ F H (.int (i - j)) := ex_bin op_sub ha hb mono_im (rx_I0 rfl mono_im)
theorem ed_mulW (ha : ED T X a σ F H (.int i)) (hb : ED T X b σ F H (.int j)) (hc : CMulW i j) : ED T X (.BinOp a .Mult b pos) σ F H (.int (i * j)) := ex_bin op_mulW ha hb mono_im (rx_I hc rfl mono_im)
theorem ed_mul (ha : ED T X a σ F H (.int i)) (hb : ED T X b σ F H (.int j)) (hc : CMul i j) : ED T X (.BinOp a .Mult b pos) σ F H (.int (i * j)) := ex_bin op_mul ha hb mono_im (rx_I hc rfl mono_im)
theorem ed_mod (ha : ED T X a σ F H (.int i)) (hb : ED T X b σ F H (.int j)) (hc : 0 < j) : ED T X (.BinOp a .Mod b pos) σ F H (.int (i % j)) := ex_bin op_mod ha hb mono_im (rx_I hc rfl mono_im)
theorem ed_div (ha : ED T X a σ F H (.int i)) (hb : ED T X b σ F H (.int j)) (hc : CDiv i j) : ED T X (.BinOp a .FloorDiv b pos) σ F H (.int (i / j)) := ex_bin op_fdiv ha hb mono_im (rx_I hc rfl mono_im)
theorem ed_pow (ha : ED T X a σ F H (.int i)) (hb : ED T X b σ F H (.int j)) (hc : CPow i j) : ED T X (.BinOp a .Pow b pos) σ F H (.int (i ^ j.toNat)) := ex_bin op_pow ha hb mono_im (rx_I hc rfl mono_im)
theorem ed_shl (ha : ED T X a σ F H (.int i)) (hb : ED T X b σ F H (.int j)) (hc : CPow i j) : ED T X (.BinOp a .LShift b pos) σ F H (.int (i * 2 ^ j.toNat)) := ex_bin op_shl ha hb mono_im (rx_I hc rfl mono_im)
theorem ed_shr (ha : ED T X a σ F H (.int i)) (hb : ED T X b σ F H (.int j)) (hc : 0 ≤ j) : ED T X (.BinOp a .RShift b pos) σ F H (.int (i / 2 ^ j.toNat)) := ex_bin op_shr ha hb mono_im (rx_I hc rfl mono_im)
theorem ed_band (ha : ED T X a σ F H (.int i)) (hb : ED T X b σ F H (.int j)) : ED T X (.BinOp a .BitAnd b pos) σ F H (.int (Builtin.bitAnd i j)) := ex_bin op_and ha hb mono_im (rx_I0 rfl mono_im)
theorem ed_adds {x y : Str} (ha : ED T X a σ F H (.str x)) (hb : ED T X b σ F H (.str y)) (hl : x.length + y.length ≤ sizeLine) : ED T X (.BinOp a .Add b pos) σ F H (.str (x ++ y)) :=
  ex_bin op_add_str ha hb mono_im fun _ _ F1 H1 a1 h1 h2 Q k => ⟨x, y, h1, h2, hl, k _ F1 H1 (.refl a1.sub) rfl⟩
-- tuples
theorem ed_addt {xs ys : List PyData} (ha : ED T X a σ F H (.tuple xs)) (hb : ED T X b σ F H (.tuple ys)) (hl : xs.length + ys.length ≤ sizeLine) : ED T X (.BinOp a .Add b pos) σ F H (.tuple (xs ++ ys)) :=
  ex_bin op_catA ha hb mono_im fun _ _ F1 H1 a1 ⟨p, us, e1, h1, d1⟩ ⟨q, ws, e2, h2, d2⟩ Q k =>
    have n1 := d1.length
    have n2 := d2.length
    ⟨p, q, us, ws, e1, e2, SqT.of (a1.sub.at h1), SqT.of (a1.sub.at h2), by omega, fun z => by
        subst z
        have z : xs = [] := List.length_eq_zero_iff.mp n1.symm
        subst z
        exact k _ F1 H1 (.refl a1.sub) ⟨q, ws, rfl, h2, d2⟩, fun _ z => by
        subst z
        have z : ys = [] := List.length_eq_zero_iff.mp n2.symm
        subst z
        exact k _ F1 H1 (.refl a1.sub) (by rw [List.append_nil]; exact ⟨p, us, rfl, h1, d1⟩), fun _ _ r hr => by
        have ad : Adv T F1 H1 (upd F1 r (.tup (us ++ ws))) (upd H1 r (.tup (us ++ ws))) := Adv.new a1.sub hr notTbl_tup
        exact k _ _ _ ad ⟨r, _, rfl, upd_same, (d1.append d2).up ad.ff⟩⟩
-- lists: a new one
theorem ef_addl {xs ys : List PyData} (ha : ED T X a σ F H (.list xs)) (hb : ED T X b σ F H (.list ys)) (hl : xs.length + ys.length ≤ sizeLine) : EF T X (.BinOp a .Add b pos) σ F H (xs ++ ys) :=
  fun F1 H1 a1 Q k => goE (pe_op op_cat pe_r pe_r) (ha F1 H1 a1 _ fun x F2 H2 a2 p1 => hb F2 H2 (a1.trans a2) _ fun y F3 H3 a3 ⟨q, ws, e2, h2, d2⟩ => by
    obtain ⟨p, us, e1, h1, d1⟩ := mono_im _ _ _ a3.ff p1
    have n1 := d1.length
    have n2 := d2.length
    refine ⟨p, q, us, ws, e1, e2, a3.sub.at h1, a3.sub.at h2, by omega, fun r hr => ?_⟩
    have ad : Adv T F3 H3 F3 (upd H3 r (.lst (us ++ ws))) := Adv.lay a3.sub hr
    exact k r _ F3 _ ((a2.trans a3).trans ad) (Nw.back (a2.trans a3) (.of hr)) (a3.sub.offN hr) upd_same (d1.append d2))

/-! ### comparisons -/
theorem ed_lt (ha : ED T X a σ F H (.int i)) (hb : ED T X b σ F H (.int j)) : ED T X (.Compare a [.Lt] [b] pos) σ F H (.bool (decide (i < j))) := ex_cmp op_lt ha hb mono_im (rx_I0 rfl mono_im) (nomark _)
theorem ed_le (ha : ED T X a σ F H (.int i)) (hb : ED T X b σ F H (.int j)) : ED T X (.Compare a [.LtE] [b] pos) σ F H (.bool (decide (i ≤ j))) := ex_cmp op_le ha hb mono_im (rx_I0 rfl mono_im) (nomark _)
theorem ed_gt (ha : ED T X a σ F H (.int i)) (hb : ED T X b σ F H (.int j)) : ED T X (.Compare a [.Gt] [b] pos) σ F H (.bool (decide (j < i))) := ex_cmp op_gt ha hb mono_im (rx_I0 rfl mono_im) (nomark _)
theorem ed_ge (ha : ED T X a σ F H (.int i)) (hb : ED T X b σ F H (.int j)) : ED T X (.Compare a [.GtE] [b] pos) σ F H (.bool (decide (j ≤ i))) := ex_cmp op_ge ha hb mono_im (rx_I0 rfl mono_im) (nomark _)
theorem et_lt (ha : ED T X a σ F H (.int i)) (hb : ED T X b σ F H (.int j)) : ET T X (.Compare a [.Lt] [b] pos) σ F H (decide (i < j)) := et_cmp op_lt ha hb mono_im (rx_I0 rfl mono_im) (nomark _)
theorem et_le (ha : ED T X a σ F H (.int i)) (hb : ED T X b σ F H (.int j)) : ET T X (.Compare a [.LtE] [b] pos) σ F H (decide (i ≤ j)) := et_cmp op_le ha hb mono_im (rx_I0 rfl mono_im) (nomark _)
theorem et_gt (ha : ED T X a σ F H (.int i)) (hb : ED T X b σ F H (.int j)) : ET T X (.Compare a [.Gt] [b] pos) σ F H (decide (j < i)) := et_cmp op_gt ha hb mono_im (rx_I0 rfl mono_im) (nomark _)
theorem et_ge (ha : ED T X a σ F H (.int i)) (hb : ED T X b σ F H (.int j)) : ET T X (.Compare a [.GtE] [b] pos) σ F H (decide (j ≤ i)) := et_cmp op_ge ha hb mono_im (rx_I0 rfl mono_im) (nomark _)
-- data at any depth
def okD (d : PyData) : Bool := !d.hasDict && SeqAt.shaped d
theorem rx_eqD {K : PySem.W.Frag} (h1 : okD d1 = true) (h2 : okD d2 = true) : RX T (rEqD K) F H (imP d1) (imP d2) (imP (.bool (PyData.eqv d1 d2))) := fun x y F1 H1 a1 p1 p2 Q k => by
  simp only [okD, Bool.and_eq_true, Bool.not_eq_true'] at h1 h2
  exact ⟨d1, d2, Im.dp a1.sub _ _ h1.1 p1, Im.dp a1.sub _ _ h2.1 p2, h1.2, h2.2, k _ F1 H1 (.refl a1.sub) rfl⟩
theorem rx_neD {K : PySem.W.Frag} (h1 : okD d1 = true) (h2 : okD d2 = true) : RX T (rNeD K) F H (imP d1) (imP d2) (imP (.bool (!PyData.eqv d1 d2))) := fun x y F1 H1 a1 p1 p2 Q k => by
  simp only [okD, Bool.and_eq_true, Bool.not_eq_true'] at h1 h2
  exact ⟨d1, d2, Im.dp a1.sub _ _ h1.1 p1, Im.dp a1.sub _ _ h2.1 p2, h1.2, h2.2, k _ F1 H1 (.refl a1.sub) rfl⟩
theorem et_eqD (hu : X.A.units + 64 < cLine) (ha : ED T X a σ F H d1) (hb : ED T X b σ F H d2) (h1 : okD d1 = true) (h2 : okD d2 = true) : ET T X (.Compare a [.Eq] [b] pos) σ F H (PyData.eqv d1 d2) := et_cmp (op_eqD hu) ha hb mono_im (rx_eqD h1 h2) (nomark _)
theorem et_neD (hu : X.A.units + 64 < cLine) (ha : ED T X a σ F H d1) (hb : ED T X b σ F H d2) (h1 : okD d1 = true) (h2 : okD d2 = true) : ET T X (.Compare a [.NotEq] [b] pos) σ F H (!PyData.eqv d1 d2) := et_cmp (op_neD hu) ha hb mono_im (rx_neD h1 h2) (nomark _)
theorem ed_eqD (hu : X.A.units + 64 < cLine) (ha : ED T X a σ F H d1) (hb : ED T X b σ F H d2) (h1 : okD d1 = true) (h2 : okD d2 = true) : ED T X (.Compare a [.Eq] [b] pos) σ F H (.bool (PyData.eqv d1 d2)) := ex_cmp (op_eqD hu) ha hb mono_im (rx_eqD h1 h2) (nomark _)
theorem ed_neD (hu : X.A.units + 64 < cLine) (ha : ED T X a σ F H d1) (hb : ED T X b σ F H d2) (h1 : okD d1 = true) (h2 : okD d2 = true) : ED T X (.Compare a [.NotEq] [b] pos) σ F H (.bool (!PyData.eqv d1 d2)) := ex_cmp (op_neD hu) ha hb mono_im (rx_neD h1 h2) (nomark _)
-- scalars
theorem et_eqI (ha : ED T X a σ F H (.int i)) (hb : ED T X b σ F H (.int j)) : ET T X (.Compare a [.Eq] [b] pos) σ F H (decide (i = j)) := et_cmp op_eq ha hb mono_im (fun x y F1 H1 a1 h1 h2 Q k => by
  have h1 : x = .int i := h1
  have h2 : y = .int j := h2
  subst h1 h2
  exact ⟨rfl, k _ F1 H1 (.refl a1.sub) (by show V.bl _ = V.bl _; simp)⟩) (nomark _)
theorem et_eqS {x y : Str} (ha : ED T X a σ F H (.str x)) (hb : ED T X b σ F H (.str y)) : ET T X (.Compare a [.Eq] [b] pos) σ F H (decide (x = y)) := et_cmp op_eq ha hb mono_im (fun u v F1 H1 a1 h1 h2 Q k => by
  have h1 : u = .str x := h1
  have h2 : v = .str y := h2
  subst h1 h2
  exact ⟨rfl, k _ F1 H1 (.refl a1.sub) (by show V.bl _ = V.bl _; simp)⟩) (nomark _)
theorem ed_eqS {x y : Str} (ha : ED T X a σ F H (.str x)) (hb : ED T X b σ F H (.str y)) : ED T X (.Compare a [.Eq] [b] pos) σ F H (.bool (decide (x = y))) := ex_cmp op_eq ha hb mono_im (fun u v F1 H1 a1 h1 h2 Q k => by
  have h1 : u = .str x := h1
  have h2 : v = .str y := h2
  subst h1 h2
  exact ⟨rfl, k _ F1 H1 (.refl a1.sub) (by show V.bl _ = V.bl _; simp)⟩) (nomark _)
theorem et_neI (ha : ED T X a σ F H (.int i)) (hb : ED T X b σ F H (.int j)) : ET T X (.Compare a [.NotEq] [b] pos) σ F H (!decide (i = j)) := et_cmp op_ne ha hb mono_im (fun x y F1 H1 a1 h1 h2 Q k => by
  have h1 : x = .int i := h1
  have h2 : y = .int j := h2
  subst h1 h2
  exact ⟨rfl, k _ F1 H1 (.refl a1.sub) (by show V.bl _ = V.bl _; simp)⟩) (nomark _)
theorem et_neS {x y : Str} (ha : ED T X a σ F H (.str x)) (hb : ED T X b σ F H (.str y)) : ET T X (.Compare a [.NotEq] [b] pos) σ F H (!decide (x = y)) := et_cmp op_ne ha hb mono_im (fun u v F1 H1 a1 h1 h2 Q k => by
  have h1 : u = .str x := h1
  have h2 : v = .str y := h2
  subst h1 h2
  exact ⟨rfl, k _ F1 H1 (.refl a1.sub) (by show V.bl _ = V.bl _; simp)⟩) (nomark _)

/-! ### and, or, not, if -/
theorem et_val {k0 : Bool} (h : ED T X e σ F H (.bool k0)) (he : ∀ whole, isTrue e X.env whole = (do let v ← whole; standAt e.pos; holding [v] (truthy v)) := by intro _; rfl) : ET T X e σ F H k0 := fun F1 H1 a1 Q k => goT (pt_val pe_r he) (h F1 H1 a1 _ fun v F2 H2 a2 p => ⟨k0, p, k F2 H2 a2⟩)
theorem et_w {k0 : Bool} (h : EW T X e σ F H k0) : ET T X e σ F H k0 := fun F1 H1 a1 Q k => goT pw_r.pt (h F1 H1 a1 Q k)
theorem ew_and1 {k0 : Bool} (h : ET T X a σ F H k0) : EW T X (.BoolOp .And [a] pos) σ F H k0 := fun F1 H1 a1 Q k => goW (pw_and1 pt_r) (h F1 H1 a1 Q k)
theorem ew_or1 {k0 : Bool} (h : ET T X a σ F H k0) : EW T X (.BoolOp .Or [a] pos) σ F H k0 := fun F1 H1 a1 Q k => goW (pw_or1 pt_r) (h F1 H1 a1 Q k)
variable {k1 k2 : Bool} {rest : List Expr}
theorem ew_and (h1 : ET T X a σ F H k1) (h2 : k1 = true → EW T X (.BoolOp .And (b :: rest) pos) σ F H k2) : EW T X (.BoolOp .And (a :: b :: rest) pos) σ F H (k1 && k2) := fun F1 H1 a1 Q k => goW (pw_and pt_r pw_r) (h1 F1 H1 a1 _ fun F2 H2 a2 => by
  cases k1 with
  | true => exact h2 rfl F2 H2 (a1.trans a2) Q fun F3 H3 a3 => k F3 H3 (a2.trans a3)
  | false => exact k F2 H2 a2)
theorem ew_or (h1 : ET T X a σ F H k1) (h2 : k1 = false → EW T X (.BoolOp .Or (b :: rest) pos) σ F H k2) : EW T X (.BoolOp .Or (a :: b :: rest) pos) σ F H (k1 || k2) := fun F1 H1 a1 Q k => goW (pw_or pt_r pw_r) (h1 F1 H1 a1 _ fun F2 H2 a2 => by
  cases k1 with
  | false => exact h2 rfl F2 H2 (a1.trans a2) Q fun F3 H3 a3 => k F3 H3 (a2.trans a3)
  | true => exact k F2 H2 a2)
theorem et_not (h : ET T X a σ F H k1) : ET T X (.UnaryOp .Not a pos) σ F H (!k1) := fun F1 H1 a1 Q k => goT (pt_not pt_r) (h F1 H1 a1 _ fun F2 H2 a2 => k F2 H2 a2)
theorem ed_not (h : ED T X a σ F H (.bool k1)) : ED T X (.UnaryOp .Not a pos) σ F H (.bool (!k1)) := fun F1 H1 a1 Q k => goE (pe_not pe_r) (h F1 H1 a1 _ fun v F2 H2 a2 p => ⟨k1, p, k _ F2 H2 a2 rfl⟩)
theorem ed_one {op : BoolOp} (h : EX T X a σ F H P) : EX T X (.BoolOp op [a] pos) σ F H P := fun F1 H1 a1 Q k => goE (pe_one pe_r) (h F1 H1 a1 Q k)
theorem ed_and (h1 : ED T X a σ F H (.bool k1)) (h2 : k1 = true → ED T X (.BoolOp .And (b :: rest) pos) σ F H (.bool k2)) : ED T X (.BoolOp .And (a :: b :: rest) pos) σ F H (.bool (k1 && k2)) := fun F1 H1 a1 Q k => goE (pe_and pe_r pe_r) (h1 F1 H1 a1 _ fun v F2 H2 a2 p => ⟨k1, p, by
  cases k1 with
  | true => exact h2 rfl F2 H2 (a1.trans a2) Q fun v F3 H3 a3 => k v F3 H3 (a2.trans a3)
  | false => exact k _ F2 H2 a2 rfl⟩)
theorem ed_or (h1 : ED T X a σ F H (.bool k1)) (h2 : k1 = false → ED T X (.BoolOp .Or (b :: rest) pos) σ F H (.bool k2)) : ED T X (.BoolOp .Or (a :: b :: rest) pos) σ F H (.bool (k1 || k2)) := fun F1 H1 a1 Q k => goE (pe_or pe_r pe_r) (h1 F1 H1 a1 _ fun v F2 H2 a2 p => ⟨k1, p, by
  cases k1 with
  | false => exact h2 rfl F2 H2 (a1.trans a2) Q fun v F3 H3 a3 => k v F3 H3 (a2.trans a3)
  | true => exact k _ F2 H2 a2 rfl⟩)
theorem ex_if (h1 : ET T X c σ F H k1) (h2 : k1 = true → EX T X a σ F H P) (h3 : k1 = false → EX T X b σ F H P) : EX T X (.IfExp c a b pos) σ F H P := fun F1 H1 a1 Q k => goE (pe_ifExp pt_r pe_r pe_r) (h1 F1 H1 a1 _ fun F2 H2 a2 => by
  cases k1 with
  | true => exact h2 rfl F2 H2 (a1.trans a2) Q fun v F3 H3 a3 => k v F3 H3 (a2.trans a3)
  | false => exact h3 rfl F2 H2 (a1.trans a2) Q fun v F3 H3 a3 => k v F3 H3 (a2.trans a3))

/-! ### arguments, displays -/
theorem ea_nil : EDs T X [] σ F H [] := fun F1 H1 a1 Q k => goA pa_nil (k [] F1 H1 (.refl a1.sub) rfl)
theorem ea_cons (he : ED T X e σ F H d) (h : EDs T X es σ F H ds) (hs : starEach (e :: es) X.env = (false, eval e X.env) :: starEach es X.env := by rfl) : EDs T X (e :: es) σ F H (d :: ds) :=
  fun F1 H1 a1 Q k => goA (pa_cons pe_r pa_r hs) (he F1 H1 a1 _ fun v F2 H2 a2 p1 => h F2 H2 (a1.trans a2) _ fun vs F3 H3 a3 p2 => k _ F3 H3 (a2.trans a3) ⟨v, vs, rfl, p1.up a3.ff, p2⟩)
theorem eg_nil : EA T X [] σ F H (fun vs _ => vs = []) := fun F1 H1 a1 Q k => goA pa_nil (k [] F1 H1 (.refl a1.sub) rfl)
theorem eg_cons {PL : List V → Hp → Prop} (he : EX T X e σ F H P) (h : EA T X es σ F H PL) (m : Mono P) (hs : starEach (e :: es) X.env = (false, eval e X.env) :: starEach es X.env := by rfl) : EA T X (e :: es) σ F H (fun vs F' => ∃ v r, vs = v :: r ∧ P v F' ∧ PL r F') :=
  fun F1 H1 a1 Q k => goA (pa_cons pe_r pa_r hs) (he F1 H1 a1 _ fun v F2 H2 a2 p1 => h F2 H2 (a1.trans a2) _ fun vs F3 H3 a3 p2 => k _ F3 H3 (a2.trans a3) ⟨v, vs, rfl, m _ _ _ a3.ff p1, p2⟩)
theorem ed_tup {x1} (h : EDs T X es σ F H ds) (hl : ds.length ≤ sizeLine := by exact Nat.le_of_ble_eq_true rfl) : ED T X (.Tuple es x1 pos) σ F H (.tuple ds) := fun F1 H1 a1 Q k => goE (pe_tup pa_r) (h F1 H1 a1 _ fun vs F2 H2 a2 p => ⟨by rw [p.length]; exact hl, fun r hr => by
  have ad : Adv T F2 H2 (upd F2 r (.tup vs)) (upd H2 r (.tup vs)) := Adv.new a2.sub hr notTbl_tup
  exact k _ _ _ (a2.trans ad) ⟨r, vs, rfl, upd_same, p.up ad.ff⟩⟩)
theorem ef_lst (h : EDs T X es σ F H ds) (hl : ds.length ≤ sizeLine := by exact Nat.le_of_ble_eq_true rfl) : EF T X (.List es pos) σ F H ds := fun F1 H1 a1 Q k => goE (pe_lst pa_r) (h F1 H1 a1 _ fun vs F2 H2 a2 p => ⟨by rw [p.length]; exact hl, fun r hr =>
  k r vs F2 _ (a2.trans (Adv.lay a2.sub hr)) (Nw.back a2 (.of hr)) (a2.sub.offN hr) upd_same p⟩)

/-! ### subscripts -/
theorem atD {xs : List V} (h : ImL F ds xs) {i : Int} {d : PyData} (q : atI ds i = some d) : ∃ v, atI xs i = some v ∧ Im F d v := by
  unfold atI at q ⊢
  rw [h.length]
  cases e : ixN ds.length i with
  | none => rw [e] at q; cases q
  | some j =>
    rw [e] at q
    exact h.at q
theorem ed_ixt (ha : ED T X a σ F H (.tuple ds)) (hb : ED T X b σ F H (.int i)) (h : atI ds i = some d) (hs : PlainIx b := by exact fun _ _ => rfl) : ED T X (.Subscript a b pos) σ F H d :=
  ex_op2 (pe_ix ix_tup pe_r pe_r hs) ha hb mono_im fun x y F1 H1 a1 ⟨p, us, e1, h1, d1⟩ h2 Q k => by
    obtain ⟨v, q, hv⟩ := atD d1 h
    exact ⟨p, us, i, v, e1, h2, SqT.of (a1.sub.at h1), q, k v F1 H1 (.refl a1.sub) hv⟩
theorem ed_ixl (ha : ED T X a σ F H (.list ds)) (hb : ED T X b σ F H (.int i)) (h : atI ds i = some d) (hs : PlainIx b := by exact fun _ _ => rfl) : ED T X (.Subscript a b pos) σ F H d :=
  ex_op2 (pe_ix ix_list pe_r pe_r hs) ha hb mono_im fun x y F1 H1 a1 ⟨p, us, e1, h1, d1⟩ h2 Q k => by
    obtain ⟨v, q, hv⟩ := atD d1 h
    exact ⟨p, us, i, v, e1, h2, SqL.of (a1.sub.at h1), q, k v F1 H1 (.refl a1.sub) hv⟩
-- of a list beside the standing part
theorem ed_ixm {l : Addr} {xs : List V} (ha : EV T X a σ F H (.ref l)) (hl : H l = some (.lst xs)) (hd : ImL F ds xs) (hb : ED T X b σ F H (.int i)) (h : atI ds i = some d) (hs : PlainIx b := by exact fun _ _ => rfl) : ED T X (.Subscript a b pos) σ F H d :=
  ex_op2 (pe_ix ix_list pe_r pe_r hs) ha hb mono_eq fun x y F1 H1 a1 h1 h2 Q k => by
    obtain ⟨v, q, hv⟩ := atD (hd.up a1.ff) h
    exact ⟨l, xs, i, v, h1, h2, SqL.of (a1.hh _ _ hl notTbl_lst), q, k v F1 H1 (.refl a1.sub) hv⟩
theorem ed_ixs {z : Str} {c : Nat} (ha : ED T X a σ F H (.str z)) (hb : ED T X b σ F H (.int i)) (hl : z.length ≤ sizeLine) (h : atI z.cps.toList i = some c) (hs : PlainIx b := by exact fun _ _ => rfl) : ED T X (.Subscript a b pos) σ F H (.str ⟨#[c]⟩) :=
  ex_op2 (pe_ix ix_str pe_r pe_r hs) ha hb mono_im fun x y F1 H1 a1 h1 h2 Q k => ⟨z, i, c, h1, h2, hl, h, k _ F1 H1 (.refl a1.sub) rfl⟩
end
end Tw
namespace Tw
open PySem L2 LamX
section
variable {T : List (Addr × Str)} {X : Cx} {e a b c : Expr} {es : List Expr} {σ : St} {F H F' H' : Hp} {P P1 P2 : V → Hp → Prop} {PL : List V → Hp → Prop} {d d1 d2 d3 : PyData} {ds : List PyData} {v : V} {pos p p2 : Pos} {i j : Int} {k0 : Bool}
/-! ### slices of tuples -/
theorem sIx_bd (n d : Nat) (lo : Nat) (h : lo ≤ n) : HT.sIx n d (some (lo : Int)) = lo := by rw [HT.sIx_nat]; omega
theorem take_all {α : Type} (xs : List α) : (xs.drop 0).take (xs.length - 0) = xs := by simp
theorem cut_im {xs : List V} (h : ImL F ds xs) (lo hi : Option Int) : ImL F ((ds.drop (HT.sIx ds.length 0 lo)).take (HT.sIx ds.length ds.length hi - HT.sIx ds.length 0 lo)) (cutV xs lo hi) := by
  unfold cutV
  rw [h.length]
  exact (h.drop _).take _
-- what a part of a slice comes to
def EO (T : List (Addr × Str)) (X : Cx) (e : Option Expr) (σ : St) (F H : Hp) (o : Option Int) : Prop := match e, o with
  | none, none => True
  | some e, some i => ED T X e σ F H (.int i)
  | _, _ => False
theorem eo_po {e : Option Expr} {o : Option Int} (h : EO T X e σ F H o) : ∃ t : TO, PO X e t ∧ ∀ F1 H1, Adv T F H F1 H1 → ∀ Q : Option Int → Hp → Prop, (∀ F2 H2, Adv T F1 H1 F2 H2 → Q o H2) → t σ H1 Q := by
  cases e with
  | none => cases o with
    | none => exact ⟨tNoPart, po_none, fun F1 H1 a1 Q k => k F1 H1 (.refl a1.sub)⟩
    | some i => exact h.elim
  | some e => cases o with
    | none => exact h.elim
    | some i => exact ⟨tPart (rE X e), po_some pe_r, fun F1 H1 a1 Q k => (show ED T X e σ F H (.int i) from h) F1 H1 a1 _ fun v F2 H2 a2 q => ⟨i, q, k F2 H2 a2⟩⟩
theorem ed_slt {lo hi : Option Expr} {l u : Option Int} (ha : ED T X a σ F H (.tuple ds)) (hl : EO T X lo σ F H l) (hu : EO T X hi σ F H u) :
    ED T X (.Subscript a (.Slice lo hi none p2) pos) σ F H (.tuple ((ds.drop (HT.sIx ds.length 0 l)).take (HT.sIx ds.length ds.length u - HT.sIx ds.length 0 l))) := by
  obtain ⟨tl, pl, ql⟩ := eo_po hl
  obtain ⟨tu, pu, qu⟩ := eo_po hu
  intro F1 H1 a1 Q k
  refine goE (pe_slice sl_tupA pe_r pl pu) (ha F1 H1 a1 _ fun x F2 H2 a2 p1 => ql F2 H2 (a1.trans a2) _ fun F3 H3 a3 => qu F3 H3 ((a1.trans a2).trans a3) _ fun F4 H4 a4 => ?_)
  obtain ⟨q, xs, e1, h1, d1⟩ := mono_im _ _ _ (a3.ff.trans a4.ff) p1
  have aa := (a2.trans a3).trans a4
  refine ⟨q, xs, e1, SqT.of (a4.sub.at h1), fun z => k _ F4 H4 aa ?_, fun _ r hr => ?_⟩
  · rw [d1.length] at z
    rw [z.1, z.2, take_all]
    exact ⟨q, xs, rfl, h1, d1⟩
  · have ad : Adv T F4 H4 (upd F4 r (.tup (cutV xs l u))) (upd H4 r (.tup (cutV xs l u))) := Adv.new a4.sub hr notTbl_tup
    exact k _ _ _ (aa.trans ad) ⟨r, _, rfl, upd_same, (cut_im d1 l u).up ad.ff⟩

/-! ### attributes -/
theorem ex_fld {f : Str} {o C dx : Addr} {fs : List (Str × V)} (ha : EV T X a σ F H (.ref o)) (ho : H o = some (.ins C dx fs)) (hC : Cls X.K C) (hn : NoAttr X.K C f) (hl : fs.lookup f = some v) (hp : P v F) (m : Mono P)
    (hb : attributeBase a f X.env (eval a X.env) = eval a X.env := by rfl) : EX T X (.Attribute a f pos) σ F H P := fun F1 H1 a1 Q k => goE (pe_fld pe_r hb) (ha F1 H1 a1 _ fun x F2 H2 a2 q =>
      ⟨o, C, dx, fs, v, q, a2.hh _ _ (a1.hh _ _ ho notTbl_ins) notTbl_ins, hC, hn, hl, k v F2 H2 a2 (m _ _ _ (a1.ff.trans a2.ff) hp)⟩)
theorem ed_fld {f : Str} {o C dx : Addr} {fs : List (Str × V)} (ha : EV T X a σ F H (.ref o)) (ho : H o = some (.ins C dx fs)) (hC : Cls X.K C) (hn : NoAttr X.K C f) (hl : fs.lookup f = some v) (hp : Im F d v)
    (hb : attributeBase a f X.env (eval a X.env) = eval a X.env := by rfl) : ED T X (.Attribute a f pos) σ F H d := ex_fld ha ho hC hn hl hp mono_im hb
theorem ev_fld {f : Str} {o C dx : Addr} {fs : List (Str × V)} (ha : EV T X a σ F H (.ref o)) (ho : H o = some (.ins C dx fs)) (hC : Cls X.K C) (hn : NoAttr X.K C f) (hl : fs.lookup f = some v)
    (hb : attributeBase a f X.env (eval a X.env) = eval a X.env := by rfl) : EV T X (.Attribute a f pos) σ F H v := ex_fld ha ho hC hn hl rfl mono_eq hb

/-! ### calls of what is built in -/
def CX1 (T : List (Addr × Str)) (r : List V → Hp → VK → Prop) (F H : Hp) (PL : List V → Hp → Prop) (P : V → Hp → Prop) : Prop :=
  ∀ vs F1 H1, Adv T F H F1 H1 → PL vs F1 → ∀ Q : VK, (∀ v F2 H2, Adv T F1 H1 F2 H2 → P v F2 → Q v H2) → r vs H1 Q
theorem ex_cb {r : List V → Hp → VK → Prop} {ex : Expr} (he : PE X ex (tCB r (rA X es))) (ha : EA T X es σ F H PL) (hr : CX1 T r F H PL P) : EX T X ex σ F H P := fun F1 H1 a1 Q k =>
  goE he (ha F1 H1 a1 _ fun vs F2 H2 a2 q => hr vs F2 H2 (a1.trans a2) q Q fun v F3 H3 a3 z => k v F3 H3 (a2.trans a3) z)
theorem ex_callB {id : String} {x : Str} {r : List V → Hp → VK → Prop} (hc : CallR X (.builtin id) r) (hm : X.mg x = none) (hv : bootBuiltins x = some (.builtin id)) (ha : EA T X (e :: es) σ F H PL) (hr : CX1 T r F H PL P) (hg : Gl X x := by rfl) (hn : x ≠ "__name__" := by decide) (hdb : (x == ("__debug__" : Str)) = false := by decide) (he : starEach (e :: es) X.env = (false, eval e X.env) :: starEach es X.env := by rfl) (hpl : (backTo pos (starEach es X.env)).any (·.1) = false := by rfl) : EX T X (.Call (.Name x p) (e :: es) [] pos) σ F H P :=
  ex_cb (pe_callB hc hg hm hv pa_r hn hdb he hpl) ha hr
theorem ex_callTy {id : String} {x : Str} {r : List V → Hp → VK → Prop} (hc : CallR X (.type id) r) (hm : X.mg x = none) (hv : bootBuiltins x = some (.type id)) (ha : EA T X (e :: es) σ F H PL) (hr : CX1 T r F H PL P) (hg : Gl X x := by rfl) (hn : x ≠ "__name__" := by decide) (hdb : (x == ("__debug__" : Str)) = false := by decide) (he : starEach (e :: es) X.env = (false, eval e X.env) :: starEach es X.env := by rfl) (hpl : (backTo pos (starEach es X.env)).any (·.1) = false := by rfl) : EX T X (.Call (.Name x p) (e :: es) [] pos) σ F H P :=
  ex_cb (pe_callTy hc hg hm hv pa_r hn hdb he hpl) ha hr
theorem boot_lenb : bootBuiltins "len" = some (.builtin "len") := PySem.boot_len
theorem boot_isib : bootBuiltins "isinstance" = some (.builtin "isinstance") := PyProof.Rows.Boot.«isinstance»
theorem boot_allb : bootBuiltins "all" = some (.builtin "all") := PyProof.Rows.Boot.«all»
theorem boot_sumb : bootBuiltins "sum" = some (.builtin "sum") := PyProof.Rows.Boot.«sum»
theorem boot_maxb : bootBuiltins "max" = some (.builtin "max") := PyProof.Rows.Boot.«max»
theorem boot_minb : bootBuiltins "min" = some (.builtin "min") := PyProof.Rows.Boot.«min»
theorem boot_absb : bootBuiltins "abs" = some (.builtin "abs") := PyProof.Rows.Boot.«abs»
theorem boot_reprb : bootBuiltins "repr" = some (.builtin "repr") := PyProof.Rows.Boot.«repr»
theorem boot_sortedb : bootBuiltins "sorted" = some (.builtin "sorted") := PyProof.Rows.Boot.«sorted»
theorem boot_intb : bootBuiltins "int" = some (.type "int") := PyProof.Rows.Boot.«int»
theorem boot_boolb : bootBuiltins "bool" = some (.type "bool") := PyProof.Rows.Boot.«bool»
theorem boot_strb : bootBuiltins "str" = some (.type "str") := PyProof.Rows.Boot.«str»
theorem boot_tupleb : bootBuiltins "tuple" = some (.type "tuple") := PyProof.Rows.Boot.«tuple»
theorem boot_dictb : bootBuiltins "dict" = some (.type "dict") := PyProof.Rows.Boot.«dict»
theorem boot_setb : bootBuiltins "set" = some (.type "set") := PyProof.Rows.Boot.«set»
theorem boot_rangeb : bootBuiltins "range" = some (.type "range") := PyProof.Rows.Boot.«range»
theorem boot_enumb : bootBuiltins "enumerate" = some (.type "enumerate") := PyProof.Rows.Boot.«enumerate»
theorem ea1 (h : EX T X e σ F H P) (m : Mono P) (hs : starEach [e] X.env = (false, eval e X.env) :: starEach [] X.env := by rfl) : EA T X [e] σ F H (fun vs F' => ∃ v, vs = [v] ∧ P v F') := fun F1 H1 a1 Q k =>
  eg_cons h eg_nil m hs F1 H1 a1 Q fun vs F2 H2 a2 ⟨v, r, e1, q, e2⟩ => k vs F2 H2 a2 ⟨v, by rw [e1, e2], q⟩
theorem ea2 {e2 : Expr} (h : EX T X e σ F H P) (h2 : EX T X e2 σ F H P2) (m : Mono P) (m2 : Mono P2) (hs : starEach [e, e2] X.env = (false, eval e X.env) :: starEach [e2] X.env := by rfl) (hs2 : starEach [e2] X.env = (false, eval e2 X.env) :: starEach [] X.env := by rfl) : EA T X [e, e2] σ F H (fun vs F' => ∃ v w, vs = [v, w] ∧ P v F' ∧ P2 w F') := fun F1 H1 a1 Q k =>
  eg_cons h (eg_cons h2 eg_nil m2 hs2) m hs F1 H1 a1 Q fun vs F2 H2 a2 ⟨v, r, e1, q, w, r2, e3, q2, e4⟩ => k vs F2 H2 a2 ⟨v, w, by rw [e1, e3, e4], q, q2⟩
section
variable {mlen : X.mg "len" = none} {misi : X.mg "isinstance" = none}
theorem ed_lent (hm : X.mg "len" = none) (h : ED T X e σ F H (.tuple ds)) (hg : Gl X "len" := by rfl) (hs : starEach [e] X.env = (false, eval e X.env) :: starEach [] X.env := by rfl) : ED T X (.Call (.Name "len" p) [e] [] pos) σ F H (.int ds.length) :=
  ex_callB call_len_seq hm boot_lenb (ea1 h mono_im hs) (fun vs F1 H1 a1 ⟨v, e1, q, xs, e2, h2, d2⟩ Q k => ⟨q, xs, by rw [e1, e2], .inr (SqT.of (a1.sub.at h2)), k _ F1 H1 (.refl a1.sub) (by show V.int _ = V.int _; rw [d2.length])⟩) hg (he := hs)
theorem ed_lenl (hm : X.mg "len" = none) (h : ED T X e σ F H (.list ds)) (hg : Gl X "len" := by rfl) (hs : starEach [e] X.env = (false, eval e X.env) :: starEach [] X.env := by rfl) : ED T X (.Call (.Name "len" p) [e] [] pos) σ F H (.int ds.length) :=
  ex_callB call_len_seq hm boot_lenb (ea1 h mono_im hs) (fun vs F1 H1 a1 ⟨v, e1, q, xs, e2, h2, d2⟩ Q k => ⟨q, xs, by rw [e1, e2], .inl (SqL.of (a1.sub.at h2)), k _ F1 H1 (.refl a1.sub) (by show V.int _ = V.int _; rw [d2.length])⟩) hg (he := hs)
theorem ed_lenm {l : Addr} {xs : List V} (hm : X.mg "len" = none) (h : EV T X e σ F H (.ref l)) (hl : H l = some (.lst xs)) (hg : Gl X "len" := by rfl) (hs : starEach [e] X.env = (false, eval e X.env) :: starEach [] X.env := by rfl) : ED T X (.Call (.Name "len" p) [e] [] pos) σ F H (.int xs.length) :=
  ex_callB call_len_seq hm boot_lenb (ea1 h mono_eq hs) (fun vs F1 H1 a1 ⟨v, e1, q⟩ Q k => ⟨l, xs, by rw [e1, q], .inl (SqL.of (a1.hh _ _ hl notTbl_lst)), k _ F1 H1 (.refl a1.sub) rfl⟩) hg (he := hs)
theorem ed_lens {z : Str} (hm : X.mg "len" = none) (h : ED T X e σ F H (.str z)) (hz : z.length ≤ sizeLine) (hg : Gl X "len" := by rfl) (hs : starEach [e] X.env = (false, eval e X.env) :: starEach [] X.env := by rfl) : ED T X (.Call (.Name "len" p) [e] [] pos) σ F H (.int z.length) :=
  ex_callB call_len_str hm boot_lenb (ea1 h mono_im hs) (fun vs F1 H1 a1 ⟨v, e1, q⟩ Q k => ⟨z, by rw [e1, show v = .str z from q], hz, k _ F1 H1 (.refl a1.sub) rfl⟩) hg (he := hs)
end
-- isinstance: the class of data
def tyD : PyData → Option String
  | .none => some "NoneType"
  | .bool _ => some "bool"
  | .int _ => some "int"
  | .str _ => some "str"
  | .tuple _ => some "tuple"
  | .list _ => some "list"
  | .dict _ => some "dict"
theorem im_ty {K : PySem.W.Frag} {t : String} (s : Sub F H) : ∀ (d : PyData), Im F d v → tyD d = some t → TyX K H v (.type t)
  | .none, h, e => by cases h; cases e; exact .base .non
  | .bool _, h, e => by cases h; cases e; exact .base (.bl _)
  | .int _, h, e => by cases h; cases e; exact .base (.int _)
  | .str _, h, e => by cases h; cases e; exact .base (.str _)
  | .tuple ds, ⟨a, xs, e1, e2, e3⟩, e => by cases e; subst e1; exact .base (.tup (s.at e2))
  | .list ds, ⟨a, xs, e1, e2, e3⟩, e => by cases e; subst e1; exact .base (.lst (s.at e2))
  | .dict ds, ⟨a, xs, e1, e2, e3⟩, e => by
    cases e; subst e1
    rcases s.rdR e2 with q | ⟨ob, q⟩
    · exact .base (.dK q)
    · exact .fDict q
theorem ed_isi {t n : String} {e2 : Expr} {r : Bool} (hm : X.mg "isinstance" = none) (h : ED T X e σ F H d) (h2 : EV T X e2 σ F H (.ty n)) (ht : tyD d = some t) (hr : kitB t n = some r) (hg : Gl X "isinstance" := by rfl) (hs : starEach [e, e2] X.env = (false, eval e X.env) :: starEach [e2] X.env := by rfl) (hs2 : starEach [e2] X.env = (false, eval e2 X.env) :: starEach [] X.env := by rfl) (hpl : (backTo pos (starEach [e2] X.env)).any (·.1) = false := by rfl) : ED T X (.Call (.Name "isinstance" p) [e, e2] [] pos) σ F H (.bool r) :=
  ex_callB call_isi hm boot_isib (ea2 h h2 mono_im mono_eq hs hs2) (fun vs F1 H1 a1 ⟨v, w, e1, q, q2⟩ Q k => ⟨v, w, .type t, .type n, r, e1, by rw [show w = .ty n from q2]; exact .ty n, im_ty a1.sub d q ht, kit_ty hr, k _ F1 H1 (.refl a1.sub) rfl⟩) hg (he := hs) (hpl := hpl)
variable {bs : List Bool} {ns : List Int}
theorem ed_all (hc : X.calm = true) (hm : X.mg "all" = none) (h : ED T X e σ F H (.list (bs.map .bool))) (hg : Gl X "all" := by rfl) (hs : starEach [e] X.env = (false, eval e X.env) :: starEach [] X.env := by rfl) : ED T X (.Call (.Name "all" p) [e] [] pos) σ F H (.bool (bs.all id)) :=
  ex_callB (cr_all hc) hm boot_allb (ea1 h mono_im hs) (fun vs F1 H1 a1 ⟨v, e1, q, xs, e2, h2, d2⟩ Q k => ⟨q, bs, by rw [e1, e2], SqL.of (a1.sub.at (by rw [← ImL.bools.mp d2]; exact h2)), k _ F1 H1 (.refl a1.sub) rfl⟩) hg (he := hs)
theorem ed_sum (hc : X.calm = true) (hm : X.mg "sum" = none) (h : ED T X e σ F H (.list (ns.map .int))) (hg : Gl X "sum" := by rfl) (hs : starEach [e] X.env = (false, eval e X.env) :: starEach [] X.env := by rfl) : ED T X (.Call (.Name "sum" p) [e] [] pos) σ F H (.int ns.sum) :=
  ex_callB (cr_sum hc) hm boot_sumb (ea1 h mono_im hs) (fun vs F1 H1 a1 ⟨v, e1, q, xs, e2, h2, d2⟩ Q k => ⟨q, ns, by rw [e1, e2], SqL.of (a1.sub.at (by rw [← ImL.ints.mp d2]; exact h2)), k _ F1 H1 (.refl a1.sub) rfl⟩) hg (he := hs)
-- the greatest, the least of some ints
def topI : List Int → Int
  | [] => 0
  | [x] => x
  | x :: y :: r => if topI (y :: r) ≤ x then x else topI (y :: r)
def botI : List Int → Int
  | [] => 0
  | [x] => x
  | x :: y :: r => if x ≤ botI (y :: r) then x else botI (y :: r)
theorem topI_spec : ∀ (l : List Int), l ≠ [] → topI l ∈ l ∧ ∀ y ∈ l, y ≤ topI l
  | [], h => absurd rfl h
  | [x], _ => ⟨by simp [topI], fun y hy => by simp [topI] at hy ⊢; omega⟩
  | x :: y :: r, _ => by
    obtain ⟨h1, h2⟩ := topI_spec (y :: r) (by simp)
    unfold topI
    split
    · refine ⟨by simp, fun z hz => ?_⟩
      rcases List.mem_cons.mp hz with e | hz
      · omega
      · have := h2 z hz; omega
    · refine ⟨List.mem_cons_of_mem _ h1, fun z hz => ?_⟩
      rcases List.mem_cons.mp hz with e | hz
      · omega
      · exact h2 z hz
theorem botI_spec : ∀ (l : List Int), l ≠ [] → botI l ∈ l ∧ ∀ y ∈ l, botI l ≤ y
  | [], h => absurd rfl h
  | [x], _ => ⟨by simp [botI], fun y hy => by simp [botI] at hy ⊢; omega⟩
  | x :: y :: r, _ => by
    obtain ⟨h1, h2⟩ := botI_spec (y :: r) (by simp)
    unfold botI
    split
    · refine ⟨by simp, fun z hz => ?_⟩
      rcases List.mem_cons.mp hz with e | hz
      · omega
      · have := h2 z hz; omega
    · refine ⟨List.mem_cons_of_mem _ h1, fun z hz => ?_⟩
      rcases List.mem_cons.mp hz with e | hz
      · omega
      · exact h2 z hz
theorem ed_maxl (hc : X.calm = true) (hm : X.mg "max" = none) (h : ED T X e σ F H (.list (ns.map .int))) (hne : ns ≠ []) (hg : Gl X "max" := by rfl) (hs : starEach [e] X.env = (false, eval e X.env) :: starEach [] X.env := by rfl) : ED T X (.Call (.Name "max" p) [e] [] pos) σ F H (.int (topI ns)) :=
  ex_callB (cr_max hc) hm boot_maxb (ea1 h mono_im hs) (fun vs F1 H1 a1 ⟨v, e1, q, xs, e2, h2, d2⟩ Q k => ⟨q, ns, by rw [e1, e2], SqL.of (a1.sub.at (by rw [← ImL.ints.mp d2]; exact h2)), List.length_pos_iff.mpr hne, fun m hm hl => k _ F1 H1 (.refl a1.sub) (by
    obtain ⟨t1, t2⟩ := topI_spec ns hne
    have := hl _ t1
    have := t2 _ hm
    show V.int m = V.int _
    rw [show m = topI ns by omega])⟩) hg (he := hs)
theorem ed_minl (hc : X.calm = true) (hm : X.mg "min" = none) (h : ED T X e σ F H (.list (ns.map .int))) (hne : ns ≠ []) (hg : Gl X "min" := by rfl) (hs : starEach [e] X.env = (false, eval e X.env) :: starEach [] X.env := by rfl) : ED T X (.Call (.Name "min" p) [e] [] pos) σ F H (.int (botI ns)) :=
  ex_callB (cr_min hc) hm boot_minb (ea1 h mono_im hs) (fun vs F1 H1 a1 ⟨v, e1, q, xs, e2, h2, d2⟩ Q k => ⟨q, ns, by rw [e1, e2], SqL.of (a1.sub.at (by rw [← ImL.ints.mp d2]; exact h2)), List.length_pos_iff.mpr hne, fun m hm hl => k _ F1 H1 (.refl a1.sub) (by
    obtain ⟨t1, t2⟩ := botI_spec ns hne
    have := hl _ t1
    have := t2 _ hm
    show V.int m = V.int _
    rw [show m = botI ns by omega])⟩) hg (he := hs)
theorem ed_min2 {e2 : Expr} (hc : X.calm = true) (hm : X.mg "min" = none) (h : ED T X e σ F H (.int i)) (h2 : ED T X e2 σ F H (.int j)) (hg : Gl X "min" := by rfl) (hs : starEach [e, e2] X.env = (false, eval e X.env) :: starEach [e2] X.env := by rfl) (hs2 : starEach [e2] X.env = (false, eval e2 X.env) :: starEach [] X.env := by rfl) (hpl : (backTo pos (starEach [e2] X.env)).any (·.1) = false := by rfl) : ED T X (.Call (.Name "min" p) [e, e2] [] pos) σ F H (.int (if j < i then j else i)) :=
  ex_callB (call_min2 hc) hm boot_minb (ea2 h h2 mono_im mono_im hs hs2) (fun vs F1 H1 a1 ⟨v, w, e1, q, q2⟩ Q k => ⟨i, j, by rw [e1, show v = .int i from q, show w = .int j from q2], k _ F1 H1 (.refl a1.sub) rfl⟩) hg (he := hs) (hpl := hpl)
theorem ed_max2 {e2 : Expr} (hc : X.calm = true) (hm : X.mg "max" = none) (h : ED T X e σ F H (.int i)) (h2 : ED T X e2 σ F H (.int j)) (hg : Gl X "max" := by rfl) (hs : starEach [e, e2] X.env = (false, eval e X.env) :: starEach [e2] X.env := by rfl) (hs2 : starEach [e2] X.env = (false, eval e2 X.env) :: starEach [] X.env := by rfl) (hpl : (backTo pos (starEach [e2] X.env)).any (·.1) = false := by rfl) : ED T X (.Call (.Name "max" p) [e, e2] [] pos) σ F H (.int (if j > i then j else i)) :=
  ex_callB (call_max2 hc) hm boot_maxb (ea2 h h2 mono_im mono_im hs hs2) (fun vs F1 H1 a1 ⟨v, w, e1, q, q2⟩ Q k => ⟨i, j, by rw [e1, show v = .int i from q, show w = .int j from q2], k _ F1 H1 (.refl a1.sub) rfl⟩) hg (he := hs) (hpl := hpl)
theorem ed_abs (hm : X.mg "abs" = none) (h : ED T X e σ F H (.int i)) (hg : Gl X "abs" := by rfl) (hs : starEach [e] X.env = (false, eval e X.env) :: starEach [] X.env := by rfl) : ED T X (.Call (.Name "abs" p) [e] [] pos) σ F H (.int (if i < 0 then -i else i)) :=
  ex_callB call_abs hm boot_absb (ea1 h mono_im hs) (fun vs F1 H1 a1 ⟨v, e1, q⟩ Q k => ⟨i, by rw [e1, show v = .int i from q], k _ F1 H1 (.refl a1.sub) rfl⟩) hg (he := hs)
theorem ed_intb (hm : X.mg "int" = none) (h : ED T X e σ F H (.bool k0)) (hg : Gl X "int" := by rfl) (hs : starEach [e] X.env = (false, eval e X.env) :: starEach [] X.env := by rfl) : ED T X (.Call (.Name "int" p) [e] [] pos) σ F H (.int (if k0 then 1 else 0)) :=
  ex_callTy call_int1 hm boot_intb (ea1 h mono_im hs) (fun vs F1 H1 a1 ⟨v, e1, q⟩ Q k => .inr ⟨k0, by rw [e1, show v = .bl k0 from q], k _ F1 H1 (.refl a1.sub) rfl⟩) hg (he := hs)
theorem ed_tupl (hm : X.mg "tuple" = none) (h : ED T X e σ F H (.list ds)) (hg : Gl X "tuple" := by rfl) (hs : starEach [e] X.env = (false, eval e X.env) :: starEach [] X.env := by rfl) : ED T X (.Call (.Name "tuple" p) [e] [] pos) σ F H (.tuple ds) :=
  ex_callTy call_tuple_of hm boot_tupleb (ea1 h mono_im hs) (fun vs F1 H1 a1 ⟨v, e1, q, xs, e2, h2, d2⟩ Q k => ⟨q, xs, by rw [e1, e2], .inl ⟨SqL.of (a1.sub.at h2), fun r hr => by
    have ad : Adv T F1 H1 (upd F1 r (.tup xs)) (upd H1 r (.tup xs)) := Adv.new a1.sub hr notTbl_tup
    exact k _ _ _ ad ⟨r, xs, rfl, upd_same, d2.up ad.ff⟩⟩⟩) hg (he := hs)

/-! ### calls of the program's own defs -/
structure Cl (P : Program) (w : World) (K : PySem.W.Frag) (mg : Str → Option Value) (base : Heap) (k : Nat) (x : Str) (ps : List Str) (sp : Sp) : Prop where
  ex : ∃ (f : Addr) (fd : FuncData), FnOk P w K mg base L2.CX0 k f fd ps sp ∧ mg x = some (.ref f) ∧ PySem.W.keepIn K (.ref f) = true ∧ Binds K fd ps []
-- data in, data out
def spD (T : List (Addr × Str)) (R : List PyData → PyData → Prop) : Sp := fun vs H Q _ => ∃ F ds d, Sub F H ∧ ImL F ds vs ∧ R ds d ∧ ∀ v F' H', Adv T F H F' H' → Im F' d v → Q v H'
theorem rx_call {k j : Nat} {x : Str} {ps : List Str} {sp : Sp} {Q : VK} (c : Cl X.prog X.w X.K X.mg X.base k x ps sp) (hr : Room j X.A) (h : rA X (e :: es) σ H fun vs H1 => sp vs H1 Q L2.E0)
    (hk : k ≤ j := by decide) (hg : Gl X x := by rfl) (hdb : (x == ("__debug__" : Str)) = false := by decide) (he : starEach (e :: es) X.env = (false, eval e X.env) :: starEach es X.env := by rfl) (hpl : (backTo pos (starEach es X.env)).any (·.1) = false := by rfl) : rE X (.Call (.Name x p) (e :: es) [] pos) σ H Q := by
  obtain ⟨f, fd, F, hm, kp, b⟩ := c.ex
  exact goE (pe_call F (hr.mono hk) hg hm kp b .nil L2.pass0 pa_r hdb he hpl) (by simpa only [tCall, List.append_nil] using h)
theorem ex_call {k j : Nat} {x : Str} {ps : List Str} {sp : Sp} (c : Cl X.prog X.w X.K X.mg X.base k x ps sp) (hr : Room j X.A) (ha : EA T X (e :: es) σ F H PL)
    (h : ∀ vs F1 H1, Adv T F H F1 H1 → PL vs F1 → ∀ Q : VK, (∀ v F2 H2, Adv T F1 H1 F2 H2 → P v F2 → Q v H2) → sp vs H1 Q L2.E0)
    (hk : k ≤ j := by decide) (hg : Gl X x := by rfl) (hdb : (x == ("__debug__" : Str)) = false := by decide) (he : starEach (e :: es) X.env = (false, eval e X.env) :: starEach es X.env := by rfl) (hpl : (backTo pos (starEach es X.env)).any (·.1) = false := by rfl) : EX T X (.Call (.Name x p) (e :: es) [] pos) σ F H P :=
  fun F1 H1 a1 Q q => rx_call c hr (ha F1 H1 a1 _ fun vs F2 H2 a2 p => h vs F2 H2 (a1.trans a2) p Q fun v F3 H3 a3 z => q v F3 H3 (a2.trans a3) z) hk hg hdb he hpl
theorem ed_call {k j : Nat} {x : Str} {ps : List Str} {R : List PyData → PyData → Prop} (c : Cl X.prog X.w X.K X.mg X.base k x ps (spD T R)) (hr : Room j X.A) (ha : EDs T X (e :: es) σ F H ds) (r : R ds d)
    (hk : k ≤ j := by decide) (hg : Gl X x := by rfl) (hdb : (x == ("__debug__" : Str)) = false := by decide) (he : starEach (e :: es) X.env = (false, eval e X.env) :: starEach es X.env := by rfl) (hpl : (backTo pos (starEach es X.env)).any (·.1) = false := by rfl) : ED T X (.Call (.Name x p) (e :: es) [] pos) σ F H d :=
  ex_call c hr ha (fun vs F1 H1 a1 p Q q => ⟨F1, ds, d, a1.sub, p, r, q⟩) hk hg hdb he hpl
end

/-! ### statements, what follows them -/
section
variable {T : List (Addr × Str)} {X : Cx} {e a b c : Expr} {es : List Expr} {σ : St} {F H F' H' : Hp} {P P1 P2 : V → Hp → Prop} {d d1 d2 : PyData} {ds : List PyData} {v : V} {pos p p2 : Pos} {k0 : Bool} {rest sts els : List Stmt} {st : Stmt} {D : Ends} {x : Str} {i : Nat}
theorem b_ret (h : EX T X e σ F H P) (s : Sub F H) (k : ∀ v F1 H1, Adv T F H F1 H1 → P v F1 → D.rt v H1) : rB X (.Return (some e) pos :: rest) D σ H := goC (ps_ret pe_r) (h F H (.refl s) _ k)
theorem b_retR (h : rE X e σ H D.rt) : rB X (.Return (some e) pos :: rest) D σ H := goC (ps_ret pe_r) h
theorem b_asgR (h : rE X e σ H fun v H1 => rB X rest D (σ.set i (some v)) H1) (hN : X.N.Nodup) (hi : X.N[i]? = some x := by rfl) (hx : Loc X.env.scope x := by first | exact .inl rfl | exact .inr rfl) (hs : swapsWith e (some (.Name x p)) pos.line X.env = pure false := by rfl) (hf : X.fn x = true ∨ X.env.scope.names.lookup x = some .local := by first | exact .inl rfl | exact .inr rfl | assumption) : rB X (.Assign [.Name x p] e pos :: rest) D σ H :=
  goC (ps_set hN hi hx pe_r hs hf) h
theorem b_asg (h : EX T X e σ F H P) (s : Sub F H) (k : ∀ v F1 H1, Adv T F H F1 H1 → P v F1 → rB X rest D (σ.set i (some v)) H1) (hN : X.N.Nodup) (hi : X.N[i]? = some x := by rfl) (hx : Loc X.env.scope x := by first | exact .inl rfl | exact .inr rfl) (hs : swapsWith e (some (.Name x p)) pos.line X.env = pure false := by rfl) (hf : X.fn x = true ∨ X.env.scope.names.lookup x = some .local := by first | exact .inl rfl | exact .inr rfl | assumption) : rB X (.Assign [.Name x p] e pos :: rest) D σ H :=
  b_asgR (h F H (.refl s) _ k) hN hi hx hs hf
theorem b_asgF (h : EF T X e σ F H ds) (s : Sub F H) (k : ∀ l xs F1 H1, Adv T F H F1 H1 → Nw H l → F1 l = none → H1 l = some (.lst xs) → ImL F1 ds xs → rB X rest D (σ.set i (some (.ref l))) H1) (hN : X.N.Nodup) (hi : X.N[i]? = some x := by rfl) (hx : Loc X.env.scope x := by first | exact .inl rfl | exact .inr rfl) (hs : swapsWith e (some (.Name x p)) pos.line X.env = pure false := by rfl) (hf : X.fn x = true ∨ X.env.scope.names.lookup x = some .local := by first | exact .inl rfl | exact .inr rfl | assumption) : rB X (.Assign [.Name x p] e pos :: rest) D σ H :=
  b_asgR (h F H (.refl s) _ k) hN hi hx hs hf
theorem b_exprR (h : rE X e σ H fun _ H1 => rB X rest D σ H1) (hs : swapsWith e none pos.line X.env = pure false := by rfl) : rB X (.Expr e pos :: rest) D σ H := goC (ps_expr pe_r hs) h
theorem b_if (h : ET T X c σ F H k0) (s : Sub F H) (h1 : k0 = true → ∀ F1 H1, Adv T F H F1 H1 → rB X sts { D with nx := rB X rest D } σ H1) (h2 : k0 = false → ∀ F1 H1, Adv T F H F1 H1 → rB X els { D with nx := rB X rest D } σ H1) : rB X (.If c sts els pos :: rest) D σ H :=
  goC (ps_if pt_r pss_r pss_r) (h F H (.refl s) _ fun F1 H1 a1 => by
    cases k0 with
    | true => exact h1 rfl F1 H1 a1
    | false => exact h2 rfl F1 H1 a1)
-- without an else
theorem b_when (h : ET T X c σ F H k0) (s : Sub F H) (h1 : k0 = true → ∀ F1 H1, Adv T F H F1 H1 → rB X sts { D with nx := rB X rest D } σ H1) (h2 : k0 = false → ∀ F1 H1, Adv T F H F1 H1 → rB X rest D σ H1) : rB X (.If c sts [] pos :: rest) D σ H :=
  b_if h s h1 fun e F1 H1 a1 => rB_nil (h2 e F1 H1 a1)
-- l.append(e)
theorem b_app {l : Addr} {xs : List V} (ha : EV T X a σ F H (.ref l)) (hl : H l = some (.lst xs)) (hF : F l = none) (he : EX T X e σ F H P) (s : Sub F H) (hz : xs.length < sizeLine)
    (k : ∀ v F1 H1, Adv T F H F1 H1 → P v F1 → F1 l = none → H1 l = some (.lst xs) → Sub F1 (upd H1 l (.lst (xs ++ [v]))) → rB X rest D σ (upd H1 l (.lst (xs ++ [v]))))
    (hst : starEach [e] X.env = (false, eval e X.env) :: starEach [] X.env := by rfl) (hs : swapsWith (.Call (.Attribute a "append" p) [e] [] p2) none pos.line X.env = pure false := by rfl)
    (ht : eval (.Call (.Attribute a "append" p) [e] [] p2) X.env = eval (.Call (.Attribute a "append" p) [e] [] p2) X.env := by rfl) (hB : PE X (.Call (.Attribute a "append" p) [e] [] p2) (tBM X.K "list" rAppend (rE X a) (tCons (rE X e) tNil)) := by exact pe_bm PySem.F.plainAttrs_list PySem.F.slot_list_append PySem.F.type_list_append mt_append pe_r (pa_cons pe_r pa_nil)) :
    rB X (.Expr (.Call (.Attribute a "append" p) [e] [] p2) pos :: rest) D σ H :=
  b_exprR (goE hB (ha F H (.refl s) _ fun x F1 H1 a1 q => by
    obtain ⟨f1, h1⟩ := a1.off hF hl notTbl_lst
    have q : x = .ref l := q
    subst q
    refine ⟨.inl ⟨rfl, xs, SqL.of h1⟩, he F1 H1 a1 _ fun v F2 H2 a2 z => ?_⟩
    obtain ⟨f2, h2⟩ := a2.off f1 h1 notTbl_lst
    exact ⟨l, xs, v, rfl, rfl, h2, hz, k v F2 H2 (a1.trans a2) z f2 h2 (a2.sub.updO f2)⟩)) hs
-- an if without an else, and what stands behind it
theorem b_whenJ (J : St → Hp → Hp → Prop) (h : ET T X c σ F H k0) (s : Sub F H) (h1 : k0 = true → ∀ F1 H1, Adv T F H F1 H1 → ∀ N : St → Hp → Prop, (∀ σ' F' H', Sub F' H' → Ext F F' → J σ' F' H' → N σ' H') → rB X sts { D with nx := N } σ H1)
    (h2 : k0 = false → ∀ F1 H1, Adv T F H F1 H1 → J σ F1 H1) (k : ∀ σ' F' H', Sub F' H' → Ext F F' → J σ' F' H' → rB X rest D σ' H') : rB X (.If c sts [] pos :: rest) D σ H :=
  b_when h s (fun e F1 H1 a1 => h1 e F1 H1 a1 _ fun σ' F' H' s' e' j => k σ' F' H' s' e' j) fun e F1 H1 a1 => k σ F1 H1 a1.sub a1.ff (h2 e F1 H1 a1)
theorem b_ifJ (J : St → Hp → Hp → Prop) (h : ET T X c σ F H k0) (s : Sub F H) (h1 : k0 = true → ∀ F1 H1, Adv T F H F1 H1 → ∀ N : St → Hp → Prop, (∀ σ' F' H', Sub F' H' → Ext F F' → J σ' F' H' → N σ' H') → rB X sts { D with nx := N } σ H1)
    (h2 : k0 = false → ∀ F1 H1, Adv T F H F1 H1 → ∀ N : St → Hp → Prop, (∀ σ' F' H', Sub F' H' → Ext F F' → J σ' F' H' → N σ' H') → rB X els { D with nx := N } σ H1) (k : ∀ σ' F' H', Sub F' H' → Ext F F' → J σ' F' H' → rB X rest D σ' H') : rB X (.If c sts els pos :: rest) D σ H :=
  b_if h s (fun e F1 H1 a1 => h1 e F1 H1 a1 _ fun σ' F' H' s' e' j => k σ' F' H' s' e' j) fun e F1 H1 a1 => h2 e F1 H1 a1 _ fun σ' F' H' s' e' j => k σ' F' H' s' e' j
end
end Tw
namespace Tw
open PySem PySem.Spec PyProof.Rows L2 LamX
-- a def as it stands behind the top, under a name of the module
structure Df (K : PySem.W.Frag) (mg : Str → Option Value) (x nm : Str) (st : Stmt) : Prop where
  ex : ∃ f fd, FunD K nm nm (defArgs st) (defBody st) (defScope st) [] [] f fd ∧ mg x = some (.ref f)
abbrev DfN (K : PySem.W.Frag) (mg : Str → Option Value) (x : Str) (i : Nat) : Prop := Df K mg x x (top i)
theorem room_u1 {k : Nat} {A : Around} (r : Room k A) : A.units + 1 < cLine := by have := r.un; omega
section
variable {P : Program} {w : World} {K : PySem.W.Frag} {mg : Str → Option Value} {base : Heap}
theorem cl_of {x nm : Str} {st : Stmt} {N ps : List Str} {k : Nat} {sp : Sp} (h : Df K mg x nm st) (S : FnScope N ps (defScope st)) (len : ∀ vs H Q E, sp vs H Q E → vs.length = ps.length)
    (hbd : ∀ (kV doc pm : Value) (an : Option Addr) (cdv ct : Value) (us : List Value), us.length = ps.length → bindArgs (PySem.W.fnOf nm nm (defArgs st) (defBody st) (defScope st) .none kV doc pm an cdv ct) ⟨us, []⟩ = pure (ps.zip us))
    (hbody : ∀ (f : Addr) (cdv : Value) (A : Around) (outer : List Env) (s : Shared) (H : Hp) (vs : List V) (Q : VK) (E : XK), Room k (A.deeper (envOfC nm (defScope st) s.heap.objs.size f cdv)) → sp vs H Q E →
      rB (cxOf L2.CX0 P w K mg base N nm (defScope st) f cdv A outer s H E).nox (defBody st) { nx := fun _ H' => Q .non H', rt := Q } (start N vs) H) : Cl P w K mg base (k + 1) x ps sp := by
  obtain ⟨f, fd, F, hm⟩ := h.ex
  refine ⟨f, fd, F.ok S len fun cdv A outer s H vs Q E hr h => ⟨_, PSs.nox pss_r, hbody f cdv A outer s H vs Q E hr h⟩, hm, F.kp, ?_⟩
  obtain ⟨oc, od, dV, kV, doc, pm, an, cdv, ct, osl, rfl, lk, hcd, hD, _⟩ := F.ex
  have e : dV = .none := by
    rcases hD with z | z
    · exact z.2
    · exact absurd rfl z.1
  subst e
  exact .all (hbd kV doc pm an cdv ct)
theorem len_spD {T : List (Addr × Str)} {R : List PyData → PyData → Prop} {n : Nat} (h : ∀ ds d, R ds d → ds.length = n) : ∀ vs H Q E, spD T R vs H Q E → vs.length = n := fun vs H Q E ⟨F, ds, d, s, hv, r, k⟩ => by rw [hv.length, h ds d r]
end
end Tw
namespace Tw
open PySem L2 LamX
section
variable {T : List (Addr × Str)} {X : Cx} {e tg it a b c : Expr} {es elts : List Expr} {σ : St} {F H F' H' F1 H1 : Hp} {d : PyData} {ds items : List PyData} {v : V} {pos p tpos : Pos} {n m : Int} {kk : Nat}
-- an item comes, told by the list of what is walked
def YD (T : List (Addr × Str)) (items : List PyData) (F2 : Hp) : Nat → Hp → V → Hp → Prop := fun i H' v H'' => ∀ F', Ext F2 F' → Sub F' H' → ∃ F'' d, Adv T F' H' F'' H'' ∧ items[i]? = some d ∧ Im F'' d v
def GD (F2 : Hp) : Hp → Prop := fun H' => ∃ F', Ext F2 F' ∧ Sub F' H'
def Wk (T : List (Addr × Str)) (X : Cx) (tg it : Expr) (σ : St) (F H : Hp) (items : List PyData) : Prop :=
  ∃ wi, PI X tg it wi ∧ ∀ F1 H1, Adv T F H F1 H1 → ∀ R : It → Hp → Prop, (∀ J F2 H2, Adv T F1 H1 F2 H2 → Walk J items.length (GD F2) (YD T items F2) → R J H2) → wi σ H1 R
theorem Wk.to {items' : List PyData} (w : Wk T X tg it σ F H items) (e : items = items') : Wk T X tg it σ F H items' := e ▸ w
theorem wk_tup (h : ED T X it σ F H (.tuple ds)) : Wk T X tg it σ F H ds := by
  refine ⟨_, pi_tup pe_r, fun F1 H1 a1 R k => h F1 H1 a1 _ fun v F2 H2 a2 ⟨p, xs, e1, h1, d1⟩ => ⟨p, e1, ⟨xs, SqT.of (a2.sub.at h1)⟩, k _ F2 H2 a2 ?_⟩⟩
  rw [← d1.length]
  refine walk_tup.mono (fun H' ⟨F', x1, x2⟩ => SqT.of (x2.at (x1 _ _ h1))) fun i H' x H'' hi _ ⟨q1, q2⟩ F' x1 x2 => ?_
  obtain ⟨d, e, m⟩ := d1.get q2
  exact ⟨F', d, by rw [q1]; exact .refl x2, e, m.up x1⟩
theorem wk_list (h : ED T X it σ F H (.list ds)) : Wk T X tg it σ F H ds := by
  refine ⟨_, pi_list pe_r, fun F1 H1 a1 R k => h F1 H1 a1 _ fun v F2 H2 a2 ⟨p, xs, e1, h1, d1⟩ => ⟨p, e1, ⟨xs, SqL.of (a2.sub.at h1)⟩, k _ F2 H2 a2 ?_⟩⟩
  rw [← d1.length]
  refine walk_list.mono (fun H' ⟨F', x1, x2⟩ => SqL.of (x2.at (x1 _ _ h1))) fun i H' x H'' hi _ ⟨q1, q2⟩ F' x1 x2 => ?_
  obtain ⟨d, e, m⟩ := d1.get q2
  exact ⟨F', d, by rw [q1]; exact .refl x2, e, m.up x1⟩
theorem wk_str {z : Str} (h : ED T X it σ F H (.str z)) : Wk T X tg it σ F H (z.cps.toList.map fun c => .str ⟨#[c]⟩) := by
  refine ⟨_, pi_str pe_r, fun F1 H1 a1 R k => h F1 H1 a1 _ fun v F2 H2 a2 e1 => ⟨z, e1, k _ F2 H2 a2 ?_⟩⟩
  rw [List.length_map, Array.length_toList]
  refine walk_str.mono (fun _ _ => True.intro) fun i H' x H'' hi _ ⟨q1, c, q2, q3⟩ F' x1 x2 => ?_
  exact ⟨F', .str ⟨#[c]⟩, by rw [q1]; exact .refl x2, by simp [q2], q3⟩
def rangeD (lo : Int) (n : Nat) : List PyData := (List.range n).map fun i => .int (lo + (i : Nat))
theorem wk_range1 (hm : X.mg "range" = none) (h : ED T X a σ F H (.int n)) (h1 : -(2 ^ 62) ≤ n) (h2 : n < 2 ^ 62) (hg : Gl X "range" := by rfl) (hs : starEach [a] X.env = [(false, eval a X.env)] := by rfl) : Wk T X tg (.Call (.Name "range" p) [a] [] pos) σ F H (rangeD 0 n.toNat) := by
  refine ⟨_, pi_range1 hg hm pa_r (hs := hs), fun F1 H1 a1 R k => ea1 h mono_im hs F1 H1 a1 _ fun vs F2 H2 a2 ⟨v, e1, e2⟩ => ⟨n, by rw [e1, show v = .int n from e2], h1, h2, k _ F2 H2 a2 ?_⟩⟩
  rw [rangeD, List.length_map, List.length_range]
  refine walk_range.mono (fun _ _ => True.intro) fun i H' x H'' hi _ ⟨q1, q2⟩ F' x1 x2 => ?_
  exact ⟨F', .int (0 + (i : Nat)), by rw [q1]; exact .refl x2, by simp [hi], q2⟩
theorem wk_range2 (hm : X.mg "range" = none) (h : ED T X a σ F H (.int m)) (h' : ED T X b σ F H (.int n)) (hb : -(2 ^ 62) ≤ m ∧ m < 2 ^ 62 ∧ -(2 ^ 62) ≤ n ∧ n < 2 ^ 62) (hg : Gl X "range" := by rfl) (hs : starEach [a, b] X.env = (false, eval a X.env) :: starEach [b] X.env := by rfl) (hs2 : starEach [b] X.env = (false, eval b X.env) :: starEach [] X.env := by rfl) : Wk T X tg (.Call (.Name "range" p) [a, b] [] pos) σ F H (rangeD m (n - m).toNat) := by
  refine ⟨_, pi_range2 hg hm pa_r (by rw [hs, hs2]; rfl) (by rw [hs2]; rfl), fun F1 H1 a1 R k => ea2 h h' mono_im mono_im hs hs2 F1 H1 a1 _ fun vs F2 H2 a2 ⟨v, w, e1, e2, e3⟩ => ⟨m, n, by rw [e1, show v = .int m from e2, show w = .int n from e3], hb, k _ F2 H2 a2 ?_⟩⟩
  rw [rangeD, List.length_map, List.length_range]
  refine walk_range.mono (fun _ _ => True.intro) fun i H' x H'' hi _ ⟨q1, q2⟩ F' x1 x2 => ?_
  exact ⟨F', .int (m + (i : Nat)), by rw [q1]; exact .refl x2, by simp [hi], q2⟩
-- pairs of a number and an item
def enumD (ds : List PyData) : List PyData := ds.zipIdx.map fun q => .tuple [.int (q.2 : Nat), q.1]
theorem enumD_len (ds : List PyData) : (enumD ds).length = ds.length := by simp [enumD]
theorem enumD_at {ds : List PyData} {i : Nat} {d : PyData} (h : ds[i]? = some d) : (enumD ds)[i]? = some (.tuple [.int (i : Nat), d]) := by simp [enumD, h]
theorem y_pair {ds : List PyData} {xs : List V} {F2 : Hp} (d1 : ImL F2 ds xs) {i : Nat} {H' H'' : Hp} {v : V} (y : YPair (fun i => some (.int (i : Nat))) (fun i => xs[i]?) i H' v H'') : YD T (enumD ds) F2 i H' v H'' := fun F' x1 x2 => by
  obtain ⟨q, x, z, h1, h2, h3, h4, h5⟩ := y
  obtain ⟨d, e, m⟩ := d1.get h5
  have ad : Adv T F' H' (upd F' q (.tup [x, z])) (upd H' q (.tup [x, z])) := Adv.new x2 h2 notTbl_tup
  subst h3
  exact ⟨_, _, ad, enumD_at e, q, [x, z], h1, upd_same, x, [z], rfl, (Option.some.inj h4).symm, z, [], rfl, (m.up x1).up ad.ff, rfl⟩
theorem wk_enuml (hm : X.mg "enumerate" = none) (h : ED T X e σ F H (.list ds)) (hg : Gl X "enumerate" := by rfl) (hs : starEach [e] X.env = [(false, eval e X.env)] := by rfl) : Wk T X (.Tuple elts kk tpos) (.Call (.Name "enumerate" p) [e] [] pos) σ F H (enumD ds) := by
  refine ⟨_, pi_enum hg hm pa_r hs, fun F1 H1 a1 R k => ea1 h mono_im hs F1 H1 a1 _ fun vs F2 H2 a2 ⟨v, e1, q, xs, e2, h1, d1⟩ => ⟨q, xs, by rw [e1, e2], SqL.of (a2.sub.at h1), k _ F2 H2 a2 ?_⟩⟩
  rw [enumD_len, ← d1.length]
  exact walk_enum.mono (fun H' ⟨F', x1, x2⟩ => SqL.of (x2.at (x1 _ _ h1))) fun i H' x H'' hi _ y => y_pair d1 y

/-! ### enumerate of a tuple -/
set_option maxHeartbeats 1000000 in
theorem enum_new {u : Value} {ob : Obj} {Hh : Heap → Prop} (B : Begins u ob Hh) :
    Meets (Builtin.«enumerate.__new__» ⟨[.type "enumerate", u], []⟩) (fun _ R s => Hh s.heap ∧
      R (.ok (.ret (.ref (s.heap.push ob).objs.size))) { s with heap := (s.heap.push ob).push { cls := .type "enumerate", data := .fields #[.none, .bool false, .ref s.heap.objs.size, rawInt 0, .none, .none] } }) :=
  .of_wp fun prog w A R s hh => by
    obtain ⟨hp, g, dr, tk, os⟩ := s
    obtain ⟨hb, hr⟩ := hh
    have subE := sub_enumerate
    have itr : ∀ {A' : Around} {E' : Value → Shared → Prop} {Q' : Value → Shared → Prop}, Q' (.ref hp.objs.size) ⟨hp.push ob, g, dr, tk, os⟩ → wpAny (model prog w) A' (pyIter u) Q' E' ⟨hp, g, dr, tk, os⟩ := fun z => B.iter prog w _ _ ⟨hp, g, dr, tk, os⟩ _ hb z
    wp_walk using itr
    refine wpAny_stack_any fun stk => wpAny_pure ?_
    split
    · rename_i cc _ _ _ _ _
      cases (cc == Value.type "enumerate") <;> (wp_walk using itr; exact ⟨_, rfl, hr⟩)
    · (wp_walk using itr; exact ⟨_, rfl, hr⟩)
theorem enum_call {prog : Program} {w : World} {A : Around} {E : Value → Shared → Prop} {s : Shared} {u : Value} {ob : Obj} {Hh : Heap → Prop} {Q : Value → Shared → Prop} (B : Begins u ob Hh) (hb : Hh s.heap)
    (k : ∀ h', IsEnum h' (s.heap.objs.size + 1) s.heap.objs.size 0 .none → h'.get? s.heap.objs.size = some ob → (∀ b o, s.heap.get? b = some o → h'.get? b = some o) → Q (.ref (s.heap.objs.size + 1)) { s with heap := h' }) :
    wpAny (model prog w) A (call (.type "enumerate") [u]) Q E s := by
  refine callType_new F.called_enumerate (by decide) (F.typeCall_enumerate_1 _) (F.newCall_enumerate_1 _) (fun obj => F.args_object_init_2 obj _) F.entry_enumerate_new (enum_new B) ⟨hb, ?_⟩
  have sz : (s.heap.push ob).objs.size = s.heap.objs.size + 1 := Heap.size_push ..
  show _ ∧ _
  rw [sz]
  have isE : IsEnum ((s.heap.push ob).push { cls := .type "enumerate", data := .fields #[.none, .bool false, .ref s.heap.objs.size, rawInt 0, .none, .none] }) (s.heap.objs.size + 1) s.heap.objs.size 0 .none := by
    have z := Heap.get?_push_size (s.heap.push ob) (o := { cls := .type "enumerate", data := .fields #[.none, .bool false, .ref s.heap.objs.size, rawInt 0, .none, .none] }) rfl
    rw [sz] at z
    exact z
  exact ⟨⟨_, isE, rfl⟩, k _ isE (Heap.get?_push_of_some _ (Heap.get?_push_size _ B.free)) fun b o z => Heap.get?_push_of_some _ (Heap.get?_push_of_some _ z)⟩
-- the tuple at a, each item in a new pair behind its number
def Itw (K : PySem.W.Frag) (a : Addr) : It where
  go := fun i H => ∃ (xs : List V) (x : V), SqT K H a xs ∧ xs[i]? = some x
  yld := fun i H v H' => ∃ q x, v = .ref q ∧ H q = none ∧ H' = upd H q (.tup [.int (i : Nat), x]) ∧ ∀ xs, SqT K H a xs → xs[i]? = some x
  stop := fun i H => ∃ xs : List V, SqT K H a xs ∧ xs.length = i
theorem cls_ne {h : Heap} {a b : Addr} {o u : Obj} (ha : h.get? a = some o) (hb : h.get? b = some u) (n : o.cls ≠ u.cls) : a ≠ b := fun z => by
  rw [z, hb] at ha
  cases ha
  exact n rfl
theorem turn_enumT {P : Program} {w : World} {K : PySem.W.Frag} (a en tit : Addr) :
    Turn P w K (.Tuple elts kk tpos) (Itw K a) [en, tit] en (fun i h => (∃ old, IsEnum h en tit ((i : Nat) : Int) old) ∧ h.IsTupleIter tit a i) where
  mem := List.mem_cons_self ..
  obj := by
    rintro i h ⟨⟨old, z1⟩, o, z2, z3, z4⟩ b hb
    rcases List.mem_cons.mp hb with q | q
    · exact q ▸ ⟨_, z1, fun v z => by cases z⟩
    · rw [List.mem_singleton.mp q]
      exact ⟨o, z2, fun v z => by rw [z4] at z; cases z⟩
  keep := by
    rintro i h h' ⟨⟨old, z1⟩, o, z2, z3⟩ kp
    exact ⟨⟨old, kp en (List.mem_cons_self ..) _ z1⟩, o, kp tit (List.mem_cons_of_mem _ (List.mem_cons_self ..)) _ z2, z3⟩
  item := by
    rintro X rfl rfl rfl hc i pins s σ H E I hf ⟨⟨old, z1⟩, z2⟩ ⟨xs, x, hq, hx⟩
    obtain ⟨its, rv, tp, hz⟩ := I.tuple hq
    obtain ⟨u, hu, ru⟩ := rv.get hx
    have tp' : s.heap.IsTuple a its.toArray := tp
    have n1 : a ≠ tit := by
      obtain ⟨o, q1, q2, _⟩ := tp'
      obtain ⟨o', q3, q4, _⟩ := z2
      exact cls_ne q1 q3 (by rw [q2, q4]; exact fun z => absurd (Value.type.inj z) (by decide))
    have n2 : en ≠ tit := by
      obtain ⟨o', q3, q4, _⟩ := z2
      exact cls_ne z1 q3 (by rw [q4]; exact fun z => absurd (Value.type.inj z) (by decide))
    have n3 : en ≠ a := by
      obtain ⟨o, q1, q2, _⟩ := tp'
      exact cls_ne z1 q1 (by rw [q2]; exact fun z => absurd (Value.type.inj z) (by decide))
    have lt1 : en < s.heap.objs.size := Heap.lt_size z1
    have lt2 : tit < s.heap.objs.size := by
      obtain ⟨o', q3, _⟩ := z2
      exact Heap.lt_size q3
    have hi : i < its.toArray.size := by
      have := (List.getElem?_eq_some_iff.mp hu).1
      simpa using this
    refine wpAny_pyNext_enum_itemC (Draws.tuple (A := X.A.in1) (I.ok.hd hc) tit a n1 its.toArray) z1 ⟨z2, tp'⟩ hi n2 (by simp [n2, n3]) fun y h' tk hy ho st' hT hsz kp => ?_
    have ey : y = u := by
      have : its[i]? = some y := by simpa using hy
      rw [hu] at this
      exact (Option.some.inj this).symm
    subst ey
    refine ⟨_, rfl, wpAny_letOwnedTupleGo_enum (s := { s with heap := h', toks := tk + 1 }) ho fun h2 z5 sb => ?_⟩
    have hT2 := (sb.2 s.heap.objs.size (Nat.ne_of_gt lt1)).trans hT
    have ok2 : ObjOk X.prog X.w (upd H s.heap.objs.size (.tup [.int (i : Nat), x])) h2 s.heap.objs.size (.tup [.int (i : Nat), x]) :=
      ⟨by show 2 ≤ sizeLine; decide, [.int i tk, y], .cons ⟨_, rfl⟩ (.cons ru .nil), ⟨_, hT2, rfl, _, rfl⟩⟩
    have J := I.turnedNew (t' := tk + 1) (ch := [en, tit]) (fun b ob hb q => (sb.2 b (fun z => hb (by simp [z]))).trans (kp b ob (fun z => hb (by simp [z])) (fun z => hb (by simp [z])) q)) hf (Nat.le_refl _) ok2
    refine ⟨.ref s.heap.objs.size, _, J, rfl, ⟨_, x, rfl, I.hok.fresh (Nat.le_refl _), rfl, fun ys hy => by rw [I.tuple_inj hy hq]; exact hx⟩, ⟨⟨y, ?_⟩, ?_⟩, fun b hb => ?_⟩
    · have q : ((i + 1 : Nat) : Int) = (i : Int) + 1 := by omega
      rw [q]
      exact z5
    · obtain ⟨o', q1, q2⟩ := st'.1
      exact ⟨o', (sb.2 tit (Ne.symm n2)).trans q1, q2⟩
    · have lb : b < s.heap.objs.size := by
        rcases List.mem_cons.mp hb with q | q
        · rw [q]; exact lt1
        · rw [List.mem_singleton.mp q]; exact lt2
      rw [upd_ne (Nat.ne_of_lt lb)]
      exact (hf b hb).1
  done := by
    rintro X rfl rfl rfl hc i pins s σ H E I hf ⟨⟨old, z1⟩, z2⟩ ⟨xs, hq, hx⟩
    obtain ⟨its, rv, tp, hz⟩ := I.tuple hq
    obtain ⟨f0, f1, f2, f3, f4, f5⟩ := hf tit (by simp)
    have tp' : s.heap.IsTuple a its.toArray := tp
    have n1 : a ≠ tit := by
      obtain ⟨o, q1, q2, _⟩ := tp'
      obtain ⟨o', q3, q4, _⟩ := z2
      exact cls_ne q1 q3 (by rw [q2, q4]; exact fun z => absurd (Value.type.inj z) (by decide))
    have hd := I.ok.hd hc
    have key : ∀ h', Heap.ExtBut tit s.heap h' → Inv X pins σ H { s with heap := h' } := fun h' eb => I.turned (t' := s.toks) (fun b o hb q => eb b o hb q) f0 f1 f3 f4 f5
    exact wpAny_pyNext_enum_endD (Draws.tuple (A := X.A.in1) hd tit a n1 its.toArray) z1 ⟨by rw [show its.toArray.size = i by rw [List.size_toArray, rv.length.symm, hx]]; exact z2, tp'⟩ fun h' eb => ⟨rfl, key h' eb⟩
  self := by
    rintro A i s Q E ⟨⟨old, z1⟩, _⟩ h
    exact wpAny_pyIter_enum z1 h
def iEnT (K : PySem.W.Frag) (ta : TA) : TI := fun σ H R => ta σ H fun vs H1 => ∃ a xs, vs = [.ref a] ∧ SqT K H1 a xs ∧ R (Itw K a) H1
theorem pi_enumT {ta : TA} (hg : Gl X "enumerate") (hm : X.mg "enumerate" = none) (ha : PA X [e] ta) (hs : starEach [e] X.env = [(false, eval e X.env)] := by rfl) : PI X (.Tuple elts kk tpos) (.Call (.Name "enumerate" p) [e] [] pos) (iEnT X.K ta) := by
  constructor
  intro pins s σ H R I h
  refine PyProof.Rows.Call_ (ld_blt I hg hm boot_enumb (PyProof.Rows.callWith_type1 (thn (ha.run pos pins s σ H _ I h) fun us s1 hq => ?_) hs rfl))
  obtain ⟨vs, H1, I1, r1, a, xs, ex, hq, q⟩ := hq
  subst ex
  obtain rfl : us = [Value.ref a] := by
    cases r1 with
    | cons r rr => cases rr; cases r; rfl
  obtain ⟨its, rv, tp, hz⟩ := I1.tuple hq
  refine enum_call (begins_tuple a its.toArray) tp fun h' he hit hk => wpAny_pyIter_enum he ?_
  have I2 : Inv X pins σ H1 { s1 with heap := h' } := I1.kept (t' := s1.toks) hk
  refine ⟨s1.heap.objs.size + 1, [s1.heap.objs.size + 1, s1.heap.objs.size], _, _, H1, rfl, I2, turn_enumT a (s1.heap.objs.size + 1) s1.heap.objs.size, ⟨⟨.none, he⟩, ⟨_, hit, rfl, rfl⟩⟩, fun b hb => ?_, q⟩
  have hle : s1.heap.objs.size ≤ b := by
    rcases List.mem_cons.mp hb with z | z
    · rw [z]; exact Nat.le_succ _
    · rw [List.mem_singleton.mp z]; exact Nat.le_refl _
  exact I1.fpOk hle (I1.hok.fresh hle)
theorem wk_enumt (hm : X.mg "enumerate" = none) (h : ED T X e σ F H (.tuple ds)) (hg : Gl X "enumerate" := by rfl) (hs : starEach [e] X.env = [(false, eval e X.env)] := by rfl) : Wk T X (.Tuple elts kk tpos) (.Call (.Name "enumerate" p) [e] [] pos) σ F H (enumD ds) := by
  refine ⟨_, pi_enumT hg hm pa_r hs, fun F1 H1 a1 R k => ea1 h mono_im hs F1 H1 a1 _ fun vs F2 H2 a2 ⟨v, e1, q, xs, e2, h1, d1⟩ => ⟨q, xs, by rw [e1, e2], SqT.of (a2.sub.at h1), k _ F2 H2 a2 ?_⟩⟩
  rw [enumD_len, ← d1.length]
  refine ⟨fun i H' hi ⟨F', x1, x2⟩ => ⟨xs, xs[i], SqT.of (x2.at (x1 _ _ h1)), by simp [hi]⟩, fun H' ⟨F', x1, x2⟩ => ⟨xs, SqT.of (x2.at (x1 _ _ h1)), rfl⟩, fun i H' x H'' hi ⟨F', x1, x2⟩ ⟨T', z, y1, y2, y3, y4⟩ => ?_⟩
  exact y_pair d1 ⟨T', .int (i : Nat), z, y1, y2, y3, rfl, y4 xs (SqT.of (x2.at (x1 _ _ h1)))⟩
end
end Tw
set_option maxHeartbeats 4000000
namespace Tw
open PySem L2 LamX
/-! ### an object beside the standing part, younger than the start, changes -/
section
variable {T : List (Addr × Str)} {F H F' H' : Hp} {l : Addr} {o o' : HO}
def Mut (o : HO) : Prop := NotTbl o ∧ ∀ c q, o ≠ CodeO c q
theorem mut_lst {xs : List V} : Mut (.lst xs) := ⟨notTbl_lst, fun _ _ z => by cases z⟩
theorem mut_dK {xs : List (Key × V)} : Mut (.dK xs) := ⟨notTbl_dK, fun _ _ z => by cases z⟩
theorem mut_dT {xs : List (List Key × V)} : Mut (.dT xs) := ⟨notTbl_dT, fun _ _ z => by cases z⟩
theorem mut_ins {C dx : Addr} {fs : List (Str × V)} : Mut (.ins C dx fs) := ⟨notTbl_ins, fun _ _ z => by cases z⟩
theorem tabs_upd (h : H l = some o) (n : Mut o) (t : Tabs T H) : Tabs T (upd H l o') := by
  intro p hp
  obtain ⟨ps, e1, e2, e3⟩ := t p hp
  refine ⟨ps, ?_, e2, fun pos cv hc => ?_⟩
  · rw [upd_ne fun z => by rw [z, h] at e1; exact n.1 _ (Option.some.inj e1)]
    exact e1
  · obtain ⟨c, q1, q2⟩ := e3 pos cv hc
    refine ⟨c, q1, ?_⟩
    rw [upd_ne fun z => by rw [z, h] at q2; exact n.2 _ _ (Option.some.inj q2)]
    exact q2
theorem Adv.mut (a : Adv T F H F' H') (hn : Nw H l) (hF : F' l = none) (h : H' l = some o) (n : Mut o) : Adv T F H F' (upd H' l o') :=
  ⟨a.ff, a.sub.updO hF, fun x u hx nu => by
    rw [upd_ne fun z => hn.ne hx nu z]
    exact a.hh x u hx nu, a.sep, fun t => tabs_upd h n (a.tab t)⟩
end
/-! ### targets -/
def rG (X : Cx) (tg : Expr) : TG := fun v σ H Q => ∀ pins s u, Inv X pins σ H s → RelV v u → wpAny (model X.prog X.w) X.A (assign tg X.env u) (fun _ s' => ∃ σ' H', Inv X pins σ' H' s' ∧ Q σ' H') X.xe s
def rGs (X : Cx) (tg : List Expr) : TGs := fun v σ H Q => ∀ pins s u, Inv X pins σ H s → Vals v u → wpAny (model X.prog X.w) X.A (assignInOrder ((assignEach tg X.env).map (·.2)) u) (fun _ s' => ∃ σ' H', Inv X pins σ' H' s' ∧ Q σ' H') X.xe s
section
variable {X : Cx} {tg : Expr} {ts : List Expr} {v : V} {vs : List V} {σ : St} {F H : Hp} {Q : St → Hp → Prop} {T : List (Addr × Str)} {pos : Pos}
theorem pg_r : PG X tg (rG X tg) := ⟨fun pins s σ H v u Q I r h => h pins s u I r⟩
theorem pgs_r : PGs X ts (rGs X ts) := ⟨fun pins s σ H v u Q I r h => h pins s u I r⟩
theorem goG {t : TG} (h : PG X tg t) (q : t v σ H Q) : rG X tg v σ H Q := fun pins s u I r => h.run pins s σ H v u Q I r q
theorem goGs {t : TGs} (h : PGs X ts t) (q : t vs σ H Q) : rGs X ts vs σ H Q := fun pins s u I r => h.run pins s σ H vs u Q I r q
def sets : St → List Nat → List V → St
  | σ, i :: is, v :: vs => sets (σ.set i (some v)) is vs
  | σ, _, _ => σ
theorem sets_append : ∀ (is : List Nat) (vs : List V) (σ : St) (js : List Nat) (ws : List V), is.length = vs.length → sets σ (is ++ js) (vs ++ ws) = sets (sets σ is vs) js ws
  | [], [], _, _, _, _ => rfl
  | [], _ :: _, _, _, _, h => by cases h
  | _ :: _, [], _, _, _, h => by cases h
  | i :: is, v :: vs, σ, js, ws, h => by
    show sets (σ.set i (some v)) (is ++ js) (vs ++ ws) = _
    rw [sets_append is vs _ js ws (by simpa using h)]
    rfl
abbrev Bs := List (Nat × PyData)
-- what data a target takes, into which slots
def GT (X : Cx) (tg : Expr) (d : PyData) (bs : Bs) : Prop := ∀ F H v σ Q, Sub F H → Im F d v → (∀ vs, ImL F (bs.map (·.2)) vs → Q (sets σ (bs.map (·.1)) vs) H) → rG X tg v σ H Q
def GTs (X : Cx) (ts : List Expr) (ds : List PyData) (bs : Bs) : Prop := ∀ F H vs σ Q, Sub F H → ImL F ds vs → (∀ vs, ImL F (bs.map (·.2)) vs → Q (sets σ (bs.map (·.1)) vs) H) → rGs X ts vs σ H Q
theorem gt_name {i : Nat} {x : Str} {d : PyData} (hN : X.N.Nodup) (hi : X.N[i]? = some x := by rfl) (hx : Loc X.env.scope x := by first | exact .inl rfl | exact .inr rfl) (hf : X.fn x = true ∨ X.env.scope.names.lookup x = some .local := by first | exact .inl rfl | exact .inr rfl | assumption) : GT X (.Name x pos) d [(i, d)] :=
  fun F H v σ Q s h k => goG (pg_name hN hi hx hf) (k [v] (.one h))
theorem gts_nil : GTs X [] [] [] := fun F H vs σ Q s h k => goGs pgs_nil ⟨h, k [] rfl⟩
theorem gts_cons {e : Expr} {es : List Expr} {d : PyData} {ds : List PyData} {b1 b2 : Bs} (h1 : GT X e d b1) (h2 : GTs X es ds b2) (hs : (assignEach (e :: es) X.env).map (·.2) = assign e X.env :: (assignEach es X.env).map (·.2) := by rfl) : GTs X (e :: es) (d :: ds) (b1 ++ b2) :=
  fun F H vs σ Q s ⟨v, r, e1, i1, i2⟩ k => goGs (pgs_cons pg_r pgs_r hs) ⟨v, r, e1, h1 F H v σ _ s i1 fun us hu => h2 F H r _ Q s i2 fun ws hw => by
    have := k (us ++ ws) (by rw [List.map_append]; exact hu.append hw)
    rwa [List.map_append, sets_append _ _ _ _ _ (by rw [hu.length, List.length_map, List.length_map])] at this⟩
theorem gt_tup {es : List Expr} {k : Nat} {ds : List PyData} {bs : Bs} (hc : X.calm = true) (h : GTs X es ds bs) (hn : (assignEach es X.env).length = ds.length := by rfl) (hst : (assignEach es X.env).findIdx? (·.1) = none := by rfl) : GT X (.Tuple es k pos) (.tuple ds) bs :=
  fun F H v σ Q s ⟨a, xs, e1, h1, d1⟩ k => goG (pg_tup hc pgs_r hn hst) ⟨a, xs, e1, SqT.of (s.at h1), d1.length, h F H xs σ Q s d1 k⟩
end
/-! ### for -/
section
variable {T : List (Addr × Str)} {X : Cx} {e tg it a b c elt : Expr} {es elts : List Expr} {σ : St} {F H F' H' F1 H1 : Hp} {d : PyData} {ds items : List PyData} {v : V} {pos p tpos : Pos} {body rest : List Stmt} {D : Ends}
theorem b_for {α : Type} {enc : α → PyData} {xs : List α} {bs : α → Bs} (hc : X.calm = true) (hp : PassesOwn (model X.prog X.w) X.A X.env X.xe) (w : Wk T X tg it σ F H (xs.map enc)) (s : Sub F H) (g : ∀ x ∈ xs, GT X tg (enc x) (bs x)) (J : Nat → St → Hp → Hp → Prop)
    (h0 : ∀ F1 H1, Adv T F H F1 H1 → J 0 σ F1 H1)
    (step : ∀ i x σ1 F1 H1, xs[i]? = some x → Sub F1 H1 → Ext F F1 → J i σ1 F1 H1 → ∀ vs F2 H2, Adv T F1 H1 F2 H2 → ImL F2 ((bs x).map (·.2)) vs →
      ∀ N : St → Hp → Prop, (∀ σ' F' H', Sub F' H' → Ext F1 F' → J (i + 1) σ' F' H' → N σ' H') → rB X body { D with nx := N, ct := N, bk := rB X rest D } (sets σ1 ((bs x).map (·.1)) vs) H2)
    (after : ∀ σ1 F1 H1, Sub F1 H1 → Ext F F1 → J xs.length σ1 F1 H1 → rB X rest D σ1 H1)
    (hs : ∀ x, foldedSetIterable it X.env x = pure x := by intro _; rfl) : rB X (.For tg it body [] pos :: rest) D σ H := by
  obtain ⟨wi, hi, hw⟩ := w
  refine goC (ps_for hp hc hi pg_r pss_r hs) (hw F H (.refl s) _ fun J0 F2 H2 a2 wk => ?_)
  rw [List.length_map] at wk
  refine for_it wk (fun i σ H => ∃ F', Ext F2 F' ∧ Sub F' H ∧ J i σ F' H) ⟨F2, Ext.rfl, a2.sub, h0 F2 H2 a2⟩ (fun i σ H _ ⟨F', x1, x2, _⟩ => ⟨F', x1, x2⟩) (fun i x σ1 H1 H' hlt ⟨F', x1, x2, j⟩ y => ?_) fun σ1 H1 ⟨F', x1, x2, j⟩ => after σ1 F' H1 x2 (a2.ff.trans x1) j
  obtain ⟨F'', d, ad, hd, im⟩ := y F' x1 x2
  have hx : xs[i]? = some xs[i] := List.getElem?_eq_getElem hlt
  rw [List.getElem?_map, hx] at hd
  obtain rfl : enc xs[i] = d := Option.some.inj hd
  refine g _ (List.getElem_mem hlt) F'' H' x σ1 _ ad.sub im fun vs hvs => ?_
  exact step i xs[i] σ1 F' H1 hx x2 (a2.ff.trans x1) j vs F'' H' ad hvs _ fun σ' F3 H3 y2 y1 y3 => ⟨F3, x1.trans y1, y2, y3⟩
/-! ### while -/
theorem b_while (hp : PassesOwn (model X.prog X.w) X.A X.env X.xe) (J : Nat → St → Hp → Hp → Prop) (s : Sub F H) (h0 : ∃ m, J m σ F H)
    (turn : ∀ m σ1 F1 H1, Sub F1 H1 → Ext F F1 → J m σ1 F1 H1 → ∃ k0, ET T X c σ1 F1 H1 k0 ∧
      (k0 = true → ∀ F2 H2, Adv T F1 H1 F2 H2 → ∀ N : St → Hp → Prop, (∀ m' σ' F' H', m' < m → Sub F' H' → Ext F1 F' → J m' σ' F' H' → N σ' H') → rB X body { D with nx := N, ct := N, bk := rB X rest D } σ1 H2) ∧
      (k0 = false → ∀ F2 H2, Adv T F1 H1 F2 H2 → rB X rest D σ1 H2)) : rB X (.While c body [] pos :: rest) D σ H := by
  refine goC (ps_while hp pt_r pss_r) ⟨fun m σ' H' => ∃ F', Ext F F' ∧ Sub F' H' ∧ J m σ' F' H', h0.elim fun m h => ⟨m, F, Ext.rfl, s, h⟩, ?_⟩
  rintro m σ1 H1 ⟨F1, x1, x2, j⟩
  obtain ⟨k0, q, qt, qf⟩ := turn m σ1 F1 H1 x2 x1 j
  refine q F1 H1 (.refl x2) _ fun F2 H2 a2 => ?_
  cases k0 with
  | true =>
    rw [if_pos rfl]
    exact ⟨fun σ' H' => ∃ m', m' < m ∧ ∃ F', Ext F F' ∧ Sub F' H' ∧ J m' σ' F' H', fun _ _ z => z, qt rfl F2 H2 a2 _ fun m' σ' F' H' lt y2 y1 y3 => ⟨m', lt, F', x1.trans y1, y2, y3⟩⟩
  | false =>
    rw [if_neg Bool.false_ne_true]
    exact qf rfl F2 H2 a2
/-! ### list comprehensions -/
def rI (X : Cx) (ifs : List Expr) : TT := fun σ H Q => ∀ pins s, Inv X pins σ H s → wpAny (model X.prog X.w) X.A (forIn ifs true fun c r => if r = true then do let ok ← isTrue c X.env (eval c X.env); pure (ForInStep.yield ok) else pure (ForInStep.yield r)) (TP X pins σ Q) X.xe s
theorem pts_r {ifs : List Expr} : PTs X ifs (rI X ifs) := ⟨fun pins s σ H Q I h => h pins s I⟩
theorem goI {ifs : List Expr} {t : TT} {Q : Bool → Hp → Prop} (h : PTs X ifs t) (q : t σ H Q) : rI X ifs σ H Q := fun pins s I => h.run pins s σ H Q I q
def EI (T : List (Addr × Str)) (X : Cx) (ifs : List Expr) (σ : St) (F H : Hp) (b : Bool) : Prop :=
  ∀ F1 H1, Adv T F H F1 H1 → ∀ Q : Bool → Hp → Prop, (∀ F2 H2, Adv T F1 H1 F2 H2 → Q b H2) → rI X ifs σ H1 Q
theorem ei_nil : EI T X [] σ F H true := fun F1 H1 a1 Q k => goI pts_nil (k F1 H1 (.refl a1.sub))
theorem ei_one {k0 : Bool} (h : ET T X c σ F H k0) : EI T X [c] σ F H k0 := fun F1 H1 a1 Q k => goI (pts_one pt_r) (h F1 H1 a1 Q k)
abbrev bkX (X : Cx) (scope : Scope) (s : Shared) (H : Hp) (C : Addr) (cl : List (Str × Addr)) (fp : List Addr) : Cx := X.blk s H scope (compEnvC scope cl C X.env) fp
theorem wipe_get (σ : St) (j : Nat) : ∀ vs : List Nat, (wipe σ vs)[j]? = if j ∈ vs then (if j < σ.length then some none else none) else σ[j]?
  | [] => by simp [wipe]
  | v :: vs => by
    unfold wipe
    have ih := wipe_get σ j vs
    by_cases e : v = j
    · subst e
      rw [List.getElem?_set_self', if_pos (List.mem_cons_self ..)]
      by_cases l : v < σ.length
      · rw [if_pos l, List.getElem?_eq_getElem (by rw [wipe_length]; exact l)]
        rfl
      · rw [if_neg l, List.getElem?_eq_none (by rw [wipe_length]; omega)]
        rfl
    · rw [List.getElem?_set_ne e, ih]
      have : j ∈ v :: vs ↔ j ∈ vs := by simp [Ne.symm e]
      simp only [this]
theorem sets_length : ∀ (is : List Nat) (us : List V) (σ : St), (sets σ is us).length = σ.length
  | [], _, _ => rfl
  | _ :: _, [], _ => rfl
  | i :: is, u :: us, σ => by
    show (sets (σ.set i (some u)) is us).length = _
    rw [sets_length is us, List.length_set]
theorem sets_get (j : Nat) : ∀ (is : List Nat) (us : List V) (σ : St), j ∉ is → (sets σ is us)[j]? = σ[j]?
  | [], _, _, _ => rfl
  | _ :: _, [], _, _ => rfl
  | i :: is, u :: us, σ, h => by
    show (sets (σ.set i (some u)) is us)[j]? = _
    rw [sets_get j is us _ fun z => h (List.mem_cons_of_mem _ z), List.getElem?_set_ne fun z => h (by rw [z]; exact List.mem_cons_self ..)]
theorem wipe_sets (vs is : List Nat) (us : List V) (σ : St) (h : ∀ i ∈ is, i ∈ vs) : wipe (sets (wipe σ vs) is us) vs = wipe σ vs := by
  apply List.ext_getElem?
  intro j
  rw [wipe_get, wipe_get, sets_length, wipe_length]
  by_cases e : j ∈ vs
  · rw [if_pos e, if_pos e]
  · rw [if_neg e, if_neg e, sets_get j _ _ _ fun z => e (h j z), wipe_get, if_neg e]
theorem lc_run {α : Type} {enc : α → PyData} {xs : List α} {bs : α → Bs} {ifs : List Expr} {scope : Scope} {own : List (Str × Nat)} (hc : X.calm = true) (hN : X.N.Nodup) (ok : BlkOk X.N X.env.scope scope own) (w : Wk T X tg it σ F H (xs.map enc)) (hb : ∀ x ∈ xs, ∀ i ∈ (bs x).map (·.1), i ∈ own.map (·.2))
    (pr : α → Bool) (r : α → PyData)
    (turn : ∀ (s : Shared) (Hb : Hp) (C : Addr) (cl : List (Str × Addr)) (fp : List Addr), ∀ x ∈ xs, GT (bkX X scope s Hb C cl fp) tg (enc x) (bs x) ∧ ∀ F1 H1, Adv T F H F1 H1 → ∀ vs, ImL F1 ((bs x).map (·.2)) vs →
      EI T (bkX X scope s Hb C cl fp) ifs (sets (wipe σ (own.map (·.2))) ((bs x).map (·.1)) vs) F1 H1 (pr x) ∧ (pr x = true → ED T (bkX X scope s Hb C cl fp) elt (sets (wipe σ (own.map (·.2))) ((bs x).map (·.1)) vs) F1 H1 (r x)))
    (hl : xs.length ≤ sizeLine) : ∃ wi g tt te, PI X tg it wi ∧ (∀ s Hb C cl fp, PG (bkX X scope s Hb C cl fp) tg g) ∧ (∀ s Hb C cl fp, PTs (bkX X scope s Hb C cl fp) ifs tt) ∧ (∀ s Hb C cl fp, PE (bkX X scope s Hb C cl fp) elt te) ∧
    ∀ F1 H1, Adv T F H F1 H1 → ∀ Q : VK, (∀ a ys F2 H2, Adv T F1 H1 F2 H2 → Nw H1 a → F2 a = none → H2 a = some (.lst ys) → ImL F2 ((xs.filter pr).map r) ys → Q (.ref a) H2) → tLc wi g tt te (own.map (·.2)) σ H1 Q := by
  obtain ⟨wi, hi, hw⟩ := w
  let g : TG := fun v σ H Q => ∀ s Hb C cl fp, rG (bkX X scope s Hb C cl fp) tg v σ H Q
  let tt : TT := fun σ H Q => ∀ s Hb C cl fp, rI (bkX X scope s Hb C cl fp) ifs σ H Q
  let te : TE := fun σ H Q => ∀ s Hb C cl fp, rE (bkX X scope s Hb C cl fp) elt σ H Q
  refine ⟨wi, g, tt, te, hi, fun s Hb C cl fp => ⟨fun pins s1 σ H v u Q I r h => h s Hb C cl fp pins s1 u I r⟩, fun s Hb C cl fp => ⟨fun pins s1 σ H Q I h => h s Hb C cl fp pins s1 I⟩, fun s Hb C cl fp => ⟨fun pins s1 σ H Q I h => h s Hb C cl fp pins s1 I⟩, fun F1 H1 a1 Q k => ?_⟩
  refine hw F1 H1 a1 _ fun J0 F2 H2 a2 wk => ?_
  rw [List.length_map] at wk
  intro Dl hD
  have lay : Adv T F2 H2 F2 (upd H2 Dl (.lst [])) := Adv.lay a2.sub hD
  refine lc_it wk (fun i H' => ∃ F', Adv T F2 H2 F' H' ∧ F' Dl = none ∧ ∃ acc, H' Dl = some (.lst acc) ∧ ImL F' (((xs.take i).filter pr).map r) acc) ⟨F2, lay, a2.sub.offN hD, [], upd_same, rfl⟩ (fun i H' _ ⟨F', x1, _⟩ => ⟨F', x1.ff, x1.sub⟩) (fun i x H3 H' hlt ⟨F', x1, x2, acc, x3, x4⟩ y => ?_) fun H' ⟨F', x1, x2, acc, x3, x4⟩ => ?_
  · obtain ⟨F'', d, ad, hd, im⟩ := y F' x1.ff x1.sub
    have hx : xs[i]? = some xs[i] := List.getElem?_eq_getElem hlt
    have hm := List.getElem_mem hlt
    rw [List.getElem?_map, hx] at hd
    obtain rfl : enc xs[i] = d := Option.some.inj hd
    intro s Hb C cl fp
    refine (turn s Hb C cl fp _ hm).1 F'' H' x _ _ ad.sub im fun vs hvs => ⟨wipe_sets _ _ _ _ (hb _ hm), fun s Hb C cl fp => ?_⟩
    have a3 := (a1.trans a2).trans (x1.trans ad)
    refine ((turn s Hb C cl fp _ hm).2 F'' H' a3 vs hvs).1 F'' H' (.refl ad.sub) _ fun F4 H4 a4 => ?_
    obtain ⟨o1, o2⟩ := (ad.trans a4).off x2 x3 notTbl_lst
    have ht : xs.take (i + 1) = xs.take i ++ [xs[i]] := by rw [List.take_add_one, hx]; rfl
    cases e : pr xs[i] with
    | false =>
      refine ⟨F4, x1.trans (ad.trans a4), o1, acc, o2, ?_⟩
      rw [ht, List.filter_append, List.filter_cons_of_neg (by rw [e]; exact Bool.false_ne_true), List.filter_nil, List.append_nil]
      exact x4.up (ad.trans a4).ff
    | true =>
      intro s Hb C cl fp
      refine ((turn s Hb C cl fp _ hm).2 F4 H4 (a3.trans a4) vs (hvs.up a4.ff)).2 e F4 H4 (.refl a4.sub) _ fun v F5 H5 a5 iv => ?_
      obtain ⟨o3, o4⟩ := a5.off o1 o2 notTbl_lst
      refine ⟨acc, o4, ?_, F5, (x1.trans ((ad.trans a4).trans a5)).mut (Nw.of hD) o3 o4 mut_lst, o3, acc ++ [v], upd_same, ?_⟩
      · rw [x4.length, List.length_map]
        have := List.length_filter_le pr (xs.take i)
        rw [List.length_take] at this
        omega
      · rw [ht, List.filter_append, List.filter_cons_of_pos e, List.filter_nil, List.map_append]
        exact (x4.up ((ad.trans a4).trans a5).ff).snoc iv
  · rw [List.take_length] at x4
    exact k Dl acc F' H' (a2.trans x1) (Nw.back a2 (.of hD)) x2 x3 x4
theorem ef_lc {α : Type} {enc : α → PyData} {xs : List α} {bs : α → Bs} {ifs : List Expr} {scope : Scope} {own : List (Str × Nat)} (hc : X.calm = true) (hN : X.N.Nodup) (ok : BlkOk X.N X.env.scope scope own) (w : Wk T X tg it σ F H (xs.map enc)) (hb : ∀ x ∈ xs, ∀ i ∈ (bs x).map (·.1), i ∈ own.map (·.2))
    (pr : α → Bool) (r : α → PyData)
    (turn : ∀ (s : Shared) (Hb : Hp) (C : Addr) (cl : List (Str × Addr)) (fp : List Addr), ∀ x ∈ xs, GT (bkX X scope s Hb C cl fp) tg (enc x) (bs x) ∧ ∀ F1 H1, Adv T F H F1 H1 → ∀ vs, ImL F1 ((bs x).map (·.2)) vs →
      EI T (bkX X scope s Hb C cl fp) ifs (sets (wipe σ (own.map (·.2))) ((bs x).map (·.1)) vs) F1 H1 (pr x) ∧ (pr x = true → ED T (bkX X scope s Hb C cl fp) elt (sets (wipe σ (own.map (·.2))) ((bs x).map (·.1)) vs) F1 H1 (r x)))
    (hl : xs.length ≤ sizeLine) (hs : ∀ x, foldedSetIterable it X.env x = pure x := by intro _; rfl) : EF T X (.ListComp elt [⟨tg, it, ifs, 0⟩] scope pos) σ F H ((xs.filter pr).map r) := by
  obtain ⟨wi, g, tt, te, h1, h2, h3, h4, h5⟩ := lc_run hc hN ok w hb pr r turn hl
  exact fun F1 H1 a1 Q k => goE (pe_lc hc hN h1 ok h2 h3 h4 hs) (h5 F1 H1 a1 Q k)
-- y = [..] on one line, y a local
theorem b_setLc {y : Str} {i : Nat} {py : Pos} {spos : Pos} {α : Type} {enc : α → PyData} {xs : List α} {bs : α → Bs} {ifs : List Expr} {scope : Scope} {own : List (Str × Nat)} (hc : X.calm = true) (hN : X.N.Nodup) (ok : BlkOk X.N X.env.scope scope own) (w : Wk T X tg it σ F H (xs.map enc)) (hb : ∀ x ∈ xs, ∀ i ∈ (bs x).map (·.1), i ∈ own.map (·.2))
    (pr : α → Bool) (r : α → PyData)
    (turn : ∀ (s : Shared) (Hb : Hp) (C : Addr) (cl : List (Str × Addr)) (fp : List Addr), ∀ x ∈ xs, GT (bkX X scope s Hb C cl fp) tg (enc x) (bs x) ∧ ∀ F1 H1, Adv T F H F1 H1 → ∀ vs, ImL F1 ((bs x).map (·.2)) vs →
      EI T (bkX X scope s Hb C cl fp) ifs (sets (wipe σ (own.map (·.2))) ((bs x).map (·.1)) vs) F1 H1 (pr x) ∧ (pr x = true → ED T (bkX X scope s Hb C cl fp) elt (sets (wipe σ (own.map (·.2))) ((bs x).map (·.1)) vs) F1 H1 (r x)))
    (hl : xs.length ≤ sizeLine) (s : Sub F H)
    (k : ∀ a ys F1 H1, Adv T F H F1 H1 → Nw H a → F1 a = none → H1 a = some (.lst ys) → ImL F1 ((xs.filter pr).map r) ys → rB X rest D (σ.set i (some (.ref a))) H1)
    (hy : X.N[i]? = some y := by rfl) (hyl : X.env.scope.names.lookup y = some .local := by rfl) (hsw : swapsWith (.ListComp elt [⟨tg, it, ifs, 0⟩] scope pos) (some (.Name y py)) spos.line X.env = pure true := by rfl)
    (hs : ∀ x, foldedSetIterable it X.env x = pure x := by intro _; rfl) : rB X (.Assign [.Name y py] (.ListComp elt [⟨tg, it, ifs, 0⟩] scope pos) spos :: rest) D σ H := by
  obtain ⟨wi, g, tt, te, h1, h2, h3, h4, h5⟩ := lc_run hc hN ok w hb pr r turn hl
  exact goC (ps_setLc hc hN hy hyl hsw h1 ok h2 h3 h4 hs) (h5 F H (.refl s) _ fun a ys F2 H2 a2 e1 e2 e3 e4 => k a ys F2 H2 a2 e1 e2 e3 e4)
theorem ef_lc0 {α : Type} {enc : α → PyData} {xs : List α} {bs : α → Bs} {scope : Scope} {own : List (Str × Nat)} (hc : X.calm = true) (hN : X.N.Nodup) (ok : blkC X.N X.env.scope scope own = true) (w : Wk T X tg it σ F H (xs.map enc)) (hb : ∀ x ∈ xs, ∀ i ∈ (bs x).map (·.1), i ∈ own.map (·.2)) (r : α → PyData)
    (turn : ∀ (s : Shared) (Hb : Hp) (C : Addr) (cl : List (Str × Addr)) (fp : List Addr), ∀ x ∈ xs, GT (bkX X scope s Hb C cl fp) tg (enc x) (bs x) ∧ ∀ F1 H1, Adv T F H F1 H1 → ∀ vs, ImL F1 ((bs x).map (·.2)) vs →
      ED T (bkX X scope s Hb C cl fp) elt (sets (wipe σ (own.map (·.2))) ((bs x).map (·.1)) vs) F1 H1 (r x))
    (hl : xs.length ≤ sizeLine) (hs : ∀ x, foldedSetIterable it X.env x = pure x := by intro _; rfl) : EF T X (.ListComp elt [⟨tg, it, [], 0⟩] scope pos) σ F H (xs.map r) :=
  EF.to (ef_lc hc hN (blkOk_by ok) w hb (fun _ => true) r (fun s Hb C cl fp x hx => ⟨(turn s Hb C cl fp x hx).1, fun F1 H1 a1 vs hv => ⟨ei_nil, fun _ => (turn s Hb C cl fp x hx).2 F1 H1 a1 vs hv⟩⟩) hl hs) (by rw [List.filter_eq_self.mpr fun _ _ => rfl])
theorem ef_lc1 {α : Type} {enc : α → PyData} {xs : List α} {bs : α → Bs} {scope : Scope} {own : List (Str × Nat)} (hc : X.calm = true) (hN : X.N.Nodup) (ok : blkC X.N X.env.scope scope own = true) (w : Wk T X tg it σ F H (xs.map enc)) (hb : ∀ x ∈ xs, ∀ i ∈ (bs x).map (·.1), i ∈ own.map (·.2)) (pr : α → Bool) (r : α → PyData)
    (turn : ∀ (s : Shared) (Hb : Hp) (C : Addr) (cl : List (Str × Addr)) (fp : List Addr), ∀ x ∈ xs, GT (bkX X scope s Hb C cl fp) tg (enc x) (bs x) ∧ ∀ F1 H1, Adv T F H F1 H1 → ∀ vs, ImL F1 ((bs x).map (·.2)) vs →
      ET T (bkX X scope s Hb C cl fp) c (sets (wipe σ (own.map (·.2))) ((bs x).map (·.1)) vs) F1 H1 (pr x) ∧ (pr x = true → ED T (bkX X scope s Hb C cl fp) elt (sets (wipe σ (own.map (·.2))) ((bs x).map (·.1)) vs) F1 H1 (r x)))
    (hl : xs.length ≤ sizeLine) (hs : ∀ x, foldedSetIterable it X.env x = pure x := by intro _; rfl) : EF T X (.ListComp elt [⟨tg, it, [c], 0⟩] scope pos) σ F H ((xs.filter pr).map r) :=
  ef_lc hc hN (blkOk_by ok) w hb pr r (fun s Hb C cl fp x hx => ⟨(turn s Hb C cl fp x hx).1, fun F1 H1 a1 vs hv => ⟨ei_one ((turn s Hb C cl fp x hx).2 F1 H1 a1 vs hv).1, ((turn s Hb C cl fp x hx).2 F1 H1 a1 vs hv).2⟩⟩) hl hs
theorem b_setLc0 {y : Str} {i : Nat} {py : Pos} {spos : Pos} {α : Type} {enc : α → PyData} {xs : List α} {bs : α → Bs} {scope : Scope} {own : List (Str × Nat)} (hc : X.calm = true) (hN : X.N.Nodup) (ok : blkC X.N X.env.scope scope own = true) (w : Wk T X tg it σ F H (xs.map enc)) (hb : ∀ x ∈ xs, ∀ i ∈ (bs x).map (·.1), i ∈ own.map (·.2)) (r : α → PyData)
    (turn : ∀ (s : Shared) (Hb : Hp) (C : Addr) (cl : List (Str × Addr)) (fp : List Addr), ∀ x ∈ xs, GT (bkX X scope s Hb C cl fp) tg (enc x) (bs x) ∧ ∀ F1 H1, Adv T F H F1 H1 → ∀ vs, ImL F1 ((bs x).map (·.2)) vs →
      ED T (bkX X scope s Hb C cl fp) elt (sets (wipe σ (own.map (·.2))) ((bs x).map (·.1)) vs) F1 H1 (r x))
    (hl : xs.length ≤ sizeLine) (s : Sub F H)
    (k : ∀ a F1 H1, Adv T F H F1 H1 → Im F1 (.list (xs.map r)) (.ref a) → rB X rest D (σ.set i (some (.ref a))) H1)
    (hy : X.N[i]? = some y := by rfl) (hyl : X.env.scope.names.lookup y = some .local := by rfl) (hsw : swapsWith (.ListComp elt [⟨tg, it, [], 0⟩] scope pos) (some (.Name y py)) spos.line X.env = pure true := by rfl)
    (hs : ∀ x, foldedSetIterable it X.env x = pure x := by intro _; rfl) : rB X (.Assign [.Name y py] (.ListComp elt [⟨tg, it, [], 0⟩] scope pos) spos :: rest) D σ H :=
  b_setLc hc hN (blkOk_by ok) w hb (fun _ => true) r (fun s Hb C cl fp x hx => ⟨(turn s Hb C cl fp x hx).1, fun F1 H1 a1 vs hv => ⟨ei_nil, fun _ => (turn s Hb C cl fp x hx).2 F1 H1 a1 vs hv⟩⟩) hl s (fun a ys F1 H1 a1 hn hF hl hd => by
    rw [List.filter_eq_self.mpr fun _ _ => rfl] at hd
    exact k a _ H1 (a1.set hn hl notTbl_lst) ⟨a, ys, rfl, upd_same, hd.up fun x o q => by rw [upd_ne (fun z => by rw [z, hF] at q; cases q)]; exact q⟩) hy hyl hsw hs
theorem b_setLc1 {y : Str} {i : Nat} {py : Pos} {spos : Pos} {α : Type} {enc : α → PyData} {xs : List α} {bs : α → Bs} {scope : Scope} {own : List (Str × Nat)} (hc : X.calm = true) (hN : X.N.Nodup) (ok : blkC X.N X.env.scope scope own = true) (w : Wk T X tg it σ F H (xs.map enc)) (hb : ∀ x ∈ xs, ∀ i ∈ (bs x).map (·.1), i ∈ own.map (·.2)) (pr : α → Bool) (r : α → PyData)
    (turn : ∀ (s : Shared) (Hb : Hp) (C : Addr) (cl : List (Str × Addr)) (fp : List Addr), ∀ x ∈ xs, GT (bkX X scope s Hb C cl fp) tg (enc x) (bs x) ∧ ∀ F1 H1, Adv T F H F1 H1 → ∀ vs, ImL F1 ((bs x).map (·.2)) vs →
      ET T (bkX X scope s Hb C cl fp) c (sets (wipe σ (own.map (·.2))) ((bs x).map (·.1)) vs) F1 H1 (pr x) ∧ (pr x = true → ED T (bkX X scope s Hb C cl fp) elt (sets (wipe σ (own.map (·.2))) ((bs x).map (·.1)) vs) F1 H1 (r x)))
    (hl : xs.length ≤ sizeLine) (s : Sub F H)
    (k : ∀ a F1 H1, Adv T F H F1 H1 → Im F1 (.list ((xs.filter pr).map r)) (.ref a) → rB X rest D (σ.set i (some (.ref a))) H1)
    (hy : X.N[i]? = some y := by rfl) (hyl : X.env.scope.names.lookup y = some .local := by rfl) (hsw : swapsWith (.ListComp elt [⟨tg, it, [c], 0⟩] scope pos) (some (.Name y py)) spos.line X.env = pure true := by rfl)
    (hs : ∀ x, foldedSetIterable it X.env x = pure x := by intro _; rfl) : rB X (.Assign [.Name y py] (.ListComp elt [⟨tg, it, [c], 0⟩] scope pos) spos :: rest) D σ H :=
  b_setLc hc hN (blkOk_by ok) w hb pr r (fun s Hb C cl fp x hx => ⟨(turn s Hb C cl fp x hx).1, fun F1 H1 a1 vs hv => ⟨ei_one ((turn s Hb C cl fp x hx).2 F1 H1 a1 vs hv).1, ((turn s Hb C cl fp x hx).2 F1 H1 a1 vs hv).2⟩⟩) hl s (fun a ys F1 H1 a1 hn hF hl hd =>
    k a _ H1 (a1.set hn hl notTbl_lst) ⟨a, ys, rfl, upd_same, hd.up fun x o q => by rw [upd_ne (fun z => by rw [z, hF] at q; cases q)]; exact q⟩) hy hyl hsw hs
end
end Tw
namespace Tw
open PySem L2 LamX
/-! ### tables of data -/
section
variable {κ : Type} [DecidableEq κ]
abbrev Tb (κ : Type) := List (κ × PyData)
def valD (ds : Tb κ) (k : κ) : Option PyData := (ds.find? fun q => decide (q.1 = k)).map (·.2)
def putD (ds : Tb κ) (k : κ) (d : PyData) : Tb κ := if (valD ds k).isSome = true then ds.map (fun q => if q.1 = k then (q.1, d) else q) else ds ++ [(k, d)]
def dropD (ds : Tb κ) (k : κ) : Tb κ := ds.filter fun q => decide (q.1 ≠ k)
def DL (F : Hp) : Tb κ → List (κ × V) → Prop
  | [], ks => ks = []
  | (k, d) :: ds, ks => ∃ v r, ks = (k, v) :: r ∧ Im F d v ∧ DL F ds r
variable {F F' : Hp}
theorem DL.up (e : Ext F F') : ∀ {ds : Tb κ} {ks : List (κ × V)}, DL F ds ks → DL F' ds ks
  | [], _, h => h
  | (_, _) :: _, _, ⟨v, r, q, m, h⟩ => ⟨v, r, q, m.up e, DL.up e h⟩
theorem DL.length : ∀ {ds : Tb κ} {ks : List (κ × V)}, DL F ds ks → ks.length = ds.length
  | [], _, h => by rw [h]; rfl
  | (_, _) :: _, _, ⟨v, r, q, m, h⟩ => by rw [q, List.length_cons, List.length_cons, DL.length h]
theorem DL.keys : ∀ {ds : Tb κ} {ks : List (κ × V)}, DL F ds ks → ks.map (·.1) = ds.map (·.1)
  | [], _, h => by rw [h]; rfl
  | (_, _) :: _, _, ⟨v, r, q, m, h⟩ => by rw [q, List.map_cons, List.map_cons, DL.keys h]
theorem valD_pos {k : κ} {d : PyData} {r : Tb κ} : valD ((k, d) :: r) k = some d := by simp [valD]
theorem valD_neg {k k' : κ} {d : PyData} {r : Tb κ} (h : ¬ k' = k) : valD ((k', d) :: r) k = valD r k := by simp [valD, h]
theorem DL.none (k : κ) : ∀ {ds : Tb κ} {ks : List (κ × V)}, DL F ds ks → valD ds k = none → valV ks k = none
  | [], _, h, _ => by rw [h]; rfl
  | (k', d) :: ds, _, ⟨v, r, q, m, h⟩, e => by
    rw [q]
    by_cases z : k' = k
    · subst z; rw [valD_pos] at e; cases e
    · rw [valD_neg z] at e
      rw [valV_neg z]; exact DL.none k h e
theorem DL.some (k : κ) {d : PyData} : ∀ {ds : Tb κ} {ks : List (κ × V)}, DL F ds ks → valD ds k = some d → ∃ v, valV ks k = some v ∧ Im F d v
  | (k', d') :: ds, _, ⟨v, r, q, m, h⟩, e => by
    rw [q]
    by_cases z : k' = k
    · subst z; rw [valD_pos] at e; cases e
      exact ⟨v, valV_pos rfl, m⟩
    · rw [valD_neg z] at e
      rw [valV_neg z]; exact DL.some k h e
theorem DL.isSome (k : κ) {ds : Tb κ} {ks : List (κ × V)} (h : DL F ds ks) : (valV ks k).isSome = (valD ds k).isSome := by
  cases e : valD ds k with
  | none => rw [h.none k e]; rfl
  | some d => obtain ⟨v, q, _⟩ := h.some k e; rw [q]; rfl
theorem DL.snoc {k : κ} {d : PyData} {v : V} (m : Im F d v) : ∀ {ds : Tb κ} {ks : List (κ × V)}, DL F ds ks → DL F (ds ++ [(k, d)]) (ks ++ [(k, v)])
  | [], _, h => by rw [h]; exact ⟨v, [], rfl, m, rfl⟩
  | (_, _) :: _, _, ⟨w, r, q, m', h⟩ => ⟨w, r ++ [(k, v)], by rw [q]; rfl, m', DL.snoc m h⟩
theorem DL.repl {k : κ} {d : PyData} {v : V} (m : Im F d v) : ∀ {ds : Tb κ} {ks : List (κ × V)}, DL F ds ks → DL F (ds.map fun q => if q.1 = k then (q.1, d) else q) (ks.map fun q => if q.1 = k then (q.1, v) else q)
  | [], _, h => by rw [h]; rfl
  | (k', d') :: ds, _, ⟨v', r, q, m', h⟩ => by
    rw [q, List.map_cons, List.map_cons]
    by_cases z : k' = k
    · rw [if_pos z, if_pos z]; exact ⟨v, _, rfl, m, DL.repl m h⟩
    · rw [if_neg z, if_neg z]; exact ⟨v', _, rfl, m', DL.repl m h⟩
theorem DL.put {k : κ} {d : PyData} {v : V} (m : Im F d v) {ds : Tb κ} {ks : List (κ × V)} (h : DL F ds ks) : DL F (putD ds k d) (putK ks k v) := by
  unfold putD putK
  rw [valV_any, h.isSome]
  split
  · exact h.repl m
  · exact h.snoc m
theorem DL.drop {k : κ} : ∀ {ds : Tb κ} {ks : List (κ × V)}, DL F ds ks → DL F (dropD ds k) (dropK ks k)
  | [], _, h => by rw [h]; rfl
  | (k', d') :: ds, _, ⟨v', r, q, m', h⟩ => by
    have ih := DL.drop (k := k) h
    rw [q]
    unfold dropD dropK at ih ⊢
    by_cases z : k' = k
    · rw [List.filter_cons_of_neg (by simpa using z), List.filter_cons_of_neg (by simpa using z)]; exact ih
    · rw [List.filter_cons_of_pos (by simpa using z), List.filter_cons_of_pos (by simpa using z)]; exact ⟨v', _, rfl, m', ih⟩
end
section
variable {κ : Type} [DecidableEq κ]
theorem valD_map (k j : κ) (d : PyData) : ∀ ds : Tb κ, valD (ds.map fun q => if q.1 = k then (q.1, d) else q) j = (valD ds j).map fun x => if j = k then d else x
  | [] => rfl
  | (k', d') :: ds => by
    rw [List.map_cons]
    by_cases e : k' = k
    · rw [if_pos e]
      by_cases z : k' = j
      · subst z; rw [valD_pos, valD_pos]; simp [e]
      · rw [valD_neg z, valD_neg z, valD_map k j d ds]
    · rw [if_neg e]
      by_cases z : k' = j
      · subst z; rw [valD_pos, valD_pos]; simp [e]
      · rw [valD_neg z, valD_neg z, valD_map k j d ds]
theorem valD_snoc (k j : κ) (d : PyData) : ∀ ds : Tb κ, valD ds k = none → valD (ds ++ [(k, d)]) j = if j = k then some d else valD ds j
  | [], _ => by
    by_cases e : k = j
    · subst e; rw [if_pos rfl]; exact valD_pos
    · rw [if_neg (Ne.symm e)]; exact valD_neg e
  | (k', d') :: ds, h => by
    rw [List.cons_append]
    by_cases e : k' = k
    · subst e; rw [valD_pos] at h; cases h
    · rw [valD_neg e] at h
      by_cases z : k' = j
      · subst z; rw [valD_pos, valD_pos, if_neg e]
      · rw [valD_neg z, valD_neg z, valD_snoc k j d ds h]
theorem valD_put (ds : Tb κ) (k j : κ) (d : PyData) : valD (putD ds k d) j = if j = k then some d else valD ds j := by
  unfold putD
  split
  · rename_i h
    rw [valD_map]
    by_cases e : j = k
    · subst e
      obtain ⟨x, hx⟩ := Option.isSome_iff_exists.mp h
      rw [hx, if_pos rfl]; simp
    · rw [if_neg e]
      simp [e]
  · rename_i h
    exact valD_snoc k j d ds (by simpa using h)
theorem length_putD (ds : Tb κ) (k : κ) (d : PyData) : (putD ds k d).length ≤ ds.length + 1 := by
  unfold putD
  split
  · rw [List.length_map]; omega
  · simp
theorem putD_new {ds : Tb κ} {k : κ} {d : PyData} (h : valD ds k = none) : putD ds k d = ds ++ [(k, d)] := by
  unfold putD
  rw [h]; rfl
theorem valD_drop (k j : κ) : ∀ ds : Tb κ, valD (dropD ds k) j = if j = k then none else valD ds j
  | [] => by simp [dropD, valD]
  | (k', d') :: ds => by
    have ih := valD_drop k j ds
    unfold dropD at ih ⊢
    by_cases e : k' = k
    · rw [List.filter_cons_of_neg (by simpa using e), ih]
      by_cases z : j = k
      · rw [if_pos z, if_pos z]
      · rw [if_neg z, if_neg z, valD_neg fun q => z (by rw [← q, e])]
    · rw [List.filter_cons_of_pos (by simpa using e)]
      by_cases z : k' = j
      · subst z; rw [valD_pos, valD_pos, if_neg e]
      · rw [valD_neg z, valD_neg z, ih]
theorem valD_isSome (k : κ) : ∀ ds : Tb κ, (valD ds k).isSome = decide (k ∈ ds.map (·.1))
  | [] => rfl
  | (k', d') :: ds => by
    by_cases z : k' = k
    · subst z; rw [valD_pos]; simp
    · rw [valD_neg z, valD_isSome k ds]; simp [Ne.symm z]
theorem valD_none {k : κ} {ds : Tb κ} (h : k ∉ ds.map (·.1)) : valD ds k = none := by
  have := valD_isSome k ds
  rw [decide_eq_false h] at this
  simpa using this
theorem valD_mem {k : κ} {ds : Tb κ} : (valD ds k).isSome = true ↔ k ∈ ds.map (·.1) := by
  rw [valD_isSome k ds, decide_eq_true_eq]
end
def kE : Key → PyData
  | .inl i => .int i
  | .inr x => .str x
theorem kD_kE (k : Key) : kD (kE k) = some k := by cases k <;> rfl
theorem im_key {F : Hp} {k : Key} {v : V} : Im F (kE k) v → v = kV k := by
  cases k <;> exact fun h => h
theorem im_keys {F : Hp} : ∀ {ks : List Key} {vs : List V}, ImL F (ks.map kE) vs → vs = ks.map kV
  | [], _, h => h
  | k :: ks, _, ⟨v, r, e, h1, h2⟩ => by rw [e, im_key h1, im_keys h2]; rfl
def dOf (ds : Tb Key) : PyData := .dict (ds.map fun q => (kE q.1, q.2))
theorem imK_DL {F : Hp} : ∀ {ds : Tb Key} {ks : List (Key × V)}, ImK F (ds.map fun q => (kE q.1, q.2)) ks ↔ DL F ds ks
  | [], _ => Iff.rfl
  | (k, d) :: ds, ks => by
    constructor
    · rintro ⟨q, v, r, e1, e2, h1, h2⟩
      rw [kD_kE] at e2
      exact ⟨v, r, by rw [e1, ← Option.some.inj e2], h1, imK_DL.mp h2⟩
    · rintro ⟨v, r, e1, h1, h2⟩
      exact ⟨k, v, r, e1, kD_kE k, h1, imK_DL.mpr h2⟩
theorem im_dOf {F : Hp} {ds : Tb Key} {v : V} : Im F (dOf ds) v ↔ ∃ a ks, v = .ref a ∧ Rd F a (.dK ks) ∧ DL F ds ks :=
  ⟨fun ⟨a, ks, e1, e2, e3⟩ => ⟨a, ks, e1, e2, imK_DL.mp e3⟩, fun ⟨a, ks, e1, e2, e3⟩ => ⟨a, ks, e1, e2, imK_DL.mpr e3⟩⟩
/-! ### reading a dict -/
section
variable {T : List (Addr × Str)} {X : Cx} {e a b c : Expr} {es : List Expr} {σ : St} {F H F' H' : Hp} {P P1 P2 : V → Hp → Prop} {d d1 d2 : PyData} {ds : Tb Key} {dt : Tb (List Key)} {v : V} {pos p p2 : Pos} {k : Key} {ks : List Key} {kvs : List (Key × V)} {kvt : List (List Key × V)} {l : Addr}
-- standing
theorem ed_dget (hu : X.A.units + 1 < cLine) (ha : ED T X a σ F H (dOf ds)) (hb : ED T X b σ F H (kE k)) (h : valD ds k = some d) (hs : NoSl b := by exact fun _ _ => rfl) : ED T X (.Subscript a b pos) σ F H d :=
  fun F1 H1 a1 Q q => goE (pe_dget hu pe_r pe_r hs) (ha F1 H1 a1 _ fun x F2 H2 a2 p1 => hb F2 H2 (a1.trans a2) _ fun y F3 H3 a3 p2 => by
    obtain ⟨r, kvs, e1, e2, e3⟩ := im_dOf.mp (mono_im _ _ _ a3.ff p1)
    obtain ⟨v, e4, e5⟩ := e3.some k h
    exact ⟨r, v, e1, .inl ⟨kvs, k, a3.sub.rdR e2, im_key p2, e4.symm⟩, q v F3 H3 (a2.trans a3) e5⟩)
theorem ed_din (hu : X.A.units + 1 < cLine) (hb : ED T X b σ F H (kE k)) (ha : ED T X a σ F H (dOf ds)) (hm : behindInMarks .In a = false := by with_unfolding_all rfl) : ED T X (.Compare b [.In] [a] pos) σ F H (.bool (valD ds k).isSome) :=
  fun F1 H1 a1 Q q => goE (pe_cmp (pc_din hu pe_r pe_r) hm) (hb F1 H1 a1 _ fun y F2 H2 a2 p1 => ha F2 H2 (a1.trans a2) _ fun x F3 H3 a3 p2 => by
    obtain ⟨r, kvs, e1, e2, e3⟩ := im_dOf.mp p2
    exact ⟨r, _, e1, .inl ⟨kvs, k, a3.sub.rdR e2, im_key p1, rfl⟩, q _ F3 H3 (a2.trans a3) (by rw [e3.isSome]; rfl)⟩)
theorem ed_dni (hu : X.A.units + 1 < cLine) (hb : ED T X b σ F H (kE k)) (ha : ED T X a σ F H (dOf ds)) (hm : behindInMarks .NotIn a = false := by with_unfolding_all rfl) : ED T X (.Compare b [.NotIn] [a] pos) σ F H (.bool (!(valD ds k).isSome)) :=
  fun F1 H1 a1 Q q => goE (pe_cmp (pc_dnotin hu pe_r pe_r) hm) (hb F1 H1 a1 _ fun y F2 H2 a2 p1 => ha F2 H2 (a1.trans a2) _ fun x F3 H3 a3 p2 => by
    obtain ⟨r, kvs, e1, e2, e3⟩ := im_dOf.mp p2
    exact ⟨r, _, e1, .inl ⟨kvs, k, a3.sub.rdR e2, im_key p1, rfl⟩, q _ F3 H3 (a2.trans a3) (by rw [e3.isSome]; rfl)⟩)
-- beside the standing part
theorem ed_dgetm (hu : X.A.units + 1 < cLine) (ha : EV T X a σ F H (.ref l)) (hl : H l = some (.dK kvs)) (hd : DL F ds kvs) (hb : ED T X b σ F H (kE k)) (h : valD ds k = some d) (hs : NoSl b := by exact fun _ _ => rfl) : ED T X (.Subscript a b pos) σ F H d :=
  fun F1 H1 a1 Q q => goE (pe_dget hu pe_r pe_r hs) (ha F1 H1 a1 _ fun x F2 H2 a2 p1 => hb F2 H2 (a1.trans a2) _ fun y F3 H3 a3 p2 => by
    obtain ⟨v, e4, e5⟩ := hd.some k h
    have aa := (a1.trans a2).trans a3
    exact ⟨l, v, p1, .inl ⟨kvs, k, .inl (aa.hh _ _ hl notTbl_dK), im_key p2, e4.symm⟩, q v F3 H3 (a2.trans a3) (e5.up aa.ff)⟩)
theorem ed_dinm (hu : X.A.units + 1 < cLine) (hb : ED T X b σ F H (kE k)) (ha : EV T X a σ F H (.ref l)) (hl : H l = some (.dK kvs)) (hd : DL F ds kvs) (hm : behindInMarks .In a = false := by with_unfolding_all rfl) : ED T X (.Compare b [.In] [a] pos) σ F H (.bool (valD ds k).isSome) :=
  fun F1 H1 a1 Q q => goE (pe_cmp (pc_din hu pe_r pe_r) hm) (hb F1 H1 a1 _ fun y F2 H2 a2 p1 => ha F2 H2 (a1.trans a2) _ fun x F3 H3 a3 p2 => by
    have aa := (a1.trans a2).trans a3
    exact ⟨l, _, p2, .inl ⟨kvs, k, .inl (aa.hh _ _ hl notTbl_dK), im_key p1, rfl⟩, q _ F3 H3 (a2.trans a3) (by rw [hd.isSome]; rfl)⟩)
theorem ed_dnim (hu : X.A.units + 1 < cLine) (hb : ED T X b σ F H (kE k)) (ha : EV T X a σ F H (.ref l)) (hl : H l = some (.dK kvs)) (hd : DL F ds kvs) (hm : behindInMarks .NotIn a = false := by with_unfolding_all rfl) : ED T X (.Compare b [.NotIn] [a] pos) σ F H (.bool (!(valD ds k).isSome)) :=
  fun F1 H1 a1 Q q => goE (pe_cmp (pc_dnotin hu pe_r pe_r) hm) (hb F1 H1 a1 _ fun y F2 H2 a2 p1 => ha F2 H2 (a1.trans a2) _ fun x F3 H3 a3 p2 => by
    have aa := (a1.trans a2).trans a3
    exact ⟨l, _, p2, .inl ⟨kvs, k, .inl (aa.hh _ _ hl notTbl_dK), im_key p1, rfl⟩, q _ F3 H3 (a2.trans a3) (by rw [hd.isSome]; rfl)⟩)
theorem et_din (hu : X.A.units + 1 < cLine) (hb : ED T X b σ F H (kE k)) (ha : ED T X a σ F H (dOf ds)) (hm : behindInMarks .In a = false := by with_unfolding_all rfl) : ET T X (.Compare b [.In] [a] pos) σ F H (valD ds k).isSome :=
  fun F1 H1 a1 Q q => goT (pt_cmp (pc_din hu pe_r pe_r) hm) (hb F1 H1 a1 _ fun y F2 H2 a2 p1 => ha F2 H2 (a1.trans a2) _ fun x F3 H3 a3 p2 => by
    obtain ⟨r, kvs, e1, e2, e3⟩ := im_dOf.mp p2
    exact ⟨r, _, e1, .inl ⟨kvs, k, a3.sub.rdR e2, im_key p1, rfl⟩, _, rfl, by have := q F3 H3 (a2.trans a3); rwa [← e3.isSome] at this⟩)
theorem et_dni (hu : X.A.units + 1 < cLine) (hb : ED T X b σ F H (kE k)) (ha : ED T X a σ F H (dOf ds)) (hm : behindInMarks .NotIn a = false := by with_unfolding_all rfl) : ET T X (.Compare b [.NotIn] [a] pos) σ F H (!(valD ds k).isSome) :=
  fun F1 H1 a1 Q q => goT (pt_cmp (pc_dnotin hu pe_r pe_r) hm) (hb F1 H1 a1 _ fun y F2 H2 a2 p1 => ha F2 H2 (a1.trans a2) _ fun x F3 H3 a3 p2 => by
    obtain ⟨r, kvs, e1, e2, e3⟩ := im_dOf.mp p2
    exact ⟨r, _, e1, .inl ⟨kvs, k, a3.sub.rdR e2, im_key p1, rfl⟩, _, rfl, by have := q F3 H3 (a2.trans a3); rwa [← e3.isSome] at this⟩)
theorem et_dinm (hu : X.A.units + 1 < cLine) (hb : ED T X b σ F H (kE k)) (ha : EV T X a σ F H (.ref l)) (hl : H l = some (.dK kvs)) (hd : DL F ds kvs) (hm : behindInMarks .In a = false := by with_unfolding_all rfl) : ET T X (.Compare b [.In] [a] pos) σ F H (valD ds k).isSome :=
  fun F1 H1 a1 Q q => goT (pt_cmp (pc_din hu pe_r pe_r) hm) (hb F1 H1 a1 _ fun y F2 H2 a2 p1 => ha F2 H2 (a1.trans a2) _ fun x F3 H3 a3 p2 => by
    have aa := (a1.trans a2).trans a3
    exact ⟨l, _, p2, .inl ⟨kvs, k, .inl (aa.hh _ _ hl notTbl_dK), im_key p1, rfl⟩, _, rfl, by have := q F3 H3 (a2.trans a3); rwa [← hd.isSome] at this⟩)
theorem et_dnim (hu : X.A.units + 1 < cLine) (hb : ED T X b σ F H (kE k)) (ha : EV T X a σ F H (.ref l)) (hl : H l = some (.dK kvs)) (hd : DL F ds kvs) (hm : behindInMarks .NotIn a = false := by with_unfolding_all rfl) : ET T X (.Compare b [.NotIn] [a] pos) σ F H (!(valD ds k).isSome) :=
  fun F1 H1 a1 Q q => goT (pt_cmp (pc_dnotin hu pe_r pe_r) hm) (hb F1 H1 a1 _ fun y F2 H2 a2 p1 => ha F2 H2 (a1.trans a2) _ fun x F3 H3 a3 p2 => by
    have aa := (a1.trans a2).trans a3
    exact ⟨l, _, p2, .inl ⟨kvs, k, .inl (aa.hh _ _ hl notTbl_dK), im_key p1, rfl⟩, _, rfl, by have := q F3 H3 (a2.trans a3); rwa [← hd.isSome] at this⟩)

-- keys that are tuples
theorem im_tkey {F H : Hp} (s : Sub F H) {v : V} (h : Im F (.tuple (ks.map kE)) v) : ∃ r, v = .ref r ∧ H r = some (.tup (ks.map kV)) := by
  obtain ⟨r, xs, e1, e2, e3⟩ := h
  rw [im_keys e3] at e2
  exact ⟨r, e1, s.at e2⟩
theorem ed_dgett (hu : X.A.units + 1 < cLine) (ha : EV T X a σ F H (.ref l)) (hl : H l = some (.dT kvt)) (hd : DL F dt kvt) (hb : ED T X b σ F H (.tuple (ks.map kE))) (h : valD dt ks = some d) (hs : NoSl b := by exact fun _ _ => rfl) : ED T X (.Subscript a b pos) σ F H d :=
  fun F1 H1 a1 Q q => goE (pe_dget hu pe_r pe_r hs) (ha F1 H1 a1 _ fun x F2 H2 a2 p1 => hb F2 H2 (a1.trans a2) _ fun y F3 H3 a3 p2 => by
    obtain ⟨v, e4, e5⟩ := hd.some ks h
    have aa := (a1.trans a2).trans a3
    obtain ⟨r, e6, e7⟩ := im_tkey a3.sub p2
    exact ⟨l, v, p1, .inr ⟨kvt, ks, r, .inl (aa.hh _ _ hl notTbl_dT), e6, e7, e4.symm⟩, q v F3 H3 (a2.trans a3) (e5.up aa.ff)⟩)
theorem ed_dnit (hu : X.A.units + 1 < cLine) (hb : ED T X b σ F H (.tuple (ks.map kE))) (ha : EV T X a σ F H (.ref l)) (hl : H l = some (.dT kvt)) (hd : DL F dt kvt) (hm : behindInMarks .NotIn a = false := by with_unfolding_all rfl) : ED T X (.Compare b [.NotIn] [a] pos) σ F H (.bool (!(valD dt ks).isSome)) :=
  fun F1 H1 a1 Q q => goE (pe_cmp (pc_dnotin hu pe_r pe_r) hm) (hb F1 H1 a1 _ fun y F2 H2 a2 p1 => ha F2 H2 (a1.trans a2) _ fun x F3 H3 a3 p2 => by
    have aa := (a1.trans a2).trans a3
    obtain ⟨r, e6, e7⟩ := im_tkey (a3.sub) (mono_im _ _ _ a3.ff p1)
    exact ⟨l, _, p2, .inr ⟨kvt, ks, r, .inl (aa.hh _ _ hl notTbl_dT), e6, e7, rfl⟩, q _ F3 H3 (a2.trans a3) (by rw [hd.isSome]; rfl)⟩)
theorem et_dnit (hu : X.A.units + 1 < cLine) (hb : ED T X b σ F H (.tuple (ks.map kE))) (ha : EV T X a σ F H (.ref l)) (hl : H l = some (.dT kvt)) (hd : DL F dt kvt) (hm : behindInMarks .NotIn a = false := by with_unfolding_all rfl) : ET T X (.Compare b [.NotIn] [a] pos) σ F H (!(valD dt ks).isSome) :=
  fun F1 H1 a1 Q q => goT (pt_cmp (pc_dnotin hu pe_r pe_r) hm) (hb F1 H1 a1 _ fun y F2 H2 a2 p1 => ha F2 H2 (a1.trans a2) _ fun x F3 H3 a3 p2 => by
    have aa := (a1.trans a2).trans a3
    obtain ⟨r, e6, e7⟩ := im_tkey (a3.sub) (mono_im _ _ _ a3.ff p1)
    exact ⟨l, _, p2, .inr ⟨kvt, ks, r, .inl (aa.hh _ _ hl notTbl_dT), e6, e7, rfl⟩, _, rfl, by have := q F3 H3 (a2.trans a3); rwa [← hd.isSome] at this⟩)
/-! ### writing one -/
variable {rest : List Stmt} {D : Ends}
theorem b_dput (hu : X.A.units + 1 < cLine) (s : Sub F H) (he : ED T X e σ F H d) (ha : EV T X a σ F H (.ref l)) (hb : ED T X b σ F H (kE k)) (hF : F l = none) (hl : H l = some (.dK kvs)) (hd : DL F ds kvs) (hz : kvs.length < sizeLine)
    (q : ∀ kvs' F1 H1, Adv T F H F1 H1 → F1 l = none → H1 l = some (.dK kvs) → DL F1 (putD ds k d) kvs' → Sub F1 (upd H1 l (.dK kvs')) → rB X rest D σ (upd H1 l (.dK kvs')))
    (hs : swapsWith e (some (.Subscript a b p)) pos.line X.env = pure false := by rfl) : rB X (.Assign [.Subscript a b p] e pos :: rest) D σ H :=
  goC (ps_dput hu pe_r pe_r pe_r hs) (he F H (.refl s) _ fun v F1 H1 a1 q1 => ha F1 H1 a1 _ fun x F2 H2 a2 q2 => hb F2 H2 (a1.trans a2) _ fun y F3 H3 a3 q3 => by
    have aa := (a1.trans a2).trans a3
    obtain ⟨o1, o2⟩ := aa.off hF hl notTbl_dK
    exact ⟨l, _, q2, .inl ⟨kvs, k, o2, im_key q3, hz, rfl⟩, q _ F3 H3 aa o1 o2 ((hd.up aa.ff).put (q1.up (a2.trans a3).ff)) (a3.sub.updO o1)⟩)
theorem b_dputt (hu : X.A.units + 1 < cLine) (s : Sub F H) (he : ED T X e σ F H d) (ha : EV T X a σ F H (.ref l)) (hb : ED T X b σ F H (.tuple (ks.map kE))) (hF : F l = none) (hl : H l = some (.dT kvt)) (hd : DL F dt kvt) (hz : kvt.length < sizeLine)
    (q : ∀ kvs' F1 H1, Adv T F H F1 H1 → F1 l = none → H1 l = some (.dT kvt) → DL F1 (putD dt ks d) kvs' → Sub F1 (upd H1 l (.dT kvs')) → rB X rest D σ (upd H1 l (.dT kvs')))
    (hs : swapsWith e (some (.Subscript a b p)) pos.line X.env = pure false := by rfl) : rB X (.Assign [.Subscript a b p] e pos :: rest) D σ H :=
  goC (ps_dput hu pe_r pe_r pe_r hs) (he F H (.refl s) _ fun v F1 H1 a1 q1 => ha F1 H1 a1 _ fun x F2 H2 a2 q2 => hb F2 H2 (a1.trans a2) _ fun y F3 H3 a3 q3 => by
    have aa := (a1.trans a2).trans a3
    obtain ⟨o1, o2⟩ := aa.off hF hl notTbl_dT
    obtain ⟨r, e6, e7⟩ := im_tkey a3.sub q3
    exact ⟨l, _, q2, .inr ⟨kvt, ks, r, o2, e6, e7, hz, rfl⟩, q _ F3 H3 aa o1 o2 ((hd.up aa.ff).put (q1.up (a2.trans a3).ff)) (a3.sub.updO o1)⟩)
-- d.pop(k), the answer let go
theorem b_dpop (s : Sub F H) (ha : EV T X a σ F H (.ref l)) (hb : ED T X b σ F H (kE k)) (hF : F l = none) (hl : H l = some (.dK kvs)) (hd : DL F ds kvs) (hk : (valD ds k).isSome = true)
    (q : ∀ kvs' F1 H1, Adv T F H F1 H1 → F1 l = none → H1 l = some (.dK kvs) → DL F1 (dropD ds k) kvs' → Sub F1 (upd H1 l (.dK kvs')) → rB X rest D σ (upd H1 l (.dK kvs')))
    (m : M1 X a "pop" p b p2 := by exact ⟨rfl, rfl, rfl, rfl⟩) (hs : swapsWith (.Call (.Attribute a "pop" p) [b] [] p2) none pos.line X.env = pure false := by rfl) : rB X (.Expr (.Call (.Attribute a "pop" p) [b] [] p2) pos :: rest) D σ H :=
  b_exprR (goE (pe_dpop1 pe_r pe_r m) (ha F H (.refl s) _ fun x F1 H1 a1 q1 => by
    obtain ⟨f1, h1⟩ := a1.off hF hl notTbl_dK
    refine ⟨l, q1, .inl ⟨kvs, .inl h1⟩, hb F1 H1 a1 _ fun y F2 H2 a2 q2 => ?_⟩
    obtain ⟨f2, h2⟩ := a2.off f1 h1 notTbl_dK
    have hv := hd.isSome k
    rw [hk] at hv
    obtain ⟨v, ev⟩ := Option.isSome_iff_exists.mp hv
    exact ⟨kvs, k, v, h2, im_key q2, ev, q _ F2 H2 (a1.trans a2) f2 h2 (hd.up (a1.trans a2).ff).drop (a2.sub.updO f2)⟩)) hs
end
end Tw
namespace Tw
open PySem L2 LamX
/-! ### sorted(..) of data -/
def sortD (ds : List PyData) : List PyData := ds.mergeSort (PySem.W.dataLe false id)
def rSrt (K : PySem.W.Frag) : List V → Hp → VK → Prop := fun vs H Q => ∃ a xs ds, vs = [.ref a] ∧ SqL K H a xs ∧ DpAll K H xs ds ∧ PySem.W.AllAlike ds ∧ PySem.W.Sortable ds ∧ (∀ d ∈ ds, d.depth ≤ 8) ∧
  ∀ p, H p = none → Q (.ref p) (upd H p (.lst (((xs.zip ds).mergeSort (PySem.W.dataLe false (·.2))).map (·.1))))
theorem each_zip {ds : List PyData} : ∀ {xs : List V} {its : List Value}, Vals xs its → xs.length = ds.length → PySem.W.EachIs (fun v (b : V × PyData) => RelV b.1 v) its (xs.zip ds) := by
  induction ds with
  | nil => intro xs its r hl; cases r with
    | nil => exact .nil
    | cons _ _ => cases hl
  | cons d ds ih => intro xs its r hl; cases r with
    | nil => cases hl
    | cons r1 r2 => exact .cons r1 (ih r2 (by simpa using hl))
theorem vals_each : ∀ {zs : List (V × PyData)} {out : List Value}, PySem.W.EachIs (fun v (b : V × PyData) => RelV b.1 v) out zs → Vals (zs.map (·.1)) out
  | _, _, .nil => .nil
  | _, _, .cons h t => .cons h (vals_each t)
theorem dpAll_len {K : PySem.W.Frag} {H : Hp} : ∀ {xs : List V} {ds : List PyData}, DpAll K H xs ds → xs.length = ds.length
  | _, _, .nil => rfl
  | _, _, .cons _ t => congrArg Nat.succ (dpAll_len t)
theorem snd_zip : ∀ {xs : List V} {ds : List PyData}, xs.length = ds.length → (xs.zip ds).map (·.2) = ds
  | [], [], _ => rfl
  | [], _ :: _, h => by cases h
  | _ :: _, [], h => by cases h
  | x :: xs, d :: ds, h => by rw [List.zip_cons_cons, List.map_cons, snd_zip (by simpa using h)]
theorem cr_srt {X : Cx} (hu : X.A.units + 64 < cLine) : CallR X (.builtin "sorted") (rSrt X.K) := by
  intro pins s σ H vs us Q I r h
  obtain ⟨a, xs, ds, rfl, hs, hd, hal, hk, hdp, q⟩ := h
  obtain ⟨its, rv, hl, hz⟩ := I.list hs
  rw [Vals.ref1 r]
  have hlen := dpAll_len hd
  have em : (xs.zip ds).map (·.2) = ds := snd_zip hlen
  obtain ⟨as, hr⟩ := Dp.readsAll I ds xs its hd rv
  have zl : (xs.zip ds).length = ds.length := by rw [List.length_zip]; omega
  refine PySem.W.sorted_data (enc := fun b : V × PyData => b.2) (bs := xs.zip ds) (R := fun v b => RelV b.1 v) hl.isList (each_zip rv hlen) (PySem.W.readsAll_each (as := as) (fun b : V × PyData => b.2) (by rw [em]; exact hr)) (by rw [em]; exact hal) (by rw [em]; exact hk) (by rw [zl, ← hlen]; omega) (fun b hb => ?_) fun out ho ho2 => ?_
  · have := hdp b.2 (by rw [← em]; exact List.mem_map_of_mem hb)
    omega
  · obtain ⟨ep, he'⟩ := PyProof.Rows.sortedAll_at s.heap its out.toArray
    refine ⟨.ref _, _, I.laid (a := s.heap.objs.size + 1) (o := .lst (((xs.zip ds).mergeSort (PySem.W.dataLe false (·.2))).map (·.1))) (t' := s.toks) (fun _ _ => PyProof.Rows.sortedAll_old) (Nat.le_succ _) ⟨?_, out, ep, vals_each ho2, he'⟩, rfl, q _ (I.hok.fresh (Nat.le_succ _))⟩
    rw [List.length_map, List.length_mergeSort, zl, ← hlen]
    omega
theorem imL_pairs {F : Hp} : ∀ {zs : List (V × PyData)}, (∀ z ∈ zs, Im F z.2 z.1) → ImL F (zs.map (·.2)) (zs.map (·.1))
  | [], _ => rfl
  | z :: zs, h => ⟨_, _, rfl, h z (List.mem_cons_self ..), imL_pairs fun y hy => h y (List.mem_cons_of_mem _ hy)⟩
theorem im_zip {F : Hp} : ∀ {ds : List PyData} {xs : List V}, ImL F ds xs → ∀ z ∈ xs.zip ds, Im F z.2 z.1
  | [], _, h, z, hz => by rw [h] at hz; cases hz
  | d :: ds, _, ⟨v, r, e, h1, h2⟩, z, hz => by
    rw [e, List.zip_cons_cons] at hz
    rcases List.mem_cons.mp hz with q | q
    · rw [q]; exact h1
    · exact im_zip h2 z q
theorem im_sort {F : Hp} {ds : List PyData} {xs : List V} (h : ImL F ds xs) : ImL F (sortD ds) (((xs.zip ds).mergeSort (PySem.W.dataLe false (·.2))).map (·.1)) := by
  have q := imL_pairs (zs := (xs.zip ds).mergeSort (PySem.W.dataLe false (·.2))) (F := F) fun z hz => im_zip h z (List.mem_mergeSort.mp hz)
  have e : ((xs.zip ds).mergeSort (PySem.W.dataLe false (·.2))).map (·.2) = sortD ds := by
    have z := List.map_mergeSort (r := PySem.W.dataLe false fun b : V × PyData => b.2) (s := PySem.W.dataLe false id) (f := fun b : V × PyData => b.2) (l := xs.zip ds) (fun a _ b _ => rfl)
    rw [snd_zip h.length] at z
    exact z
  rw [e] at q
  exact q
def Ord (ds : List PyData) : Prop := PyData.hasDictAll ds = false ∧ PySem.W.AllAlike ds ∧ PySem.W.Sortable ds ∧ ∀ d ∈ ds, d.depth ≤ 8
section
variable {T : List (Addr × Str)} {X : Cx} {e a b c : Expr} {es : List Expr} {σ : St} {F H F' H' : Hp} {P P1 P2 : V → Hp → Prop} {d d1 d2 : PyData} {ds : List PyData} {v : V} {pos p p2 : Pos} {l : Addr} {xs : List V} {i j k : Int} {x y z : Str}
theorem ef_cb {r : List V → Hp → VK → Prop} {PL : List V → Hp → Prop} {ex : Expr} (he : PE X ex (tCB r (rA X es))) (ha : EA T X es σ F H PL)
    (hr : ∀ vs F1 H1, Adv T F H F1 H1 → PL vs F1 → ∀ Q : VK, (∀ a ys F2 H2, Adv T F1 H1 F2 H2 → Nw H1 a → F2 a = none → H2 a = some (.lst ys) → ImL F2 ds ys → Q (.ref a) H2) → r vs H1 Q) : EF T X ex σ F H ds := fun F1 H1 a1 Q k =>
  goE he (ha F1 H1 a1 _ fun vs F2 H2 a2 q => hr vs F2 H2 (a1.trans a2) q Q fun w ys F3 H3 a3 h1 h2 h3 h4 => k w ys F3 H3 (a2.trans a3) (Nw.back a2 h1) h2 h3 h4)
theorem srt_end {F1 H1 : Hp} {a : Addr} {xs : List V} {Q : VK} (a1 : Adv T F H F1 H1) (hs : SqL X.K H1 a xs) (hd : ImL F1 ds xs) (o : Ord ds) (k : ∀ a ys F2 H2, Adv T F1 H1 F2 H2 → Nw H1 a → F2 a = none → H2 a = some (.lst ys) → ImL F2 (sortD ds) ys → Q (.ref a) H2) : rSrt X.K [.ref a] H1 Q :=
  ⟨a, xs, ds, rfl, hs, ImL.dp a1.sub ds xs o.1 hd, o.2.1, o.2.2.1, o.2.2.2, fun p hp => k p _ F1 _ (Adv.lay a1.sub hp) (.of hp) (a1.sub.offN hp) upd_same (im_sort hd)⟩
theorem ef_sorted (hu : X.A.units + 64 < cLine) (hm : X.mg "sorted" = none) (h : ED T X e σ F H (.list ds)) (o : Ord ds) (hg : Gl X "sorted" := by rfl) (hs : starEach [e] X.env = (false, eval e X.env) :: starEach [] X.env := by rfl) : EF T X (.Call (.Name "sorted" p) [e] [] pos) σ F H (sortD ds) :=
  ef_cb (pe_callB (cr_srt hu) hg hm boot_sortedb pa_r (by decide) (by decide) hs (by rfl)) (ea1 h mono_im hs) fun vs F1 H1 a1 ⟨v, e1, r, xs, e2, h1, d1⟩ Q k => by
    rw [e1, e2]
    exact srt_end a1 (SqL.of (a1.sub.at h1)) d1 o k
theorem ef_sortedm (hu : X.A.units + 64 < cLine) (hm : X.mg "sorted" = none) (h : EV T X e σ F H (.ref l)) (hl : H l = some (.lst xs)) (hd : ImL F ds xs) (o : Ord ds) (hg : Gl X "sorted" := by rfl) (hs : starEach [e] X.env = (false, eval e X.env) :: starEach [] X.env := by rfl) : EF T X (.Call (.Name "sorted" p) [e] [] pos) σ F H (sortD ds) :=
  ef_cb (pe_callB (cr_srt hu) hg hm boot_sortedb pa_r (by decide) (by decide) hs (by rfl)) (ea1 h mono_eq hs) fun vs F1 H1 a1 ⟨v, e1, e2⟩ Q k => by
    rw [e1, show v = .ref l from e2]
    exact srt_end a1 (SqL.of (a1.hh _ _ hl notTbl_lst)) (hd.up a1.ff) o k
/-! ### x in seq -/
theorem inV_strs : ∀ (zs : List Str), inV (.str x) (zs.map V.str) = decide (x ∈ zs)
  | [] => by simp [inV]
  | y :: zs => by
    have ih := inV_strs zs
    unfold inV at ih ⊢
    rw [List.map_cons, List.any_cons, ih]
    by_cases h : x = y
    · subst h
      simp [eqV]
    · simp [eqV, h, Ne.symm h]
theorem flat_strs (zs : List Str) : (zs.map V.str).all flatV = true := by
  rw [List.all_map]
  exact List.all_eq_true.mpr fun _ _ => rfl
variable {zs : List Str}
theorem rx_inS {neg : Bool} {P2 : V → Hp → Prop} (h : ∀ y F1 H1, Adv T F H F1 H1 → P2 y F1 → ∃ p, y = .ref p ∧ (SqL X.K H1 p (zs.map V.str) ∨ SqT X.K H1 p (zs.map V.str))) : RX T (rIn X.K neg) F H (imP (.str x)) P2 (imP (.bool (if neg then !decide (x ∈ zs) else decide (x ∈ zs)))) := fun u v F1 H1 a1 h1 h2 Q k => by
  obtain ⟨p, e, sq⟩ := h v F1 H1 a1 h2
  have h1 : u = .str x := h1
  subst h1
  refine ⟨p, _, e, sq, rfl, flat_strs zs, k _ F1 H1 (.refl a1.sub) ?_⟩
  rw [inV_strs]
  rfl
theorem st_tup {y : V} {F1 H1 : Hp} (a1 : Adv T F H F1 H1) (h : Im F1 (.tuple (zs.map .str)) y) : ∃ p, y = .ref p ∧ (SqL X.K H1 p (zs.map V.str) ∨ SqT X.K H1 p (zs.map V.str)) := by
  obtain ⟨p, xs, e1, e2, e3⟩ := h
  rw [ImL.strs.mp e3] at e2
  exact ⟨p, e1, .inr (SqT.of (a1.sub.at e2))⟩
theorem st_lst {y : V} {F1 H1 : Hp} (a1 : Adv T F H F1 H1) (h : Im F1 (.list (zs.map .str)) y) : ∃ p, y = .ref p ∧ (SqL X.K H1 p (zs.map V.str) ∨ SqT X.K H1 p (zs.map V.str)) := by
  obtain ⟨p, xs, e1, e2, e3⟩ := h
  rw [ImL.strs.mp e3] at e2
  exact ⟨p, e1, .inl (SqL.of (a1.sub.at e2))⟩
theorem ed_inSt (ha : ED T X a σ F H (.str x)) (hb : ED T X b σ F H (.tuple (zs.map .str))) (hm : behindInMarks .In b = false := by with_unfolding_all rfl) : ED T X (.Compare a [.In] [b] pos) σ F H (.bool (decide (x ∈ zs))) := ex_cmp op_in_seq ha hb mono_im (rx_inS (neg := false) fun y F1 H1 a1 h => st_tup a1 h) hm
theorem ed_niSt (ha : ED T X a σ F H (.str x)) (hb : ED T X b σ F H (.tuple (zs.map .str))) (hm : behindInMarks .NotIn b = false := by with_unfolding_all rfl) : ED T X (.Compare a [.NotIn] [b] pos) σ F H (.bool (!decide (x ∈ zs))) := ex_cmp op_notIn_seq ha hb mono_im (rx_inS (neg := true) fun y F1 H1 a1 h => st_tup a1 h) hm
theorem ed_niSl (ha : ED T X a σ F H (.str x)) (hb : ED T X b σ F H (.list (zs.map .str))) (hm : behindInMarks .NotIn b = false := by with_unfolding_all rfl) : ED T X (.Compare a [.NotIn] [b] pos) σ F H (.bool (!decide (x ∈ zs))) := ex_cmp op_notIn_seq ha hb mono_im (rx_inS (neg := true) fun y F1 H1 a1 h => st_lst a1 h) hm
-- a list of texts beside the standing part
theorem sm_lst {y : V} {F1 H1 : Hp} (hl : H l = some (.lst (zs.map V.str))) (a1 : Adv T F H F1 H1) (h : y = .ref l) : ∃ p, y = .ref p ∧ (SqL X.K H1 p (zs.map V.str) ∨ SqT X.K H1 p (zs.map V.str)) := ⟨l, h, .inl (SqL.of (a1.hh _ _ hl notTbl_lst))⟩
theorem ed_inSm (ha : ED T X a σ F H (.str x)) (hb : EV T X b σ F H (.ref l)) (hl : H l = some (.lst (zs.map V.str))) (hm : behindInMarks .In b = false := by with_unfolding_all rfl) : ED T X (.Compare a [.In] [b] pos) σ F H (.bool (decide (x ∈ zs))) := ex_cmp op_in_seq ha hb mono_im (rx_inS (neg := false) fun y F1 H1 a1 h => sm_lst hl a1 h) hm
theorem ed_niSm (ha : ED T X a σ F H (.str x)) (hb : EV T X b σ F H (.ref l)) (hl : H l = some (.lst (zs.map V.str))) (hm : behindInMarks .NotIn b = false := by with_unfolding_all rfl) : ED T X (.Compare a [.NotIn] [b] pos) σ F H (.bool (!decide (x ∈ zs))) := ex_cmp op_notIn_seq ha hb mono_im (rx_inS (neg := true) fun y F1 H1 a1 h => sm_lst hl a1 h) hm
-- a sequence of the module's frame
theorem sk_tup {y : V} {H1 : Hp} {g : Addr} (hk : SqT X.K (fun _ => none) g (zs.map V.str)) (h : y = .ref g) : ∃ p, y = .ref p ∧ (SqL X.K H1 p (zs.map V.str) ∨ SqT X.K H1 p (zs.map V.str)) := by
  refine ⟨g, h, .inr ?_⟩
  rcases hk with q | q
  · rcases q with q | ⟨_, q⟩ <;> cases q
  · exact .inr q
theorem ed_inSk {g : Addr} (hk : SqT X.K (fun _ => none) g (zs.map V.str)) (ha : ED T X a σ F H (.str x)) (hb : EV T X b σ F H (.ref g)) (hm : behindInMarks .In b = false := by with_unfolding_all rfl) : ED T X (.Compare a [.In] [b] pos) σ F H (.bool (decide (x ∈ zs))) := ex_cmp op_in_seq ha hb mono_im (rx_inS (neg := false) fun y F1 H1 a1 h => sk_tup hk h) hm
theorem ed_niSk {g : Addr} (hk : SqT X.K (fun _ => none) g (zs.map V.str)) (ha : ED T X a σ F H (.str x)) (hb : EV T X b σ F H (.ref g)) (hm : behindInMarks .NotIn b = false := by with_unfolding_all rfl) : ED T X (.Compare a [.NotIn] [b] pos) σ F H (.bool (!decide (x ∈ zs))) := ex_cmp op_notIn_seq ha hb mono_im (rx_inS (neg := true) fun y F1 H1 a1 h => sk_tup hk h) hm
theorem ed_sign {n : Nat} (ha : ED T X a σ F H (.str ⟨#[n]⟩)) (hb : ED T X b σ F H (.str z)) (hm : behindInMarks .In b = false := by with_unfolding_all rfl) : ED T X (.Compare a [.In] [b] pos) σ F H (.bool (decide (n ∈ z.cps.toList))) :=
  ex_cmp op_in_sign ha hb mono_im (fun u v F1 H1 a1 h1 h2 Q k => ⟨n, z, h1, h2, k _ F1 H1 (.refl a1.sub) rfl⟩) hm
/-! ### a <= b <= c -/
theorem ex_chain {op op' : CmpOp} {r r' : R2} {P3 : V → Hp → Prop} {k0 k1 : Bool} (ho : OpR X (compareOp op) r) (ho' : OpR X (compareOp op') r') (ha : EX T X a σ F H P1) (hb : EX T X b σ F H P2) (m1 : Mono P1) (m2 : Mono P2) (hr : RX T r F H P1 P2 (imP (.bool k0)))
    (hc : k0 = true → EX T X c σ F H P3) (hr' : RX T r' F H P2 P3 (imP (.bool k1))) (hm : lastMarks [op, op'] [b, c] = false := by with_unfolding_all rfl) : ED T X (.Compare a [op, op'] [b, c] pos) σ F H (.bool (k0 && k1)) :=
  fun F1 H1 a1 Q k => goE (pe_chain ho ho' pe_r pe_r pe_r hm) (ha F1 H1 a1 _ fun x F2 H2 a2 p1 => hb F2 H2 (a1.trans a2) _ fun y F3 H3 a3 p2 =>
    hr x y F3 H3 ((a1.trans a2).trans a3) (m1 _ _ _ a3.ff p1) p2 _ fun v F4 H4 a4 q => ⟨k0, q, by
      have aa := ((a1.trans a2).trans a3).trans a4
      cases k0 with
      | false =>
        rw [if_neg Bool.false_ne_true]
        exact k _ F4 H4 ((a2.trans a3).trans a4) rfl
      | true =>
        rw [if_pos rfl]
        exact hc rfl F4 H4 aa _ fun w F5 H5 a5 p3 => hr' y w F5 H5 (aa.trans a5) (m2 _ _ _ (a4.ff.trans a5.ff) p2) p3 Q fun u F6 H6 a6 q6 => k u F6 H6 ((((a2.trans a3).trans a4).trans a5).trans a6) q6⟩)
theorem ed_lele (ha : ED T X a σ F H (.int i)) (hb : ED T X b σ F H (.int j)) (hc : ED T X c σ F H (.int k)) : ED T X (.Compare a [.LtE, .LtE] [b, c] pos) σ F H (.bool (decide (i ≤ j) && decide (j ≤ k))) :=
  ex_chain op_le op_le ha hb mono_im mono_im (rx_I0 rfl mono_im) (fun _ => hc) (rx_I0 rfl mono_im) (nomark c)
theorem rx_eqS : RX T rEq F H (imP (.str x)) (imP (.str y)) (imP (.bool (decide (x = y)))) := fun u v F1 H1 a1 h1 h2 Q k => by
  have h1 : u = .str x := h1
  have h2 : v = .str y := h2
  subst h1 h2
  exact ⟨rfl, k _ F1 H1 (.refl a1.sub) (by show V.bl _ = V.bl _; simp)⟩
theorem ed_eqeqS (ha : ED T X a σ F H (.str x)) (hb : ED T X b σ F H (.str y)) (hc : ED T X c σ F H (.str z)) : ED T X (.Compare a [.Eq, .Eq] [b, c] pos) σ F H (.bool (decide (x = y) && decide (y = z))) :=
  ex_chain op_eq op_eq ha hb mono_im mono_im rx_eqS (fun _ => hc) rx_eqS (nomark c)
theorem et_chain {op op' : CmpOp} {r r' : R2} {P3 : V → Hp → Prop} {k0 k1 : Bool} (ho : OpR X (compareOp op) r) (ho' : OpR X (compareOp op') r') (ha : EX T X a σ F H P1) (hb : EX T X b σ F H P2) (m1 : Mono P1) (m2 : Mono P2) (hr : RX T r F H P1 P2 (imP (.bool k0)))
    (hc : k0 = true → EX T X c σ F H P3) (hr' : RX T r' F H P2 P3 (imP (.bool k1))) (hm : lastMarks [op, op'] [b, c] = false := by with_unfolding_all rfl) : ET T X (.Compare a [op, op'] [b, c] pos) σ F H (k0 && k1) :=
  fun F1 H1 a1 Q k => goT (pt_chain ho ho' pe_r pe_r pe_r hm) (ha F1 H1 a1 _ fun x F2 H2 a2 p1 => hb F2 H2 (a1.trans a2) _ fun y F3 H3 a3 p2 =>
    hr x y F3 H3 ((a1.trans a2).trans a3) (m1 _ _ _ a3.ff p1) p2 _ fun v F4 H4 a4 q => ⟨k0, q, by
      have aa := ((a1.trans a2).trans a3).trans a4
      cases k0 with
      | false =>
        rw [if_neg Bool.false_ne_true]
        exact ⟨false, rfl, k F4 H4 ((a2.trans a3).trans a4)⟩
      | true =>
        rw [if_pos rfl]
        exact hc rfl F4 H4 aa _ fun w F5 H5 a5 p3 => hr' y w F5 H5 (aa.trans a5) (m2 _ _ _ (a4.ff.trans a5.ff) p2) p3 _ fun u F6 H6 a6 q6 => ⟨k1, q6, k F6 H6 ((((a2.trans a3).trans a4).trans a5).trans a6)⟩⟩)
theorem et_lele (ha : ED T X a σ F H (.int i)) (hb : ED T X b σ F H (.int j)) (hc : ED T X c σ F H (.int k)) : ET T X (.Compare a [.LtE, .LtE] [b, c] pos) σ F H (decide (i ≤ j) && decide (j ≤ k)) :=
  et_chain op_le op_le ha hb mono_im mono_im (rx_I0 rfl mono_im) (fun _ => hc) (rx_I0 rfl mono_im) (nomark c)
theorem et_eqeqS (ha : ED T X a σ F H (.str x)) (hb : ED T X b σ F H (.str y)) (hc : ED T X c σ F H (.str z)) : ET T X (.Compare a [.Eq, .Eq] [b, c] pos) σ F H (decide (x = y) && decide (y = z)) :=
  et_chain op_eq op_eq ha hb mono_im mono_im rx_eqS (fun _ => hc) rx_eqS (nomark c)
theorem et_inSt (ha : ED T X a σ F H (.str x)) (hb : ED T X b σ F H (.tuple (zs.map .str))) (hm : behindInMarks .In b = false := by with_unfolding_all rfl) : ET T X (.Compare a [.In] [b] pos) σ F H (decide (x ∈ zs)) := et_cmp op_in_seq ha hb mono_im (rx_inS (neg := false) fun y F1 H1 a1 h => st_tup a1 h) hm
theorem et_niSt (ha : ED T X a σ F H (.str x)) (hb : ED T X b σ F H (.tuple (zs.map .str))) (hm : behindInMarks .NotIn b = false := by with_unfolding_all rfl) : ET T X (.Compare a [.NotIn] [b] pos) σ F H (!decide (x ∈ zs)) := et_cmp op_notIn_seq ha hb mono_im (rx_inS (neg := true) fun y F1 H1 a1 h => st_tup a1 h) hm
theorem et_niSl (ha : ED T X a σ F H (.str x)) (hb : ED T X b σ F H (.list (zs.map .str))) (hm : behindInMarks .NotIn b = false := by with_unfolding_all rfl) : ET T X (.Compare a [.NotIn] [b] pos) σ F H (!decide (x ∈ zs)) := et_cmp op_notIn_seq ha hb mono_im (rx_inS (neg := true) fun y F1 H1 a1 h => st_lst a1 h) hm
theorem et_inSm (ha : ED T X a σ F H (.str x)) (hb : EV T X b σ F H (.ref l)) (hl : H l = some (.lst (zs.map V.str))) (hm : behindInMarks .In b = false := by with_unfolding_all rfl) : ET T X (.Compare a [.In] [b] pos) σ F H (decide (x ∈ zs)) := et_cmp op_in_seq ha hb mono_im (rx_inS (neg := false) fun y F1 H1 a1 h => sm_lst hl a1 h) hm
theorem et_niSm (ha : ED T X a σ F H (.str x)) (hb : EV T X b σ F H (.ref l)) (hl : H l = some (.lst (zs.map V.str))) (hm : behindInMarks .NotIn b = false := by with_unfolding_all rfl) : ET T X (.Compare a [.NotIn] [b] pos) σ F H (!decide (x ∈ zs)) := et_cmp op_notIn_seq ha hb mono_im (rx_inS (neg := true) fun y F1 H1 a1 h => sm_lst hl a1 h) hm
theorem et_inSk {g : Addr} (hk : SqT X.K (fun _ => none) g (zs.map V.str)) (ha : ED T X a σ F H (.str x)) (hb : EV T X b σ F H (.ref g)) (hm : behindInMarks .In b = false := by with_unfolding_all rfl) : ET T X (.Compare a [.In] [b] pos) σ F H (decide (x ∈ zs)) := et_cmp op_in_seq ha hb mono_im (rx_inS (neg := false) fun y F1 H1 a1 h => sk_tup hk h) hm
theorem et_niSk {g : Addr} (hk : SqT X.K (fun _ => none) g (zs.map V.str)) (ha : ED T X a σ F H (.str x)) (hb : EV T X b σ F H (.ref g)) (hm : behindInMarks .NotIn b = false := by with_unfolding_all rfl) : ET T X (.Compare a [.NotIn] [b] pos) σ F H (!decide (x ∈ zs)) := et_cmp op_notIn_seq ha hb mono_im (rx_inS (neg := true) fun y F1 H1 a1 h => sk_tup hk h) hm
end
end Tw
namespace Tw
open PySem PySem.Spec PyProof.Rows L2 LamX
structure G (K : PySem.W.Frag) (mg : Str → Option Value) : Prop where
  b : ∀ x ∈ (["len", "isinstance", "all", "sum", "max", "min", "abs", "repr", "sorted", "int", "str", "bool", "tuple", "dict", "set", "range", "enumerate"] : List Str), mg x = none
  words : ∃ g, mg "WORDS" = some (.ref g) ∧ SqT K (fun _ => none) g (wordsL.map V.str)
  ab : ∃ g, mg "LETTERS_editor" = some (.ref g) ∧ SqT K (fun _ => none) g ((["a", "b"] : List Str).map V.str)
  cl : ∃ t, mg "LETTERS_threads" = some (.str letters t)
  ci : ∀ p ∈ ([("MOST_LETTERS", 8), ("MOST_STEPS", 40), ("STEP_PARTS", 2), ("PAIR", 2), ("MOST_CONTESTS", 120)] : List (Str × Int)), ∃ t, mg p.1 = some (.int p.2 t)
  cs : ∀ p ∈ ([("LOCK", "lock"), ("SHARE", "share"), ("FREE", "free"), ("READ", "read"), ("WRITE", "write"), ("DATA", "data")] : List (Str × Str)), ∃ t, mg p.1 = some (.str p.2 t)
abbrev Step := Str × Str
abbrev Thr := List Step
def stD (s : Step) : PyData := .tuple [.str s.1, .str s.2]
def thD (t : Thr) : PyData := .tuple (t.map stD)
def okN (n : Str) : Prop := 1 ≤ n.length ∧ n.length ≤ 8 ∧ ∀ c ∈ n.cps.toList, c ∈ letters.cps.toList
def okS (s : Step) : Prop := s.1 ∈ wordsL ∧ okN s.2
def okT (t : Thr) : Prop := ∀ s ∈ t, okS s
section
variable {P : Program} {w : World} {K : PySem.W.Frag} {mg : Str → Option Value} {base : Heap} {T : List (Addr × Str)}
def Ris_name (ds : List PyData) (d : PyData) : Prop := ∃ n, okN n ∧ ds = [.str n] ∧ d = .bool true
theorem ok_is_name (F : DfN K mg "is_name" 20) (g : G K mg) : Cl P w K mg base 1 "is_name" ["value"] (spD T Ris_name) := by
  refine cl_of (N := ["value", "letter"]) F ⟨rfl, rfl, rfl, by decide +kernel, rfl, by decide +kernel, by decide +kernel⟩ (len_spD fun ds d ⟨n, _, e, _⟩ => by rw [e]; rfl) (fun _ _ _ _ _ _ us hl => match us, hl with | [_], _ => rfl) ?_
  rintro f cdv A outer s H vs Q E hr ⟨F, ds, d, sF, hv, ⟨n, ⟨n1, n2, n3⟩, e1, e2⟩, k⟩
  subst e1 e2
  obtain ⟨v1, _, rfl, i1, rfl⟩ := hv
  have nd : ((["value", "letter"] : List Str)).Nodup := by decide +kernel
  have hz : n.length ≤ sizeLine := Nat.le_trans n2 (by decide)
  refine b_when (T := T) (k0 := false) ((et_w (ew_or (k1 := false) (et_not (k1 := true) (et_val (ed_isi (g.b _ (by decide)) (ed_var (i := 0) rfl i1) (ev_gty (g.b _ (by decide)) boot_strb) rfl rfl))) fun _ =>
    ew_or1 (et_not ((et_lele ed_int (ed_lens (g.b _ (by decide)) (ed_var (i := 0) rfl i1) hz) (ed_gint (g.ci (_, _) (.head _)))))))).to (by simp; omega)) sF (fun z => by cases z) fun _ F1 H1 a1 => ?_
  refine b_ret (P := imP (.bool true)) (ED.to (ed_all (bs := n.cps.toList.map fun _ => true) rfl (g.b _ (by decide)) (EF.ed (EF.to (ef_lc0 (enc := fun c : Nat => PyData.str ⟨#[c]⟩) (xs := n.cps.toList) (bs := fun c => [(1, PyData.str ⟨#[c]⟩)]) (own := [("letter", 1)]) rfl nd (by kernel_rfl) (wk_str (ed_var (i := 0) rfl (i1.up a1.ff))) (fun _ _ i hi => hi)
    (fun _ => .bool true) (fun s Hb C cl fp c hc => ⟨gt_name nd rfl (.inl rfl), fun F2 H2 a2 vs ⟨u, _, e3, i2, e4⟩ => ?_⟩) (by rw [Array.length_toList]; exact hz)) ?_))) ?_) a1.sub fun v F2 H2 a2 q => k v F2 H2 (a1.trans a2) q
  · subst e3 e4
    exact ED.to (ed_sign (ed_var (i := 1) rfl i2) (ed_gstr g.cl)) (by simp [n3 c hc])
  · rw [List.map_map]
    rfl
  · congr 1
    simp
end
end Tw
namespace Tw
open PySem PySem.Spec PyProof.Rows L2 LamX
theorem b_len {K : PySem.W.Frag} {mg : Str → Option Value} (g : G K mg) : mg "len" = none := g.b _ (by decide)
theorem b_isi {K : PySem.W.Frag} {mg : Str → Option Value} (g : G K mg) : mg "isinstance" = none := g.b _ (by decide)
theorem b_all {K : PySem.W.Frag} {mg : Str → Option Value} (g : G K mg) : mg "all" = none := g.b _ (by decide)
theorem b_str {K : PySem.W.Frag} {mg : Str → Option Value} (g : G K mg) : mg "str" = none := g.b _ (by decide)
theorem b_int {K : PySem.W.Frag} {mg : Str → Option Value} (g : G K mg) : mg "int" = none := g.b _ (by decide)
theorem b_bool {K : PySem.W.Frag} {mg : Str → Option Value} (g : G K mg) : mg "bool" = none := g.b _ (by decide)
theorem b_tuple {K : PySem.W.Frag} {mg : Str → Option Value} (g : G K mg) : mg "tuple" = none := g.b _ (by decide)
theorem b_sorted {K : PySem.W.Frag} {mg : Str → Option Value} (g : G K mg) : mg "sorted" = none := g.b _ (by decide)
theorem b_enum {K : PySem.W.Frag} {mg : Str → Option Value} (g : G K mg) : mg "enumerate" = none := g.b _ (by decide)
theorem b_range {K : PySem.W.Frag} {mg : Str → Option Value} (g : G K mg) : mg "range" = none := g.b _ (by decide)
theorem b_sum {K : PySem.W.Frag} {mg : Str → Option Value} (g : G K mg) : mg "sum" = none := g.b _ (by decide)
theorem b_max {K : PySem.W.Frag} {mg : Str → Option Value} (g : G K mg) : mg "max" = none := g.b _ (by decide)
theorem b_min {K : PySem.W.Frag} {mg : Str → Option Value} (g : G K mg) : mg "min" = none := g.b _ (by decide)
theorem b_dict {K : PySem.W.Frag} {mg : Str → Option Value} (g : G K mg) : mg "dict" = none := g.b _ (by decide)
theorem b_set {K : PySem.W.Frag} {mg : Str → Option Value} (g : G K mg) : mg "set" = none := g.b _ (by decide)
theorem b_repr {K : PySem.W.Frag} {mg : Str → Option Value} (g : G K mg) : mg "repr" = none := g.b _ (by decide)
theorem b_abs {K : PySem.W.Frag} {mg : Str → Option Value} (g : G K mg) : mg "abs" = none := g.b _ (by decide)
section
variable {K : PySem.W.Frag} {mg : Str → Option Value}
theorem c_ml (g : G K mg) : ∃ t, mg "MOST_LETTERS" = some (.int 8 t) := g.ci ("MOST_LETTERS", 8) (by decide)
theorem c_ms (g : G K mg) : ∃ t, mg "MOST_STEPS" = some (.int 40 t) := g.ci ("MOST_STEPS", 40) (by decide)
theorem c_sp (g : G K mg) : ∃ t, mg "STEP_PARTS" = some (.int 2 t) := g.ci ("STEP_PARTS", 2) (by decide)
theorem c_pr (g : G K mg) : ∃ t, mg "PAIR" = some (.int 2 t) := g.ci ("PAIR", 2) (by decide)
theorem c_mc (g : G K mg) : ∃ t, mg "MOST_CONTESTS" = some (.int 120 t) := g.ci ("MOST_CONTESTS", 120) (by decide)
theorem c_lock (g : G K mg) : ∃ t, mg "LOCK" = some (.str "lock" t) := g.cs ("LOCK", "lock") (by decide)
theorem c_share (g : G K mg) : ∃ t, mg "SHARE" = some (.str "share" t) := g.cs ("SHARE", "share") (by decide)
theorem c_free (g : G K mg) : ∃ t, mg "FREE" = some (.str "free" t) := g.cs ("FREE", "free") (by decide)
theorem c_read (g : G K mg) : ∃ t, mg "READ" = some (.str "read" t) := g.cs ("READ", "read") (by decide)
theorem c_write (g : G K mg) : ∃ t, mg "WRITE" = some (.str "write" t) := g.cs ("WRITE", "write") (by decide)
theorem c_data (g : G K mg) : ∃ t, mg "DATA" = some (.str "data" t) := g.cs ("DATA", "data") (by decide)
end
section
variable {P : Program} {w : World} {K : PySem.W.Frag} {mg : Str → Option Value} {base : Heap} {T : List (Addr × Str)}
def Ris_step (ds : List PyData) (d : PyData) : Prop := ∃ s, okS s ∧ ds = [stD s] ∧ d = .bool true
theorem ok_is_step (F : DfN K mg "is_step" 21) (g : G K mg) (c20 : Cl P w K mg base 1 "is_name" ["value"] (spD T Ris_name)) : Cl P w K mg base 2 "is_step" ["value"] (spD T Ris_step) := by
  refine cl_of (N := ["value"]) F ⟨rfl, rfl, rfl, by decide +kernel, rfl, by decide +kernel, by decide +kernel⟩ (len_spD fun ds d ⟨n, _, e, _⟩ => by rw [e]; rfl) (fun _ _ _ _ _ _ us hl => match us, hl with | [_], _ => rfl) ?_
  rintro f cdv A outer s H vs Q E hr ⟨F, ds, d, sF, hv, ⟨n, ⟨n1, n2⟩, e1, e2⟩, k⟩
  subst e1 e2
  obtain ⟨v1, _, rfl, i1, rfl⟩ := hv
  obtain ⟨wd, hwd, wk⟩ := g.words
  refine b_when (T := T) (k0 := false) ((et_w (ew_or (k1 := false) (et_not (k1 := true) (et_val (ed_isi (b_isi g) (ed_var (i := 0) rfl i1) (ev_gty (b_tuple g) boot_tupleb) rfl rfl))) fun _ =>
    ew_or1 (et_neI (ed_lent (b_len g) (ed_var (i := 0) rfl i1)) (ed_gint (c_sp g)))))) sF (fun z => by cases z) fun _ F1 H1 a1 => ?_
  have i2 := i1.up a1.ff
  have ev : ∀ {F2 H2 : Hp}, Adv T F1 H1 F2 H2 → Im F2 (stD n) v1 := fun a => i2.up a.ff
  refine b_ret (P := imP (.bool true)) (ED.to (ed_and (k1 := true) (k2 := true) (ed_isi (b_isi g) (ed_ixt (ed_var (i := 0) rfl i2) ed_int rfl) (ev_gty (b_str g) boot_strb) rfl rfl) fun _ => ED.to (ed_and (k1 := decide (n.1 ∈ wordsL)) (k2 := true) (ed_inSk wk (ed_ixt (ed_var (i := 0) rfl i2) ed_int rfl) (ev_gref hwd)) fun _ => ed_one (ed_call c20 hr (ea_cons (ed_ixt (ed_var (i := 0) rfl i2) ed_int rfl) ea_nil) ⟨n.2, n2, rfl, rfl⟩)) ?_) rfl) a1.sub fun v F2 H2 a2 q => k v F2 H2 (a1.trans a2) q
  simp [n1]
def Rare_steps (ds : List PyData) (d : PyData) : Prop := ∃ t : Thr, okT t ∧ t.length ≤ 1000 ∧ ds = [thD t] ∧ d = .bool true
theorem ok_are_steps (F : DfN K mg "are_steps" 22) (g : G K mg) (c21 : Cl P w K mg base 2 "is_step" ["value"] (spD T Ris_step)) : Cl P w K mg base 3 "are_steps" ["value"] (spD T Rare_steps) := by
  refine cl_of (N := ["value", "step"]) F ⟨rfl, rfl, rfl, by decide +kernel, rfl, by decide +kernel, by decide +kernel⟩ (len_spD fun ds d ⟨n, _, _, e, _⟩ => by rw [e]; rfl) (fun _ _ _ _ _ _ us hl => match us, hl with | [_], _ => rfl) ?_
  rintro f cdv A outer s H vs Q E hr ⟨F, ds, d, sF, hv, ⟨t, ht, hlen, e1, e2⟩, k⟩
  subst e1 e2
  obtain ⟨v1, _, rfl, i1, rfl⟩ := hv
  have nd : (["value", "step"] : List Str).Nodup := by decide +kernel
  have hz : t.length ≤ sizeLine := Nat.le_trans hlen (by decide)
  refine b_ret (P := imP (.bool true)) (ED.to (ed_and (k1 := true) (k2 := true) (ed_isi (b_isi g) (ed_var (i := 0) rfl i1) (ev_gty (b_tuple g) boot_tupleb) rfl rfl) fun _ => ed_one (ED.to (ed_all (bs := t.map fun _ => true) rfl (b_all g) (EF.ed (EF.to (ef_lc0 (enc := stD) (xs := t) (bs := fun c => [(1, stD c)]) (own := [("step", 1)]) rfl nd (by kernel_rfl) (wk_tup (ed_var (i := 0) rfl i1)) (fun _ _ i hi => hi)
    (fun _ => .bool true) (fun s Hb C cl fp c hc => ⟨gt_name nd rfl (.inl rfl), fun F2 H2 a2 vs ⟨u, _, e3, i2, e4⟩ => ?_⟩) hz) ?_))) ?_)) rfl) sF k
  · subst e3 e4
    exact ed_call c21 hr (ea_cons (ed_var (i := 1) rfl i2) ea_nil) ⟨c, ht c hc, rfl, rfl⟩
  · rw [List.map_map]; rfl
  · congr 1; simp
end
end Tw
namespace Tw
open PySem L2 LamX
/-! ### list.remove, texts -/
def isS (z : Str) (v : Value) : Bool := match v with
  | .str y _ => y == z
  | _ => false
theorem isS_gives {z : Str} {t : Tok} : ∀ {us : List Value} {ns : List Str}, Vals (ns.map V.str) us → ∀ y ∈ us, MeetsSeq.EqGives y (.str z t) (isS z y)
  | _, [], h, y, hy => by cases h; cases hy
  | _, n :: ns, h, y, hy => by
    cases h with
    | cons r rr =>
      obtain ⟨t', rfl⟩ := r
      rcases List.mem_cons.mp hy with e | e
      · rw [e]
        exact fun prog w A E s Q q => (SeqAt.EqAt.str_str n t' z t : SeqAt.EqAt A s _ _ _) prog w E Q q
      · exact isS_gives rr y e
theorem map_eraseIdxS : ∀ (l : List Str) (j : Nat), (l.map V.str).eraseIdx j = (l.eraseIdx j).map V.str
  | [], j => by simp
  | a :: r, 0 => by simp
  | a :: r, j + 1 => by simp [map_eraseIdxS r j]
def rRemS : V → List V → Hp → VK → Prop := fun x xs H Q => ∃ (l : Addr) (ns : List Str) (k : Str) (j : Nat), x = .ref l ∧ xs = [.str k] ∧ H l = some (.lst (ns.map V.str)) ∧ ns[j]? = some k ∧ (∀ m : Nat, m < j → ns[m]? ≠ some k) ∧ Q .non (upd H l (.lst ((ns.eraseIdx j).map V.str)))
theorem mt_removeS {X : Cx} : MtM X "list.remove" rRemS := by
  intro pins s σ H x xs v us Q I rx rxs h
  obtain ⟨l, ns, k, j, rfl, rfl, hH, hj, hno, q⟩ := h
  cases rx
  obtain ⟨u, rfl, t, rfl⟩ := rxs.one
  obtain ⟨z, its, n, r, hl, e⟩ := I.lstM hH
  rw [List.length_map] at hl z
  have hjn : j < ns.length := (List.getElem?_eq_some_iff.mp hj).1
  have hjl : j < its.toArray.size := by rw [List.size_toArray]; omega
  have at_ : ∀ (m : Nat) (hm : m < its.toArray.size), ∃ y tm, ns[m]? = some y ∧ its.toArray[m] = .str y tm := fun m hm => by
    have hmn : m < ns.length := by rw [List.size_toArray] at hm; omega
    obtain ⟨u, hu, tm, eu⟩ := r.get (i := m) (x := .str ns[m]) (by rw [List.getElem?_map, List.getElem?_eq_getElem hmn]; rfl)
    obtain ⟨h1, h2⟩ := List.getElem?_eq_some_iff.mp hu
    exact ⟨ns[m], tm, List.getElem?_eq_getElem hmn, by rw [← eu, ← h2]; simp⟩
  refine call_meets PySem.F.slot_list_remove ⟨_, e, rfl⟩ PySem.F.entry_list_remove (PySem.F.args_list_remove_2 _ _)
    (MeetsSeq.list_remove l its.toArray n (.str k t) (isS k) (fun y hy => isS_gives r y (by simpa using hy)) j hjl ?_ ?_ (by rw [List.size_toArray]; omega)) ⟨e, ?_⟩
  · obtain ⟨y, tm, e1, e2⟩ := at_ j hjl
    rw [hj] at e1
    cases e1
    rw [e2]
    exact beq_self_eq_true k
  · intro m hm hmj
    obtain ⟨y, tm, e1, e2⟩ := at_ m hm
    rw [e2]
    exact beq_eq_false_iff_ne.mpr fun e3 => hno m hmj (by rw [e1, e3])
  · have rr := r.eraseIdx j
    rw [map_eraseIdxS] at rr
    refine ⟨.non, _, I.lset (its' := its.eraseIdx j) (t' := s.toks) hH e ?_ rr ?_, rfl, q⟩
    · show its.toArray.eraseIdxIfInBounds j = (its.eraseIdx j).toArray
      rw [List.eraseIdxIfInBounds_toArray]
    · have z2 := List.length_eraseIdx_le ns j
      rw [List.length_map]
      omega
theorem erase_at : ∀ {ns : List Str} {k : Str}, k ∈ ns → ∃ j : Nat, ns[j]? = some k ∧ (∀ m : Nat, m < j → ns[m]? ≠ some k) ∧ ns.eraseIdx j = ns.erase k
  | n :: ns, k, h => by
    by_cases e : n = k
    · subst e
      exact ⟨0, rfl, fun m hm => absurd hm (Nat.not_lt_zero m), by simp⟩
    · obtain ⟨j, h1, h2, h3⟩ := erase_at (ns := ns) (k := k) ((List.mem_cons.mp h).resolve_left (Ne.symm e))
      refine ⟨j + 1, h1, fun m hm => ?_, ?_⟩
      · cases m with
        | zero => exact fun z => e (Option.some.inj z)
        | succ m => exact h2 m (by omega)
      · rw [List.eraseIdx_cons_succ, h3, List.erase_cons_tail (by simpa using e)]
section
variable {T : List (Addr × Str)} {X : Cx} {e a b c : Expr} {es : List Expr} {σ : St} {F H F' H' : Hp} {P P1 P2 : V → Hp → Prop} {d d1 d2 : PyData} {ds : List PyData} {v : V} {pos p p2 : Pos} {l : Addr} {xs : List V} {i j k : Int} {x y z : Str} {zs : List Str} {rest : List Stmt} {D : Ends}
theorem b_remS (s : Sub F H) (ha : EV T X a σ F H (.ref l)) (hb : ED T X b σ F H (.str x)) (hF : F l = none) (hl : H l = some (.lst (zs.map V.str))) (hx : x ∈ zs)
    (q : ∀ F1 H1, Adv T F H F1 H1 → F1 l = none → H1 l = some (.lst (zs.map V.str)) → Sub F1 (upd H1 l (.lst ((zs.erase x).map V.str))) → rB X rest D σ (upd H1 l (.lst ((zs.erase x).map V.str))))
    (hB : PE X (.Call (.Attribute a "remove" p) [b] [] p2) (tBM X.K "list" rRemS (rE X a) (tCons (rE X b) tNil)) := by exact pe_bm PySem.F.plainAttrs_list PySem.F.slot_list_remove PySem.F.type_list_remove mt_removeS pe_r (pa_cons pe_r pa_nil))
    (hs : swapsWith (.Call (.Attribute a "remove" p) [b] [] p2) none pos.line X.env = pure false := by rfl) : rB X (.Expr (.Call (.Attribute a "remove" p) [b] [] p2) pos :: rest) D σ H :=
  b_exprR (goE hB (ha F H (.refl s) _ fun u F1 H1 a1 q1 => by
    obtain ⟨f1, h1⟩ := a1.off hF hl notTbl_lst
    have q1 : u = .ref l := q1
    subst q1
    refine ⟨.inl ⟨rfl, _, SqL.of h1⟩, hb F1 H1 a1 _ fun y F2 H2 a2 q2 => ?_⟩
    obtain ⟨f2, h2⟩ := a2.off f1 h1 notTbl_lst
    have q2 : y = .str x := q2
    subst q2
    obtain ⟨j, e1, e2, e3⟩ := erase_at hx
    refine ⟨l, zs, x, j, rfl, rfl, h2, e1, e2, ?_⟩
    rw [e3]
    exact q F2 H2 (a1.trans a2) f2 h2 (a2.sub.updO f2))) hs
/-! ### a list beside the standing part, against [] -/
theorem eqv_nil : PyData.eqv (.list ds) (.list []) = ds.isEmpty := by
  cases ds <;> simp [PyData.eqv, PyData.eqvAll]
theorem okl (h : PyData.hasDictAll ds = false) (h2 : SeqAt.shaped (.list ds) = true) : okD (.list ds) = true := by
  simp [okD, PyData.hasDict, h, h2]
theorem rx_nil {neg : Bool} {P1 : V → Hp → Prop} {r : R2} (hr : ∀ x y H Q, (∃ d1 d2, Dp X.K H x d1 ∧ Dp X.K H y d2 ∧ SeqAt.shaped d1 = true ∧ SeqAt.shaped d2 = true ∧ Q (.bl (if neg then !PyData.eqv d1 d2 else PyData.eqv d1 d2)) H) → r x y H Q)
    (h1 : ∀ x F1 H1, Adv T F H F1 H1 → P1 x F1 → Dp X.K H1 x (.list ds)) (sh : SeqAt.shaped (.list ds) = true) : RX T r F H P1 (imP (.list [])) (imP (.bool (if neg then !ds.isEmpty else ds.isEmpty))) := fun x y F1 H1 a1 p1 p2 Q k =>
  hr x y H1 Q ⟨_, _, h1 x F1 H1 a1 p1, Im.dp a1.sub _ _ rfl p2, sh, by decide, k _ F1 H1 (.refl a1.sub) (by rw [eqv_nil]; rfl)⟩
theorem dp_mut {F1 H1 : Hp} (a1 : Adv T F H F1 H1) (hl : H l = some (.lst xs)) (hd : ImL F ds xs) (nd : PyData.hasDictAll ds = false) : Dp X.K H1 (.ref l) (.list ds) := .lst (SqL.of (a1.hh _ _ hl notTbl_lst)) (ImL.dp a1.sub ds xs nd (hd.up a1.ff))
theorem et_isnil (hu : X.A.units + 64 < cLine) (ha : EV T X a σ F H (.ref l)) (hl : H l = some (.lst xs)) (hd : ImL F ds xs) (nd : PyData.hasDictAll ds = false) (sh : SeqAt.shaped (.list ds) = true) : ET T X (.Compare a [.Eq] [.List [] p] pos) σ F H ds.isEmpty :=
  et_cmp (op_eqD hu) ha (EF.ed (ef_lst ea_nil (Nat.zero_le _))) mono_eq (rx_nil (neg := false) (fun _ _ _ _ z => z) (fun x F1 H1 a1 e => by rw [show x = .ref l from e]; exact dp_mut a1 hl hd nd) sh) (nomark _)
theorem ed_isnil (hu : X.A.units + 64 < cLine) (ha : EV T X a σ F H (.ref l)) (hl : H l = some (.lst xs)) (hd : ImL F ds xs) (nd : PyData.hasDictAll ds = false) (sh : SeqAt.shaped (.list ds) = true) : ED T X (.Compare a [.Eq] [.List [] p] pos) σ F H (.bool ds.isEmpty) :=
  ex_cmp (op_eqD hu) ha (EF.ed (ef_lst ea_nil (Nat.zero_le _))) mono_eq (rx_nil (neg := false) (fun _ _ _ _ z => z) (fun x F1 H1 a1 e => by rw [show x = .ref l from e]; exact dp_mut a1 hl hd nd) sh) (nomark _)
theorem et_nonil (hu : X.A.units + 64 < cLine) (ha : EV T X a σ F H (.ref l)) (hl : H l = some (.lst xs)) (hd : ImL F ds xs) (nd : PyData.hasDictAll ds = false) (sh : SeqAt.shaped (.list ds) = true) : ET T X (.Compare a [.NotEq] [.List [] p] pos) σ F H (!ds.isEmpty) :=
  et_cmp (op_neD hu) ha (EF.ed (ef_lst ea_nil (Nat.zero_le _))) mono_eq (rx_nil (neg := true) (fun _ _ _ _ z => z) (fun x F1 H1 a1 e => by rw [show x = .ref l from e]; exact dp_mut a1 hl hd nd) sh) (nomark _)
/-! ### pop, set, |= -/
-- x = l.pop()
theorem e_pop {Q : VK} {y : V} (s : Sub F H) (ha : EV T X a σ F H (.ref l)) (hF : F l = none) (hl : H l = some (.lst xs)) (hy : xs[xs.length - 1]? = some y)
    (q : ∀ F1 H1, Adv T F H F1 H1 → F1 l = none → H1 l = some (.lst xs) → Sub F1 (upd H1 l (.lst xs.dropLast)) → Q y (upd H1 l (.lst xs.dropLast)))
    (hB : PE X (.Call (.Attribute a "pop" p) [] [] p2) (tBM0 X.K "list" rPop (rE X a)) := by exact pe_bm0 PySem.F.plainAttrs_list PySem.F.slot_list_pop PySem.F.type_list_pop mt_pop pe_r) : rE X (.Call (.Attribute a "pop" p) [] [] p2) σ H Q :=
  goE hB (ha F H (.refl s) _ fun u F1 H1 a1 q1 => by
    obtain ⟨f1, h1⟩ := a1.off hF hl notTbl_lst
    have q1 : u = .ref l := q1
    subst q1
    exact ⟨.inl ⟨rfl, _, SqL.of h1⟩, l, xs, y, rfl, rfl, h1, hy, q F1 H1 a1 f1 h1 (a1.sub.updO f1)⟩)
-- l[i] = e
theorem b_lset {n : Nat} (s : Sub F H) (he : EX T X e σ F H P) (ha : EV T X a σ F H (.ref l)) (hb : ED T X b σ F H (.int i)) (hF : F l = none) (hl : H l = some (.lst xs)) (hi : ixN xs.length i = some n)
    (q : ∀ v F1 H1, Adv T F H F1 H1 → F1 l = none → H1 l = some (.lst xs) → (∃ F', Ext F' F1 ∧ P v F') → Sub F1 (upd H1 l (.lst (xs.set n v))) → rB X rest D σ (upd H1 l (.lst (xs.set n v))))
    (hA : PG X (.Subscript a b p) (gSub (rE X a) (rE X b) rSetL) := by exact pg_sub pe_r pe_r set_list)
    (hs : swapsWithSole [.Subscript a b p] e pos.line X.env = pure false := by rfl) (hw : swappedStores [.Subscript a b p] e X.env = pure none := by rfl)
    (h1 : (assignEach [.Subscript a b p] X.env).map (·.2) = [assign (.Subscript a b p) X.env] := by rfl) : rB X (.Assign [.Subscript a b p] e pos :: rest) D σ H :=
  goC (ps_asg pe_r hA hs hw h1) (he F H (.refl s) _ fun v F1 H1 a1 q1 => ha F1 H1 a1 _ fun u F2 H2 a2 q2 => hb F2 H2 (a1.trans a2) _ fun w F3 H3 a3 q3 => by
    obtain ⟨f3, h3⟩ := ((a1.trans a2).trans a3).off hF hl notTbl_lst
    exact ⟨l, xs, i, n, q2, q3, h3, hi, q v F3 H3 ((a1.trans a2).trans a3) f3 h3 ⟨F1, (a2.trans a3).ff, q1⟩ (a3.sub.updO f3)⟩)
theorem ixN_at {n j : Nat} (h : j < n) : ixN n (j : Int) = some j := by
  unfold ixN
  rw [if_pos (Int.natCast_nonneg j), if_pos (by omega)]
  rfl
def rGetL (K : PySem.W.Frag) : V → V → Hp → VK → Prop := fun o i H Q => ∃ (p : Addr) (xs : List V) (k : Nat) (y : V), o = .ref p ∧ i = .int k ∧ SqL K H p xs ∧ xs[k]? = some y ∧ Q y H
theorem pget_list : PGet X (rGetL X.K) := by
  intro pins s σ H o i ov iv Q I ro ri h
  obtain ⟨p, xs, n, y, rfl, rfl, hq, he, q⟩ := h
  cases ro
  obtain ⟨t, rfl⟩ := ri
  obtain ⟨its, r, pl, hz⟩ := I.list hq
  obtain ⟨w, ew, rw'⟩ := r.get he
  have hl := (List.getElem?_eq_some_iff.mp he).1
  have hn := line63
  exact wpAny_getItem_list pl.isList (Int.natCast_nonneg n) (by omega) (by simpa using ew) ⟨y, H, I, rw', q⟩
-- l[i] |= e, ints
theorem b_lor {n : Nat} {u w : Int} (s : Sub F H) (ha : EV T X a σ F H (.ref l)) (hb : ED T X b σ F H (.int (n : Nat))) (he : ED T X e σ F H (.int w)) (hF : F l = none) (hl : H l = some (.lst xs)) (hu : xs[n]? = some (.int u))
    (q : ∀ F1 H1, Adv T F H F1 H1 → F1 l = none → H1 l = some (.lst xs) → Sub F1 (upd H1 l (.lst (xs.set n (.int (Builtin.bitOr u w))))) → rB X rest D σ (upd H1 l (.lst (xs.set n (.int (Builtin.bitOr u w))))))
    (hS : PS X (.AugAssign (.Subscript a b p) .BitOr e pos) (tAugS (rE X a) (rE X b) (rE X e) (rGetL X.K) (rI0 fun i j => .int (Builtin.bitOr i j)) rSetL) := by exact ps_augS pe_r pe_r pget_list pe_r iop_or set_list) : rB X (.AugAssign (.Subscript a b p) .BitOr e pos :: rest) D σ H :=
  goC hS (ha F H (.refl s) _ fun o F1 H1 a1 q1 => hb F1 H1 a1 _ fun w1 F2 H2 a2 q2 => by
    have a12 := a1.trans a2
    obtain ⟨f2, h2⟩ := a12.off hF hl notTbl_lst
    refine ⟨l, xs, n, _, q1, q2, SqL.of h2, hu, he F2 H2 a12 _ fun w2 F3 H3 a3 q3 => ?_⟩
    obtain ⟨f3, h3⟩ := a3.off f2 h2 notTbl_lst
    exact ⟨u, w, rfl, q3, l, xs, n, n, q1, q2, h3, ixN_at (List.getElem?_eq_some_iff.mp hu).1, q F3 H3 (a12.trans a3) f3 h3 (a3.sub.updO f3)⟩)
/-! ### several at once -/
theorem b_parR {x y : Str} {m n : Nat} {px py pt : Pos} {kt k2 : Nat} {pt2 : Pos} (hc : X.calm = true) (hN : X.N.Nodup) (h : rE X a σ H fun v H1 => rE X b σ H1 fun w H2 => rB X rest D ((σ.set m (some v)).set n (some w)) H2) (hmn : m ≠ n := by decide) (hi : X.N[m]? = some x := by rfl) (hj : X.N[n]? = some y := by rfl)
    (hx : X.env.scope.names.lookup x = some .local := by rfl) (hy : X.env.scope.names.lookup y = some .local := by rfl) (hp : PA X [a, b] (tCons (rE X a) (tCons (rE X b) tNil)) := by exact pa_cons pe_r (pa_cons pe_r pa_nil))
    (hw : swappedStores [.Tuple [.Name x px, .Name y py] kt pt] (.Tuple [a, b] k2 pt2) X.env = pure (some [x, y]) := by rfl)
    (hs : swapsWithSole [.Tuple [.Name x px, .Name y py] kt pt] (.Tuple [a, b] k2 pt2) pos.line X.env = pure false := by rfl) : rB X (.Assign [.Tuple [.Name x px, .Name y py] kt pt] (.Tuple [a, b] k2 pt2) pos :: rest) D σ H :=
  goC (ps_par hc hN hi hj hmn hx hy hp hw hs) (by
    refine fun pins s I => wpAny_mono (h pins s I) (fun u s' ⟨v, H1, I1, r, q⟩ => ⟨v, H1, I1, r, fun pins s I => wpAny_mono (q pins s I) (fun u s' ⟨w, H2, I2, r2, q2⟩ => ⟨w, H2, I2, r2, v, w, rfl, q2⟩) fun _ _ z => z⟩) fun _ _ z => z)
-- tuple target = e
theorem b_unp {bs : Bs} {tg : Expr} (hg : GT X tg d bs) (he : ED T X e σ F H d) (s : Sub F H) (k : ∀ vs F1 H1, Adv T F H F1 H1 → ImL F1 (bs.map (·.2)) vs → rB X rest D (sets σ (bs.map (·.1)) vs) H1)
    (hs : swapsWithSole [tg] e pos.line X.env = pure false := by rfl) (hw : swappedStores [tg] e X.env = pure none := by rfl)
    (h1 : (assignEach [tg] X.env).map (·.2) = [assign tg X.env] := by rfl) : rB X (.Assign [tg] e pos :: rest) D σ H :=
  goC (ps_asg pe_r pg_r hs hw h1) (he F H (.refl s) _ fun v F1 H1 a1 q => hg F1 H1 v σ _ a1.sub q fun vs hv => k vs F1 H1 a1 hv)
end
end Tw
namespace Tw
open PySem PySem.Spec PyProof.Rows L2 LamX
-- the locks held after a step
def keepS (ks : List Str) (s : Step) : Option (List Str) :=
  if s.1 ∈ (["lock", "share"] : List Str) then (if s.2 ∈ ks then none else some (ks ++ [s.2]))
  else if s.1 = "free" then (if s.2 ∈ ks then some (ks.erase s.2) else none) else some ks
def keepT (ks : List Str) (t : Thr) : Option (List Str) := t.foldlM keepS ks
def isThr (t : Thr) : Bool := decide (t.length ≤ 40) && keepT [] t == some []
theorem keepT_snoc {ks : List Str} {t : Thr} {s : Step} : keepT ks (t ++ [s]) = (keepT ks t).bind fun k => keepS k s := by
  unfold keepT
  rw [List.foldlM_append]
  cases (t.foldlM keepS ks) <;> simp
theorem keepT_take {t : Thr} {i : Nat} {s : Step} (h : t[i]? = some s) (ks : List Str) : keepT ks (t.take (i + 1)) = (keepT ks (t.take i)).bind fun k => keepS k s := by
  rw [List.take_add_one, h]
  exact keepT_snoc
theorem keepT_none {ks : List Str} {t : Thr} {i : Nat} (h : keepT ks (t.take i) = none) : keepT ks t = none := by
  rw [← List.take_append_drop i t]
  unfold keepT at h ⊢
  rw [List.foldlM_append, h]
  rfl
theorem ok_str {n : Str} (h : okN n) : PyData.strOk n = true := by
  have : ∀ c ∈ letters.cps.toList, c < 1114112 := by decide
  unfold PyData.strOk
  rw [← Array.all_toList, List.all_eq_true]
  exact fun c hc => decide_eq_true (this c (h.2.2 c hc))
theorem lay_strs : ∀ (ds : List Str), (∀ n ∈ ds, okN n) → PyData.canLayAll0 (ds.map .str) = true ∧ PyData.depthAll (ds.map .str) = 0 ∧ PyData.hasDictAll (ds.map .str) = false
  | [], _ => ⟨rfl, rfl, rfl⟩
  | d :: ds, h => by
    obtain ⟨h1, h2, h3⟩ := lay_strs ds fun n hn => h n (List.mem_cons_of_mem _ hn)
    refine ⟨?_, ?_, ?_⟩
    · rw [List.map_cons, PyData.canLayAll0, h1, PyData.canLay0, ok_str (h d (List.mem_cons_self ..))]; rfl
    · rw [List.map_cons, PyData.depthAll, h2, PyData.depth]; rfl
    · rw [List.map_cons, PyData.hasDictAll, h3, PyData.hasDict]; rfl
theorem sh_strs (ds : List Str) (h : ∀ n ∈ ds, okN n) : SeqAt.shaped (.list (ds.map .str)) = true := by
  obtain ⟨h1, h2, _⟩ := lay_strs ds h
  unfold SeqAt.shaped
  rw [PyData.canLay0, h1, PyData.depth, h2]
  rfl
theorem keepS_ok {ks ks' : List Str} {s : Step} (h : ∀ n ∈ ks, okN n) (hs : okS s) (e : keepS ks s = some ks') : ∀ n ∈ ks', okN n := by
  unfold keepS at e
  intro n hn
  split at e
  · split at e
    · cases e
    · cases e
      rcases List.mem_append.mp hn with q | q
      · exact h n q
      · rw [List.mem_singleton.mp q]; exact hs.2
  · split at e
    · split at e
      · cases e
        exact h n (List.mem_of_mem_erase hn)
      · cases e
    · cases e
      exact h n hn
section
variable {P : Program} {w : World} {K : PySem.W.Frag} {mg : Str → Option Value} {base : Heap} {T : List (Addr × Str)}
def Ris_thread (ds : List PyData) (d : PyData) : Prop := ∃ t : Thr, okT t ∧ t.length ≤ 1000 ∧ ds = [thD t] ∧ d = .bool (isThr t)
theorem ok_is_thread (F : DfN K mg "is_thread" 23) (g : G K mg) (c22 : Cl P w K mg base 3 "are_steps" ["value"] (spD T Rare_steps)) : Cl P w K mg base 4 "is_thread" ["value"] (spD T Ris_thread) := by
  refine cl_of (N := ["value", "kept", "word", "name"]) F ⟨rfl, rfl, rfl, by decide +kernel, rfl, by decide +kernel, by decide +kernel⟩ (len_spD fun ds d ⟨n, _, _, e, _⟩ => by rw [e]; rfl) (fun _ _ _ _ _ _ us hl => match us, hl with | [_], _ => rfl) ?_
  rintro f cdv A outer s H0 vs Q E hr ⟨F0, ds, d, sF, hv, ⟨t, ht, hlen, e1, e2⟩, k⟩
  subst e1 e2
  obtain ⟨v1, _, rfl, i1, rfl⟩ := hv
  have nd : (["value", "kept", "word", "name"] : List Str).Nodup := by decide +kernel
  have hz : t.length < sizeLine := Nat.lt_of_le_of_lt hlen (by decide)
  refine b_when (T := T) (k0 := !decide (t.length ≤ 40)) ((et_w (ew_or (k1 := false) (k2 := !decide (t.length ≤ 40)) (et_not (k1 := true) (et_val (ed_call c22 hr (ea_cons (ed_var (i := 0) rfl i1) ea_nil) ⟨t, ht, hlen, rfl, rfl⟩))) fun _ =>
    ew_or1 ((et_gt (ed_lent (b_len g) (ed_var (i := 0) rfl i1)) (ed_gint (c_ms g))).to ?_))).to (by simp)) sF (fun z F1 H1 a1 => ?_) fun z F1 H1 a1 => ?_
  · rw [List.length_map, ← decide_not]
    congr 1
    apply propext
    omega
  · exact b_ret (T := T) (P := imP (.bool false)) ed_bool a1.sub fun v F2 H2 a2 q => k v F2 H2 (a1.trans a2) (by rw [isThr, show decide (t.length ≤ 40) = false by simpa using z]; exact q)
  have hl40 : decide (t.length ≤ 40) = true := by simpa using z
  have kF : ∀ {F' H'}, Adv T F0 H0 F' H' → keepT [] t = none → ∀ v, Im F' (.bool false) v → Q v H' := fun a e v q => k v _ _ a (by rw [isThr, e, hl40]; exact q)
  refine b_asgF (T := T) (i := 1) (ef_lst ea_nil (Nat.zero_le _)) a1.sub (fun l xs F2 H2 a2 hn hF hl hd => ?_) nd
  obtain rfl : xs = [] := hd
  have i2 := i1.up (a1.trans a2).ff
  have nw : Nw H0 l := Nw.back a1 hn
  refine b_for (T := T) (enc := stD) (xs := t) (bs := fun s => [(2, .str s.1), (3, .str s.2)]) rfl .never (wk_tup (ed_var (i := 0) rfl i2)) a2.sub (fun x _ => gt_tup rfl (gts_cons (gt_name nd rfl (.inl rfl)) (gts_cons (gt_name nd rfl (.inl rfl)) gts_nil)))
    (fun i σ F' H' => ∃ x y ks, σ = [some v1, some (.ref l), x, y] ∧ Adv T F0 H0 F' H' ∧ F' l = none ∧ H' l = some (.lst (ks.map V.str)) ∧ ks.length ≤ i ∧ keepT [] (t.take i) = some ks ∧ ∀ n ∈ ks, okN n)
    (fun F3 H3 a3 => ?_) ?_ ?_
  · obtain ⟨o1, o2⟩ := a3.off hF hl notTbl_lst
    exact ⟨none, none, [], rfl, (a1.trans a2).trans a3, o1, o2, Nat.le_refl _, rfl, fun n hn => by cases hn⟩
  · rintro i ⟨wd, nm⟩ σ1 F3 H3 hx s3 ext3 ⟨x, y, ks, rfl, a3, f3, h3, hk, ek, okk⟩ us F4 H4 a4 ⟨u1, _, rfl, m1, u2, _, rfl, m2, rfl⟩ N hN
    have hil := (List.getElem?_eq_some_iff.mp hx).1
    obtain ⟨f4, h4⟩ := a4.off f3 h3 notTbl_lst
    have step := keepT_take hx []
    rw [ek] at step
    have okw := ht _ (List.mem_of_getElem? hx)
    have m1 : u1 = .str wd := m1
    have m2 : u2 = .str nm := m2
    subst m1 m2
    show rB _ _ _ [some v1, some (.ref l), some (.str wd), some (.str nm)] H4
    have ewd : ∀ {F' H'}, ED T (cxOf CX0 P w K mg base ["value", "kept", "word", "name"] "is_thread" (defScope (top 23)) f cdv A outer s H0 E).nox (.Name "word" ⟨0, 0, 0, 0⟩) [some v1, some (.ref l), some (.str wd), some (.str nm)] F' H' (.str wd) := ed_var (i := 2) rfl rfl
    refine b_whenJ (T := T) (k0 := decide (wd ∈ (["lock", "share"] : List Str))) (fun σ F' H' => σ = [some v1, some (.ref l), some (.str wd), some (.str nm)] ∧ Adv T F0 H0 F' H' ∧ F' l = none ∧ ∃ ks', H' l = some (.lst (ks'.map V.str)) ∧ ks'.length ≤ i + 1 ∧ (wd ≠ "free" → keepT [] (t.take (i + 1)) = some ks') ∧ (wd = "free" → ks' = ks))
      (et_inSt (zs := ["lock", "share"]) (ed_var (i := 2) rfl rfl) (ed_tup (ea_cons (ed_gstr (c_lock g)) (ea_cons (ed_gstr (c_share g)) ea_nil)) (by decide))) a4.sub (fun z F5 H5 a5 N' hN' => ?_) (fun z F5 H5 a5 => ?_) ?_
    · have z' : wd ∈ (["lock", "share"] : List Str) := by simpa using z
      obtain ⟨f5, h5⟩ := a5.off f4 h4 notTbl_lst
      refine b_when (T := T) (k0 := decide (nm ∈ ks)) (et_inSm (ed_var (i := 3) rfl rfl) (ev_var (i := 1) rfl) h5) a5.sub (fun z2 F6 H6 a6 => ?_) fun z2 F6 H6 a6 => ?_
      · refine b_ret (T := T) (P := imP (.bool false)) ed_bool a6.sub fun v F7 H7 a7 q => kF (((a3.trans (a4.trans a5)).trans a6).trans a7) ?_ v q
        refine keepT_none (i := i + 1) ?_
        rw [step]
        show keepS ks (wd, nm) = none
        unfold keepS
        rw [if_pos z', if_pos (by simpa using z2)]
      · obtain ⟨f6, h6⟩ := a6.off f5 h5 notTbl_lst
        have i6 : Im F6 (.str nm) (.str nm) := rfl
        refine b_app (T := T) (ev_var (i := 1) rfl) h6 f6 (ed_var (i := 3) rfl i6) a6.sub (by rw [List.length_map]; omega) fun v F7 H7 a7 q f7 h7 s7 => ?_
        obtain rfl : v = .str nm := q
        refine rB_nil (hN' _ _ _ s7 ((a5.trans a6).trans a7).ff ⟨rfl, (a3.trans (a4.trans ((a5.trans a6).trans a7))).mut nw f7 h7 mut_lst, f7, ks ++ [nm], by rw [upd_same, List.map_append]; rfl, by simp; omega, fun _ => ?_, fun e => ?_⟩)
        · rw [step]
          show keepS ks (wd, nm) = _
          unfold keepS
          rw [if_pos z', if_neg (by simpa using z2)]
        · subst e
          exact absurd z' (by decide)
    · have z' : wd ∉ (["lock", "share"] : List Str) := by simpa using z
      obtain ⟨f5, h5⟩ := a5.off f4 h4 notTbl_lst
      refine ⟨rfl, a3.trans (a4.trans a5), f5, ks, h5, by omega, fun e => ?_, fun _ => rfl⟩
      rw [step]
      show keepS ks (wd, nm) = _
      unfold keepS
      rw [if_neg z', if_neg e]
    · rintro σ5 F5 H5 s5 x5 ⟨rfl, a5, f5, ks', h5, hk', e1, e2⟩
      refine b_when (T := T) (k0 := decide (wd = "free")) (et_eqS (ed_var (i := 2) rfl rfl) (ed_gstr (c_free g))) s5 (fun z F6 H6 a6 => ?_) fun z F6 H6 a6 => ?_
      · have z' : wd = "free" := by simpa using z
        subst z'
        obtain rfl := e2 rfl
        obtain ⟨f6, h6⟩ := a6.off f5 h5 notTbl_lst
        have step' : keepT [] (t.take (i + 1)) = if nm ∈ ks' then some (ks'.erase nm) else none := by
          rw [step]
          show keepS ks' ("free", nm) = _
          unfold keepS
          rw [if_neg (show ("free" : Str) ∉ (["lock", "share"] : List Str) by decide), if_pos rfl]
        refine b_when (T := T) (k0 := !decide (nm ∈ ks')) (et_niSm (ed_var (i := 3) rfl rfl) (ev_var (i := 1) rfl) h6) a6.sub (fun z2 F7 H7 a7 => ?_) fun z2 F7 H7 a7 => ?_
        · refine b_ret (T := T) (P := imP (.bool false)) ed_bool a7.sub fun v F8 H8 a8 q => kF (((a5.trans a6).trans a7).trans a8) ?_ v q
          refine keepT_none (i := i + 1) ?_
          rw [step', if_neg (by simpa using z2)]
        · obtain ⟨f7, h7⟩ := a7.off f6 h6 notTbl_lst
          have hm : nm ∈ ks' := by simpa using z2
          refine b_remS (T := T) a7.sub (ev_var (i := 1) rfl) (ed_var (i := 3) rfl rfl) f7 h7 hm fun F8 H8 a8 f8 h8 s8 => ?_
          refine rB_nil (rB_nil (hN _ _ _ s8 (a4.ff.trans (x5.trans ((a6.trans a7).trans a8).ff)) ⟨_, _, ks'.erase nm, rfl, (a5.trans ((a6.trans a7).trans a8)).mut nw f8 h8 mut_lst, f8, upd_same, ?_, by rw [step', if_pos hm], fun n hn => okk n (List.mem_of_mem_erase hn)⟩))
          have := List.length_erase_of_mem hm
          omega
      · have z' : wd ≠ "free" := by simpa using z
        obtain ⟨f6, h6⟩ := a6.off f5 h5 notTbl_lst
        refine rB_nil (hN _ _ _ a6.sub (a4.ff.trans (x5.trans a6.ff)) ⟨_, _, ks', rfl, a5.trans a6, f6, h6, hk', e1 z', keepS_ok okk okw ?_⟩)
        rw [← e1 z', step]
        rfl
  · rintro σ1 F3 H3 s3 ext3 ⟨x, y, ks, rfl, a3, f3, h3, hk, ek, okk⟩
    rw [List.take_length] at ek
    refine b_ret (T := T) (P := imP (.bool (ks.map PyData.str).isEmpty)) (ed_isnil hr.units (ev_var (i := 1) rfl) h3 (ImL.strs.mpr rfl) (lay_strs ks okk).2.2 (sh_strs ks okk)) s3 fun v F4 H4 a4 q => k v F4 H4 (a3.trans a4) ?_
    have : isThr t = (ks.map PyData.str).isEmpty := by
      unfold isThr
      rw [ek, hl40]
      cases ks <;> rfl
    rw [this]
    exact q
end
end Tw
namespace Tw
open PySem PySem.Spec PyProof.Rows L2 LamX
structure Sec where
  b : Nat
  e : Nat
  how : Str
  name : Str
def secD (s : Sec) : PyData := .tuple [.int s.b, .int s.e, .str s.how, .str s.name]
abbrev Beg := Str → Option (Nat × Str)
def secStep (st : List Sec × Beg) (q : Step × Nat) : List Sec × Beg :=
  if q.1.1 ∈ (["lock", "share"] : List Str) then (st.1, fun n => if n = q.1.2 then some (q.2, q.1.1) else st.2 n)
  else if q.1.1 = "free" then ((match st.2 q.1.2 with | some p => st.1 ++ [⟨p.1, q.2, p.2, q.1.2⟩] | none => st.1), st.2) else st
def secRun (t : Thr) (n : Nat) : List Sec × Beg := (t.zipIdx.take n).foldl secStep ([], fun _ => none)
def secsF (t : Thr) : List Sec := (secRun t t.length).1
theorem secRun_succ {t : Thr} {i : Nat} {s : Step} (h : t[i]? = some s) : secRun t (i + 1) = secStep (secRun t i) (s, i) := by
  unfold secRun
  rw [List.take_add_one, List.getElem?_zipIdx, h, List.foldl_append]
  simp
theorem ord_secs (l : List Sec) : Ord (l.map secD) := by
  refine ⟨?_, PySem.W.AllAlike.of fun a b => by simp [secD, PySem.W.alike, PySem.W.alikeAll], PySem.W.Sortable.tuples fun b => ⟨_, _, rfl⟩, fun d hd => ?_⟩
  · induction l with
    | nil => rfl
    | cons a l ih => rw [List.map_cons, PyData.hasDictAll, ih]; simp [secD, PyData.hasDict, PyData.hasDictAll]
  · obtain ⟨b, _, rfl⟩ := List.mem_map.mp hd
    simp [secD, PyData.depth, PyData.depthAll]
-- each lock that is held was begun
theorem beg_held {t : Thr} (i : Nat) (hi : i ≤ t.length) {ks : List Str} (e : keepT [] (t.take i) = some ks) : (∀ n ∈ ks, (secRun t i).2 n ≠ none) := by
  induction i generalizing ks with
  | zero =>
    have : ks = [] := by simpa [keepT] using e.symm
    subst this
    exact fun n hn => by cases hn
  | succ i ih =>
    have hx : t[i]? = some t[i] := List.getElem?_eq_getElem (by omega)
    rw [keepT_take hx] at e
    cases e0 : keepT [] (t.take i) with
    | none => rw [e0] at e; cases e
    | some k0 =>
      rw [e0] at e
      have e : keepS k0 t[i] = some ks := e
      have ih := ih (by omega) e0
      rw [secRun_succ hx]
      unfold keepS at e
      unfold secStep
      intro n hn
      split at e
      · rename_i h1
        rw [if_pos h1]
        split at e
        · cases e
        · cases e
          show (if n = t[i].2 then _ else _) ≠ none
          split
          · simp
          · rename_i h2
            rcases List.mem_append.mp hn with q | q
            · exact ih n q
            · exact absurd (List.mem_singleton.mp q) h2
      · rename_i h1
        rw [if_neg h1]
        split at e
        · rename_i h2
          rw [if_pos h2]
          split at e
          · cases e
            exact ih n (List.mem_of_mem_erase hn)
          · cases e
        · rename_i h2
          rw [if_neg h2]
          cases e
          exact ih n hn
theorem isThr_keep {t : Thr} (h : isThr t = true) : t.length ≤ 40 ∧ keepT [] t = some [] := by
  unfold isThr at h
  simp only [Bool.and_eq_true, decide_eq_true_eq, beq_iff_eq] at h
  exact h
theorem keep_pre {t : Thr} (h : keepT [] t = some []) (i : Nat) : ∃ ks, keepT [] (t.take i) = some ks := by
  cases e : keepT [] (t.take i) with
  | none => rw [keepT_none e] at h; cases h
  | some ks => exact ⟨ks, rfl⟩
-- numbered steps
def nsD (q : Step × Nat) : PyData := .tuple [.int (q.2 : Nat), stD q.1]
theorem enum_steps (t : Thr) : enumD (t.map stD) = t.zipIdx.map nsD := by
  unfold enumD
  rw [List.zipIdx_map, List.map_map]
  rfl
section
variable {P : Program} {w : World} {K : PySem.W.Frag} {mg : Str → Option Value} {base : Heap} {T : List (Addr × Str)}
def Rsections (ds : List PyData) (d : PyData) : Prop := ∃ t : Thr, okT t ∧ isThr t = true ∧ ds = [thD t] ∧ d = .tuple (sortD ((secsF t).map secD))
theorem ok_sections (F : DfN K mg "sections" 24) (g : G K mg) : Cl P w K mg base 1 "sections" ["thread"] (spD T Rsections) := by
  refine cl_of (N := ["thread", "found", "begun", "number", "word", "name", "begin", "how"]) F ⟨rfl, rfl, rfl, by decide +kernel, rfl, by decide +kernel, by decide +kernel⟩ (len_spD fun ds d ⟨n, _, _, e, _⟩ => by rw [e]; rfl) (fun _ _ _ _ _ _ us hl => match us, hl with | [_], _ => rfl) ?_
  rintro f cdv A outer s H0 vs Q E hr ⟨F0, ds, d, sF, hv, ⟨t, ht, hthr, e1, e2⟩, k⟩
  subst e1 e2
  obtain ⟨v1, _, rfl, i1, rfl⟩ := hv
  have nd : (["thread", "found", "begun", "number", "word", "name", "begin", "how"] : List Str).Nodup := by decide +kernel
  obtain ⟨h40, hkp⟩ := isThr_keep hthr
  have hz : t.length < sizeLine := Nat.lt_of_le_of_lt h40 (by decide)
  refine b_parR (m := 1) (n := 2) rfl nd (ef_lst (T := T) ea_nil (Nat.zero_le _) F0 H0 (.refl sF) _ fun l xs F1 H1 a1 hn hF hl hd => goE pe_dnewK fun l2 hl2 => ?_)
  obtain rfl : xs = [] := hd
  have nw : Nw H0 l := hn
  have lay : Adv T F1 H1 F1 (upd H1 l2 (.dK [])) := Adv.lay a1.sub hl2
  have nw2 : Nw H0 l2 := Nw.back a1 (.of hl2)
  have a2 := a1.trans lay
  have l_ne : l ≠ l2 := fun z => by rw [z, hl2] at hl; cases hl
  refine b_for (T := T) (enc := nsD) (xs := t.zipIdx) (bs := fun q => [(3, .int (q.2 : Nat)), (4, .str q.1.1), (5, .str q.1.2)]) rfl .never (Wk.to (wk_enumt (b_enum g) (ed_var (i := 0) rfl (i1.up a2.ff))) (enum_steps t)) a2.sub
    (fun x _ => gt_tup rfl (gts_cons (gt_name nd rfl (.inl rfl)) (gts_cons (gt_tup rfl (gts_cons (gt_name nd rfl (.inl rfl)) (gts_cons (gt_name nd rfl (.inl rfl)) gts_nil))) gts_nil)))
    (fun i σ F' H' => ∃ x y z u v, σ = [some v1, some (.ref l), some (.ref l2), x, y, z, u, v] ∧ Adv T F0 H0 F' H' ∧ F' l = none ∧ F' l2 = none ∧ (∃ ys, H' l = some (.lst ys) ∧ ys.length ≤ i ∧ ImL F' ((secRun t i).1.map secD) ys) ∧
      ∃ dsT kvs, H' l2 = some (.dK kvs) ∧ DL F' dsT kvs ∧ kvs.length ≤ i ∧ ∀ n, valD dsT (.inr n) = ((secRun t i).2 n).map fun p => .tuple [.int p.1, .str p.2])
    (fun F3 H3 a3 => ?_) ?_ ?_
  · obtain ⟨o1, o2⟩ := a3.off hF (by rw [upd_ne l_ne]; exact hl) notTbl_lst
    obtain ⟨o3, o4⟩ := a3.off (a1.sub.offN hl2) upd_same notTbl_dK
    exact ⟨none, none, none, none, none, rfl, a2.trans a3, o1, o3, ⟨[], o2, Nat.le_refl _, rfl⟩, [], [], o4, rfl, Nat.le_refl _, fun n => rfl⟩
  · rintro i ⟨⟨wd, nm⟩, j⟩ σ1 F3 H3 hx s3 ext3 ⟨x, y, z, u, v, rfl, a3, f3, f3', ⟨ys, h3, hys, m3⟩, dsT, kvs, h3', dl, hkv, hval⟩ us F4 H4 a4 ⟨u0, _, rfl, m0, u1, _, rfl, m1, u2, _, rfl, m2, rfl⟩ N hN
    have hx : t[i]? = some (wd, nm) ∧ j = i := by
      rw [List.getElem?_zipIdx] at hx
      cases e : t[i]? with
      | none => rw [e] at hx; cases hx
      | some q => rw [e] at hx; simp at hx; obtain ⟨h1, h2⟩ := hx; exact ⟨by rw [h1], h2.symm⟩
    obtain ⟨hx, rfl⟩ := hx
    have hil := (List.getElem?_eq_some_iff.mp hx).1
    obtain ⟨f4, h4⟩ := a4.off f3 h3 notTbl_lst
    obtain ⟨f4', h4'⟩ := a4.off f3' h3' notTbl_dK
    have step := secRun_succ hx
    have m0 : u0 = .int j := m0
    have m1 : u1 = .str wd := m1
    have m2 : u2 = .str nm := m2
    subst m0 m1 m2
    show rB _ _ _ [some v1, some (.ref l), some (.ref l2), some (.int j), some (.str wd), some (.str nm), u, v] H4
    refine b_whenJ (T := T) (k0 := decide (wd ∈ (["lock", "share"] : List Str))) (fun σ F' H' => σ = [some v1, some (.ref l), some (.ref l2), some (.int j), some (.str wd), some (.str nm), u, v] ∧ Adv T F0 H0 F' H' ∧ F' l = none ∧ F' l2 = none ∧ (∃ ys, H' l = some (.lst ys) ∧ ys.length ≤ j ∧ ImL F' ((secRun t j).1.map secD) ys) ∧
      ∃ dsT kvs, H' l2 = some (.dK kvs) ∧ DL F' dsT kvs ∧ kvs.length ≤ j + 1 ∧ ∀ n, valD dsT (.inr n) = ((secRun t (j + 1)).2 n).map fun p => .tuple [.int p.1, .str p.2])
      (et_inSt (zs := ["lock", "share"]) (ed_var (i := 4) rfl rfl) (ed_tup (ea_cons (ed_gstr (c_lock g)) (ea_cons (ed_gstr (c_share g)) ea_nil)) (by decide))) a4.sub (fun z F5 H5 a5 N' hN' => ?_) (fun z F5 H5 a5 => ?_) ?_
    · have z' : wd ∈ (["lock", "share"] : List Str) := by simpa using z
      obtain ⟨f5, h5⟩ := a5.off f4 h4 notTbl_lst
      obtain ⟨f5', h5'⟩ := a5.off f4' h4' notTbl_dK
      have dl5 := dl.up (a4.trans a5).ff
      refine b_dput (T := T) (k := .inr nm) (room_u1 hr) a5.sub (ed_tup (ds := [.int j, .str wd]) (ea_cons (ed_var (i := 3) rfl rfl) (ea_cons (ed_var (i := 4) rfl rfl) ea_nil))) (ev_var (i := 2) rfl) (ed_var (i := 5) rfl rfl) f5' h5' dl5 (by omega) fun kvs' F6 H6 a6 f6 h6 dl6 s6 => ?_
      obtain ⟨f6', h6'⟩ := a6.off f5 h5 notTbl_lst
      have aa := (a3.trans a4).trans (a5.trans a6)
      refine rB_nil (hN' _ _ _ s6 (a5.trans a6).ff ⟨rfl, aa.mut nw2 f6 h6 mut_dK, f6', f6, ⟨ys, by rw [upd_ne l_ne]; exact h6', hys, m3.up (a4.trans (a5.trans a6)).ff⟩, _, kvs', upd_same, dl6, ?_, fun n => ?_⟩)
      · have := length_putD dsT (.inr nm) (.tuple [.int j, .str wd])
        rw [dl6.length]
        have := dl.length
        omega
      · rw [valD_put, step]
        unfold secStep
        rw [if_pos z']
        show _ = Option.map _ (if n = nm then _ else _)
        by_cases e : n = nm
        · subst e; rw [if_pos rfl, if_pos rfl]; rfl
        · rw [if_neg (fun q => e (Sum.inr.inj q)), if_neg e, hval]
    · have z' : wd ∉ (["lock", "share"] : List Str) := by simpa using z
      obtain ⟨f5, h5⟩ := a5.off f4 h4 notTbl_lst
      obtain ⟨f5', h5'⟩ := a5.off f4' h4' notTbl_dK
      refine ⟨rfl, a3.trans (a4.trans a5), f5, f5', ⟨ys, h5, hys, m3.up (a4.trans a5).ff⟩, dsT, kvs, h5', dl.up (a4.trans a5).ff, by omega, fun n => ?_⟩
      rw [hval, step]
      unfold secStep
      rw [if_neg z']
      split <;> rfl
    · rintro σ5 F5 H5 s5 x5 ⟨rfl, a5, f5, f5', ⟨ys, h5, hys, m5⟩, dsT, kvs, h5', dl5, hkv, hval5⟩
      refine b_when (T := T) (k0 := decide (wd = "free")) (et_eqS (ed_var (i := 4) rfl rfl) (ed_gstr (c_free g))) s5 (fun z F6 H6 a6 => ?_) fun z F6 H6 a6 => ?_
      · have z' : wd = "free" := by simpa using z
        subst z'
        have nls : ("free" : Str) ∉ (["lock", "share"] : List Str) := by decide
        obtain ⟨f6, h6⟩ := a6.off f5 h5 notTbl_lst
        obtain ⟨f6', h6'⟩ := a6.off f5' h5' notTbl_dK
        -- it was begun
        obtain ⟨ks, ek⟩ := keep_pre hkp j
        obtain ⟨ks', ek'⟩ := keep_pre hkp (j + 1)
        rw [keepT_take hx, ek] at ek'
        have ek' : keepS ks ("free", nm) = some ks' := ek'
        have hmem : nm ∈ ks := by
          unfold keepS at ek'
          rw [if_neg nls, if_pos rfl] at ek'
          by_cases q : nm ∈ ks
          · exact q
          · rw [if_neg q] at ek'; cases ek'
        have hb := beg_held j (by omega) ek nm hmem
        obtain ⟨⟨bg, how⟩, hbe⟩ := Option.ne_none_iff_exists'.mp hb
        have st2 : (secRun t (j + 1)).2 = (secRun t j).2 := by rw [step]; unfold secStep; rw [if_neg nls, if_pos rfl]
        have st1 : (secRun t (j + 1)).1 = (secRun t j).1 ++ [⟨bg, j, how, nm⟩] := by rw [step]; unfold secStep; rw [if_neg nls, if_pos rfl]; show (match (secRun t j).2 nm with | some p => _ | none => _) = _; rw [hbe]
        have hv : valD dsT (.inr nm) = some (.tuple [.int bg, .str how]) := by rw [hval5, st2, hbe]; rfl
        refine b_unp (T := T) (bs := [(6, .int bg), (7, .str how)]) (gt_tup rfl (gts_cons (gt_name nd rfl (.inl rfl)) (gts_cons (gt_name nd rfl (.inl rfl)) gts_nil))) (ed_dgetm (k := .inr nm) (room_u1 hr) (ev_var (i := 2) rfl) h6' (dl5.up a6.ff) (ed_var (i := 5) rfl rfl) hv) a6.sub fun vs F7 H7 a7 hvs => ?_
        obtain ⟨w1, _, rfl, n1, w2, _, rfl, n2, rfl⟩ := hvs
        obtain ⟨f7, h7⟩ := a7.off f6 h6 notTbl_lst
        obtain ⟨f7', h7'⟩ := a7.off f6' h6' notTbl_dK
        show rB _ _ _ [some v1, some (.ref l), some (.ref l2), some (.int j), some (.str "free"), some (.str nm), some w1, some w2] H7
        refine b_app (T := T) (ev_var (i := 1) rfl) h7 f7 (ed_tup (ds := [.int bg, .int j, .str how, .str nm]) (ea_cons (ed_var (i := 6) rfl n1) (ea_cons (ed_var (i := 3) rfl rfl) (ea_cons (ed_var (i := 7) rfl n2) (ea_cons (ed_var (i := 5) rfl rfl) ea_nil))))) a7.sub (by omega) fun v F8 H8 a8 q f8 h8 s8 => ?_
        obtain ⟨f8', h8'⟩ := a8.off f7' h7' notTbl_dK
        have x8 := (a6.trans a7).trans a8
        refine rB_nil (rB_nil (hN _ _ _ s8 (a4.ff.trans (x5.trans x8.ff)) ⟨_, _, _, _, _, rfl, (a5.trans x8).mut nw f8 h8 mut_lst, f8, f8', ⟨ys ++ [v], upd_same, by simp; omega, ?_⟩, dsT, kvs, by rw [upd_ne l_ne.symm]; exact h8', dl5.up x8.ff, hkv, hval5⟩))
        rw [st1, List.map_append]
        exact (m5.up x8.ff).snoc q
      · have z' : wd ≠ "free" := by simpa using z
        obtain ⟨f6, h6⟩ := a6.off f5 h5 notTbl_lst
        obtain ⟨f6', h6'⟩ := a6.off f5' h5' notTbl_dK
        refine rB_nil (hN _ _ _ a6.sub (a4.ff.trans (x5.trans a6.ff)) ⟨_, _, _, _, _, rfl, a5.trans a6, f6, f6', ⟨ys, h6, by omega, ?_⟩, dsT, kvs, h6', dl5.up a6.ff, hkv, hval5⟩)
        have st1 : (secRun t (j + 1)).1 = (secRun t j).1 := by
          rw [step]
          unfold secStep
          split
          · rfl
          · first | rfl | rw [if_neg z']
        rw [st1]
        exact m5.up a6.ff
  · rintro σ1 F3 H3 s3 ext3 ⟨x, y, z, u, v, rfl, a3, f3, f3', ⟨ys, h3, hys, m3⟩, _⟩
    rw [List.length_zipIdx] at m3
    refine b_ret (T := T) (P := imP (.tuple (sortD ((secsF t).map secD)))) (ed_tupl (b_tuple g) (EF.ed (ef_sortedm hr.units (b_sorted g) (ev_var (i := 1) rfl) h3 m3 (ord_secs _)))) s3 fun v F4 H4 a4 q => k v F4 H4 (a3.trans a4) q
end
end Tw
namespace Tw
open PySem L2 LamX
/-! ### loops that put data behind a list's end -/
structure App (T : List (Addr × Str)) (F0 H0 : Hp) (l : Addr) (Iσ : St → Prop) (ds : List PyData) (σ : St) (F H : Hp) : Prop where
  is : Iσ σ
  adv : Adv T F0 H0 F H
  fl : F l = none
  at_ : ∃ ys, H l = some (.lst ys) ∧ ImL F ds ys
section
variable {T : List (Addr × Str)} {X : Cx} {e a tg it : Expr} {σ : St} {F0 H0 F H F1 H1 : Hp} {P : V → Hp → Prop} {d : PyData} {ds : List PyData} {v : V} {pos p p2 : Pos} {l : Addr} {rest body : List Stmt} {D : Ends} {Iσ : St → Prop}
theorem App.step (a : App T F0 H0 l Iσ ds σ F H) (b : Adv T F H F1 H1) {σ' : St} (h : Iσ σ') : App T F0 H0 l Iσ ds σ' F1 H1 := by
  obtain ⟨ys, h1, h2⟩ := a.at_
  obtain ⟨o1, o2⟩ := b.off a.fl h1 notTbl_lst
  exact ⟨h, a.adv.trans b, o1, ys, o2, h2.up b.ff⟩
-- the list comes to stand
theorem App.out (a : App T F0 H0 l Iσ ds σ F H) (nw : Nw H0 l) : ∃ F', Adv T F0 H0 F' H ∧ Im F' (.list ds) (.ref l) ∧ Ext F F' := by
  obtain ⟨ys, h1, h2⟩ := a.at_
  have ex : Ext F (upd F l (.lst ys)) := fun x o q => by rw [upd_ne fun z => by rw [z, a.fl] at q; cases q]; exact q
  exact ⟨_, a.adv.set nw h1 notTbl_lst, ⟨l, ys, rfl, upd_same, h2.up ex⟩, ex⟩
theorem App.to {ds' : List PyData} (a : App T F0 H0 l Iσ ds σ F H) (e : ds = ds') : App T F0 H0 l Iσ ds' σ F H := e ▸ a
theorem b_appA (A : App T F0 H0 l Iσ ds σ F H) (nw : Nw H0 l) (ha : EV T X a σ F H (.ref l)) (he : ED T X e σ F H d) (hz : ds.length < sizeLine)
    (k : ∀ F1 H1, Sub F1 H1 → Ext F F1 → App T F0 H0 l Iσ (ds ++ [d]) σ F1 H1 → rB X rest D σ H1)
    (hst : starEach [e] X.env = (false, eval e X.env) :: starEach [] X.env := by rfl) (hs : swapsWith (.Call (.Attribute a "append" p) [e] [] p2) none pos.line X.env = pure false := by rfl)
    (hB : PE X (.Call (.Attribute a "append" p) [e] [] p2) (tBM X.K "list" rAppend (rE X a) (tCons (rE X e) tNil)) := by exact pe_bm PySem.F.plainAttrs_list PySem.F.slot_list_append PySem.F.type_list_append mt_append pe_r (pa_cons pe_r pa_nil)) :
    rB X (.Expr (.Call (.Attribute a "append" p) [e] [] p2) pos :: rest) D σ H := by
  obtain ⟨ys, h1, h2⟩ := A.at_
  refine b_app ha h1 A.fl he A.adv.sub (by rw [h2.length]; exact hz) (fun v F2 H2 a2 q f2 hl2 s2 => ?_) hst hs rfl hB
  exact k _ _ s2 a2.ff ⟨A.is, (A.adv.trans a2).mut nw f2 hl2 mut_lst, f2, _, upd_same, (h2.up a2.ff).snoc q⟩
theorem b_forapp {α : Type} {enc : α → PyData} {xs : List α} {bs : α → Bs} (hc : X.calm = true) (hp : PassesOwn (model X.prog X.w) X.A X.env X.xe) (w : Wk T X tg it σ F H (xs.map enc)) (g : ∀ x ∈ xs, GT X tg (enc x) (bs x)) (f : α → List PyData)
    (A : App T F0 H0 l Iσ ds σ F H) (hz : ds.length + (xs.flatMap f).length ≤ sizeLine)
    (step : ∀ x ∈ xs, ∀ ds' σ1 F1 H1, ds'.length + (f x).length ≤ sizeLine → Sub F1 H1 → Ext F F1 → App T F0 H0 l Iσ ds' σ1 F1 H1 → ∀ vs F2 H2, Adv T F1 H1 F2 H2 → ImL F2 ((bs x).map (·.2)) vs →
      ∀ N : St → Hp → Prop, (∀ σ' F' H', Sub F' H' → Ext F1 F' → App T F0 H0 l Iσ (ds' ++ f x) σ' F' H' → N σ' H') → rB X body { D with nx := N, ct := N, bk := rB X rest D } (sets σ1 ((bs x).map (·.1)) vs) H2)
    (after : ∀ σ1 F1 H1, Sub F1 H1 → Ext F F1 → App T F0 H0 l Iσ (ds ++ xs.flatMap f) σ1 F1 H1 → rB X rest D σ1 H1)
    (hs : ∀ x, foldedSetIterable it X.env x = pure x := by intro _; rfl) : rB X (.For tg it body [] pos :: rest) D σ H := by
  refine b_for hc hp w A.adv.sub g (fun i σ F' H' => App T F0 H0 l Iσ (ds ++ (xs.take i).flatMap f) σ F' H') (fun F1 H1 a1 => (A.step a1 A.is).to (by simp)) (fun i x σ1 F1 H1 hx s1 x1 A1 vs F2 H2 a2 hv N hN => ?_) (fun σ1 F1 H1 s1 x1 A1 => after σ1 F1 H1 s1 x1 (A1.to (by rw [List.take_length]))) hs
  have ht : xs.take (i + 1) = xs.take i ++ [x] := by rw [List.take_add_one, hx]; rfl
  refine step x (List.mem_of_getElem? hx) _ σ1 F1 H1 ?_ s1 x1 A1 vs F2 H2 a2 hv N fun σ' F' H' s' x' A' => hN σ' F' H' s' x' (A'.to ?_)
  · have h1 : xs.flatMap f = (xs.take (i + 1)).flatMap f ++ (xs.drop (i + 1)).flatMap f := by rw [← List.flatMap_append, List.take_append_drop]
    rw [h1, ht, List.flatMap_append] at hz
    simp only [List.length_append, List.flatMap_cons, List.flatMap_nil, List.append_nil] at hz ⊢
    omega
  · rw [ht, List.flatMap_append]
    simp
end
end Tw
namespace Tw
open PySem PySem.Spec PyProof.Rows L2 LamX
structure Con where
  ab : Nat
  ae : Nat
  bb : Nat
  be : Nat
  kind : Str
  name : Str
def Con.d (c : Con) : PyData := .tuple [.int c.ab, .int c.ae, .int c.bb, .int c.be, .str c.kind, .str c.name]
def forcesC (a b : Con) : Bool := decide (b.ab ≤ a.ae) && decide (a.bb ≤ b.be)
def Rforces (ds : List PyData) (d : PyData) : Prop := ∃ a b : Con, ds = [a.d, b.d] ∧ d = .bool (forcesC a b)
section
variable {P : Program} {w : World} {K : PySem.W.Frag} {mg : Str → Option Value} {base : Heap} {T : List (Addr × Str)}
theorem scForces : FnScope ["one", "other"] ["one", "other"] (defScope (top 34)) := ⟨rfl, rfl, rfl, by decide +kernel, rfl, by decide +kernel, by decide +kernel⟩
theorem ok_forces (F : DfN K mg "forces" 34) : Cl P w K mg base 1 "forces" ["one", "other"] (spD T Rforces) := by
  refine cl_of F scForces (len_spD fun ds d ⟨a, b, e, _⟩ => by rw [e]; rfl) (fun _ _ _ _ _ _ us hl => match us, hl with | [_, _], _ => rfl) ?_
  intro f cdv A outer s H vs Q E hr ⟨F, ds, d, sF, hv, ⟨a, b, e1, e2⟩, k⟩
  subst e1
  obtain ⟨v1, _, rfl, i1, v2, _, rfl, i2, rfl⟩ := hv
  refine b_ret (P := imP d) ?_ sF k
  subst e2
  refine ED.to (ed_and (k1 := decide ((b.ab : Int) ≤ a.ae)) (k2 := decide ((a.bb : Int) ≤ b.be)) (ed_le (ed_ixt (ed_var (i := 1) rfl i2 rfl (.inl rfl)) ed_int rfl) (ed_ixt (ed_var (i := 0) rfl i1 rfl (.inl rfl)) ed_int rfl)) fun _ =>
    ed_one (ed_le (ed_ixt (ed_var (i := 0) rfl i1 rfl (.inl rfl)) ed_int rfl) (ed_ixt (ed_var (i := 1) rfl i2 rfl (.inl rfl)) ed_int rfl))) ?_
  unfold forcesC
  simp only [Int.ofNat_le]
end
end Tw
namespace Tw
open PySem PySem.Spec PyProof.Rows L2 LamX
theorem sortD_map {α : Type} (enc : α → PyData) (l : List α) : sortD (l.map enc) = (l.mergeSort (PySem.W.dataLe false enc)).map enc :=
  (List.map_mergeSort (r := PySem.W.dataLe false enc) (s := PySem.W.dataLe false id) (f := enc) (l := l) fun a _ b _ => rfl).symm
def secs (t : Thr) : List Sec := (secsF t).mergeSort (PySem.W.dataLe false secD)
theorem secs_eq (t : Thr) : sortD ((secsF t).map secD) = (secs t).map secD := sortD_map secD _
theorem secRun_len {t : Thr} (i : Nat) (hi : i ≤ t.length) : (secRun t i).1.length ≤ i := by
  induction i with
  | zero => simp [secRun]
  | succ i ih =>
    have ih := ih (by omega)
    rw [secRun_succ (List.getElem?_eq_getElem (show i < t.length by omega))]
    unfold secStep
    split
    · exact Nat.le_succ_of_le ih
    · split
      · dsimp only
        split
        · simp; omega
        · omega
      · omega
theorem secs_len (t : Thr) : (secs t).length ≤ t.length := by
  unfold secs
  rw [List.length_mergeSort]
  exact secRun_len t.length (Nat.le_refl _)
structure Acc where
  n : Nat
  w : Str
  nm : Str
def accD (a : Acc) : PyData := .tuple [.int a.n, .str a.w, .str a.nm]
def accs (t : Thr) : List Acc := (t.zipIdx.filter fun q => decide (q.1.1 ∈ (["read", "write"] : List Str))).map fun q => ⟨q.2, q.1.1, q.1.2⟩
theorem accs_len (t : Thr) : (accs t).length ≤ t.length := by
  unfold accs
  rw [List.length_map]
  exact Nat.le_trans (List.length_filter_le _ _) (by rw [List.length_zipIdx]; exact Nat.le_refl _)
abbrev Pr := Thr × Thr
def prD (p : Pr) : PyData := .tuple [thD p.1, thD p.2]
def okP (p : Pr) : Prop := okT p.1 ∧ okT p.2 ∧ isThr p.1 = true ∧ isThr p.2 = true
def lockOne (a b : Sec) : List Con := if (decide (a.name = b.name) && !(decide (a.how = b.how) && decide (b.how = "share"))) = true then [⟨a.b, a.e, b.b, b.e, "lock", a.name⟩] else []
def lockCs (p : Pr) : List Con := (secs p.1).flatMap fun a => (secs p.2).flatMap (lockOne a)
def dataOne (a b : Acc) : List Con := if (decide (a.nm = b.nm) && !(decide (a.w = b.w) && decide (b.w = "read"))) = true then [⟨a.n, a.n, b.n, b.n, "data", a.nm⟩] else []
def dataCs (p : Pr) : List Con := (accs p.1).flatMap fun a => (accs p.2).flatMap (dataOne a)
theorem flat_len {α β : Type} {f : α → List β} {k : Nat} : ∀ {l : List α}, (∀ x ∈ l, (f x).length ≤ k) → (l.flatMap f).length ≤ l.length * k
  | [], _ => by simp
  | x :: l, h => by
    have h1 := h x (List.mem_cons_self ..)
    have h2 := flat_len (l := l) fun y hy => h y (List.mem_cons_of_mem _ hy)
    rw [List.flatMap_cons, List.length_append, List.length_cons, Nat.succ_mul]
    omega
theorem lockCs_len {p : Pr} (h : okP p) : (lockCs p).length ≤ 1600 := by
  have h1 := secs_len p.1
  have h2 := secs_len p.2
  have h3 := (isThr_keep h.2.2.1).1
  have h4 := (isThr_keep h.2.2.2).1
  refine Nat.le_trans (flat_len (k := 40) fun a _ => Nat.le_trans (flat_len (k := 1) fun b _ => ?_) (by omega)) (by omega)
  unfold lockOne
  split <;> simp
theorem dataCs_len {p : Pr} (h : okP p) : (dataCs p).length ≤ 1600 := by
  have h1 := accs_len p.1
  have h2 := accs_len p.2
  have h3 := (isThr_keep h.2.2.1).1
  have h4 := (isThr_keep h.2.2.2).1
  refine Nat.le_trans (flat_len (k := 40) fun a _ => Nat.le_trans (flat_len (k := 1) fun b _ => ?_) (by omega)) (by omega)
  unfold dataOne
  split <;> simp
theorem map_flat {α : Type} {f : α → List Con} (l : List α) : (l.flatMap f).map Con.d = l.flatMap fun x => (f x).map Con.d := List.map_flatMap
section
variable {P : Program} {w : World} {K : PySem.W.Frag} {mg : Str → Option Value} {base : Heap} {T : List (Addr × Str)}
def Raccesses (ds : List PyData) (d : PyData) : Prop := ∃ t : Thr, okT t ∧ isThr t = true ∧ ds = [thD t] ∧ d = .tuple ((accs t).map accD)
theorem ok_accesses (F : DfN K mg "accesses" 25) (g : G K mg) : Cl P w K mg base 1 "accesses" ["thread"] (spD T Raccesses) := by
  refine cl_of (N := ["thread", "number", "word", "name"]) F ⟨rfl, rfl, rfl, by decide +kernel, rfl, by decide +kernel, by decide +kernel⟩ (len_spD fun ds d ⟨n, _, _, e, _⟩ => by rw [e]; rfl) (fun _ _ _ _ _ _ us hl => match us, hl with | [_], _ => rfl) ?_
  rintro f cdv A outer s H0 vs Q E hr ⟨F0, ds, d, sF, hv, ⟨t, ht, hthr, e1, e2⟩, k⟩
  subst e1 e2
  obtain ⟨v1, _, rfl, i1, rfl⟩ := hv
  have nd : (["thread", "number", "word", "name"] : List Str).Nodup := by decide +kernel
  obtain ⟨h40, hkp⟩ := isThr_keep hthr
  have hz : t.zipIdx.length ≤ sizeLine := by rw [List.length_zipIdx]; exact Nat.le_trans h40 (by decide)
  refine b_ret (T := T) (P := imP (.tuple ((accs t).map accD))) (ED.to (ed_tupl (b_tuple g) (EF.ed (ef_lc1 (enc := nsD) (xs := t.zipIdx) (bs := fun q => [(1, .int (q.2 : Nat)), (2, .str q.1.1), (3, .str q.1.2)]) (own := [("number", 1), ("word", 2), ("name", 3)]) rfl nd (by kernel_rfl) (Wk.to (wk_enumt (b_enum g) (ed_var (i := 0) rfl i1)) (enum_steps t)) (fun _ _ i hi => hi)
    (fun q => decide (q.1.1 ∈ (["read", "write"] : List Str))) (fun q => accD ⟨q.2, q.1.1, q.1.2⟩) (fun s Hb C cl fp q hq => ⟨gt_tup rfl (gts_cons (gt_name nd rfl (.inl rfl)) (gts_cons (gt_tup rfl (gts_cons (gt_name nd rfl (.inl rfl)) (gts_cons (gt_name nd rfl (.inl rfl)) gts_nil))) gts_nil)), fun F2 H2 a2 vs hvs => ?_⟩) hz))) ?_) sF k
  · obtain ⟨u0, _, rfl, m0, u1, _, rfl, m1, u2, _, rfl, m2, rfl⟩ := hvs
    exact ⟨et_inSt (zs := ["read", "write"]) (ed_var (i := 2) rfl m1) (ed_tup (ea_cons (ed_gstr (c_read g)) (ea_cons (ed_gstr (c_write g)) ea_nil))), fun _ => ed_tup (ea_cons (ed_var (i := 1) rfl m0) (ea_cons (ed_var (i := 2) rfl m1) (ea_cons (ed_var (i := 3) rfl m2) ea_nil)))⟩
  · unfold accs
    rw [List.map_map]
    rfl
def Rlock (ds : List PyData) (d : PyData) : Prop := ∃ p : Pr, okP p ∧ ds = [prD p] ∧ d = .list ((lockCs p).map Con.d)
theorem ok_lock (F : DfN K mg "lock_contests" 29) (g : G K mg) (c24 : Cl P w K mg base 1 "sections" ["thread"] (spD T Rsections)) : Cl P w K mg base 2 "lock_contests" ["pair"] (spD T Rlock) := by
  refine cl_of (N := ["pair", "found", "begin", "end", "word", "name", "first", "last", "other", "same"]) F ⟨rfl, rfl, rfl, by decide +kernel, rfl, by decide +kernel, by decide +kernel⟩ (len_spD fun ds d ⟨n, _, e, _⟩ => by rw [e]; rfl) (fun _ _ _ _ _ _ us hl => match us, hl with | [_], _ => rfl) ?_
  rintro f cdv A outer s H0 vs Q E hr ⟨F0, ds, d, sF, hv, ⟨p, hp, e1, e2⟩, k⟩
  subst e1 e2
  obtain ⟨v1, _, rfl, i1, rfl⟩ := hv
  have nd : (["pair", "found", "begin", "end", "word", "name", "first", "last", "other", "same"] : List Str).Nodup := by decide +kernel
  have hll := lockCs_len hp
  have hzz : 1600 ≤ sizeLine := by decide
  refine b_asgF (T := T) (i := 1) (ef_lst ea_nil) sF (fun l xs F1 H1 a1 hn hF hl hd => ?_) nd
  obtain rfl : xs = [] := hd
  have nw : Nw H0 l := hn
  let Iσ : L2.St → Prop := fun σ => ∃ x1 x2 x3 x4 x5 x6 x7 x8, σ = [some v1, some (.ref l), x1, x2, x3, x4, x5, x6, x7, x8]
  have A0 : App T F0 H0 l Iσ [] _ F1 H1 := ⟨⟨none, none, none, none, none, none, none, none, rfl⟩, a1, hF, [], hl, rfl⟩
  have i1' := i1.up a1.ff
  have gt4 : ∀ {X : Cx} {i1 i2 i3 i4 : Nat} {x1 x2 x3 x4 : Str} {p1 p2 p3 p4 p5 : Pos} {kk : Nat} (s : Sec), X.calm = true → GT X (.Name x1 p1) (.int s.b) [(i1, .int s.b)] → GT X (.Name x2 p2) (.int s.e) [(i2, .int s.e)] → GT X (.Name x3 p3) (.str s.how) [(i3, .str s.how)] → GT X (.Name x4 p4) (.str s.name) [(i4, .str s.name)] →
      GT X (.Tuple [.Name x1 p1, .Name x2 p2, .Name x3 p3, .Name x4 p4] kk p5) (secD s) [(i1, .int s.b), (i2, .int s.e), (i3, .str s.how), (i4, .str s.name)] := fun s hc h1 h2 h3 h4 => gt_tup hc (gts_cons h1 (gts_cons h2 (gts_cons h3 (gts_cons h4 gts_nil))))
  refine b_forapp (T := T) (enc := secD) (xs := secs p.1) (bs := fun s => [(2, .int s.b), (3, .int s.e), (4, .str s.how), (5, .str s.name)]) rfl .never (wk_tup (ed_call c24 hr (ea_cons (ed_ixt (ed_var (i := 0) rfl i1') ed_int rfl) ea_nil) ⟨p.1, hp.1, hp.2.2.1, rfl, by rw [secs_eq]⟩)) (fun s _ => gt4 s rfl (gt_name nd rfl (.inl rfl)) (gt_name nd rfl (.inl rfl)) (gt_name nd rfl (.inl rfl)) (gt_name nd rfl (.inl rfl)))
    (fun a => ((secs p.2).flatMap (lockOne a)).map Con.d) A0 ?_ ?_ ?_
  · rw [← map_flat, List.length_map]
    show 0 + (lockCs p).length ≤ _
    omega
  · rintro sa hsa ds' σ1 F2 H2 hz s2 x2 A2 us F3 H3 a3 ⟨u0, _, rfl, m0, u1, _, rfl, m1, u2, _, rfl, m2, u3, _, rfl, m3, rfl⟩ N hN
    obtain ⟨⟨x1, x2', x3, x4, x5, x6, x7, x8, rfl⟩, _⟩ := id A2
    have A3 : App T F0 H0 l (fun σ => ∃ x5 x6 x7 x8, σ = [some v1, some (.ref l), some u0, some u1, some u2, some u3, x5, x6, x7, x8]) ds' [some v1, some (.ref l), some u0, some u1, some u2, some u3, x5, x6, x7, x8] F3 H3 := by
      obtain ⟨b1, b2, b3, b4⟩ := A2.step a3 ⟨x1, x2', x3, x4, x5, x6, x7, x8, rfl⟩
      exact ⟨⟨_, _, _, _, rfl⟩, b2, b3, b4⟩
    have i3 := i1'.up (x2.trans a3.ff)
    show rB _ _ _ [some v1, some (.ref l), some u0, some u1, some u2, some u3, x5, x6, x7, x8] H3
    refine b_forapp (T := T) (enc := secD) (xs := secs p.2) (bs := fun s => [(6, .int s.b), (7, .int s.e), (8, .str s.how), (9, .str s.name)]) rfl .never (wk_tup (ed_call c24 hr (ea_cons (ed_ixt (ed_var (i := 0) rfl i3) ed_int rfl) ea_nil) ⟨p.2, hp.2.1, hp.2.2.2, rfl, by rw [secs_eq]⟩)) (fun s _ => gt4 s rfl (gt_name nd rfl (.inl rfl)) (gt_name nd rfl (.inl rfl)) (gt_name nd rfl (.inl rfl)) (gt_name nd rfl (.inl rfl)))
      (fun b => (lockOne sa b).map Con.d) A3 ?_ ?_ ?_
    · rw [← map_flat]; exact hz
    · rintro sb hsb ds2 σ4 F4 H4 hz4 s4 x4' A4 us F5 H5 a5 ⟨w0, _, rfl, n0, w1, _, rfl, n1, w2, _, rfl, n2, w3, _, rfl, n3, rfl⟩ N' hN'
      obtain ⟨⟨y5, y6, y7, y8, rfl⟩, _⟩ := id A4
      have A5 := A4.step a5 (σ' := [some v1, some (.ref l), some u0, some u1, some u2, some u3, some w0, some w1, some w2, some w3]) ⟨_, _, _, _, rfl⟩
      show rB _ _ _ [some v1, some (.ref l), some u0, some u1, some u2, some u3, some w0, some w1, some w2, some w3] H5
      have q0 := m0.up (x4'.trans a5.ff)
      have q1 := m1.up (x4'.trans a5.ff)
      have q2 := m2.up (x4'.trans a5.ff)
      have q3 := m3.up (x4'.trans a5.ff)
      refine b_when (T := T) (k0 := decide (sa.name = sb.name) && !(decide (sa.how = sb.how) && decide (sb.how = "share"))) (et_w (ew_and (et_eqS (ed_var (i := 5) rfl q3) (ed_var (i := 9) rfl n3)) fun _ => ew_and1 (et_not (et_eqeqS (ed_var (i := 4) rfl q2) (ed_var (i := 8) rfl n2) (ed_gstr (c_share g)))))) a5.sub (fun z F6 H6 a6 => ?_) fun z F6 H6 a6 => ?_
      · have e : lockOne sa sb = [⟨sa.b, sa.e, sb.b, sb.e, "lock", sa.name⟩] := by
          unfold lockOne
          rw [if_pos z]
        rw [e] at hN' hz4
        refine b_appA (T := T) (A5.step a6 ⟨_, _, _, _, rfl⟩) nw (ev_var (i := 1) rfl) (ed_tup (ea_cons (ed_var (i := 2) rfl (q0.up a6.ff)) (ea_cons (ed_var (i := 3) rfl (q1.up a6.ff)) (ea_cons (ed_var (i := 6) rfl (n0.up a6.ff)) (ea_cons (ed_var (i := 7) rfl (n1.up a6.ff)) (ea_cons ed_str (ea_cons (ed_var (i := 5) rfl (q3.up a6.ff)) ea_nil))))))) (Nat.lt_of_succ_le hz4) fun F7 H7 s7 x7 A7 => ?_
        exact rB_nil (rB_nil (hN' _ _ _ s7 (a5.ff.trans (a6.ff.trans x7)) A7))
      · have e : lockOne sa sb = [] := by
          unfold lockOne
          rw [if_neg (by rw [z]; exact Bool.false_ne_true)]
        rw [e] at hN'
        exact rB_nil (hN' _ _ _ a6.sub (a5.ff.trans a6.ff) ((A5.step a6 ⟨_, _, _, _, rfl⟩).to (by simp)))
    · rintro σ4 F4 H4 s4 x4' A4
      obtain ⟨⟨y5, y6, y7, y8, rfl⟩, b2, b3, b4⟩ := A4
      exact rB_nil (hN _ _ _ s4 (a3.ff.trans x4') ⟨⟨_, _, _, _, _, _, _, _, rfl⟩, b2, b3, by rw [map_flat]; exact b4⟩)
  · rintro σ4 F4 H4 s4 x4' A4
    obtain ⟨y1, y2, y3, y4, y5, y6, y7, y8, rfl⟩ := A4.is
    obtain ⟨F5, a5, m5, _⟩ := (A4.to (ds' := (lockCs p).map Con.d) (by rw [← map_flat]; rfl)).out nw
    exact b_ret (T := T) (ed_var (i := 1) rfl m5) a5.sub fun v F6 H6 a6 q => k v F6 H6 (a5.trans a6) q
end
end Tw
namespace Tw
open PySem PySem.Spec PyProof.Rows L2 LamX
def conts (p : Pr) : List Con := (lockCs p ++ dataCs p).mergeSort (PySem.W.dataLe false Con.d)
theorem ord_cons (l : List Con) : Ord (l.map Con.d) := by
  refine ⟨?_, PySem.W.AllAlike.of fun a b => by simp [Con.d, PySem.W.alike, PySem.W.alikeAll], PySem.W.Sortable.tuples fun b => ⟨_, _, rfl⟩, fun d hd => ?_⟩
  · induction l with
    | nil => rfl
    | cons a l ih => rw [List.map_cons, PyData.hasDictAll, ih]; simp [Con.d, PyData.hasDict, PyData.hasDictAll]
  · obtain ⟨b, _, rfl⟩ := List.mem_map.mp hd
    simp [Con.d, PyData.depth, PyData.depthAll]
def isPr (p : Pr) : Bool := isThr p.1 && isThr p.2 && decide ((conts p).length ≤ 120)
section
variable {P : Program} {w : World} {K : PySem.W.Frag} {mg : Str → Option Value} {base : Heap} {T : List (Addr × Str)}
def Rdata (ds : List PyData) (d : PyData) : Prop := ∃ p : Pr, okP p ∧ ds = [prD p] ∧ d = .list ((dataCs p).map Con.d)
theorem ok_data (F : DfN K mg "data_contests" 30) (g : G K mg) (c25 : Cl P w K mg base 1 "accesses" ["thread"] (spD T Raccesses)) : Cl P w K mg base 2 "data_contests" ["pair"] (spD T Rdata) := by
  refine cl_of (N := ["pair", "found", "number", "word", "name", "there", "other", "same"]) F ⟨rfl, rfl, rfl, by decide +kernel, rfl, by decide +kernel, by decide +kernel⟩ (len_spD fun ds d ⟨n, _, e, _⟩ => by rw [e]; rfl) (fun _ _ _ _ _ _ us hl => match us, hl with | [_], _ => rfl) ?_
  rintro f cdv A outer s H0 vs Q E hr ⟨F0, ds, d, sF, hv, ⟨p, hp, e1, e2⟩, k⟩
  subst e1 e2
  obtain ⟨v1, _, rfl, i1, rfl⟩ := hv
  have nd : (["pair", "found", "number", "word", "name", "there", "other", "same"] : List Str).Nodup := by decide +kernel
  have hll := dataCs_len hp
  have hzz : 1600 ≤ sizeLine := by decide
  refine b_asgF (T := T) (i := 1) (ef_lst ea_nil) sF (fun l xs F1 H1 a1 hn hF hl hd => ?_) nd
  obtain rfl : xs = [] := hd
  have nw : Nw H0 l := hn
  let Iσ : L2.St → Prop := fun σ => ∃ x1 x2 x3 x4 x5 x6, σ = [some v1, some (.ref l), x1, x2, x3, x4, x5, x6]
  have A0 : App T F0 H0 l Iσ [] _ F1 H1 := ⟨⟨none, none, none, none, none, none, rfl⟩, a1, hF, [], hl, rfl⟩
  have i1' := i1.up a1.ff
  have gt3 : ∀ {X : Cx} {i1 i2 i3 : Nat} {x1 x2 x3 : Str} {p1 p2 p3 p5 : Pos} {kk : Nat} (s : Acc), X.calm = true → GT X (.Name x1 p1) (.int s.n) [(i1, .int s.n)] → GT X (.Name x2 p2) (.str s.w) [(i2, .str s.w)] → GT X (.Name x3 p3) (.str s.nm) [(i3, .str s.nm)] →
      GT X (.Tuple [.Name x1 p1, .Name x2 p2, .Name x3 p3] kk p5) (accD s) [(i1, .int s.n), (i2, .str s.w), (i3, .str s.nm)] := fun s hc h1 h2 h3 => gt_tup hc (gts_cons h1 (gts_cons h2 (gts_cons h3 gts_nil)))
  refine b_forapp (T := T) (enc := accD) (xs := accs p.1) (bs := fun s => [(2, .int s.n), (3, .str s.w), (4, .str s.nm)]) rfl .never (wk_tup (ed_call c25 hr (ea_cons (ed_ixt (ed_var (i := 0) rfl i1') ed_int rfl) ea_nil) ⟨p.1, hp.1, hp.2.2.1, rfl, rfl⟩)) (fun s _ => gt3 s rfl (gt_name nd rfl (.inl rfl)) (gt_name nd rfl (.inl rfl)) (gt_name nd rfl (.inl rfl)))
    (fun a => ((accs p.2).flatMap (dataOne a)).map Con.d) A0 ?_ ?_ ?_
  · rw [← map_flat, List.length_map]
    show 0 + (dataCs p).length ≤ _
    omega
  · rintro sa hsa ds' σ1 F2 H2 hz s2 x2 A2 us F3 H3 a3 ⟨u0, _, rfl, m0, u1, _, rfl, m1, u2, _, rfl, m2, rfl⟩ N hN
    obtain ⟨⟨x1, x2', x3, x4, x5, x6, rfl⟩, _⟩ := id A2
    have A3 : App T F0 H0 l (fun σ => ∃ x5 x6 x7, σ = [some v1, some (.ref l), some u0, some u1, some u2, x5, x6, x7]) ds' [some v1, some (.ref l), some u0, some u1, some u2, x4, x5, x6] F3 H3 := by
      obtain ⟨b1, b2, b3, b4⟩ := A2.step a3 ⟨x1, x2', x3, x4, x5, x6, rfl⟩
      exact ⟨⟨_, _, _, rfl⟩, b2, b3, b4⟩
    have i3 := i1'.up (x2.trans a3.ff)
    show rB _ _ _ [some v1, some (.ref l), some u0, some u1, some u2, x4, x5, x6] H3
    refine b_forapp (T := T) (enc := accD) (xs := accs p.2) (bs := fun s => [(5, .int s.n), (6, .str s.w), (7, .str s.nm)]) rfl .never (wk_tup (ed_call c25 hr (ea_cons (ed_ixt (ed_var (i := 0) rfl i3) ed_int rfl) ea_nil) ⟨p.2, hp.2.1, hp.2.2.2, rfl, rfl⟩)) (fun s _ => gt3 s rfl (gt_name nd rfl (.inl rfl)) (gt_name nd rfl (.inl rfl)) (gt_name nd rfl (.inl rfl)))
      (fun b => (dataOne sa b).map Con.d) A3 ?_ ?_ ?_
    · rw [← map_flat]; exact hz
    · rintro sb hsb ds2 σ4 F4 H4 hz4 s4 x4' A4 us F5 H5 a5 ⟨w0, _, rfl, n0, w1, _, rfl, n1, w2, _, rfl, n2, rfl⟩ N' hN'
      obtain ⟨⟨y5, y6, y7, rfl⟩, _⟩ := id A4
      have A5 := A4.step a5 (σ' := [some v1, some (.ref l), some u0, some u1, some u2, some w0, some w1, some w2]) ⟨_, _, _, rfl⟩
      show rB _ _ _ [some v1, some (.ref l), some u0, some u1, some u2, some w0, some w1, some w2] H5
      have q0 := m0.up (x4'.trans a5.ff)
      have q1 := m1.up (x4'.trans a5.ff)
      have q2 := m2.up (x4'.trans a5.ff)
      refine b_when (T := T) (k0 := decide (sa.nm = sb.nm) && !(decide (sa.w = sb.w) && decide (sb.w = "read"))) (et_w (ew_and (et_eqS (ed_var (i := 4) rfl q2) (ed_var (i := 7) rfl n2)) fun _ => ew_and1 (et_not (et_eqeqS (ed_var (i := 3) rfl q1) (ed_var (i := 6) rfl n1) (ed_gstr (c_read g)))))) a5.sub (fun z F6 H6 a6 => ?_) fun z F6 H6 a6 => ?_
      · have e : dataOne sa sb = [⟨sa.n, sa.n, sb.n, sb.n, "data", sa.nm⟩] := by
          unfold dataOne
          rw [if_pos z]
        rw [e] at hN' hz4
        refine b_appA (T := T) (A5.step a6 ⟨_, _, _, rfl⟩) nw (ev_var (i := 1) rfl) (ed_tup (ea_cons (ed_var (i := 2) rfl (q0.up a6.ff)) (ea_cons (ed_var (i := 2) rfl (q0.up a6.ff)) (ea_cons (ed_var (i := 5) rfl (n0.up a6.ff)) (ea_cons (ed_var (i := 5) rfl (n0.up a6.ff)) (ea_cons ed_str (ea_cons (ed_var (i := 4) rfl (q2.up a6.ff)) ea_nil))))))) (Nat.lt_of_succ_le hz4) fun F7 H7 s7 x7 A7 => ?_
        exact rB_nil (rB_nil (hN' _ _ _ s7 (a5.ff.trans (a6.ff.trans x7)) A7))
      · have e : dataOne sa sb = [] := by
          unfold dataOne
          rw [if_neg (by rw [z]; exact Bool.false_ne_true)]
        rw [e] at hN'
        exact rB_nil (hN' _ _ _ a6.sub (a5.ff.trans a6.ff) ((A5.step a6 ⟨_, _, _, rfl⟩).to (by simp)))
    · rintro σ4 F4 H4 s4 x4' A4
      obtain ⟨⟨y5, y6, y7, rfl⟩, b2, b3, b4⟩ := A4
      exact rB_nil (hN _ _ _ s4 (a3.ff.trans x4') ⟨⟨_, _, _, _, _, _, rfl⟩, b2, b3, by rw [map_flat]; exact b4⟩)
  · rintro σ4 F4 H4 s4 x4' A4
    obtain ⟨y1, y2, y3, y4, y5, y6, rfl⟩ := A4.is
    obtain ⟨F5, a5, m5, _⟩ := (A4.to (ds' := (dataCs p).map Con.d) (by rw [← map_flat]; rfl)).out nw
    exact b_ret (T := T) (ed_var (i := 1) rfl m5) a5.sub fun v F6 H6 a6 q => k v F6 H6 (a5.trans a6) q
def Rcontests (ds : List PyData) (d : PyData) : Prop := ∃ p : Pr, okP p ∧ ds = [prD p] ∧ d = .tuple ((conts p).map Con.d)
theorem ok_contests {x : Str} (F : Df K mg x "contests" (top 31)) (g : G K mg) (c29 : Cl P w K mg base 2 "lock_contests" ["pair"] (spD T Rlock)) (c30 : Cl P w K mg base 2 "data_contests" ["pair"] (spD T Rdata)) : Cl P w K mg base 3 x ["pair"] (spD T Rcontests) := by
  refine cl_of (N := ["pair"]) F ⟨rfl, rfl, rfl, by decide +kernel, rfl, by decide +kernel, by decide +kernel⟩ (len_spD fun ds d ⟨n, _, e, _⟩ => by rw [e]; rfl) (fun _ _ _ _ _ _ us hl => match us, hl with | [_], _ => rfl) ?_
  rintro f cdv A outer s H0 vs Q E hr ⟨F0, ds, d, sF, hv, ⟨p, hp, e1, e2⟩, k⟩
  subst e1 e2
  obtain ⟨v1, _, rfl, i1, rfl⟩ := hv
  have h1 := lockCs_len hp
  have h2 := dataCs_len hp
  have hzz : 3200 ≤ sizeLine := by decide
  refine b_ret (T := T) (P := imP (.tuple ((conts p).map Con.d))) (ED.to (ed_tupl (b_tuple g) (EF.ed (ef_sorted hr.units (b_sorted g) (ED.to (EF.ed (ef_addl (ed_call c29 hr (ea_cons (ed_var (i := 0) rfl i1) ea_nil) ⟨p, hp, rfl, rfl⟩) (ed_call c30 hr (ea_cons (ed_var (i := 0) rfl i1) ea_nil) ⟨p, hp, rfl, rfl⟩) (by rw [List.length_map, List.length_map]; omega))) (d1 := .list ((lockCs p ++ dataCs p).map Con.d)) (by rw [List.map_append])) (ord_cons _)))) (by rw [sortD_map]; rfl)) sF k
def Ris_pair (ds : List PyData) (d : PyData) : Prop := ∃ p : Pr, okT p.1 ∧ okT p.2 ∧ p.1.length ≤ 1000 ∧ p.2.length ≤ 1000 ∧ ds = [prD p] ∧ d = .bool (isPr p)
theorem ok_is_pair (F : DfN K mg "is_pair" 33) (g : G K mg) (c23 : Cl P w K mg base 4 "is_thread" ["value"] (spD T Ris_thread)) (c32 : Cl P w K mg base 3 "contests_contests" ["pair"] (spD T Rcontests)) : Cl P w K mg base 5 "is_pair" ["value"] (spD T Ris_pair) := by
  refine cl_of (N := ["value", "thread"]) F ⟨rfl, rfl, rfl, by decide +kernel, rfl, by decide +kernel, by decide +kernel⟩ (len_spD fun ds d ⟨n, _, _, _, _, e, _⟩ => by rw [e]; rfl) (fun _ _ _ _ _ _ us hl => match us, hl with | [_], _ => rfl) ?_
  rintro f cdv A outer s H0 vs Q E hr ⟨F0, ds, d, sF, hv, ⟨p, hp1, hp2, hl1, hl2, e1, e2⟩, k⟩
  subst e1 e2
  obtain ⟨v1, _, rfl, i1, rfl⟩ := hv
  have nd : (["value", "thread"] : List Str).Nodup := by decide +kernel
  refine b_when (T := T) (k0 := !(isThr p.1 && isThr p.2)) ((et_w (ew_or (k1 := false) (et_not (k1 := true) (et_val (ed_isi (b_isi g) (ed_var (i := 0) rfl i1) (ev_gty (b_tuple g) boot_tupleb) rfl rfl))) fun _ => ew_or (k1 := false) ((et_neI (ed_lent (b_len g) (ed_var (i := 0) rfl i1)) (ed_gint (c_pr g))).to rfl) fun _ =>
    ew_or1 (et_not (et_val (ed_all (bs := [isThr p.1, isThr p.2]) rfl (b_all g) (EF.ed (ef_lc0 (enc := thD) (xs := [p.1, p.2]) (bs := fun t => [(1, thD t)]) (own := [("thread", 1)]) rfl nd (by kernel_rfl) (wk_tup (ed_var (i := 0) rfl i1)) (fun _ _ i hi => hi)
      (fun t => .bool (isThr t)) (fun s Hb C cl fp t ht => ⟨gt_name nd rfl (.inl rfl), fun F2 H2 a2 vs hvs => ?_⟩) (Nat.le_of_ble_eq_true rfl)))))))).to (by cases isThr p.1 <;> cases isThr p.2 <;> rfl)) sF (fun z F1 H1 a1 => ?_) fun z F1 H1 a1 => ?_
  · obtain ⟨u, _, rfl, m, rfl⟩ := hvs
    refine ed_call c23 hr (ea_cons (ed_var (i := 1) rfl m) ea_nil) ⟨t, ?_, ?_, rfl, rfl⟩
    · rcases List.mem_cons.mp ht with e | e
      · rw [e]; exact hp1
      · rw [List.mem_singleton.mp e]; exact hp2
    · rcases List.mem_cons.mp ht with e | e
      · rw [e]; exact hl1
      · rw [List.mem_singleton.mp e]; exact hl2
  · exact b_ret (T := T) (P := imP (.bool false)) ed_bool a1.sub fun v F2 H2 a2 q => k v F2 H2 (a1.trans a2) (by
      unfold isPr
      have : (isThr p.1 && isThr p.2) = false := by cases q1 : (isThr p.1 && isThr p.2) <;> simp_all
      rw [this]
      exact q)
  · have hb : (isThr p.1 && isThr p.2) = true := by simpa using z
    have hb' := Bool.and_eq_true_iff.mp hb
    refine b_ret (T := T) (P := imP (.bool (decide ((conts p).length ≤ 120)))) (ED.to (ed_le (ed_lent (b_len g) (ed_call c32 hr (ea_cons (ed_var (i := 0) rfl (i1.up a1.ff)) ea_nil) ⟨p, ⟨hp1, hp2, hb'.1, hb'.2⟩, rfl, rfl⟩)) (ed_gint (c_mc g))) ?_) a1.sub fun v F2 H2 a2 q => k v F2 H2 (a1.trans a2) ?_
    · rw [List.length_map]
      congr 1
      apply decide_eq_decide.mpr
      omega
    · unfold isPr
      rw [hb]
      exact q
end
end Tw
namespace Tw
open PySem PySem.Spec PyProof.Rows L2 LamX
theorem range0 (n : Nat) : rangeD 0 n = (List.range n).map fun i => PyData.int (i : Nat) := by
  unfold rangeD
  exact List.map_congr_left fun i _ => by rw [Int.zero_add]
def mask0 (l : List Con) (a : Con) : Int := ((l.zipIdx.filter fun q => forcesC a q.1).map fun q => 1 * 2 ^ (Int.toNat ((q.2 : Nat) : Int))).sum
def hasB (m : Int) (i : Nat) : Bool := decide (Builtin.bitAnd (m / 2 ^ (Int.toNat (i : Int))) 1 = 1)
def wIn (mid : Nat) (ms : List Int) (at_ : Nat) : List Int := if hasB (ms.getD at_ 0) mid = true then ms.set at_ (Builtin.bitOr (ms.getD at_ 0) (ms.getD mid 0)) else ms
def wOut (n : Nat) (ms : List Int) (mid : Nat) : List Int := (List.range n).foldl (wIn mid) ms
def warsh (n : Nat) (ms : List Int) : List Int := (List.range n).foldl (wOut n) ms
def ledF (l : List Con) : List (List Nat) := (List.range l.length).map fun i => (List.range l.length).filter fun j => hasB ((warsh l.length (l.map (mask0 l))).getD i 0) j
theorem wIn_len (mid : Nat) (ms : List Int) (i : Nat) : (wIn mid ms i).length = ms.length := by
  unfold wIn
  split
  · rw [List.length_set]
  · rfl
theorem fold_len {f : List Int → Nat → List Int} (h : ∀ ms i, (f ms i).length = ms.length) : ∀ (l : List Nat) (ms : List Int), (l.foldl f ms).length = ms.length
  | [], _ => rfl
  | i :: l, ms => by rw [List.foldl_cons, fold_len h l, h]
theorem wOut_len (n : Nat) (ms : List Int) (i : Nat) : (wOut n ms i).length = ms.length := fold_len (wIn_len i) _ _
theorem fold_take {β : Type} {f : β → Nat → β} {n i : Nat} (b : β) (h : i < n) : ((List.range n).take (i + 1)).foldl f b = f (((List.range n).take i).foldl f b) i := by
  rw [List.take_add_one, List.getElem?_range h, List.foldl_append]
  rfl
def ncD (q : Con × Nat) : PyData := .tuple [.int (q.2 : Nat), q.1.d]
theorem enum_cons (l : List Con) : enumD (l.map Con.d) = l.zipIdx.map ncD := by
  unfold enumD
  rw [List.zipIdx_map, List.map_map]
  rfl
def ledD (l : List Con) : PyData := .list ((ledF l).map fun r => .list (r.map fun i => PyData.int (i : Nat)))
theorem getD_int {ms : List Int} {i : Nat} (h : i < ms.length) : (ms.map PyData.int)[i]? = some (.int (ms.getD i 0)) := by
  rw [List.getElem?_map, List.getD_eq_getElem?_getD, List.getElem?_eq_getElem h]
  rfl
theorem getD_v {ms : List Int} {i : Nat} (h : i < ms.length) : (ms.map V.int)[i]? = some (.int (ms.getD i 0)) := by
  rw [List.getElem?_map, List.getD_eq_getElem?_getD, List.getElem?_eq_getElem h]
  rfl
theorem atI_nat {α : Type} {xs : List α} {i : Nat} {x : α} (h : xs[i]? = some x) : atI xs (i : Int) = some x := by
  unfold atI
  rw [ixN_at (List.getElem?_eq_some_iff.mp h).1]
  exact h
section
variable {P : Program} {w : World} {K : PySem.W.Frag} {mg : Str → Option Value} {base : Heap} {T : List (Addr × Str)}
def Rleads (ds : List PyData) (d : PyData) : Prop := ∃ l : List Con, l.length ≤ 120 ∧ ds = [.tuple (l.map Con.d)] ∧ d = ledD l
theorem ok_leads (F : DfN K mg "leads_in" 35) (g : G K mg) (c34 : Cl P w K mg base 1 "forces" ["one", "other"] (spD T Rforces)) : Cl P w K mg base 2 "leads_in" ["known"] (spD T Rleads) := by
  refine cl_of (N := ["known", "count", "masks", "middle", "at", "one", "other", "there"]) F ⟨rfl, rfl, rfl, by decide +kernel, rfl, by decide +kernel, by decide +kernel⟩ (len_spD fun ds d ⟨n, _, e, _⟩ => by rw [e]; rfl) (fun _ _ _ _ _ _ us hl => match us, hl with | [_], _ => rfl) ?_
  rintro f cdv A outer s H0 vs Q E hr ⟨F0, ds, d, sF, hv, ⟨kn, hlen, e1, e2⟩, k⟩
  subst e1 e2
  obtain ⟨v1, _, rfl, i1, rfl⟩ := hv
  have nd : (["known", "count", "masks", "middle", "at", "one", "other", "there"] : List Str).Nodup := by decide +kernel
  have hz : kn.length ≤ sizeLine := Nat.le_trans hlen (by decide)
  refine b_asg (T := T) (i := 1) (P := imP (.int kn.length)) (ED.to (ed_lent (b_len g) (ed_var (i := 0) rfl i1)) (by rw [List.length_map])) sF (fun v F1 H1 a1 q => ?_) nd
  obtain rfl : v = .int kn.length := q
  have i2 := i1.up a1.ff
  refine b_asgF (T := T) (i := 2) (ef_lc0 (enc := Con.d) (xs := kn) (bs := fun c => [(5, c.d)]) (own := [("one", 5)]) rfl nd (by kernel_rfl) (wk_tup (ed_var (i := 0) rfl i2)) (fun _ _ i hi => hi) (fun c => .int (mask0 kn c)) (fun s1 Hb C cl fp c hc => ⟨gt_name nd, fun F2 H2 a2 vs hvs => ?_⟩) hz) a1.sub (fun l xs F2 H2 a2 hn hF hl hd => ?_) nd
  · obtain ⟨u, _, rfl, m, rfl⟩ := hvs
    refine ed_sum rfl (b_sum g) (EF.ed (EF.to (ef_lc1 (enc := ncD) (xs := kn.zipIdx) (bs := fun q => [(4, .int (q.2 : Nat)), (6, q.1.d)]) (own := [("at", 4), ("other", 6)]) rfl nd (by kernel_rfl) (Wk.to (wk_enumt (b_enum g) (ed_var (i := 0) rfl (i2.up a2.ff))) (enum_cons kn)) (fun _ _ i hi => hi)
      (fun q => forcesC c q.1) (fun q => .int (1 * 2 ^ (Int.toNat ((q.2 : Nat) : Int)))) (fun s2 Hb2 C2 cl2 fp2 q hq => ⟨gt_tup rfl (gts_cons (gt_name nd) (gts_cons (gt_name nd) gts_nil)), fun F3 H3 a3 vs3 hvs3 => ?_⟩) (by rw [List.length_zipIdx]; exact hz)) ?_))
    · obtain ⟨u1, _, rfl, m1, u2, _, rfl, m2, rfl⟩ := hvs3
      have hq2 : q.2 < kn.length := by
        have := List.mem_zipIdx hq
        omega
      exact ⟨et_val (ed_call c34 hr (ea_cons (ed_var (i := 5) rfl (m.up a3.ff)) (ea_cons (ed_var (i := 6) rfl m2) ea_nil)) ⟨c, q.1, rfl, rfl⟩), fun _ => ed_shl ed_int (ed_var (i := 4) rfl m1) ⟨by omega, by omega, by decide⟩⟩
    · rw [List.map_map]; rfl
  have hms : xs = (kn.map (mask0 kn)).map V.int := by
    have : ImL F2 ((kn.map (mask0 kn)).map PyData.int) xs := by rw [List.map_map]; exact hd
    exact ImL.ints.mp this
  subst hms
  have nw : Nw H0 l := Nw.back a1 hn
  have a12 := a1.trans a2
  have hN : kn.length < 2 ^ 62 := by omega
  have l0 : (kn.map (mask0 kn)).length = kn.length := List.length_map _
  refine b_for (T := T) (enc := fun i : Nat => PyData.int (i : Nat)) (xs := List.range kn.length) (bs := fun i => [(3, .int (i : Nat))]) rfl .never (Wk.to (wk_range1 (b_range g) (ed_var (i := 1) rfl rfl) (by omega) (by omega)) (by rw [Int.toNat_natCast, range0])) a2.sub (fun x _ => gt_name nd)
    (fun i σ F' H' => ∃ x y, σ = [some v1, some (.int kn.length), some (.ref l), x, y, none, none, none] ∧ Adv T F0 H0 F' H' ∧ F' l = none ∧ H' l = some (.lst ((((List.range kn.length).take i).foldl (wOut kn.length) (kn.map (mask0 kn))).map V.int))) (fun F3 H3 a3 => ?_) ?_ ?_
  · obtain ⟨o1, o2⟩ := a3.off hF hl notTbl_lst
    exact ⟨none, none, rfl, a12.trans a3, o1, o2⟩
  · rintro mid mid' σ1 F3 H3 hx s3 x3 ⟨x, y, rfl, a3, f3, h3⟩ us F4 H4 a4 ⟨u0, _, rfl, m0, rfl⟩ N hN'
    obtain ⟨hmid, hmm⟩ := List.getElem?_eq_some_iff.mp hx
    rw [List.length_range] at hmid
    have hmm : mid = mid' := by simpa using hmm
    subst hmm
    obtain rfl : u0 = .int (mid : Nat) := m0
    obtain ⟨o1, o2⟩ := a4.off f3 h3 notTbl_lst
    show rB _ _ _ [some v1, some (.int kn.length), some (.ref l), some (.int (mid : Nat)), y, none, none, none] H4
    generalize hms : ((List.range kn.length).take mid).foldl (wOut kn.length) (kn.map (mask0 kn)) = ms at o2 h3
    have lms : ms.length = kn.length := by rw [← hms, fold_len (wOut_len _), l0]
    refine b_for (T := T) (enc := fun i : Nat => PyData.int (i : Nat)) (xs := List.range kn.length) (bs := fun i => [(4, .int (i : Nat))]) rfl .never (Wk.to (wk_range1 (b_range g) (ed_var (i := 1) rfl rfl) (by omega) (by omega)) (by rw [Int.toNat_natCast, range0])) a4.sub (fun x _ => gt_name nd)
      (fun i σ F' H' => ∃ y, σ = [some v1, some (.int kn.length), some (.ref l), some (.int (mid : Nat)), y, none, none, none] ∧ Adv T F0 H0 F' H' ∧ F' l = none ∧ H' l = some (.lst ((((List.range kn.length).take i).foldl (wIn mid) ms).map V.int))) (fun F5 H5 a5 => ?_) ?_ ?_
    · obtain ⟨p1, p2⟩ := a5.off o1 o2 notTbl_lst
      exact ⟨y, rfl, (a3.trans a4).trans a5, p1, p2⟩
    · rintro i i' σ2 F5 H5 hx5 s5 x5 ⟨y, rfl, a5, f5, h5⟩ us F6 H6 a6 ⟨u0, _, rfl, m0, rfl⟩ N2 hN2
      obtain ⟨hi, hii⟩ := List.getElem?_eq_some_iff.mp hx5
      rw [List.length_range] at hi
      have hii : i = i' := by simpa using hii
      subst hii
      obtain rfl : u0 = .int (i : Nat) := m0
      obtain ⟨p1, p2⟩ := a6.off f5 h5 notTbl_lst
      show rB _ _ _ [some v1, some (.int kn.length), some (.ref l), some (.int (mid : Nat)), some (.int (i : Nat)), none, none, none] H6
      have hstep := fold_take (f := wIn mid) ms hi
      generalize hm2 : ((List.range kn.length).take i).foldl (wIn mid) ms = m2 at p2 h5 hstep
      have l2 : m2.length = kn.length := by rw [← hm2, fold_len (wIn_len _), lms]
      refine b_when (T := T) (k0 := hasB (m2.getD i 0) mid) (et_eqI (ed_band (ed_shr (ed_ixm (ds := m2.map .int) (ev_var (i := 2) rfl) p2 (ImL.ints.mpr rfl) (ed_var (i := 4) rfl rfl) (atI_nat (getD_int (by omega)))) (ed_var (i := 3) rfl rfl) (by omega)) ed_int) ed_int) a6.sub (fun z F7 H7 a7 => ?_) fun z F7 H7 a7 => ?_
      · obtain ⟨q1, q2⟩ := a7.off p1 p2 notTbl_lst
        refine b_lor (T := T) (n := i) (u := m2.getD i 0) (w := m2.getD mid 0) a7.sub (ev_var (i := 2) rfl) (ed_var (i := 4) rfl rfl) (ed_ixm (ds := m2.map .int) (ev_var (i := 2) rfl) q2 (ImL.ints.mpr rfl) (ed_var (i := 3) rfl rfl) (atI_nat (getD_int (by omega)))) q1 q2 (getD_v (by omega)) fun F8 H8 a8 f8 h8 s8 => ?_
        refine rB_nil (rB_nil (hN2 _ _ _ s8 (a6.ff.trans (a7.ff.trans a8.ff)) ⟨_, rfl, (a5.trans (a6.trans (a7.trans a8))).mut nw f8 h8 mut_lst, f8, ?_⟩))
        rw [hstep, upd_same]
        unfold wIn
        rw [if_pos z, List.map_set]
      · obtain ⟨q1, q2⟩ := a7.off p1 p2 notTbl_lst
        refine rB_nil (hN2 _ _ _ a7.sub (a6.ff.trans a7.ff) ⟨_, rfl, a5.trans (a6.trans a7), q1, ?_⟩)
        rw [hstep]
        unfold wIn
        rw [if_neg (by rw [z]; exact Bool.false_ne_true)]
        exact q2
    · rintro σ2 F5 H5 s5 x5 ⟨y, rfl, a5, f5, h5⟩
      rw [List.length_range] at h5
      refine rB_nil (hN' _ _ _ s5 (a4.ff.trans x5) ⟨_, _, rfl, a5, f5, ?_⟩)
      rw [fold_take (f := wOut kn.length) _ hmid, hms, h5]
      unfold wOut
      rw [show (List.range kn.length).take kn.length = List.range kn.length from List.take_of_length_le (by rw [List.length_range]; exact Nat.le_refl _)]
  · rintro σ1 F3 H3 s3 x3 ⟨x, y, rfl, a3, f3, h3⟩
    rw [List.take_length] at h3
    have hW : ((List.range kn.length).foldl (wOut kn.length) (kn.map (mask0 kn))) = warsh kn.length (kn.map (mask0 kn)) := rfl
    rw [hW] at h3
    have lW : (warsh kn.length (kn.map (mask0 kn))).length = kn.length := by unfold warsh; rw [fold_len (wOut_len _), l0]
    generalize hg : warsh kn.length (kn.map (mask0 kn)) = W at h3 lW
    have ex : Ext F3 (upd F3 l (.lst (W.map V.int))) := fun x o q => by rw [upd_ne fun z => by rw [z, f3] at q; cases q]; exact q
    have a4 : Adv T F0 H0 (upd F3 l (.lst (W.map V.int))) H3 := a3.set nw h3 notTbl_lst
    have mW : Im (upd F3 l (.lst (W.map V.int))) (.list (W.map .int)) (.ref l) := ⟨l, _, rfl, upd_same, ImL.ints.mpr rfl⟩
    generalize upd F3 l (.lst (W.map V.int)) = F4 at ex a4 mW
    refine b_ret (T := T) (P := imP (ledD kn)) (EF.ed (EF.to (ef_lc0 (enc := fun i : Nat => PyData.int (i : Nat)) (xs := List.range kn.length) (bs := fun i => [(4, .int (i : Nat))]) (own := [("at", 4)]) rfl nd (by kernel_rfl) (Wk.to (wk_range1 (b_range g) (ed_var (i := 1) rfl rfl) (by omega) (by omega)) (by rw [Int.toNat_natCast, range0])) (fun _ _ i hi => hi)
      (fun i => .list (((List.range kn.length).filter fun j => hasB (W.getD i 0) j).map fun j => PyData.int (j : Nat))) (fun s1 Hb C cl fp i hi => ⟨gt_name nd, fun F5 H5 a5 vs hvs => ?_⟩) (by rw [List.length_range]; exact hz)) ?_)) a4.sub fun v F5 H5 a5 q => k v F5 H5 (a4.trans a5) q
    · obtain ⟨u, _, rfl, m, rfl⟩ := hvs
      have hi : i < kn.length := List.mem_range.mp hi
      refine EF.ed (ef_lc1 (enc := fun i : Nat => PyData.int (i : Nat)) (xs := List.range kn.length) (bs := fun i => [(7, .int (i : Nat))]) (own := [("there", 7)]) rfl nd (by kernel_rfl) (Wk.to (wk_range1 (b_range g) (ed_var (i := 1) rfl rfl) (by omega) (by omega)) (by rw [Int.toNat_natCast, range0])) (fun _ _ i hi => hi)
        (fun j => hasB (W.getD i 0) j) (fun j => PyData.int (j : Nat)) (fun s2 Hb2 C2 cl2 fp2 j hj => ⟨gt_name nd, fun F6 H6 a6 vs6 hvs6 => ?_⟩) (by rw [List.length_range]; exact hz))
      obtain ⟨u2, _, rfl, m2, rfl⟩ := hvs6
      exact ⟨et_eqI (ed_band (ed_shr (ed_ixl (ed_var (i := 2) rfl (mW.up (a5.ff.trans a6.ff))) (ed_var (i := 4) rfl (m.up a6.ff)) (atI_nat (getD_int (by omega)))) (ed_var (i := 7) rfl m2) (by omega)) ed_int) ed_int, fun _ => ed_var (i := 7) rfl m2⟩
    · unfold ledF
      rw [List.map_map, hg]
      rfl
end
end Tw
set_option maxHeartbeats 1000000
namespace Tw
open PySem
/-! what the masks hold (plain) -/
theorem hasB_nat (m i : Nat) : hasB (m : Int) i = m.testBit i := by
  unfold hasB
  have e : ((m : Int) / 2 ^ (Int.toNat (i : Int))) = ((m / 2 ^ i : Nat) : Int) := by
    rw [Int.toNat_natCast, Int.natCast_ediv, Int.natCast_pow]; rfl
  rw [e, show (1 : Int) = ((1 : Nat) : Int) from rfl]
  have e2 : Builtin.bitAnd ((m / 2 ^ i : Nat) : Int) ((1 : Nat) : Int) = ((m / 2 ^ i % 2 : Nat) : Int) := by
    unfold Builtin.bitAnd
    rw [decide_eq_true (Int.natCast_nonneg _), decide_eq_true (Int.natCast_nonneg _)]
    show (((m / 2 ^ i : Nat) &&& 1 : Nat) : Int) = _
    rw [Nat.and_one_is_mod]
  rw [e2, Nat.testBit_eq_decide_div_mod_eq, Bool.eq_iff_iff, decide_eq_true_eq, decide_eq_true_eq]
  omega
-- an edge relation, paths whose inner places are under k
inductive Pa (E : Nat → Nat → Bool) (k : Nat) : Nat → Nat → Prop
  | one {i j : Nat} : E i j = true → Pa E k i j
  | cons {i m j : Nat} : E i m = true → m < k → Pa E k m j → Pa E k i j
theorem Pa.more {E : Nat → Nat → Bool} {k k' : Nat} (h : k ≤ k') {i j : Nat} (p : Pa E k i j) : Pa E k' i j := by
  induction p with
  | one e => exact .one e
  | cons e l _ ih => exact .cons e (Nat.lt_of_lt_of_le l h) ih
theorem Pa.join {E : Nat → Nat → Bool} {k m : Nat} (hm : m < k) {i j : Nat} (p : Pa E k i m) (q : Pa E k m j) : Pa E k i j := by
  generalize hx : m = x at p
  induction p with
  | one e => subst hx; exact .cons e hm q
  | cons e l _ ih => exact .cons e l (ih hx)
theorem Pa.split {E : Nat → Nat → Bool} {k i j : Nat} : Pa E (k + 1) i j ↔ Pa E k i j ∨ (Pa E k i k ∧ Pa E k k j) := by
  constructor
  · intro p
    induction p with
    | one e => exact .inl (.one e)
    | @cons i m j e l p ih =>
      by_cases z : m < k
      · rcases ih with q | ⟨q1, q2⟩
        · exact .inl (.cons e z q)
        · exact .inr ⟨.cons e z q1, q2⟩
      · obtain rfl : m = k := by omega
        rcases ih with q | ⟨_, q2⟩
        · exact .inr ⟨.one e, q⟩
        · exact .inr ⟨.one e, q2⟩
  · rintro (p | ⟨p, q⟩)
    · exact p.more (Nat.le_succ k)
    · exact (p.more (Nat.le_succ k)).join (Nat.lt_succ_self k) (q.more (Nat.le_succ k))
-- the masks as they are after some rounds
structure War (n : Nat) (E : Nat → Nat → Bool) (k : Nat) (ms : List Int) : Prop where
  len : ms.length = n
  nn : ∀ i, ∃ m : Nat, ms.getD i 0 = (m : Int)
  at_ : ∀ i j, i < n → j < n → (hasB (ms.getD i 0) j = true ↔ Pa E k i j)
theorem getD_set {ms : List Int} {i j : Nat} {v : Int} (h : i < ms.length) : (ms.set i v).getD j 0 = if i = j then v else ms.getD j 0 := by
  rw [List.getD_eq_getElem?_getD, List.getD_eq_getElem?_getD, List.getElem?_set]
  split
  · rename_i e
    subst e
    rfl
  · rfl
theorem war_in {n k : Nat} {E : Nat → Nat → Bool} {ms : List Int} (hk : k < n) (W : War n E k ms) : ∀ t, t ≤ n → ∃ ms', ((List.range n).take t).foldl (wIn k) ms = ms' ∧ ms'.length = n ∧ (∀ i, ∃ m : Nat, ms'.getD i 0 = (m : Int)) ∧ ms'.getD k 0 = ms.getD k 0 ∧
    (∀ i, t ≤ i → ms'.getD i 0 = ms.getD i 0) ∧ ∀ i j, i < t → j < n → (hasB (ms'.getD i 0) j = true ↔ Pa E k i j ∨ (Pa E k i k ∧ Pa E k k j)) := by
  intro t
  induction t with
  | zero => exact fun _ => ⟨ms, rfl, W.len, W.nn, rfl, fun _ _ => rfl, fun i j h => absurd h (Nat.not_lt_zero i)⟩
  | succ t ih =>
    intro ht
    obtain ⟨ms', e, l, nn, ek, hi, lo⟩ := ih (by omega)
    rw [fold_take (n := n) (i := t) ms (by omega), e]
    have at' := hi t (Nat.le_refl t)
    have htl : t < ms'.length := by omega
    refine ⟨_, rfl, by rw [wIn_len, l], ?_⟩
    unfold wIn
    rw [at', ek]
    obtain ⟨mt, emt⟩ := W.nn t
    obtain ⟨mk, emk⟩ := W.nn k
    by_cases hb : hasB (ms.getD t 0) k = true
    · rw [if_pos hb]
      have hor : Builtin.bitOr (ms.getD t 0) (ms.getD k 0) = ((mt ||| mk : Nat) : Int) := by
        rw [emt, emk, L2.bitOr_nn (Int.natCast_nonneg _) (Int.natCast_nonneg _), Int.toNat_natCast, Int.toNat_natCast]
      have pk : Pa E k t k := (W.at_ t k (by omega) hk).mp hb
      refine ⟨fun i => ?_, ?_, fun i hti => ?_, fun i j hit hj => ?_⟩
      · rw [getD_set htl]
        split
        · exact ⟨_, hor⟩
        · exact nn i
      · rw [getD_set htl]
        split
        · rename_i z
          subst z
          have : mt = mk := by
            have := emt.symm.trans emk
            omega
          rw [hor, this, Nat.or_self, emk]
        · exact ek
      · rw [getD_set htl, if_neg (by omega)]
        exact hi i (by omega)
      · rw [getD_set htl]
        by_cases z : t = i
        · subst z
          rw [if_pos rfl, hor, hasB_nat, Nat.testBit_or, Bool.or_eq_true, ← hasB_nat, ← hasB_nat, ← emt, ← emk, W.at_ t j (by omega) hj, W.at_ k j hk hj]
          constructor
          · rintro (q | q)
            · exact .inl q
            · exact .inr ⟨pk, q⟩
          · rintro (q | ⟨_, q⟩)
            · exact .inl q
            · exact .inr q
        · rw [if_neg z]
          exact lo i j (by omega) hj
    · rw [if_neg hb]
      refine ⟨nn, ek, fun i hti => hi i (by omega), fun i j hit hj => ?_⟩
      by_cases z : t = i
      · subst z
        rw [at', W.at_ t j (by omega) hj]
        constructor
        · exact .inl
        · rintro (q | ⟨q, _⟩)
          · exact q
          · exact absurd ((W.at_ t k (by omega) hk).mpr q) hb
      · exact lo i j (by omega) hj
theorem war_out {n k : Nat} {E : Nat → Nat → Bool} {ms : List Int} (hk : k < n) (W : War n E k ms) : War n E (k + 1) (wOut n ms k) := by
  obtain ⟨ms', e, l, nn, _, _, lo⟩ := war_in hk W n (Nat.le_refl n)
  rw [List.take_of_length_le (by rw [List.length_range]; exact Nat.le_refl n)] at e
  have e : wOut n ms k = ms' := e
  rw [e]
  exact ⟨l, nn, fun i j hi hj => (lo i j hi hj).trans Pa.split.symm⟩
theorem war_all {n : Nat} {E : Nat → Nat → Bool} {ms : List Int} (W : War n E 0 ms) : War n E n (warsh n ms) := by
  have go : ∀ t, t ≤ n → War n E t (((List.range n).take t).foldl (wOut n) ms) := by
    intro t
    induction t with
    | zero => exact fun _ => W
    | succ t ih =>
      intro ht
      rw [fold_take (n := n) (i := t) ms (by omega)]
      exact war_out (by omega) (ih (by omega))
  have := go n (Nat.le_refl n)
  rw [List.take_of_length_le (by rw [List.length_range]; exact Nat.le_refl n)] at this
  exact this
-- the first masks
def mkN (a : Con) : List Con → Nat
  | [] => 0
  | c :: r => (if forcesC a c = true then 1 else 0) + 2 * mkN a r
theorem mkN_bit (a : Con) : ∀ (l : List Con) (j : Nat), (mkN a l).testBit j = match l[j]? with | some c => forcesC a c | none => false
  | [], j => by simp [mkN]
  | c :: r, 0 => by
    show _ = forcesC a c
    rw [mkN, Nat.testBit_zero]
    cases forcesC a c
    · have : ((if false = true then 1 else 0) + 2 * mkN a r) % 2 = 0 := by simp
      rw [this]; rfl
    · have : ((if true = true then 1 else 0) + 2 * mkN a r) % 2 = 1 := by simp [Nat.add_mul_mod_self_left]
      rw [this]; rfl
  | c :: r, j + 1 => by
    rw [mkN, Nat.testBit_succ, List.getElem?_cons_succ, ← mkN_bit a r j]
    congr 1
    split <;> omega
theorem sum_shift (a : Con) : ∀ (l : List Con) (s : Nat), (((l.zipIdx s).filter (fun q => forcesC a q.1)).map (fun q => (1 : Int) * 2 ^ (Int.toNat ((q.2 : Nat) : Int)))).sum = ((2 ^ s * mkN a l : Nat) : Int)
  | [], s => by simp [mkN]
  | c :: r, s => by
    rw [List.zipIdx_cons, List.filter_cons]
    have ih := sum_shift a r (s + 1)
    have e : 2 ^ (s + 1) * mkN a r = 2 ^ s * (2 * mkN a r) := by rw [Nat.pow_succ, Nat.mul_assoc]
    cases h : forcesC a c with
    | true =>
      simp only [h, if_true, List.map_cons, List.sum_cons, mkN]
      rw [ih, e, Nat.mul_add, Int.natCast_add, Nat.mul_one]
      simp
    | false =>
      simp only [h, mkN]
      rw [if_neg Bool.false_ne_true, ih, e, if_neg Bool.false_ne_true, Nat.zero_add]
theorem mask0_nat (l : List Con) (a : Con) : mask0 l a = (mkN a l : Int) := by
  have := sum_shift a l 0
  rw [Nat.pow_zero, Nat.one_mul] at this
  exact this
def eC (l : List Con) (i j : Nat) : Bool := match l[i]?, l[j]? with
  | some a, some b => forcesC a b
  | _, _ => false
theorem war_0 (l : List Con) : War l.length (eC l) 0 (l.map (mask0 l)) where
  len := by rw [List.length_map]
  nn := fun i => by
    rw [List.getD_eq_getElem?_getD, List.getElem?_map]
    cases l[i]? with
    | none => exact ⟨0, rfl⟩
    | some c => exact ⟨_, mask0_nat l c⟩
  at_ := fun i j hi hj => by
    have e : eC l i j = forcesC l[i] l[j] := by
      unfold eC
      rw [List.getElem?_eq_getElem hi, List.getElem?_eq_getElem hj]
    rw [List.getD_eq_getElem?_getD, List.getElem?_map, List.getElem?_eq_getElem hi]
    show hasB (mask0 l l[i]) j = true ↔ _
    rw [mask0_nat, hasB_nat, mkN_bit, List.getElem?_eq_getElem hj]
    show forcesC l[i] l[j] = true ↔ _
    rw [← e]
    constructor
    · exact .one
    · intro p
      cases p with
      | one e => exact e
      | cons _ h _ => exact absurd h (Nat.not_lt_zero _)
-- what a contest leads to
def Lead (l : List Con) (i j : Nat) : Prop := Pa (eC l) l.length i j
theorem ledF_at (l : List Con) {i : Nat} (hi : i < l.length) : ∃ r, (ledF l)[i]? = some r ∧ ∀ j, j ∈ r ↔ j < l.length ∧ Lead l i j := by
  unfold ledF
  refine ⟨_, by rw [List.getElem?_map, List.getElem?_range hi]; rfl, fun j => ?_⟩
  rw [List.mem_filter, List.mem_range]
  constructor
  · rintro ⟨h1, h2⟩
    exact ⟨h1, ((war_all (war_0 l)).at_ i j hi h1).mp h2⟩
  · rintro ⟨h1, h2⟩
    exact ⟨h1, ((war_all (war_0 l)).at_ i j hi h1).mpr h2⟩
theorem lead_refl {l : List Con} (hz : ∀ c ∈ l, c.ab ≤ c.ae ∧ c.bb ≤ c.be) {i : Nat} (hi : i < l.length) : Lead l i i := by
  refine .one ?_
  unfold eC
  rw [List.getElem?_eq_getElem hi]
  have := hz _ (List.getElem_mem hi)
  simp [forcesC, this]
theorem led_refl (l : List Con) (hz : ∀ c ∈ l, c.ab ≤ c.ae ∧ c.bb ≤ c.be) {i : Nat} (hi : i < l.length) : ∃ r, (ledF l)[i]? = some r ∧ i ∈ r := by
  obtain ⟨r, e, m⟩ := ledF_at l hi
  exact ⟨r, e, (m i).mpr ⟨hi, lead_refl hz hi⟩⟩
theorem eC_lt {l : List Con} {i j : Nat} (h : eC l i j = true) : i < l.length ∧ j < l.length := by
  unfold eC at h
  cases hi : l[i]? with
  | none => rw [hi] at h; cases h
  | some a =>
    cases hj : l[j]? with
    | none => rw [hi, hj] at h; cases h
    | some b => exact ⟨(List.getElem?_eq_some_iff.mp hi).1, (List.getElem?_eq_some_iff.mp hj).1⟩
theorem Pa.lt {l : List Con} {k i j : Nat} (p : Pa (eC l) k i j) : i < l.length ∧ j < l.length := by
  induction p with
  | one e => exact eC_lt e
  | cons e _ _ ih => exact ⟨(eC_lt e).1, ih.2⟩
-- a set that has i and with each place those it forces has all that i leads to
theorem lead_in {l : List Con} {r : List Nat} (cl : ∀ i ∈ r, ∀ j, eC l i j = true → j ∈ r) {k i j : Nat} (p : Pa (eC l) k i j) (hi : i ∈ r) : j ∈ r := by
  induction p with
  | one e => exact cl _ hi _ e
  | cons e _ _ ih => exact ih (cl _ hi _ e)
theorem lead_step {l : List Con} {i m j : Nat} (p : Lead l i m) (e : eC l m j = true) : Lead l i j := p.join p.lt.2 (.one e)
end Tw
namespace Tw
open PySem
theorem secRun_wf {t : Thr} (i : Nat) (hi : i ≤ t.length) : (∀ s ∈ (secRun t i).1, s.b ≤ s.e) ∧ ∀ n b w, (secRun t i).2 n = some (b, w) → b < i := by
  induction i with
  | zero => exact ⟨fun s hs => by simp [secRun] at hs, fun n b w h => by simp [secRun] at h⟩
  | succ i ih =>
    obtain ⟨h1, h2⟩ := ih (by omega)
    rw [secRun_succ (List.getElem?_eq_getElem (show i < t.length by omega))]
    unfold secStep
    split
    · refine ⟨h1, fun n b w h => ?_⟩
      dsimp only at h
      split at h
      · have := Option.some.inj h
        have : i = b := congrArg Prod.fst this
        omega
      · have := h2 n b w h
        omega
    · split
      · refine ⟨fun s hs => ?_, fun n b w h => by have := h2 n b w h; omega⟩
        dsimp only at hs
        split at hs
        · rename_i p ep
          rcases List.mem_append.mp hs with q | q
          · exact h1 s q
          · rw [List.mem_singleton.mp q]
            have := h2 _ p.1 p.2 ep
            show p.1 ≤ i
            omega
        · exact h1 s hs
      · exact ⟨h1, fun n b w h => by have := h2 n b w h; omega⟩
theorem conts_wf {p : Pr} : ∀ c ∈ conts p, c.ab ≤ c.ae ∧ c.bb ≤ c.be := by
  intro c hc
  unfold conts at hc
  rcases List.mem_append.mp (List.mem_mergeSort.mp hc) with h | h
  · unfold lockCs at h
    obtain ⟨a, ha, h⟩ := List.mem_flatMap.mp h
    obtain ⟨b, hb, h⟩ := List.mem_flatMap.mp h
    unfold lockOne at h
    split at h
    · rw [List.mem_singleton.mp h]
      exact ⟨(secRun_wf p.1.length (Nat.le_refl _)).1 a (List.mem_mergeSort.mp ha), (secRun_wf p.2.length (Nat.le_refl _)).1 b (List.mem_mergeSort.mp hb)⟩
    · cases h
  · unfold dataCs at h
    obtain ⟨a, ha, h⟩ := List.mem_flatMap.mp h
    obtain ⟨b, hb, h⟩ := List.mem_flatMap.mp h
    unfold dataOne at h
    split at h
    · rw [List.mem_singleton.mp h]
      exact ⟨Nat.le_refl _, Nat.le_refl _⟩
    · cases h
end Tw
set_option maxHeartbeats 4000000
namespace Tw
open PySem L2 LamX
/-! ### what is told of data stays where a dict is locked, or unlocked -/
structure ExtD (F F' : Hp) : Prop where
  dic : ∀ a o, IsDic o → Rd F a o → Rd F' a o
  oth : ∀ a o, ¬ IsDic o → (∀ ob u, o ≠ .frz ob u) → F a = some o → F' a = some o
mutual
theorem Im.ext {F F' : Hp} (e : ExtD F F') : ∀ (d : PyData) (v : V), Im F d v → Im F' d v
  | .none, _, h => h
  | .bool _, _, h => h
  | .int _, _, h => h
  | .str _, _, h => h
  | .tuple ds, _, ⟨a, xs, e1, e2, e3⟩ => ⟨a, xs, e1, e.oth _ _ (fun z => z) (fun _ _ z => nomatch z) e2, ImL.ext e ds xs e3⟩
  | .list ds, _, ⟨a, xs, e1, e2, e3⟩ => ⟨a, xs, e1, e.oth _ _ (fun z => z) (fun _ _ z => nomatch z) e2, ImL.ext e ds xs e3⟩
  | .dict kvs, _, ⟨a, xs, e1, e2, e3⟩ => ⟨a, xs, e1, e.dic _ _ trivial e2, ImK.ext e kvs xs e3⟩
theorem ImL.ext {F F' : Hp} (e : ExtD F F') : ∀ (ds : List PyData) (vs : List V), ImL F ds vs → ImL F' ds vs
  | [], _, h => h
  | d :: ds, _, ⟨v, vs, e1, e2, e3⟩ => ⟨v, vs, e1, Im.ext e d v e2, ImL.ext e ds vs e3⟩
theorem ImK.ext {F F' : Hp} (e : ExtD F F') : ∀ (ds : List (PyData × PyData)) (vs : List (Key × V)), ImK F ds vs → ImK F' ds vs
  | [], _, h => h
  | (k, d) :: ds, _, ⟨q, v, vs, e1, e0, e2, e3⟩ => ⟨q, v, vs, e1, e0, Im.ext e d v e2, ImK.ext e ds vs e3⟩
end
theorem DL.ext {F F' : Hp} (e : ExtD F F') : ∀ {ds : Tb Key} {ks : List (Key × V)}, DL F ds ks → DL F' ds ks
  | [], _, h => h
  | (_, _) :: _, _, ⟨v, r, q, m, h⟩ => ⟨v, r, q, m.ext e, DL.ext e h⟩
theorem ExtD.of {F F' : Hp} (e : Ext F F') : ExtD F F' := ⟨fun _ _ _ h => e.rd h, fun _ _ _ _ h => e _ _ h⟩
theorem ExtD.trans {F G H : Hp} (a : ExtD F G) (b : ExtD G H) : ExtD F H := ⟨fun x o i h => b.dic x o i (a.dic x o i h), fun x o n1 n2 h => b.oth x o n1 n2 (a.oth x o n1 n2 h)⟩
-- a dict locked
theorem ext_lock {F : Hp} {d : Addr} {ob : Obj} {u : HO} (h : Rd F d u) (i : IsDic u) : ExtD F (upd F d (.frz ob u)) := by
  refine ⟨fun a o io r => ?_, fun a o n1 n2 r => ?_⟩
  · by_cases e : a = d
    · subst e
      have : o = u := by
        rcases h with q | ⟨ob', q⟩ <;> rcases r with q' | ⟨ob2, q'⟩ <;> rw [q] at q' <;> cases q'
        · rfl
        · exact False.elim i
        · exact False.elim io
        · rfl
      subst this
      exact .inr ⟨ob, upd_same⟩
    · rcases r with q | ⟨ob', q⟩
      · exact .inl (by rw [upd_ne e]; exact q)
      · exact .inr ⟨ob', by rw [upd_ne e]; exact q⟩
  · rw [upd_ne fun z => ?_]
    · exact r
    · subst z
      rcases h with q | ⟨ob', q⟩ <;> rw [q] at r <;> cases r
      · exact n1 i
      · exact n2 _ _ rfl
-- .. and unlocked
theorem ext_unlock {F : Hp} {d : Addr} {ob : Obj} {u : HO} (h : F d = some (.frz ob u)) : ExtD F (upd F d u) := by
  refine ⟨fun a o io r => ?_, fun a o n1 n2 r => ?_⟩
  · by_cases e : a = d
    · subst e
      rcases r with q | ⟨ob', q⟩ <;> rw [h] at q <;> cases q
      · exact False.elim io
      · exact .inl upd_same
    · rcases r with q | ⟨ob', q⟩
      · exact .inl (by rw [upd_ne e]; exact q)
      · exact .inr ⟨ob', by rw [upd_ne e]; exact q⟩
  · rw [upd_ne fun z => by subst z; rw [h] at r; cases r; exact n2 _ _ rfl]
    exact r
-- a new object, with its content told
def EN (T : List (Addr × Str)) (X : Cx) (e : Expr) (σ : St) (F H : Hp) (C : Hp → HO → Prop) : Prop :=
  ∀ F1 H1, Adv T F H F1 H1 → ∀ Q : VK, (∀ a o F2 H2, Adv T F1 H1 F2 H2 → Nw H1 a → F2 a = none → H2 a = some o → C F2 o → Q (.ref a) H2) → rE X e σ H1 Q
-- what a dict comprehension lays
def dcF {α : Type} (kf : α → Key) (r : α → PyData) (xs : List α) : Tb Key := xs.foldl (fun acc x => putD acc (kf x) (r x)) []
theorem dcF_snoc {α : Type} (kf : α → Key) (r : α → PyData) (xs : List α) (x : α) : dcF kf r (xs ++ [x]) = putD (dcF kf r xs) (kf x) (r x) := by
  unfold dcF
  rw [List.foldl_append]
  rfl
theorem dcF_rev {α : Type} (kf : α → Key) (r : α → PyData) (xs : List α) (P : Tb Key → List α → Prop) (h0 : P [] []) (h1 : ∀ (ys : List α) (y : α), P (dcF kf r ys) ys → P (putD (dcF kf r ys) (kf y) (r y)) (ys ++ [y])) : P (dcF kf r xs) xs := by
  have key : ∀ n, P (dcF kf r (xs.take n)) (xs.take n) := by
    intro n
    induction n with
    | zero => exact h0
    | succ n ih =>
      by_cases hn : n < xs.length
      · rw [List.take_add_one, List.getElem?_eq_getElem hn]
        show P (dcF kf r (xs.take n ++ [xs[n]])) (xs.take n ++ [xs[n]])
        rw [dcF_snoc]
        exact h1 _ _ ih
      · rw [List.take_of_length_le (by omega)]
        rw [List.take_of_length_le (by omega)] at ih
        exact ih
  have := key xs.length
  rwa [List.take_length] at this
theorem dcF_len {α : Type} (kf : α → Key) (r : α → PyData) (xs : List α) : (dcF kf r xs).length ≤ xs.length :=
  dcF_rev kf r xs (fun d ys => d.length ≤ ys.length) (Nat.le_refl _) fun ys y h => by
    have := length_putD (dcF kf r ys) (kf y) (r y)
    rw [List.length_append, List.length_singleton]
    omega
theorem dcF_some {α : Type} (kf : α → Key) (r : α → PyData) (xs : List α) (k : Key) : (valD (dcF kf r xs) k).isSome = true ↔ ∃ x ∈ xs, kf x = k :=
  dcF_rev kf r xs (fun d ys => (valD d k).isSome = true ↔ ∃ x ∈ ys, kf x = k) (by simp [valD]) fun ys y h => by
    rw [valD_put]
    by_cases e : k = kf y
    · rw [if_pos e]; simp [e]
    · rw [if_neg e, h]
      simp only [List.mem_append, List.mem_singleton]
      constructor
      · rintro ⟨x, hx, q⟩; exact ⟨x, .inl hx, q⟩
      · rintro ⟨x, hx | hx, q⟩
        · exact ⟨x, hx, q⟩
        · rw [hx] at q; exact absurd q.symm e
def cL (ds : List PyData) : Hp → HO → Prop := fun F o => ∃ xs, o = .lst xs ∧ ImL F ds xs
def cK (ds : Tb Key) : Hp → HO → Prop := fun F o => ∃ ks, o = .dK ks ∧ DL F ds ks
def MonoC (C : Hp → HO → Prop) : Prop := ∀ F F' o, ExtD F F' → C F o → C F' o ∧ ¬ ∃ ob u, o = .frz ob u
theorem mono_cL {ds : List PyData} : MonoC (cL ds) := fun F F' o e ⟨xs, h1, h2⟩ => ⟨⟨xs, h1, ImL.ext e _ _ h2⟩, fun ⟨_, _, z⟩ => by rw [h1] at z; cases z⟩
theorem mono_cK {ds : Tb Key} : MonoC (cK ds) := fun F F' o e ⟨xs, h1, h2⟩ => ⟨⟨xs, h1, h2.ext e⟩, fun ⟨_, _, z⟩ => by rw [h1] at z; cases z⟩
theorem notTbl_frz {ob : Obj} {u : HO} : NotTbl (.frz ob u) := fun _ e => by cases e
theorem mut_frz {ob : Obj} {u : HO} : Mut (.frz ob u) := ⟨notTbl_frz, fun _ _ z => by cases z⟩
theorem ite_yes {A B : Prop} (h : A) : if (true : Bool) = true then A else B := by rw [if_pos rfl]; exact h
theorem upd_upd {H : Hp} {a : Addr} {o : HO} (h : H a = some o) : upd H a o = H := by
  funext x
  by_cases e : x = a
  · subst e; rw [upd_same, h]
  · rw [upd_ne e]
section
variable {T : List (Addr × Str)} {X : Cx} {e a b c tg it kx vx : Expr} {es : List Expr} {σ : St} {F H F' H' : Hp} {P P1 P2 : V → Hp → Prop} {PL : List V → Hp → Prop} {d d1 d2 : PyData} {ds : List PyData} {dk : Tb Key} {v : V} {pos p p2 : Pos} {l q : Addr} {xs : List V} {i j k : Int} {x y z : Str} {rest : List Stmt} {D : Ends} {ks : List (Key × V)} {ob : Obj} {C : Hp → HO → Prop}
theorem EF.en (h : EF T X e σ F H ds) : EN T X e σ F H (cL ds) := fun F1 H1 a1 Q k => h F1 H1 a1 Q fun a xs F2 H2 a2 h1 h2 h3 h4 => k a _ F2 H2 a2 h1 h2 h3 ⟨xs, rfl, h4⟩
theorem EN.ef (h : EN T X e σ F H (cL ds)) : EF T X e σ F H ds := fun F1 H1 a1 Q k => h F1 H1 a1 Q fun a o F2 H2 a2 h1 h2 h3 ⟨xs, h5, h4⟩ => k a xs F2 H2 a2 h1 h2 (by rw [h3, h5]) h4
theorem EN.ed (h : EN T X e σ F H (cK dk)) : ED T X e σ F H (dOf dk) := fun F1 H1 a1 Q k => h F1 H1 a1 Q fun a o F2 H2 a2 hn hF hl ⟨ks, h5, hd⟩ => by
  subst h5
  exact k _ _ _ (a2.set hn hl notTbl_dK) (im_dOf.mpr ⟨a, ks, rfl, .inl upd_same, hd.up fun x o q => by rw [upd_ne (fun z => by rw [z, hF] at q; cases q)]; exact q⟩)
theorem EN.run (h : EN T X e σ F H C) (s : Sub F H) {Q : VK} (k : ∀ a o F2 H2, Adv T F H F2 H2 → Nw H a → F2 a = none → H2 a = some o → C F2 o → Q (.ref a) H2) : rE X e σ H Q := h F H (.refl s) Q k
theorem EF.run (h : EF T X e σ F H ds) (s : Sub F H) {Q : VK} (k : ∀ a xs F2 H2, Adv T F H F2 H2 → Nw H a → F2 a = none → H2 a = some (.lst xs) → ImL F2 ds xs → Q (.ref a) H2) : rE X e σ H Q := h F H (.refl s) Q k
-- e runs while the dict at q is locked
structure Lk (F1 H1 F2 H2 : Hp) (q : Addr) (ob : Obj) (ks : List (Key × V)) : Prop where
  at_ : F2 q = some (.frz ob (.dK ks))
  sub : Sub F2 H2
  ed : ExtD F1 F2
  oth : ∀ a o, ¬ IsDic o → (∀ ob u, o ≠ .frz ob u) → H1 a = some o → H2 a = some o
theorem tabs_lock {H : Hp} {q : Addr} {o o' : HO} (h : H q = some o) (n : Mut o) (t : Tabs T H) : Tabs T (upd H q o') := tabs_upd h n t
theorem unlock_adv {F1 H1 F2 F3 H3 : Hp} (hq : F1 q = some (.dK ks)) (s1 : Sub F1 H1) (lk : H1 q = some (.dK ks)) (a : Adv T (upd F1 q (.frz ob (.dK ks))) (upd H1 q (.frz ob (.dK ks))) F3 H3) (t1 : Tabs T H1 → Tabs T (upd H1 q (.frz ob (.dK ks)))) :
    Adv T F1 H1 (upd F3 q (.dK ks)) (upd H3 q (.dK ks)) := by
  have f3 : F3 q = some (.frz ob (.dK ks)) := a.ff _ _ upd_same
  have h3 : H3 q = some (.frz ob (.dK ks)) := a.sub.at f3
  refine ⟨fun x o hx => ?_, fun x o hx => ?_, fun x o hx n => ?_, fun x o hx => ?_, fun t => ?_⟩
  · by_cases e : x = q
    · subst e; rw [upd_same, ← hq, hx]
    · rw [upd_ne e]; exact a.ff x o (by rw [upd_ne e]; exact hx)
  · by_cases e : x = q
    · subst e; rw [upd_same] at hx ⊢; cases hx; exact ⟨notTbl_dK, .inl rfl⟩
    · rw [upd_ne e] at hx ⊢; exact a.sub x o hx
  · by_cases e : x = q
    · subst e; rw [upd_same, ← lk, hx]
    · rw [upd_ne e]; exact a.hh x o (by rw [upd_ne e]; exact hx) n
  · by_cases e : x = q
    · subst e; rw [upd_same] at hx; exact .inl (by rw [hq, ← hx])
    · rw [upd_ne e] at hx
      rcases a.sep x o hx with z | z | ⟨xs, z1, z2⟩
      · rw [upd_ne e] at z; exact .inl z
      · rw [upd_ne e] at z; exact .inr (.inl z)
      · rw [upd_ne e] at z2; exact .inr (.inr ⟨xs, z1, z2⟩)
  · exact tabs_upd h3 mut_frz (a.tab (t1 t))
theorem en_lock (m : MonoC C) (hq : Rd F q (.dK ks)) (inner : ∀ F1 H1, Adv T F H F1 H1 → ∀ F2 H2 ob, Lk F1 H1 F2 H2 q ob ks → EN T X e σ F2 H2 C) : EN T X e σ F H C := fun F1 H1 a1 Q k => by
  have other : ∀ ob, H1 q = some (.frz ob (.dK ks)) → rE X e σ H1 Q := fun ob hz => by
    have s2 : Sub (upd F1 q (.frz ob (.dK ks))) H1 := fun x o hx => by
      by_cases e : x = q
      · subst e; rw [upd_same] at hx; cases hx; exact ⟨notTbl_frz, .inl hz⟩
      · rw [upd_ne e] at hx; exact a1.sub x o hx
    have lk : Lk F1 H1 (upd F1 q (.frz ob (.dK ks))) H1 q ob ks := ⟨upd_same, s2, ext_lock (a1.ff.rd hq) trivial, fun _ _ _ _ h => h⟩
    refine inner F1 H1 a1 _ _ ob lk _ _ (.refl s2) Q fun a o F3 H3 a3 hn hF hl hc => ?_
    have f3 : F3 q = some (.frz ob (.dK ks)) := a3.ff _ _ upd_same
    have naq : a ≠ q := fun z => by rw [z, f3] at hF; cases hF
    rcases a1.ff.rd hq with z | ⟨ob', z⟩
    · -- the standing part calls it unlocked
      refine k a o (upd F3 q (.dK ks)) H3 ⟨fun x o hx => ?_, fun x o hx => ?_, a3.hh, fun x o hx => ?_, a3.tab⟩ hn (by rw [upd_ne naq]; exact hF) hl (m _ _ _ (ext_unlock f3) hc).1
      · by_cases e : x = q
        · subst e; rw [upd_same, ← z, hx]
        · rw [upd_ne e]; exact a3.ff x o (by rw [upd_ne e]; exact hx)
      · by_cases e : x = q
        · subst e; rw [upd_same] at hx; cases hx; exact ⟨notTbl_dK, .inr ⟨trivial, ob, a3.sub.at f3⟩⟩
        · rw [upd_ne e] at hx; exact a3.sub x o hx
      · by_cases e : x = q
        · subst e; rw [upd_same] at hx; exact .inl (by rw [z, ← hx])
        · rw [upd_ne e] at hx
          rcases a3.sep x o hx with y | y
          · rw [upd_ne e] at y; exact .inl y
          · exact .inr y
    · have hz' := a1.sub.at z
      rw [hz] at hz'
      cases hz'
      have ue : upd F1 q (.frz ob (.dK ks)) = F1 := upd_upd z
      rw [ue] at a3
      exact k a o F3 H3 a3 hn hF hl hc
  rcases a1.ff.rd hq with z | ⟨ob', z⟩
  · rcases (a1.sub _ _ z).2 with hz | ⟨_, ob, hz⟩
    · refine goE (pe_lock pe_r) ⟨q, .dK ks, hz, trivial, fun ob => ?_⟩
      have s2 : Sub (upd F1 q (.frz ob (.dK ks))) (upd H1 q (.frz ob (.dK ks))) := fun x o hx => by
        by_cases e : x = q
        · subst e; rw [upd_same] at hx ⊢; cases hx; exact ⟨notTbl_frz, .inl rfl⟩
        · rw [upd_ne e] at hx ⊢; exact a1.sub x o hx
      have lk : Lk F1 H1 (upd F1 q (.frz ob (.dK ks))) (upd H1 q (.frz ob (.dK ks))) q ob ks := ⟨upd_same, s2, ext_lock (.inl z) trivial, fun x o n1 n2 hx => by
        rw [upd_ne fun w => by rw [w, hz] at hx; cases hx; exact n1 trivial]
        exact hx⟩
      refine inner F1 H1 a1 _ _ ob lk _ _ (.refl s2) _ fun a o F3 H3 a3 hn hF hl hc => ?_
      have f3 : F3 q = some (.frz ob (.dK ks)) := a3.ff _ _ upd_same
      have naq : a ≠ q := fun w => by rw [w, f3] at hF; cases hF
      refine ⟨a3.sub.at f3, k a o (upd F3 q (.dK ks)) _ (unlock_adv (F2 := F1) z a1.sub hz a3 fun t => tabs_upd hz mut_dK t) (fun u hu => ?_) (by rw [upd_ne naq]; exact hF) (by rw [upd_ne naq]; exact hl) (m _ _ _ (ext_unlock f3) hc).1⟩
      exact hn u (by rw [upd_ne naq]; exact hu)
    · exact other ob hz
  · exact other ob' (a1.sub.at z)
theorem ef_lock (hq : Rd F q (.dK ks)) (inner : ∀ F1 H1, Adv T F H F1 H1 → ∀ F2 H2 ob, Lk F1 H1 F2 H2 q ob ks → EF T X e σ F2 H2 ds) : EF T X e σ F H ds := (en_lock mono_cL hq fun F1 H1 a1 F2 H2 ob lk => (inner F1 H1 a1 F2 H2 ob lk).en).ef
-- its keys
theorem wk_keys (h : EV T X it σ F H (.ref q)) (hq : F q = some (.frz ob (.dK ks))) (hd : DL F dk ks) : Wk T X tg it σ F H (dk.map fun r => kE r.1) := by
  refine ⟨_, pi_keys pe_r, fun F1 H1 a1 R k => h F1 H1 a1 _ fun v F2 H2 a2 e1 => ⟨q, ob, e1, .inl ⟨ks, a2.sub.at (a2.ff _ _ (a1.ff _ _ hq)), k _ F2 H2 a2 ?_⟩⟩⟩
  rw [List.length_map, ← hd.length]
  refine walk_keys.mono (fun H' ⟨F', x1, x2⟩ => x2.at (x1 _ _ (a2.ff _ _ (a1.ff _ _ hq)))) fun i H' x H'' hi _ ⟨q1, kk, w, q2, q3⟩ F' x1 x2 => ?_
  refine ⟨F', kE kk, by rw [q1]; exact .refl x2, ?_, ?_⟩
  · have h1 := congrArg (fun l => l[i]?) hd.keys
    simp only [List.getElem?_map, q2] at h1
    rw [List.getElem?_map]
    cases e : dk[i]? with
    | none => rw [e] at h1; cases h1
    | some r =>
      rw [e] at h1
      have : kk = r.1 := by simpa using h1
      rw [this]; rfl
  · rw [q3]; cases kk <;> rfl
/-! ### dict comprehensions -/
theorem en_dc {α : Type} {enc : α → PyData} {xs : List α} {bs : α → Bs} {scope : Scope} {own : List (Str × Nat)} (hc : X.calm = true) (hN : X.N.Nodup) (ok : blkC X.N X.env.scope scope own = true) (w : Wk T X tg it σ F H (xs.map enc)) (hb : ∀ x ∈ xs, ∀ i ∈ (bs x).map (·.1), i ∈ own.map (·.2))
    (kf : α → Key) (r : α → PyData)
    (turn : ∀ (s : Shared) (Hb : Hp) (C : Addr) (cl : List (Str × Addr)) (fp : List Addr), ∀ x ∈ xs, GT (bkX X scope s Hb C cl fp) tg (enc x) (bs x) ∧ ∀ F1 H1, Adv T F H F1 H1 → ∀ vs, ImL F1 ((bs x).map (·.2)) vs →
      ED T (bkX X scope s Hb C cl fp) kx (sets (wipe σ (own.map (·.2))) ((bs x).map (·.1)) vs) F1 H1 (kE (kf x)) ∧ ED T (bkX X scope s Hb C cl fp) vx (sets (wipe σ (own.map (·.2))) ((bs x).map (·.1)) vs) F1 H1 (r x))
    (hl : xs.length ≤ sizeLine) (nd : (xs.map kf).Nodup) (hs : ∀ x, foldedSetIterable it X.env x = pure x := by intro _; rfl) : EN T X (.DictComp kx vx [Comprehension.mk tg it [] 0] scope pos) σ F H (cK (xs.map fun x => (kf x, r x))) := by
  obtain ⟨wi, hi, hw⟩ := w
  intro F1 H1 a1 Q k
  let g : TG := fun v σ H Q => ∀ s Hb C cl fp, rG (bkX X scope s Hb C cl fp) tg v σ H Q
  let tk : TE := fun σ H Q => ∀ s Hb C cl fp, rE (bkX X scope s Hb C cl fp) kx σ H Q
  let te : TE := fun σ H Q => ∀ s Hb C cl fp, rE (bkX X scope s Hb C cl fp) vx σ H Q
  refine goE (pe_dc (g := g) (tt := tYes) (tk := tk) (tv := te) hc hN hi (blkOk_by ok) (fun s Hb C cl fp => ⟨fun pins s1 σ H v u Q I r h => h s Hb C cl fp pins s1 u I r⟩) (fun s Hb C cl fp => pts_nil (X := bkX X scope s Hb C cl fp)) (fun s Hb C cl fp => ⟨fun pins s1 σ H Q I h => h s Hb C cl fp pins s1 I⟩) (fun s Hb C cl fp => ⟨fun pins s1 σ H Q I h => h s Hb C cl fp pins s1 I⟩) hs) ?_
  refine hw F1 H1 a1 _ fun J0 F2 H2 a2 wk => ?_
  rw [List.length_map] at wk
  intro Dl hD
  have lay : Adv T F2 H2 F2 (upd H2 Dl (.dK [])) := Adv.lay a2.sub hD
  refine ⟨fun i m H' => m = xs.length - i ∧ i ≤ xs.length ∧ ∃ F', Adv T F2 H2 F' H' ∧ F' Dl = none ∧ ∃ acc, H' Dl = some (.dK acc) ∧ DL F' ((xs.take i).map fun x => (kf x, r x)) acc, ⟨_, rfl, Nat.zero_le _, F2, lay, a2.sub.offN hD, [], upd_same, rfl⟩, ?_⟩
  rintro i m H3 ⟨rfl, hi, F', x1, x2, acc, x3, x4⟩
  have good : GD F2 H3 := ⟨F', x1.ff, x1.sub⟩
  by_cases hlt : i < xs.length
  · refine .inr ⟨wk.goes i H3 hlt good, fun H' => ∃ F', Adv T F2 H2 F' H' ∧ F' Dl = none ∧ ∃ acc, H' Dl = some (.dK acc) ∧ DL F' ((xs.take (i + 1)).map fun x => (kf x, r x)) acc, fun H' h => ⟨xs.length - (i + 1), by omega, rfl, hlt, h⟩, fun y H' hy => ?_⟩
    obtain ⟨F'', d, ad, hd, im⟩ := (wk.yields i H3 y H' hlt good hy) F' x1.ff x1.sub
    have hx : xs[i]? = some xs[i] := List.getElem?_eq_getElem hlt
    have hm := List.getElem_mem hlt
    rw [List.getElem?_map, hx] at hd
    obtain rfl : enc xs[i] = d := Option.some.inj hd
    intro s Hb C cl fp
    refine (turn s Hb C cl fp _ hm).1 F'' H' y _ _ ad.sub im fun vs hvs => ⟨wipe_sets _ _ _ _ (hb _ hm), ?_⟩
    show tk (sets (wipe σ (own.map (·.2))) ((bs xs[i]).map (·.1)) vs) H' _
    intro s Hb C cl fp
    have a3 := (a1.trans a2).trans (x1.trans ad)
    refine ((turn s Hb C cl fp _ hm).2 F'' H' a3 vs hvs).1 F'' H' (.refl ad.sub) _ fun v1 F4 H4 a4 i1 => ?_
    intro s Hb C cl fp
    refine ((turn s Hb C cl fp _ hm).2 F4 H4 (a3.trans a4) vs (hvs.up a4.ff)).2 F4 H4 (.refl a4.sub) _ fun v2 F5 H5 a5 i2 => ?_
    obtain ⟨o1, o2⟩ := (ad.trans (a4.trans a5)).off x2 x3 notTbl_dK
    have ht : xs.take (i + 1) = xs.take i ++ [xs[i]] := by rw [List.take_add_one, hx]; rfl
    have nw : valD ((xs.take i).map fun x => (kf x, r x)) (kf xs[i]) = none := by
      have : kf xs[i] ∉ (((xs.take i).map fun x => (kf x, r x)).map (·.1)) := fun hmem => by
        rw [List.map_map] at hmem
        have e : xs.map kf = (xs.take i).map kf ++ (xs.drop i).map kf := by rw [← List.map_append, List.take_append_drop]
        rw [e] at nd
        have hd2 : kf xs[i] ∈ (xs.drop i).map kf := by
          rw [List.drop_eq_getElem_cons hlt]
          exact List.mem_cons_self ..
        exact (List.nodup_append.mp nd).2.2 _ hmem _ hd2 rfl
      exact valD_none this
    have dl := (x4.up (ad.trans (a4.trans a5)).ff).put (k := kf xs[i]) i2
    rw [putD_new nw] at dl
    refine ⟨acc, kf xs[i], im_key i1, o2, ?_, F5, (x1.trans (ad.trans (a4.trans a5))).mut (Nw.of hD) o1 o2 mut_dK, o1, _, upd_same, ?_⟩
    · rw [x4.length, List.length_map, List.length_take]; omega
    · rw [ht, List.map_append]
      exact dl
  · have e : i = xs.length := by omega
    subst e
    rw [List.take_length] at x4
    exact .inl ⟨wk.stops H3 good, k Dl _ F' H3 (a2.trans x1) (Nw.back a2 (.of hD)) x2 x3 ⟨acc, rfl, x4⟩⟩
theorem en_dcG {α : Type} {enc : α → PyData} {xs : List α} {bs : α → Bs} {scope : Scope} {own : List (Str × Nat)} (hc : X.calm = true) (hN : X.N.Nodup) (ok : blkC X.N X.env.scope scope own = true) (w : Wk T X tg it σ F H (xs.map enc)) (hb : ∀ x ∈ xs, ∀ i ∈ (bs x).map (·.1), i ∈ own.map (·.2))
    (kf : α → Key) (r : α → PyData)
    (turn : ∀ (s : Shared) (Hb : Hp) (C : Addr) (cl : List (Str × Addr)) (fp : List Addr), ∀ x ∈ xs, GT (bkX X scope s Hb C cl fp) tg (enc x) (bs x) ∧ ∀ F1 H1, Adv T F H F1 H1 → ∀ vs, ImL F1 ((bs x).map (·.2)) vs →
      ED T (bkX X scope s Hb C cl fp) kx (sets (wipe σ (own.map (·.2))) ((bs x).map (·.1)) vs) F1 H1 (kE (kf x)) ∧ ED T (bkX X scope s Hb C cl fp) vx (sets (wipe σ (own.map (·.2))) ((bs x).map (·.1)) vs) F1 H1 (r x))
    (hl : xs.length ≤ sizeLine) (hs : ∀ x, foldedSetIterable it X.env x = pure x := by intro _; rfl) : EN T X (.DictComp kx vx [Comprehension.mk tg it [] 0] scope pos) σ F H (cK (dcF kf r xs)) := by
  obtain ⟨wi, hi, hw⟩ := w
  intro F1 H1 a1 Q k
  let g : TG := fun v σ H Q => ∀ s Hb C cl fp, rG (bkX X scope s Hb C cl fp) tg v σ H Q
  let tk : TE := fun σ H Q => ∀ s Hb C cl fp, rE (bkX X scope s Hb C cl fp) kx σ H Q
  let te : TE := fun σ H Q => ∀ s Hb C cl fp, rE (bkX X scope s Hb C cl fp) vx σ H Q
  refine goE (pe_dc (g := g) (tt := tYes) (tk := tk) (tv := te) hc hN hi (blkOk_by ok) (fun s Hb C cl fp => ⟨fun pins s1 σ H v u Q I r h => h s Hb C cl fp pins s1 u I r⟩) (fun s Hb C cl fp => pts_nil (X := bkX X scope s Hb C cl fp)) (fun s Hb C cl fp => ⟨fun pins s1 σ H Q I h => h s Hb C cl fp pins s1 I⟩) (fun s Hb C cl fp => ⟨fun pins s1 σ H Q I h => h s Hb C cl fp pins s1 I⟩) hs) ?_
  refine hw F1 H1 a1 _ fun J0 F2 H2 a2 wk => ?_
  rw [List.length_map] at wk
  intro Dl hD
  have lay : Adv T F2 H2 F2 (upd H2 Dl (.dK [])) := Adv.lay a2.sub hD
  refine ⟨fun i m H' => m = xs.length - i ∧ i ≤ xs.length ∧ ∃ F', Adv T F2 H2 F' H' ∧ F' Dl = none ∧ ∃ acc, H' Dl = some (.dK acc) ∧ DL F' (dcF kf r (xs.take i)) acc, ⟨_, rfl, Nat.zero_le _, F2, lay, a2.sub.offN hD, [], upd_same, rfl⟩, ?_⟩
  rintro i m H3 ⟨rfl, hi, F', x1, x2, acc, x3, x4⟩
  have good : GD F2 H3 := ⟨F', x1.ff, x1.sub⟩
  by_cases hlt : i < xs.length
  · refine .inr ⟨wk.goes i H3 hlt good, fun H' => ∃ F', Adv T F2 H2 F' H' ∧ F' Dl = none ∧ ∃ acc, H' Dl = some (.dK acc) ∧ DL F' (dcF kf r (xs.take (i + 1))) acc, fun H' h => ⟨xs.length - (i + 1), by omega, rfl, hlt, h⟩, fun y H' hy => ?_⟩
    obtain ⟨F'', d, ad, hd, im⟩ := (wk.yields i H3 y H' hlt good hy) F' x1.ff x1.sub
    have hx : xs[i]? = some xs[i] := List.getElem?_eq_getElem hlt
    have hm := List.getElem_mem hlt
    rw [List.getElem?_map, hx] at hd
    obtain rfl : enc xs[i] = d := Option.some.inj hd
    intro s Hb C cl fp
    refine (turn s Hb C cl fp _ hm).1 F'' H' y _ _ ad.sub im fun vs hvs => ⟨wipe_sets _ _ _ _ (hb _ hm), ?_⟩
    show tk (sets (wipe σ (own.map (·.2))) ((bs xs[i]).map (·.1)) vs) H' _
    intro s Hb C cl fp
    have a3 := (a1.trans a2).trans (x1.trans ad)
    refine ((turn s Hb C cl fp _ hm).2 F'' H' a3 vs hvs).1 F'' H' (.refl ad.sub) _ fun v1 F4 H4 a4 i1 => ?_
    intro s Hb C cl fp
    refine ((turn s Hb C cl fp _ hm).2 F4 H4 (a3.trans a4) vs (hvs.up a4.ff)).2 F4 H4 (.refl a4.sub) _ fun v2 F5 H5 a5 i2 => ?_
    obtain ⟨o1, o2⟩ := (ad.trans (a4.trans a5)).off x2 x3 notTbl_dK
    have ht : xs.take (i + 1) = xs.take i ++ [xs[i]] := by rw [List.take_add_one, hx]; rfl
    have dl := (x4.up (ad.trans (a4.trans a5)).ff).put (k := kf xs[i]) i2
    refine ⟨acc, kf xs[i], im_key i1, o2, ?_, F5, (x1.trans (ad.trans (a4.trans a5))).mut (Nw.of hD) o1 o2 mut_dK, o1, _, upd_same, ?_⟩
    · have q1 := dcF_len kf r (xs.take i)
      rw [List.length_take] at q1
      rw [x4.length]; omega
    · rw [ht, dcF_snoc]
      exact dl
  · have e : i = xs.length := by omega
    subst e
    rw [List.take_length] at x4
    exact .inl ⟨wk.stops H3 good, k Dl _ F' H3 (a2.trans x1) (Nw.back a2 (.of hD)) x2 x3 ⟨acc, rfl, x4⟩⟩
end
end Tw
namespace Tw
open PySem PySem.Spec PyProof.Rows L2 LamX
structure CI (K : PySem.W.Frag) (mg : Str → Option Value) (x : Str) (C : Addr) (qual : Str) (st : Stmt) : Prop where
  gl : mg x = some (.ref C)
  cls : Cls K C
  ex : ∃ f fd, FunD K "__init__" qual (defArgs st) (defBody st) (defScope st) [] [] f fd ∧ Mk K C f
structure CM (K : PySem.W.Frag) (C : Addr) (m qual : Str) (st : Stmt) : Prop where
  cls : Cls K C
  ex : ∃ f fd, FunD K m qual (defArgs st) (defBody st) (defScope st) [] [] f fd ∧ Meth K C m f
theorem binds_of {K : PySem.W.Frag} {x qual : Str} {st : Stmt} {f : Addr} {fd : FuncData} {ps : List Str} (F : FunD K x qual (defArgs st) (defBody st) (defScope st) [] [] f fd)
    (hbd : ∀ (kV doc pm : Value) (an : Option Addr) (cdv ct : Value) (us : List Value), us.length = ps.length → bindArgs (PySem.W.fnOf x qual (defArgs st) (defBody st) (defScope st) .none kV doc pm an cdv ct) ⟨us, []⟩ = pure (ps.zip us)) : Binds K fd ps [] := by
  obtain ⟨oc, od, dV, kV, doc, pm, an, cdv, ct, osl, rfl, lk, hcd, hD, _⟩ := F.ex
  obtain rfl : dV = .none := by
    rcases hD with z | z
    · exact z.2
    · exact absurd rfl z.1
  exact .all (hbd kV doc pm an cdv ct)
structure Mak (P : Program) (w : World) (K : PySem.W.Frag) (mg : Str → Option Value) (base : Heap) (k : Nat) (x : Str) (C : Addr) (ps : List Str) (sp : Sp) : Prop where
  ex : ∃ f fd, Mk K C f ∧ FnOk P w K mg base L2.CX0 k f fd ps sp ∧ mg x = some (.ref C) ∧ Binds K fd ps []
structure Met (P : Program) (w : World) (K : PySem.W.Frag) (mg : Str → Option Value) (base : Heap) (k : Nat) (C : Addr) (m : Str) (ps : List Str) (sp : Sp) : Prop where
  ex : ∃ f fd, Cls K C ∧ Meth K C m f ∧ FnOk P w K mg base L2.CX0 k f fd ps sp ∧ Binds K fd ps []
section
variable {P : Program} {w : World} {K : PySem.W.Frag} {mg : Str → Option Value} {base : Heap}
theorem mak_of {x qual : Str} {C : Addr} {st : Stmt} {N ps : List Str} {k : Nat} {sp : Sp} (h : CI K mg x C qual st) (S : FnScope N ps (defScope st)) (len : ∀ vs H Q E, sp vs H Q E → vs.length = ps.length)
    (hbd : ∀ (kV doc pm : Value) (an : Option Addr) (cdv ct : Value) (us : List Value), us.length = ps.length → bindArgs (PySem.W.fnOf "__init__" qual (defArgs st) (defBody st) (defScope st) .none kV doc pm an cdv ct) ⟨us, []⟩ = pure (ps.zip us))
    (hbody : ∀ (f : Addr) (cdv : Value) (A : Around) (outer : List Env) (s : Shared) (H : Hp) (vs : List V) (Q : VK) (E : XK), Room k (A.deeper (envOfC qual (defScope st) s.heap.objs.size f cdv)) → sp vs H Q E →
      rB (cxOf L2.CX0 P w K mg base N qual (defScope st) f cdv A outer s H E).nox (defBody st) { nx := fun _ H' => Q .non H', rt := Q } (start N vs) H) : Mak P w K mg base (k + 1) x C ps sp := by
  obtain ⟨f, fd, F, M⟩ := h.ex
  exact ⟨f, fd, M, F.ok S len fun cdv A outer s H vs Q E hr h => ⟨_, PSs.nox pss_r, hbody f cdv A outer s H vs Q E hr h⟩, h.gl, binds_of F hbd⟩
theorem met_of {m qual : Str} {C : Addr} {st : Stmt} {N ps : List Str} {k : Nat} {sp : Sp} (h : CM K C m qual st) (S : FnScope N ps (defScope st)) (len : ∀ vs H Q E, sp vs H Q E → vs.length = ps.length)
    (hbd : ∀ (kV doc pm : Value) (an : Option Addr) (cdv ct : Value) (us : List Value), us.length = ps.length → bindArgs (PySem.W.fnOf m qual (defArgs st) (defBody st) (defScope st) .none kV doc pm an cdv ct) ⟨us, []⟩ = pure (ps.zip us))
    (hbody : ∀ (f : Addr) (cdv : Value) (A : Around) (outer : List Env) (s : Shared) (H : Hp) (vs : List V) (Q : VK) (E : XK), Room k (A.deeper (envOfC qual (defScope st) s.heap.objs.size f cdv)) → sp vs H Q E →
      rB (cxOf L2.CX0 P w K mg base N qual (defScope st) f cdv A outer s H E).nox (defBody st) { nx := fun _ H' => Q .non H', rt := Q } (start N vs) H) : Met P w K mg base (k + 1) C m ps sp := by
  obtain ⟨f, fd, F, M⟩ := h.ex
  exact ⟨f, fd, h.cls, M, F.ok S len fun cdv A outer s H vs Q E hr h => ⟨_, PSs.nox pss_r, hbody f cdv A outer s H vs Q E hr h⟩, binds_of F hbd⟩
end
-- a new instance at work: what it is given, what it comes to
def spI (T : List (Addr × Str)) (C : Addr) (R : List PyData → (Addr → Hp → Prop) → Prop) : Sp := fun vs H Q _ => ∃ F Hc x dx args ds post, vs = .ref x :: args ∧ Adv T F Hc F H ∧ Nw Hc x ∧ F x = none ∧ H x = some (.ins C dx []) ∧ ImL F ds args ∧ R ds post ∧ ∀ F' H', Adv T F Hc F' H' → post x F' → Q .non H'
theorem len_spI {T : List (Addr × Str)} {C : Addr} {R : List PyData → (Addr → Hp → Prop) → Prop} {n : Nat} (h : ∀ ds p, R ds p → ds.length = n) : ∀ vs H Q E, spI T C R vs H Q E → vs.length = n + 1 := fun vs H Q E ⟨F, Hc, x, dx, args, ds, post, e, _, _, _, _, hv, r, _⟩ => by rw [e, List.length_cons, hv.length, h ds post r]
section
variable {T : List (Addr × Str)} {X : Cx} {e a b c : Expr} {es : List Expr} {σ : L2.St} {F H F' H' : Hp} {P P1 P2 : V → Hp → Prop} {PL : List V → Hp → Prop} {d d1 d2 : PyData} {ds : List PyData} {v : V} {pos p p2 : Pos} {l o C dx : Addr} {xs : List V} {i j : Int} {x y z m f : Str} {rest : List Stmt} {D : Ends} {fs : List (Str × V)} {k n : Nat} {sp : Sp}
theorem ex_make {R : List PyData → (Addr → Hp → Prop) → Prop} {post : Addr → Hp → Prop} {ps : List Str} (c : Mak X.prog X.w X.K X.mg X.base k x C ps (spI T C R)) (hr : Room n X.A) (ha : EDs T X (e :: es) σ F H ds) (r : R ds post) (hk : k + 1 ≤ n := by decide) (hg : Gl X x := by rfl)
    (hdb : (x == ("__debug__" : Str)) = false := by decide) (he : starEach (e :: es) X.env = (false, eval e X.env) :: starEach es X.env := by rfl) (hpl : (backTo pos (starEach es X.env)).any (·.1) = false := by rfl) : EX T X (.Call (.Name x p) (e :: es) [] pos) σ F H (fun v F => ∃ o, v = .ref o ∧ post o F) :=
  fun F1 H1 a1 Q q => by
   obtain ⟨f, fd, M, FO, hm, b⟩ := c.ex
   exact goE (pe_make M FO (hr.mono hk) hg hm b .nil L2.pass0 pa_r hdb he hpl) (ha F1 H1 a1 _ fun vs F2 H2 a2 hv => fun o dx ho hdx hne => by
    have l1 : Adv T F2 H2 F2 (upd H2 dx (.own o)) := Adv.lay a2.sub hdx
    have l2 : Adv T F2 (upd H2 dx (.own o)) F2 (upd (upd H2 dx (.own o)) o (.ins C dx [])) := Adv.lay l1.sub (by rw [upd_ne hne.symm]; exact ho)
    exact ⟨F2, H2, o, dx, vs, ds, post, by rw [List.append_nil], l1.trans l2, .of ho, a2.sub.offN ho, upd_same, hv, r, fun F' H' a' h' => ⟨rfl, q _ F' H' (a2.trans a') ⟨o, rfl, h'⟩⟩⟩)
theorem rx_meth {Q : VK} {pl : Sem Bool} {ps : List Str} (c : Met X.prog X.w X.K X.mg X.base k C m ps sp) (hr : Room n X.A) (h : rE X a σ H fun u H1 => ∃ o dx fs, u = .ref o ∧ H1 o = some (.ins C dx fs) ∧ fs.lookup m = none ∧ rA X (e :: es) σ H1 fun vs H2 => sp (.ref o :: vs) H2 Q L2.E0) (hk : k ≤ n := by decide)
    (hst : starEach (e :: es) X.env = (false, eval e X.env) :: starEach es X.env := by rfl) (hpl : (backTo pos (starEach es X.env)).any (·.1) = false := by rfl)
    (ht : eval (.Call (.Attribute a m p) (e :: es) [] pos) X.env = (do
      let ov ← eval a X.env
      standAt p.atName
      let (f, first) ← holding [ov] (getMethod ov m pl)
      callWith pos f first (backTo pos (starEach (e :: es) X.env)) (backToKw pos (keywordEach [] X.env))) := by rfl) : rE X (.Call (.Attribute a m p) (e :: es) [] pos) σ H Q :=
  by
    obtain ⟨f, fd, hc, hM, FO, b⟩ := c.ex
    refine goE (pe_meth (pl := pl) pe_r hc hM FO (hr.mono hk) b .nil L2.pass0 pa_r hst hpl ht) ?_
    refine fun pins s I => wpAny_mono (h pins s I) (fun u s' ⟨v, H1, I1, r, o, dx, fs, e1, e2, e3, q⟩ => ⟨v, H1, I1, r, o, dx, fs, e1, e2, e3, ?_⟩) fun _ _ z => z
    subst e1
    simpa only [List.append_nil] using q
theorem rx_meth0 {Q : VK} {pl : Sem Bool} {ps : List Str} (c : Met X.prog X.w X.K X.mg X.base k C m ps sp) (hr : Room n X.A) (h : rE X a σ H fun u H1 => ∃ o dx fs, u = .ref o ∧ H1 o = some (.ins C dx fs) ∧ fs.lookup m = none ∧ sp [.ref o] H1 Q L2.E0) (hk : k ≤ n := by decide)
    (ht : eval (.Call (.Attribute a m p) [] [] pos) X.env = (do
      let ov ← eval a X.env
      standAt p.atName
      let (f, first) ← holding [ov] (getMethod ov m pl)
      callWith pos f first (backTo pos (starEach [] X.env)) (backToKw pos (keywordEach [] X.env))) := by rfl) : rE X (.Call (.Attribute a m p) [] [] pos) σ H Q :=
  by
    obtain ⟨f, fd, hc, hM, FO, b⟩ := c.ex
    refine goE (pe_meth0 (pl := pl) pe_r hc hM FO (hr.mono hk) b .nil L2.pass0 ht) ?_
    refine fun pins s I => wpAny_mono (h pins s I) (fun u s' ⟨v, H1, I1, r, o, dx, fs, e1, e2, e3, q⟩ => ⟨v, H1, I1, r, o, dx, fs, e1, e2, e3, ?_⟩) fun _ _ z => z
    subst e1
    exact q
-- a method of an instance that stands: data in, data out
def spM (T : List (Addr × Str)) (C : Addr) (R : (Addr → Hp → Prop) → List PyData → PyData → Prop) : Sp := fun vs H Q _ => ∃ F x args ds d inv, vs = .ref x :: args ∧ Sub F H ∧ inv x F ∧ ImL F ds args ∧ R inv ds d ∧ ∀ v F' H', Adv T F H F' H' → Im F' d v → Q v H'
-- o.f = e
theorem b_fld (he : EX T X e σ F H P) (ha : EV T X a σ F H (.ref o)) (ho : H o = some (.ins C dx fs)) (hF : F o = none) (hC : Cls X.K C) (hn : NoAttr X.K C f) (hl : fs.length < 1000) (s : Sub F H)
    (q : ∀ v F1 H1, Adv T F H F1 H1 → P v F1 → F1 o = none → H1 o = some (.ins C dx fs) → Sub F1 (upd H1 o (.ins C dx (putF f v fs))) → rB X rest D σ (upd H1 o (.ins C dx (putF f v fs)))) (m : Mono P)
    (hs : swapsWith e (some (.Attribute a f p)) pos.line X.env = pure false := by rfl) : rB X (.Assign [.Attribute a f p] e pos :: rest) D σ H :=
  goC (ps_fld pe_r pe_r hs) (he F H (.refl s) _ fun v F1 H1 a1 q1 => ha F1 H1 a1 _ fun u F2 H2 a2 q2 => by
    obtain ⟨o1, o2⟩ := (a1.trans a2).off hF ho notTbl_ins
    exact ⟨o, C, dx, fs, q2, o2, hC, hn, hl, q v F2 H2 (a1.trans a2) (m _ _ _ a2.ff q1) o1 o2 (a2.sub.updO o1)⟩)
-- an item of a standing list, by its address
theorem ev_ixl (ha : EV T X a σ F H (.ref l)) (hl : F l = some (.lst xs)) (hb : ED T X b σ F H (.int i)) (h : atI xs i = some v) (hs : PlainIx b := by exact fun _ _ => rfl) : EV T X (.Subscript a b pos) σ F H v :=
  ex_op2 (pe_ix ix_list pe_r pe_r hs) ha hb mono_eq fun x y F1 H1 a1 h1 h2 Q k => ⟨l, xs, i, v, h1, h2, SqL.of (a1.sub.at (a1.ff _ _ hl)), h, k v F1 H1 (.refl a1.sub) rfl⟩
end
end Tw
namespace Tw
open PySem PySem.Spec PyProof.Rows L2 LamX
def tupD (l : List Nat) : PyData := .tuple (l.map fun i => PyData.int (i : Nat))
-- each once, in order
def onceL (ls : List (List Nat)) : List (List Nat) := ls.foldr (fun l acc => if l ∈ acc then acc else l :: acc) []
def uniqS (ls : List (List Nat)) : List (List Nat) := (onceL ls).mergeSort (PySem.W.dataLe false tupD)
theorem mem_onceL {l : List Nat} : ∀ {ls : List (List Nat)}, l ∈ onceL ls ↔ l ∈ ls
  | [] => Iff.rfl
  | x :: ls => by
    have ih := mem_onceL (l := l) (ls := ls)
    unfold onceL at ih ⊢
    rw [List.foldr_cons]
    split
    · rename_i h
      constructor
      · intro q; exact List.mem_cons_of_mem _ (ih.mp q)
      · intro q
        rcases List.mem_cons.mp q with e | q
        · rw [e]; exact h
        · exact ih.mpr q
    · simp only [List.mem_cons, ih]
theorem len_onceL : ∀ (ls : List (List Nat)), (onceL ls).length ≤ ls.length
  | [] => Nat.le_refl _
  | x :: ls => by
    have ih := len_onceL ls
    unfold onceL at ih ⊢
    rw [List.foldr_cons]
    split
    · rw [List.length_cons]; omega
    · rw [List.length_cons, List.length_cons]; omega
theorem mem_uniqS {l : List Nat} {ls : List (List Nat)} : l ∈ uniqS ls ↔ l ∈ ls := by
  unfold uniqS
  rw [List.mem_mergeSort, mem_onceL]
theorem len_uniqS (ls : List (List Nat)) : (uniqS ls).length ≤ ls.length := by
  unfold uniqS
  rw [List.length_mergeSort]
  exact len_onceL ls
end Tw
set_option maxHeartbeats 1000000
namespace Tw
open PySem PySem.Spec PyProof.Rows L2
/-! ### tables of sets with up to 512 slots (HandS.TupSets stops at 128) -/
def ring : Nat → Nat → List Nat
  | 0, _ => []
  | n + 1, x => x :: ring n ((x * 5 + 1) % 512)
theorem ring_mem {j : Nat} : ∀ (n c : Nat), j ∈ ring n (lcgN 511 c) → ∃ b, b < n ∧ lcgN 511 (c + b) = j
  | 0, _, h => by cases h
  | n + 1, c, h => by
    rcases List.mem_cons.mp h with e | h
    · exact ⟨0, Nat.succ_pos n, e.symm⟩
    · obtain ⟨b, hb, e⟩ := ring_mem n (c + 1) h
      exact ⟨b + 1, Nat.succ_lt_succ hb, by rw [show c + (b + 1) = c + 1 + b by omega]; exact e⟩
theorem ring_all : ((List.range 512).all fun j => (ring 512 0).contains j) = true := by decide +kernel
theorem ring_back : lcgN 511 512 = 0 := by decide +kernel
theorem ring_mod : ∀ k, lcgN 511 (512 + k) = lcgN 511 k
  | 0 => ring_back
  | k + 1 => congrArg (fun x => (x * 5 + 1) % 512) (ring_mod k)
theorem ring_at {j : Nat} (h : j ≤ 511) : ∃ b, b < 512 ∧ lcgN 511 b = j := by
  have q := List.all_eq_true.mp ring_all j (List.mem_range.mpr (by omega))
  obtain ⟨b, hb, e⟩ := ring_mem 512 0 (List.contains_iff_mem.mp q)
  exact ⟨b, hb, by rwa [Nat.zero_add] at e⟩
theorem ring_to {i j : Nat} (hi : i ≤ 511) (hj : j ≤ 511) : ∃ k, k ≤ 511 ∧ lcgI 511 i k = j := by
  obtain ⟨p, hp, rfl⟩ := ring_at hi
  obtain ⟨q, hq, rfl⟩ := ring_at hj
  by_cases c : p ≤ q
  · exact ⟨q - p, by omega, by rw [lcgN_add, show p + (q - p) = q by omega]⟩
  · exact ⟨512 + q - p, by omega, by rw [lcgN_add, show p + (512 + q - p) = 512 + q by omega, ring_mod]⟩
-- the masks that come
def Msk (m : Nat) : Prop := MaskOk m ∨ m = 511
theorem Msk.le {m : Nat} (h : Msk m) : m ≤ 511 := by
  rcases h with (h | h | h) | h <;> omega
theorem Msk.odd {m : Nat} (h : Msk m) : m % 2 = 1 := by
  rcases h with (h | h | h) | h <;> subst h <;> rfl
theorem Msk.run {m : Nat} (hm : Msk m) (h : Int) {j : Nat} (hj : j ≤ m) : ∃ n, n ≤ m + 12 ∧ runI m (SetTable.bits h) n = j := by
  rcases hm with hm | rfl
  · exact run_meets hm h hj
  · obtain ⟨k, hk, e⟩ := ring_to (runI_le 511 (SetTable.bits h) 12) hj
    exact ⟨12 + k, by omega, (runI_tail (bits_lt h) k).trans e⟩
-- the steps of a search for the hash h
abbrev stp (m : Nat) (h : Int) (c : Nat) : SetTable.Probe := nth m (runAt m (SetTable.bits h % (m + 1)) (SetTable.bits h)) c
theorem stp_dummy {m : Nat} {h : Int} : ∀ c, (stp m h c).dummy = none
  | 0 => rfl
  | c + 1 => by
    show (nth m _ (c + 1)).dummy = none
    rw [nth_succ]
    have ih := stp_dummy (m := m) (h := h) c
    unfold adv
    split
    · exact ih
    · exact ih
theorem way_in {m : Nat} {h : Int} (c : Nat) : way m h c ≤ m := by
  have hi : SetTable.bits h % (m + 1) ≤ m := Nat.le_of_lt_succ (Nat.mod_lt _ (Nat.succ_pos m))
  have he := runEnd_bd hi
  have q := nth_in (m := m) c (runAt m (SetTable.bits h % (m + 1)) (SetTable.bits h)) (show SetTable.bits h % (m + 1) + (SetTable.runEnd m (SetTable.bits h % (m + 1)) - SetTable.bits h % (m + 1)) ≤ m by omega)
  exact Nat.le_trans (Nat.le_add_right _ _) q
-- where the n-th run begins: off n
theorem way_off {m : Nat} {h : Int} (n : Nat) : way m h (off m (SetTable.bits h % (m + 1)) (SetTable.bits h) n) = runI m (SetTable.bits h) n := by
  show (nth m _ _).j = _
  rw [nth_off, itL_run]
  rfl
theorem Msk.meets {m : Nat} (hm : Msk m) (h : Int) {j : Nat} (hj : j ≤ m) : ∃ k, k < 10 * SetTable.turns m ∧ way m h k = j := by
  obtain ⟨n, hn, e⟩ := hm.run h hj
  obtain ⟨k, hk, e2⟩ := run_nth m (SetTable.bits h) n
  refine ⟨k, ?_, ?_⟩
  · unfold SetTable.turns
    omega
  · show (nth m _ k).j = j
    rw [e2]
    exact e
-- j comes on the way of h, behind slots of P alone
def Rch (m : Nat) (P : Nat → Prop) (h : Int) (j : Nat) : Prop := ∃ k, way m h k = j ∧ ∀ c, c < k → P (way m h c)
theorem Rch.mono {m : Nat} {P P' : Nat → Prop} {h : Int} {j : Nat} (r : Rch m P h j) (q : ∀ x, P x → P' x) : Rch m P' h j := r.elim fun k z => ⟨k, z.1, fun c hc => q _ (z.2 c hc)⟩
-- the first slot of the way not in P
theorem first_out {m : Nat} {h : Int} {P : Nat → Prop} {k : Nat} (hk : ¬ P (way m h k)) : ∃ K, K ≤ k ∧ ¬ P (way m h K) ∧ ∀ c, c < K → P (way m h c) := by
  obtain ⟨K, h1, h2, h3⟩ := st_least (p := fun k => ¬ P (way m h k)) k hk
  exact ⟨K, h1, h2, fun c hc => Classical.byContradiction fun z => h3 c hc z⟩
-- a table in which each hash is found again
structure Tk (t : SetTable) (hs : List Int) : Prop where
  ris : Ris t.place.toList
  dm : t.dummies = #[]
  sz : t.place.toList.length = hs.length
  mok : Msk t.mask
  bd : ∀ x ∈ t.place.toList, x ≤ t.mask
  rc : ∀ q ∈ t.place.toList.zip hs, Rch t.mask (fun x => x ∈ t.place.toList) q.2 q.1
theorem Tk.first {t : SetTable} {hs : List Int} (T : Tk t hs) (hl : hs.length ≤ t.mask) (h : Int) : ∃ K, K < 10 * SetTable.turns t.mask ∧ way t.mask h K ∉ t.place.toList ∧ ∀ c, c < K → way t.mask h c ∈ t.place.toList := by
  obtain ⟨j, hj, hn⟩ := st_missing t.place.toList (t.mask + 1) (by rw [T.sz]; omega)
  obtain ⟨k, hk, e⟩ := T.mok.meets h (Nat.le_of_lt_succ hj)
  obtain ⟨K, h1, h2, h3⟩ := first_out (P := fun x => x ∈ t.place.toList) (m := t.mask) (h := h) (k := k) (by rw [e]; exact hn)
  exact ⟨K, by omega, h2, h3⟩
theorem zip_ins {α β : Type} {l : List α} {r : List β} {x : α} {y : β} {p : Nat} (h : l.length = r.length) : (l.take p ++ x :: l.drop p).zip (r.take p ++ y :: r.drop p) = (l.zip r).take p ++ (x, y) :: (l.zip r).drop p := by
  rw [List.zip_append (by rw [List.length_take, List.length_take, h]), List.zip_cons_cons]
  simp only [List.zip, List.take_zipWith, List.drop_zipWith]
-- one more is put in
theorem Tk.put {t : SetTable} {hs : List Int} (T : Tk t hs) {h : Int} {j : Nat} (hj : j ∉ t.place.toList) (r : Rch t.mask (fun x => x ∈ t.place.toList) h j) : Tk (t.put j).1 (hs.take (SetTable.below t.place j) ++ h :: hs.drop (SetTable.below t.place j)) ∧ (t.put j).1.fill = hs.length + 1 := by
  have hle : SetTable.below t.place j ≤ t.place.size := (below_cut T.ris j).1
  have hlp : SetTable.below t.place j ≤ t.place.toList.length := hle
  have hlh : SetTable.below t.place j ≤ hs.length := by rw [← T.sz]; exact hlp
  have pl := put_place t j
  have inn : ∀ x, x ∈ t.place.toList → x ∈ (t.put j).1.place.toList := fun x hx => by rw [pl]; exact mem_ins.mpr (.inr hx)
  have jm : j ≤ t.mask := r.elim fun k z => by rw [← z.1]; exact way_in k
  have hnj : t.place[SetTable.below t.place j]? ≠ some j := fun e => hj (List.mem_of_getElem? (i := SetTable.below t.place j) (by rw [Array.getElem?_toList]; exact e))
  have len : (t.put j).1.place.toList.length = hs.length + 1 := by rw [pl, len_ins _ hlp, T.sz]
  refine ⟨{ ris := ris_insert T.ris hnj, dm := put_dm T.dm j, sz := by rw [len, len_ins _ hlh], mok := T.mok, bd := fun x hx => ?_, rc := fun q hq => ?_ }, ?_⟩
  · rw [pl] at hx
    exact (mem_ins.mp hx).elim (fun e => by rw [e]; exact jm) (T.bd x)
  · rw [pl, zip_ins T.sz] at hq
    rcases mem_ins.mp hq with e | hq
    · rw [e]
      exact r.mono inn
    · exact (T.rc q hq).mono inn
  · show (t.put j).1.place.size + (t.put j).1.dummies.size = _
    rw [put_dm T.dm j, ← Array.length_toList, len]
    rfl
end Tw
namespace Tw
open PySem PySem.Spec PyProof.Rows L2
/-! ### a table laid anew -/
theorem Msk.free {m : Nat} (hm : Msk m) {owner : Array (Option Nat)} (h : Int) {j : Nat} (hj : j ≤ m) (hf : oAt owner j = none) :
    ∃ K, SetTable.layClean.free m owner (SetTable.turns m) (SetTable.bits h % (m + 1)) (SetTable.bits h) = some (way m h K) ∧ oAt owner (way m h K) = none ∧ ∀ c, c < K → oAt owner (way m h c) ≠ none := by
  obtain ⟨n, hn, e⟩ := hm.run h hj
  obtain ⟨K, k1, k2, k3⟩ := first_out (m := m) (h := h) (P := fun x => oAt owner x ≠ none) (k := off m (SetTable.bits h % (m + 1)) (SetTable.bits h) n) (by rw [way_off, e]; exact fun z => z hf)
  have out : oAt owner (way m h K) = none := Classical.byContradiction k2
  have nn : n < SetTable.turns m := by
    unfold SetTable.turns
    omega
  refine ⟨K, free_spec m owner _ n _ _ K nn k1 (fun c hc => Option.isNone_eq_false_iff.mpr (Option.isSome_iff_ne_none.mpr (k3 c hc))) (by rw [Option.isNone_iff_eq_none]; exact out), out, k3⟩
-- who sits where, after some hashes
structure Sit (m : Nat) (hs : List Int) (owner : Array (Option Nat)) : Prop where
  sz : owner.size = m + 1
  good : ∀ j k, oAt owner j = some k → j ≤ m → ∃ h, hs[k]? = some h ∧ Rch m (fun x => oAt owner x ≠ none) h j
  each : ∀ k, k < hs.length → ∃ j, j ≤ m ∧ oAt owner j = some k
  only : ∃ js : List Nat, js.length = hs.length ∧ ∀ j, j ≤ m → oAt owner j ≠ none → j ∈ js
theorem Sit.none_ {m : Nat} : Sit m [] (Array.replicate (m + 1) none) := ⟨Array.size_replicate, (fun j k e hj => by rw [oAt_init hj] at e; cases e), (fun k hk => absurd hk (Nat.not_lt_zero k)), [], rfl, fun j hj e => (e (oAt_init hj)).elim⟩
theorem Sit.next {m : Nat} (hm : Msk m) {hs : List Int} {owner : Array (Option Nat)} (S : Sit m hs owner) (hl : hs.length ≤ m) (h : Int) :
    ∃ owner', stepF m (some (owner, hs.length)) h = some (owner', (hs ++ [h]).length) ∧ Sit m (hs ++ [h]) owner' := by
  obtain ⟨js, j1, j2⟩ := S.only
  obtain ⟨f, hf, nf⟩ := st_missing js (m + 1) (by omega)
  have fn : oAt owner f = none := Classical.byContradiction fun z => nf (j2 f (by omega) z)
  obtain ⟨K, e, out, bef⟩ := hm.free h (Nat.le_of_lt_succ hf) fn
  have jin : way m h K < owner.size := by rw [S.sz]; exact Nat.lt_succ_of_le (way_in K)
  have jm : way m h K ≤ m := way_in K
  obtain ⟨j, hj⟩ : ∃ j, way m h K = j := ⟨_, rfl⟩
  rw [hj] at e out jin jm
  have here := oAt_set_self (some hs.length) jin
  have there : ∀ {x : Nat}, x ≠ j → oAt (owner.setIfInBounds j (some hs.length)) x = oAt owner x := fun hx => oAt_set_ne _ hx
  have stay : ∀ x, oAt owner x ≠ none → oAt (owner.setIfInBounds j (some hs.length)) x ≠ none := fun x hx => by
    rw [there fun z => hx (by rw [z]; exact out)]
    exact hx
  have l1 : (hs ++ [h]).length = hs.length + 1 := List.length_append
  refine ⟨owner.setIfInBounds j (some hs.length), by rw [stepF_some e, l1], { sz := by rw [Array.size_setIfInBounds, S.sz], good := fun x k ex hx => ?_, each := fun k hk => ?_, only := ⟨j :: js, by rw [List.length_cons, j1, l1], fun x hx ex => ?_⟩ }⟩
  · by_cases c : x = j
    · rw [c, here] at ex
      injection ex with ex
      exact ⟨h, by rw [← ex, List.getElem?_append_right (Nat.le_refl _), Nat.sub_self]; rfl, K, hj.trans c.symm, fun y hy => stay _ (bef y hy)⟩
    · rw [there c] at ex
      obtain ⟨h', q, r⟩ := S.good x k ex hx
      exact ⟨h', by rw [List.getElem?_append_left (List.getElem?_eq_some_iff.mp q).1]; exact q, r.mono stay⟩
  · by_cases c : k = hs.length
    · exact ⟨j, jm, by rw [here, c]⟩
    · obtain ⟨x, hx, ex⟩ := S.each k (by omega)
      exact ⟨x, hx, by rw [there fun z => by rw [z, out] at ex; cases ex]; exact ex⟩
  · by_cases c : x = j
    · rw [c]
      exact List.mem_cons_self ..
    · rw [there c] at ex
      exact List.mem_cons_of_mem _ (j2 x hx ex)
theorem Sit.fold {m : Nat} (hm : Msk m) : ∀ (more hs : List Int) (owner : Array (Option Nat)), Sit m hs owner → hs.length + more.length ≤ m →
    ∃ owner', more.foldl (stepF m) (some (owner, hs.length)) = some (owner', (hs ++ more).length) ∧ Sit m (hs ++ more) owner'
  | [], hs, owner, S, _ => ⟨owner, by simp, by simpa using S⟩
  | h :: more, hs, owner, S, hl => by
    have hl : hs.length + (more.length + 1) ≤ m := hl
    obtain ⟨o1, e1, S1⟩ := S.next hm (by omega) h
    obtain ⟨o2, e2, S2⟩ := Sit.fold hm more (hs ++ [h]) o1 S1 (by rw [List.length_append, List.length_singleton]; omega)
    rw [List.foldl_cons, e1]
    rw [List.append_assoc] at e2 S2
    exact ⟨o2, e2, S2⟩
theorem Sit.clean {m : Nat} (hm : Msk m) {hs : Array Int} (hn : hs.size ≤ m) : ∃ owner, SetTable.layClean m hs = some owner ∧ Sit m hs.toList owner := by
  obtain ⟨owner, e, S⟩ := Sit.fold hm hs.toList [] _ Sit.none_ (by show 0 + hs.size ≤ m; omega)
  refine ⟨owner, ?_, S⟩
  rw [layClean_eq]
  exact congrArg (Option.map Prod.fst) e
-- the table's rows, by slots
theorem live_pos {m : Nat} {owner : Array (Option Nat)} : Ris ((liveOf m owner).map Prod.fst) := (ris_live (fun j => owner.getD j none) (List.range (m + 1)) List.pairwise_lt_range).1
theorem Sit.rows {m : Nat} {hs : List Int} {owner : Array (Option Nat)} (S : Sit m hs owner) : ((liveOf m owner).map Prod.snd).Perm (List.range hs.length) := by
  obtain ⟨js, j1, j2⟩ := S.only
  have up : ((liveOf m owner).map Prod.fst).length ≤ js.length := nat_nodup_len _ js (live_pos.imp fun h => Nat.ne_of_lt h) fun x hx => by
    obtain ⟨⟨y, k⟩, hq, rfl⟩ := List.mem_map.mp hx
    obtain ⟨b1, b2⟩ := (mem_live S.sz).mp hq
    exact j2 y b1 (by rw [b2]; simp)
  have all : ∀ k, k < hs.length → k ∈ (liveOf m owner).map Prod.snd := fun k hk => by
    obtain ⟨j, h1, h2⟩ := S.each k hk
    exact List.mem_map.mpr ⟨(j, k), (mem_live S.sz).mpr ⟨h1, h2⟩, rfl⟩
  have dn : (List.range hs.length).length ≤ ((liveOf m owner).map Prod.snd).length := nat_nodup_len _ _ List.nodup_range fun k hk => all k (List.mem_range.mp hk)
  refine perm_range _ _ ?_ all
  rw [List.length_range] at dn
  rw [List.length_map] at up dn ⊢
  omega
theorem Tk.relaid (t : SetTable) {hs : Array Int} {wanted m : Nat} (hw : SetTable.sizeAbove wanted = m + 1) (hm : Msk m) (hn : hs.size ≤ m) :
    ∃ t' order, t.relaid hs wanted = some (t', order) ∧ order.toList.Perm (List.range hs.size) ∧ Tk t' (order.toList.map fun i => hs.getD i 0) ∧ t'.mask = m ∧ t'.led = t.led ∧ t'.plain = t.plain := by
  obtain ⟨owner, e, S⟩ := Sit.clean hm hn
  have eq : t.relaid hs wanted = some (tabOf t m owner, ((liveOf m owner).map Prod.snd).toArray) := by
    rw [relaid_eq, hw, Nat.add_sub_cancel, e]
    rfl
  refine ⟨_, _, eq, S.rows, { ris := live_pos, dm := rfl, sz := ?_, mok := hm, bd := fun x hx => ?_, rc := fun q hq => ?_ }, rfl, rfl, rfl⟩
  · show ((liveOf m owner).map Prod.fst).length = (((liveOf m owner).map Prod.snd).map fun i => hs.getD i 0).length
    simp only [List.length_map]
  · have hx : x ∈ (liveOf m owner).map Prod.fst := hx
    obtain ⟨⟨y, k⟩, hq, rfl⟩ := List.mem_map.mp hx
    exact ((mem_live S.sz).mp hq).1
  · have hq : q ∈ ((liveOf m owner).map Prod.fst).zip (((liveOf m owner).map Prod.snd).map fun i => hs.getD i 0) := hq
    rw [List.map_map, List.zip_map'] at hq
    obtain ⟨⟨j, k⟩, hl, rfl⟩ := List.mem_map.mp hq
    obtain ⟨b1, b2⟩ := (mem_live S.sz).mp hl
    obtain ⟨h, c1, K, c2, c3⟩ := S.good j k b2 b1
    have eh : hs.getD k 0 = h := by
      rw [Array.getD_eq_getD_getElem?, ← Array.getElem?_toList, c1]
      rfl
    refine ⟨K, ?_, fun c hc => ?_⟩
    · show way m (hs.getD k 0) K = j
      rw [eh, c2]
    · show way m (hs.getD k 0) c ∈ (liveOf m owner).map Prod.fst
      rw [eh]
      obtain ⟨i, hi⟩ := Option.ne_none_iff_exists'.mp (c3 c hc)
      exact List.mem_map.mpr ⟨(way m h c, i), (mem_live S.sz).mpr ⟨way_in c, hi⟩, rfl⟩
end Tw
set_option maxHeartbeats 2000000
namespace Tw
open PySem PySem.Spec PyProof.Rows L2
/-! ### a set of tuples of ints, up to 120 -/
structure Rw (P : Program) (w : World) (h : Heap) (a : Addr) (L : List (Addr × List Int)) (es : Array (Int × Value)) (ep : Nat) (t : SetTable) : Prop where
  ob : ∃ o, h.get? a = some o ∧ o.ExactSet ∧ o.data = .set es ep t
  rows : es.toList = rowsOf P w L
  tab : Tk t (L.map fun p => thash P w p.2)
  nd : (L.map Prod.snd).Nodup
  tup : ∀ p ∈ L, IsT P w h p.2 p.1
  plain : t.plain = true
  led : w.params.followText "set-order" = true ∨ t.led = true
  room : L.length * 5 < t.mask * 3
  few : L.length ≤ 120
section
variable {P : Program} {w : World} {A : Around} {E : Value → Shared → Prop} {s : Shared} {a : Addr} {L : List (Addr × List Int)} {es : Array (Int × Value)} {ep : Nat} {t : SetTable}
theorem rows_size (h : es.toList = rowsOf P w L) : es.size = L.length := by
  rw [← Array.length_toList, h]
  exact List.length_map _
theorem rows_get (h : es.toList = rowsOf P w L) {i : Nat} {p : Addr × List Int} (hp : L[i]? = some p) : es[i]? = some (thash P w p.2, Value.ref p.1) := by
  rw [← Array.getElem?_toList, h]
  show (L.map _)[i]? = _
  rw [List.getElem?_map, hp]
  rfl
theorem tk_fits (T : Tk t (L.map fun p => thash P w p.2)) (h : es.size = L.length) (hm : L.length ≤ t.mask) : t.fits es.size = true := by
  have z := T.sz
  rw [List.length_map, Array.length_toList] at z
  simp [SetTable.fits, SetTable.fill, T.dm, z, h, hm]
theorem Rw.fits {h : Heap} (R : Rw P w h a L es ep t) : t.fits es.size = true := tk_fits R.tab (rows_size R.rows) (by have := R.room; omega)
theorem Rw.stands {h : Heap} (R : Rw P w h a L es ep t) : ¬ t.gaveWay = true := by
  unfold SetTable.gaveWay
  rw [R.tab.mok.odd]
  decide
theorem Rw.place {h : Heap} (R : Rw P w h a L es ep t) {i : Nat} {p : Addr × List Int} (hp : L[i]? = some p) : ∃ j, t.place.toList[i]? = some j ∧ Rch t.mask (fun x => x ∈ t.place.toList) (thash P w p.2) j := by
  have hi : i < L.length := (List.getElem?_eq_some_iff.mp hp).1
  have z := R.tab.sz
  rw [List.length_map] at z
  have hj := List.getElem?_eq_getElem (l := t.place.toList) (i := i) (by omega)
  refine ⟨_, hj, R.tab.rc (_, thash P w p.2) (List.mem_of_getElem? (i := i) ?_)⟩
  rw [List.getElem?_zip_eq_some]
  exact ⟨hj, by rw [List.getElem?_map, hp]; rfl⟩
theorem Rw.at_place {h : Heap} (R : Rw P w h a L es ep t) {i j : Nat} (hj : t.place.toList[i]? = some j) : ∃ p, L[i]? = some p ∧ p ∈ L := by
  have hi : i < t.place.toList.length := (List.getElem?_eq_some_iff.mp hj).1
  have z := R.tab.sz
  rw [List.length_map] at z
  have e := List.getElem?_eq_getElem (l := L) (i := i) (by omega)
  exact ⟨_, e, List.mem_of_getElem? e⟩
theorem stp_add {m : Nat} {h : Int} {c q : Nat} : nth m (stp m h c) q = stp m h (c + q) := (nth_add m c _ q).symm
-- the search, from the step c on: no row with the key was met before c
theorem Rw.look (R : Rw P w s.heap a L es ep t) {x : Addr} {k : List Int} (hx : IsT P w s.heap k x) (hu : A.units < cLine) {K : Nat} (bound : K < 10 * SetTable.turns t.mask)
    (stop : way t.mask (thash P w k) K ∉ t.place.toList) (go : ∀ c, c < K → way t.mask (thash P w k) c ∈ t.place.toList) {Q : SetFound → Shared → Prop}
    (yes : k ∈ L.map Prod.snd → Q (.there none) s) (no : k ∉ L.map Prod.snd → Q (.free (way t.mask (thash P w k) K) false) s) :
    ∀ (f c : Nat) (st : Option SetTable.Probe), st.getD (t.probeStart (thash P w k)) = stp t.mask (thash P w k) c → c ≤ K → K < f + c → (∀ (i : Nat) p, L[i]? = some p → p.2 = k → ∀ c0, c0 < c → t.place.toList[i]? ≠ some (way t.mask (thash P w k) c0)) →
      wpAny (model P w) A (setSearchFrom a (.ref x) (thash P w k) true f st) Q E s
  | 0, c, _, _, hc, hf, _ => absurd hf (by omega)
  | f + 1, c, st, est, hc, hf, old => by
    obtain ⟨ob, hob, exact_, dat⟩ := R.ob
    generalize hH : (fun i => (es[i]?.map (·.1)).getD 0 : Nat → Int) = hashAt
    have hashOf : ∀ (i : Nat) p, L[i]? = some p → hashAt i = thash P w p.2 := fun i p hp => by
      rw [← hH]
      dsimp only
      rw [rows_get R.rows hp]
      rfl
    have sp := go_spec t R.tab.ris R.tab.dm hashAt (thash P w k) (10 * SetTable.turns t.mask) (K - c) (stp t.mask (thash P w k) c) (stp_dummy c) (by omega) (fun q hq => by rw [stp_add]; exact go (c + q) (by omega)) (by rw [stp_add, show c + (K - c) = K by omega]; exact stop)
    simp only [stp_add] at sp
    rw [setSearchFrom_succ]
    refine wpAny_bind (wpAny_setState_of hob dat R.fits ?_)
    dsimp only
    rw [hH, est]
    refine wp_if_neg R.stands ?_
    rcases sp with ⟨q, i, hq, hi, hh, before, pr⟩ | ⟨before, pr⟩
    · have pr : t.probe hashAt (thash P w k) (stp t.mask (thash P w k) c) = some (.candidate (way t.mask (thash P w k) (c + q)) i (stp t.mask (thash P w k) (c + (q + 1)))) := pr
      have hi : t.place.toList[i]? = some (way t.mask (thash P w k) (c + q)) := hi
      rw [pr]
      dsimp only
      obtain ⟨p, hp, hpL⟩ := R.at_place hi
      have tail : wpAny (model P w) A (searchRest a (.ref x) (thash P w k) true f es t (way t.mask (thash P w k) (c + q)) i (stp t.mask (thash P w k) (c + (q + 1)))) Q E s := by
        unfold searchRest
        rw [rows_get R.rows hp]
        dsimp only
        refine wpAny_bind (wpAny_holding (wpAny_eqBool_tuple hu (R.tup p hpL) hx ?_))
        refine wpAny_bind (wpAny_setState_of hob dat R.fits ?_)
        dsimp only
        by_cases same : p.2 = k
        · refine wp_if_pos (by simp [same]) (wpAny_pure (yes ?_))
          rw [← same]
          exact List.mem_map_of_mem hpL
        · refine wp_if_neg (by simp [same]) ?_
          rw [sameMem]
          have lv : t.slot (way t.mask (thash P w k) (c + q)) = .live i := slot_live R.tab.ris hi
          dsimp only
          simp only [if_true, lv, rows_get R.rows hp]
          refine wpAny_bind (wpAny_isSame_ref_self (wpAny_bind (wpAny_pure ?_)))
          simp only [if_true]
          refine wp_if_neg (by simp [same]) (R.look hx hu bound stop go yes no f (c + (q + 1)) _ rfl (by omega) (by omega) fun i0 p0 h0 k0 c0 hc0 hat => ?_)
          rcases Nat.lt_trichotomy c0 (c + q) with lt | eq | gt
          · by_cases lo : c0 < c
            · exact old i0 p0 h0 k0 c0 lo hat
            · exact before (c0 - c) i0 (by omega) (by rw [show c + (c0 - c) = c0 by omega]; exact hat) (by rw [hashOf i0 p0 h0, k0])
          · subst eq
            have l2 := (slot_live R.tab.ris hat).symm.trans lv
            injection l2 with l2
            subst l2
            rw [hp] at h0
            injection h0 with h0
            exact same (by rw [h0]; exact k0)
          · omega
      by_cases ld : t.led = true
      · exact wp_if_neg (by simp [ld]) tail
      · refine wp_if_pos (by simp [ld]) (wpAny_bind (seen_tup hx (fun y hy => ?_) (wp_if_neg (by decide) tail)))
        obtain ⟨e, he, rfl⟩ := List.mem_map.mp hy
        have he : e ∈ es.toList := by
          have he : e ∈ es ∧ e.1 = thash P w k := by simpa using he
          simpa using he.1
        rw [R.rows] at he
        obtain ⟨r, hr, rfl⟩ := List.mem_map.mp he
        exact ⟨r.2, r.1, rfl, R.tup r hr⟩
    · have pr : t.probe hashAt (thash P w k) (stp t.mask (thash P w k) c) = some (.empty (way t.mask (thash P w k) K) none) := by
        rw [show c + (K - c) = K by omega] at pr
        exact pr
      rw [pr]
      dsimp only
      refine wpAny_pure (no fun mem => ?_)
      obtain ⟨p, hpL, pk⟩ := List.mem_map.mp mem
      obtain ⟨i, hi⟩ := List.getElem?_of_mem hpL
      obtain ⟨j, hj, c1, e1, all⟩ := R.place hi
      rw [pk] at e1 all
      have hj1 : t.place.toList[i]? = some (way t.mask (thash P w k) c1) := by rw [e1]; exact hj
      rcases Nat.lt_or_ge c1 K with lt | ge
      · by_cases lo : c1 < c
        · exact old i p hi pk c1 lo hj1
        · exact before (c1 - c) i (by omega) (by rw [show c + (c1 - c) = c1 by omega]; exact hj1) (by rw [hashOf i p hi, pk])
      · rcases Nat.lt_or_ge K c1 with lt | le
        · exact stop (all K lt)
        · rw [show K = c1 by omega, e1] at stop
          exact stop (List.mem_of_getElem? hj)
theorem Rw.find (R : Rw P w s.heap a L es ep t) {x : Addr} {k : List Int} (hx : IsT P w s.heap k x) (hu : A.units < cLine) {Q : SetFound → Shared → Prop} (yes : k ∈ L.map Prod.snd → Q (.there none) s)
    (no : ∀ j, k ∉ L.map Prod.snd → j ∉ t.place.toList → Rch t.mask (fun x => x ∈ t.place.toList) (thash P w k) j → Q (.free j false) s) : wpAny (model P w) A (setSearch a (.ref x) (thash P w k) true) Q E s := by
  have room := R.room
  obtain ⟨K, b1, b2, b3⟩ := R.tab.first (by rw [List.length_map]; omega) (thash P w k)
  have big : 10 * SetTable.turns t.mask ≤ 5260 := by
    have := R.tab.mok.le
    unfold SetTable.turns
    omega
  exact R.look hx hu b1 b2 b3 yes (fun n => no _ n b2 ⟨K, rfl, b3⟩) 100000 0 none rfl (Nat.zero_le K) (by omega) fun i p _ _ c0 h0 => absurd h0 (Nat.not_lt_zero c0)
end
end Tw
namespace Tw
open PySem PySem.Spec PyProof.Rows L2
theorem grow5 : SetTable.sizeAbove (SetTable.grown 5) = 31 + 1 := by decide +kernel
theorem grow19 : SetTable.sizeAbove (SetTable.grown 19) = 127 + 1 := by decide +kernel
theorem grow77 : SetTable.sizeAbove (SetTable.grown 77) = 511 + 1 := by decide +kernel
section
variable {P : Program} {w : World} {A : Around} {E : Value → Shared → Prop} {s : Shared} {a : Addr} {L : List (Addr × List Int)} {es : Array (Int × Value)} {ep : Nat} {t : SetTable}
theorem relay_rows {o : Obj} (hob : s.heap.get? a = some o) (ex : o.ExactSet) (dat : o.data = .set es ep t) (rows : es.toList = rowsOf P w L) (T : Tk t (L.map fun p => thash P w p.2)) (hm : L.length ≤ t.mask) (nd : (L.map Prod.snd).Nodup) (tup : ∀ p ∈ L, IsT P w s.heap p.2 p.1)
    (pl : t.plain = true) (ld : w.params.followText "set-order" = true ∨ t.led = true) (few : L.length ≤ 120) {wanted m : Nat} (hw : SetTable.sizeAbove wanted = m + 1) (mm : Msk m) (rm : L.length * 5 < m * 3) {Q : Unit → Shared → Prop}
    (k : ∀ h' L' es' ep' t', Heap.SameBut a s.heap h' → Rw P w h' a L' es' ep' t' → L'.Perm L → Q () { s with heap := h' }) : wpAny (model P w) A (setRelay a wanted) Q E s := by
  have size := rows_size rows
  have line : 512 ≤ sizeLine := by decide
  have m5 := mm.le
  obtain ⟨t2, order, e1, e2, e3, e4, e5, e6⟩ := Tk.relaid t (hs := es.map (·.1)) hw mm (by rw [Array.size_map]; omega)
  rw [Array.size_map, size] at e2
  obtain ⟨L2, r1, r2, r3⟩ := order_rows L es order rows e2
  rw [← r3] at e3
  have len2 : (order.filterMap (es[·]?)).size = es.size := by rw [rows_size r1, r2.length_eq, size]
  rw [setRelay_eq]
  refine wpAny_bind (wpAny_setState_of hob dat (tk_fits T size hm) ?_)
  dsimp only
  refine wp_if_neg (by omega) ?_
  rw [e1]
  dsimp only
  refine wpAny_bind (wp_if_neg (by rw [len2]; simp) (wpAny_pure ?_))
  have sb : Heap.SameBut a s.heap (s.heap.update a (Obj.putSet (order.filterMap (es[·]?)) t2)) := Heap.SameBut.update ..
  refine wpAny_storeSet_of hob dat (k _ L2 _ (ep + 1) t2 sb { ob := ⟨_, store_at hob dat, ex, rfl⟩, rows := r1, tab := e3, nd := (r2.map Prod.snd).nodup_iff.mpr nd, tup := fun p hp => isT_same (tup p (r2.mem_iff.mp hp)) hob dat sb, plain := by rw [e6, pl], led := by rw [e5]; exact ld, room := by rw [r2.length_eq, e4]; exact rm, few := by rw [r2.length_eq]; exact few } r2) (by rw [len2]; omega)
theorem Rw.add (R : Rw P w s.heap a L es ep t) {x : Addr} {k : List Int} (hx : IsT P w s.heap k x) (hu : A.units < cLine) (less : L.length < 120) {Q : Bool → Shared → Prop}
    (q : ∀ b h' L' es' ep' t', Heap.SameBut a s.heap h' → Rw P w h' a L' es' ep' t' → (k ∈ L.map Prod.snd → L' = L) → (k ∉ L.map Prod.snd → L'.Perm ((x, k) :: L)) → Q b { s with heap := h' }) :
    wpAny (model P w) A (setAddHashed a (.ref x) (thash P w k)) Q E s := by
  obtain ⟨ob, hob, ex, dat⟩ := R.ob
  have size := rows_size R.rows
  have room := R.room
  have line : 512 ≤ sizeLine := by decide
  unfold setAddHashed
  rw [show (100000 : Nat) = 99999 + 1 from rfl, setAddHashedIn_succ]
  refine wpAny_holding (wpAny_bind (wpAny_setState_of hob dat R.fits ?_))
  dsimp only
  refine wp_if_neg (by simp [byScan, Value.scannable]) (wpAny_bind (R.find hx hu (fun m => wpAny_pure (q false s.heap L es ep t (Heap.SameBut.refl a s.heap) R (fun _ => rfl) fun n => absurd m n)) fun j n nj rj => ?_))
  dsimp only
  refine wpAny_bind (wpAny_setState_of hob dat R.fits ?_)
  dsimp only
  obtain ⟨T1, f1⟩ := R.tab.put nj rj
  have pl : (t.put j).1.plain = true := R.plain
  have ld : w.params.followText "set-order" = true ∨ (t.put j).1.led = true := R.led
  have mk : (t.put j).1.mask = t.mask := rfl
  have pn : (t.put j).2 = SetTable.below t.place j := rfl
  have below : SetTable.below t.place j ≤ L.length := by
    have z := R.tab.sz
    rw [List.length_map, Array.length_toList] at z
    have := (below_cut R.tab.ris j).1
    omega
  generalize hp : SetTable.below t.place j = p at T1 pn below
  generalize hput : t.put j = tp at T1 f1 pl ld mk pn
  obtain ⟨t1, p1⟩ := tp
  dsimp only at T1 f1 pl ld mk pn ⊢
  subst pn
  have rows1 : (SetTable.insertAt es p1 (thash P w k, Value.ref x)).toList = rowsOf P w (L.take p1 ++ (x, k) :: L.drop p1) := by rw [SetTable.toList_insertAt, rows_put, R.rows]
  have perm := put_perm L p1 (x, k)
  rw [← List.map_take, ← List.map_drop, show thash P w k = (fun p : Addr × List Int => thash P w p.2) (x, k) from rfl, ← List.map_cons (f := fun p : Addr × List Int => thash P w p.2), ← List.map_append] at T1
  rw [List.length_map] at f1
  have len1 := perm.length_eq
  have size1 := rows_size rows1
  generalize SetTable.insertAt es p1 (thash P w k, Value.ref x) = es1 at rows1 size1 ⊢
  generalize L.take p1 ++ (x, k) :: L.drop p1 = L1 at rows1 perm T1 len1 size1
  have len1 : L1.length = L.length + 1 := len1
  have nd1 : (L1.map Prod.snd).Nodup := (perm.map Prod.snd).nodup_iff.mpr (List.nodup_cons.mpr ⟨n, R.nd⟩)
  refine wp_if_pos pl (wpAny_bind (hashBy_tup hx ?_))
  simp only [if_true]
  refine wpAny_bind (wpAny_storeSet_of hob dat ?_ (by omega))
  have sb : Heap.SameBut a s.heap (s.heap.update a (Obj.putSet es1 t1)) := Heap.SameBut.update ..
  have hob1 := store_at (es' := es1) (t' := t1) hob dat
  generalize s.heap.update a (Obj.putSet es1 t1) = h1 at sb hob1 ⊢
  have tup1 : ∀ r ∈ L1, IsT P w h1 r.2 r.1 := fun r hr => by
    rcases List.mem_cons.mp (perm.mem_iff.mp hr) with e | hr
    · rw [e]
      exact isT_same hx hob dat sb
    · exact isT_same (R.tup r hr) hob dat sb
  by_cases full : t1.tooFull = true
  · have much : t.mask * 3 ≤ (L.length + 1) * 5 := by
      unfold SetTable.tooFull at full
      rw [decide_eq_true_eq, f1, mk] at full
      exact full
    have next : ∃ m, SetTable.sizeAbove (SetTable.grown (es.size + 1)) = m + 1 ∧ Msk m ∧ (L.length + 1) * 5 < m * 3 ∧ L.length + 1 ≤ t.mask := by
      rcases R.tab.mok with (e | e | e) | e
      · have : L.length = 4 := by omega
        exact ⟨31, by rw [size, this, grow5], .inl (.inr (.inl rfl)), by omega, by omega⟩
      · have : L.length = 18 := by omega
        exact ⟨127, by rw [size, this, grow19], .inl (.inr (.inr rfl)), by omega, by omega⟩
      · have : L.length = 76 := by omega
        exact ⟨511, by rw [size, this, grow77], .inr rfl, by omega, by omega⟩
      · omega
    obtain ⟨m, n1, n2, n3, n4⟩ := next
    refine wp_if_pos (by simp [full]) (wpAny_bind (relay_rows (s := { s with heap := h1 }) hob1 ex rfl rows1 T1 (by rw [len1, mk]; exact n4) nd1 tup1 pl ld (by omega) n1 n2 (by rw [len1]; exact n3) fun h2 L2 es2 ep2 t2 sb2 R2 pm2 => ?_))
    exact wpAny_pure (q true h2 L2 es2 ep2 t2 (sb.trans sb2) R2 (fun m => absurd m n) fun _ => pm2.trans perm)
  · refine wp_if_neg (by simp [full]) (wpAny_pure (q true h1 L1 es1 (ep + 1) t1 sb { ob := ⟨_, hob1, ex, rfl⟩, rows := rows1, tab := T1, nd := nd1, tup := tup1, plain := pl, led := ld, room := ?_, few := by omega } (fun m => absurd m n) fun _ => perm))
    unfold SetTable.tooFull at full
    rw [decide_eq_true_eq, f1] at full
    rw [len1]
    omega
end
end Tw
set_option maxHeartbeats 4000000
namespace Tw
open PySem PySem.Spec PyProof.Rows L2
/-! ### set(list of tuples) -/
abbrev emptySet (w : World) : Obj := { cls := .type "set", dict := none, data := .set #[] 0 (.fresh 0 0 (!w.params.followText "set-order")) }
abbrev Kept (h h' : Heap) : Prop := ∀ b o, h.get? b = some o → h'.get? b = some o
section
variable {P : Program} {w : World} {A : Around} {E : Value → Shared → Prop} {s : Shared}
theorem Rw.new {h : Heap} {a : Addr} (e : h.get? a = some (emptySet w)) : Rw P w h a [] #[] 0 (.fresh 0 0 (!w.params.followText "set-order")) where
  ob := ⟨_, e, ⟨rfl, rfl, rfl⟩, rfl⟩
  rows := rfl
  tab := { ris := List.Pairwise.nil, dm := rfl, sz := rfl, mok := .inl (.inl rfl), bd := (fun x h => by cases h), rc := (fun x h => by cases h) }
  nd := List.nodup_nil
  tup := fun x h => by cases h
  plain := rfl
  led := by
    show w.params.followText "set-order" = true ∨ (!w.params.followText "set-order") = true
    cases w.params.followText "set-order" <;> simp
  room := by show 0 * 5 < 7 * 3; decide
  few := Nat.zero_le 120
theorem Rw.up {h h' : Heap} {a : Addr} {L : List (Addr × List Int)} {es : Array (Int × Value)} {ep : Nat} {t : SetTable} (R : Rw P w h a L es ep t) (q : ∀ o, h.get? a = some o → h'.get? a = some o) (tups : ∀ p ∈ L, IsT P w h' p.2 p.1) : Rw P w h' a L es ep t :=
  { R with ob := R.ob.elim fun o z => ⟨o, q o z.1, z.2⟩, tup := tups }
-- the loop of set.update
theorem loop_set {I : Addr} {fp wr : List Addr} {G : Array GenState → Array GenState → Prop} {n : Nat} {Pv : Nat → Value → Prop} {St : Nat → Shared → Prop} {R : Result → Shared → Prop} (W : WalksS P w A.in1 I fp wr G n Pv St) {S : Addr} (out : S ∉ fp)
    {ks : List (Addr × List Int)} (few : n ≤ 120) (val : ∀ i v, Pv i v → ∃ p, ks[i]? = some p ∧ v = .ref p.1) {h0 : Heap} (tups : ∀ p ∈ ks, IsT P w h0 p.2 p.1) (new : h0.get? S = none) (new2 : ∀ b ∈ wr, h0.get? b = none) (hu : A.in1.units < cLine) :
    ∀ (r i : Nat) (s : Shared), i + r = n → St i s → Kept h0 s.heap → (∃ L es ep t, Rw P w s.heap S L es ep t ∧ Got ks i L) →
      (∀ s' L es ep t, Moved (S :: wr) G s s' → Rw P w s'.heap S L es ep t → Got ks n L → Kept h0 s'.heap → R (.ok (.ret .none)) s') →
      codeAny (model P w) A (.builtin "set.update.loop" ⟨[.ref S, .ref I], []⟩) R s := by
  have outw : S ∉ wr := fun z => out (W.sub S z)
  have more : ∀ b ∈ wr, b ∈ S :: wr := fun b z => List.mem_cons_of_mem S z
  have still : ∀ {s1 s2 : Shared}, Moved wr G s1 s2 → Kept h0 s1.heap → Kept h0 s2.heap := fun m q b o e => m.heap b o (fun z => by rw [new2 b z] at e; cases e) (q b o e)
  have known : ∀ {i : Nat} {L : List (Addr × List Int)} {h' : Heap}, Got ks i L → Kept h0 h' → ∀ p ∈ L, IsT P w h' p.2 p.1 := fun g q p hp => isT_keep (tups p (List.mem_of_mem_take (g.sub p hp))) q
  intro r
  induction r with
  | zero =>
    rintro i s hi st q ⟨L, es, ep, t, R1, g⟩ k
    obtain rfl : i = n := hi
    refine codeAny_builtin F.entry_set_update_loop ?_
    rw [Around.under_plainId F.plain_set_update_loop _]
    show wpAny _ A.in1 (pyNext (.ref I) >>= _) _ _ s
    refine wpAny_bind (W.done s _ _ st fun s1 m => ?_)
    have q1 := still m q
    exact wpAny_pure (k s1 L es ep t (m.mono more) (R1.up (fun o e => m.heap S o outw e) (known g q1)) g q1)
  | succ r ih =>
    rintro i s hi st q ⟨L, es, ep, t, R1, g⟩ k
    refine codeAny_builtin F.entry_set_update_loop ?_
    rw [Around.under_plainId F.plain_set_update_loop _]
    show wpAny _ A.in1 (pyNext (.ref I) >>= _) _ _ s
    refine wpAny_bind (W.item i s _ _ (by omega) st fun v s1 pv st1 m => ?_)
    obtain ⟨p, hp, rfl⟩ := val i v pv
    have q1 := still m q
    have R2 := R1.up (h' := s1.heap) (fun o e => m.heap S o outw e) (known g q1)
    have tp : IsT P w s1.heap p.2 p.1 := isT_keep (tups p (List.mem_of_getElem? hp)) q1
    show wpAny _ A.in1 (holding [Value.ref p.1] (setAdd S (.ref p.1)) >>= _) _ _ s1
    unfold setAdd
    refine wpAny_bind (wpAny_holding (wpAny_holding (wpAny_bind (wpAny_pyHash_tuple hu tp ?_))))
    refine Rw.add (s := { s1 with toks := s1.toks + (p.2.length + 1) }) R2 tp hu (by have := g.len; omega) fun b h2 L2 es2 ep2 t2 sb R3 same other => ?_
    have g2 : Got ks (i + 1) L2 := by
      by_cases c : p.2 ∈ L.map Prod.snd
      · rw [same c]
        exact g.same hp c
      · exact g.more hp (other c)
    have q2 : Kept h0 h2 := fun b o e => (sb.2 b fun z => by rw [z, new] at e; cases e).trans (q1 b o e)
    refine wpAny_pure ⟨plainId_quiet F.plain_set_update_loop _, ih (i + 1) { s1 with heap := h2, toks := s1.toks + (p.2.length + 1) } (by omega) (W.frame _ s1 _ _ st1 (Nat.le_add_right _ _) fun b hb o e => ?_) q2 ⟨L2, es2, ep2, t2, R3, g2⟩ fun s3 L3 es3 ep3 t3 m3 R4 g3 q3 => ?_⟩
    · exact (sb.2 b fun z => out (z ▸ hb)).trans e
    · refine k s3 L3 es3 ep3 t3 (Moved.trans W.gtrans ((m.mono more).then_heap (Nat.le_add_right _ _) fun b o hb e => ?_) m3) R4 g3 q3
      exact (sb.2 b fun z => hb (z ▸ List.mem_cons_self ..)).trans e
theorem call_set {l : Addr} {items : Array Value} {ks : List (Addr × List Int)} {Q : Value → Shared → Prop} (hh : A.handled = none) (hl : s.heap.IsList l items) (hit : items.toList = ks.map fun p => Value.ref p.1)
    (tups : ∀ p ∈ ks, IsT P w s.heap p.2 p.1) (few : ks.length ≤ 120) (hu : A.units + 3 < cLine)
    (k : ∀ (h' : Heap) (tk : Nat) L es ep t, Rw P w h' s.heap.objs.size L es ep t → Got ks ks.length L → Kept s.heap h' → Q (.ref s.heap.objs.size) { s with heap := h', toks := tk }) :
    wpAny (model P w) A (call (.type "set") [.ref l]) Q E s := by
  have size : items.size = ks.length := by
    rw [← Array.length_toList, hit]
    exact List.length_map _
  have un : ∀ b, s.heap.objs.size ≤ b → s.heap.get? b = none := fun b hb => by
    cases z : s.heap.get? b with
    | none => rfl
    | some o => exact absurd (Nat.lt_of_lt_of_le (Heap.lt_size z) hb) (Nat.lt_irrefl b)
  have lin : l < s.heap.objs.size := hl.elim fun o z => Heap.lt_size z.1
  have made1 := F.called_set.made
  have made2 := F.called_set.sub
  have made3 := F.called_set.notType
  have made4 := F.called_set.canCreate
  have made5 := F.typeCall_set_1 (.ref l)
  obtain ⟨c, tl, made6⟩ := F.called_set.mro
  refine wpAny_call (codeAny_of_tree ?_)
  show wpAny _ _ (callAny (.type "set") _) _ _ _
  refine wpAny_pure ⟨Code.quiet_builtin _ (by decide +kernel), codeAny_builtin F.entry_type_call ?_⟩
  rw [Around.under_plain (weight_type_call_type "set" [.ref l] []) rfl]
  repeat (any_goals (first | assumption | wp_step))
  refine codeAny_mono (code_set_led1 (.ref l) (E := E) (Q₁ := fun u s1 => u = .ref s.heap.objs.size ∧ s1 = { s with heap := s.heap.push (emptySet w) }) ⟨rfl, rfl⟩) fun r1 s1 z => ?_
  match r1, z with
  | .error e, z => exact z
  | .ok .next, z => exact z.elim
  | .ok .brk, z => exact z.elim
  | .ok .cont, z => exact z.elim
  | .ok (.ret u), z =>
    obtain ⟨rfl, rfl⟩ := z
    have at0 : (s.heap.push (emptySet w)).get? s.heap.objs.size = some (emptySet w) := Heap.get?_push_size _ rfl
    have at1 : Shared.TypeIs { s with heap := s.heap.push (emptySet w) } (.ref s.heap.objs.size) "set" := ⟨_, at0, rfl⟩
    have look := F.called_set.init.lookup
    have bind := F.called_set.init.bind (.ref s.heap.objs.size)
    repeat (any_goals (first | assumption | wp_step))
    refine codeAny_mono (codeAny_call_builtin (R := wants (fun r s2 => r = .none ∧ ∃ h' tk L es ep t, s2 = { s with heap := h', toks := tk } ∧ Rw P w h' s.heap.objs.size L es ep t ∧ Got ks ks.length L ∧ Kept s.heap h') E) F.called_set.init.plain F.entry_set_init (check_set_init_1 at1 ?_)) fun r2 s2 z => ?_
    · obtain ⟨ol, hol, hcl, nl, hdl⟩ := id hl
      obtain ⟨ocls, odict, odata, oslots⟩ := ol
      dsimp only at hcl hdl
      subst hcl hdl
      have there : (s.heap.push (emptySet w)).get? l = some { cls := .type "list", dict := odict, data := .seq items nl, slots := oslots } := Heap.get?_push_of_some _ hol
      have isl : (s.heap.push (emptySet w)).IsList l items := ⟨_, there, rfl, nl, rfl⟩
      have sub1 := F.sub_list_set
      have sub2 := F.sub_list_frozenset
      have nd : (Value.type "list" == Value.type "dict") = false := by decide
      unfold Builtin.«set.__init__» noKeywords Builtin.Frozenset.updateFrom
      generalize hit2 : pyIter = it
      wp_walk
      subst hit2
      refine wpAny_pyIter_list isl (wpAny_bind (wpAny_runValue ?_))
      have hd3 : A.in1.in1.in1.handled = none := by simp [hh]
      have size1 : (s.heap.push (emptySet w)).objs.size = s.heap.objs.size + 1 := Heap.size_push ..
      have neI : l ≠ (s.heap.push (emptySet w)).objs.size := fun z => Nat.lt_irrefl l (Nat.lt_of_lt_of_le lin (by rw [z, size1]; exact Nat.le_succ _))
      refine loop_set (ks := ks) (Walks.list hd3 _ l neI items).toS (S := s.heap.objs.size) ?_ (by rw [size]; exact few) (fun i v hv => ?_) tups (un _ (Nat.le_refl _)) (fun b hb => un b (by rw [List.mem_singleton.mp hb, size1]; exact Nat.le_succ _)) hu items.size 0 _ (Nat.zero_add _) ⟨⟨_, Heap.get?_push_size _ rfl, rfl, rfl⟩, isl.push _⟩ (fun b o e => Heap.get?_push_of_some _ (Heap.get?_push_of_some _ e)) ⟨[], #[], 0, _, Rw.new (Heap.get?_push_of_some _ at0), Got.zero ks⟩ fun s3 L es ep t m R1 g1 q1 => ?_
      · simp only [List.mem_cons, List.mem_singleton, List.not_mem_nil, or_false, not_or]
        exact ⟨fun z => Nat.succ_ne_self _ (size1.symm.trans z.symm), fun z => Nat.lt_irrefl l (z ▸ lin)⟩
      · have hv : items[i]? = some v := hv
        rw [← Array.getElem?_toList, hit, List.getElem?_map] at hv
        cases e : ks[i]? with
        | none => rw [e] at hv; cases hv
        | some p => rw [e] at hv; exact ⟨p, rfl, (Option.some.inj hv).symm⟩
      · obtain ⟨h3, g3, d3, k3, o3⟩ := s3
        obtain rfl : g3 = s.gens := m.gens
        obtain rfl : d3 = s.drawn := m.drawn
        obtain rfl : o3 = s.os := m.os
        rw [size] at g1
        exact wpAny_pure (wpAny_pure ⟨rfl, h3, k3, L, es, ep, t, rfl, R1, g1, q1⟩)
    · match r2, z with
      | .error e, z => exact z
      | .ok .next, z => exact z.elim
      | .ok .brk, z => exact z.elim
      | .ok .cont, z => exact z.elim
      | .ok (.ret u), z =>
        obtain ⟨rfl, h', tk, L, es, ep, t, rfl, R1, g1, q1⟩ := z
        repeat (any_goals (first | assumption | wp_step))
        exact k _ _ _ _ _ _ R1 g1 q1
end
end Tw
namespace Tw
open PySem PySem.Spec PyProof.Rows L2 LamX
theorem EX.go {T : List (Addr × Str)} {X : Cx} {e : Expr} {σ : L2.St} {F H F1 H1 : Hp} {P : V → Hp → Prop} {Q : VK} (h : EX T X e σ F H P) (a : Adv T F H F1 H1) (k : ∀ v F2 H2, Adv T F1 H1 F2 H2 → P v F2 → Q v H2) : rE X e σ H1 Q := h F1 H1 a Q k
theorem EA.go {T : List (Addr × Str)} {X : Cx} {e : List Expr} {σ : L2.St} {F H F1 H1 : Hp} {P : List V → Hp → Prop} {Q : List V → Hp → Prop} (h : EA T X e σ F H P) (a : Adv T F H F1 H1) (k : ∀ v F2 H2, Adv T F1 H1 F2 H2 → P v F2 → Q v H2) : rA X e σ H1 Q := h F1 H1 a Q k
theorem EN.go {T : List (Addr × Str)} {X : Cx} {e : Expr} {σ : L2.St} {F H F1 H1 : Hp} {C : Hp → HO → Prop} {Q : VK} (h : EN T X e σ F H C) (a : Adv T F H F1 H1) (k : ∀ a o F2 H2, Adv T F1 H1 F2 H2 → Nw H1 a → F2 a = none → H2 a = some o → C F2 o → Q (.ref a) H2) : rE X e σ H1 Q := h F1 H1 a Q k
theorem EF.go {T : List (Addr × Str)} {X : Cx} {e : Expr} {σ : L2.St} {F H F1 H1 : Hp} {ds : List PyData} {Q : VK} (h : EF T X e σ F H ds) (a : Adv T F H F1 H1) (k : ∀ a xs F2 H2, Adv T F1 H1 F2 H2 → Nw H1 a → F2 a = none → H2 a = some (.lst xs) → ImL F2 ds xs → Q (.ref a) H2) : rE X e σ H1 Q := h F1 H1 a Q k
theorem ne_at {H : Hp} {a b : Addr} {x y : HO} (h1 : H a = some x) (h2 : H b = some y) (n : x ≠ y) : a ≠ b := fun z => by
  rw [z, h2] at h1
  exact n (Option.some.inj h1).symm
/-! ### d.update(e) -/
def rUpd : V → List V → Hp → VK → Prop := fun x xs H Q => ∃ (d o : Addr) (kvs more : List (Key × V)), x = .ref d ∧ xs = [.ref o] ∧ d ≠ o ∧ H d = some (.dK kvs) ∧ H o = some (.dK more) ∧ kvs.length + more.length ≤ sizeLine ∧ Q .non (upd H d (.dK (mergeK kvs more)))
theorem mt_upd {X : Cx} : MtM X "dict.update" rUpd := by
  intro pins s σ H x xs v us Q I rx rxs h
  obtain ⟨d, o, kvs, more, rfl, rfl, hne, hd, ho, hz, q⟩ := h
  cases rx
  obtain ⟨u, rfl, ru⟩ := rxs.one
  obtain rfl : u = .ref o := ru
  obtain ⟨z1, n1, vs, rel, dd⟩ := dk_of I.hok hd
  obtain ⟨z2, n2, ws, rel2, dd2⟩ := dk_of I.hok ho
  refine call_meetsIn PySem.F.slot_dict_update dd.typeIs PySem.F.entry_dict_update (PySem.F.args_dict_update_1 _) (meets_dict_update (mixKind X.prog X.w) d o hne n2)
    ⟨vs, ws, dd, dd2, by rw [← rel.length, ← rel2.length]; exact hz, fun h' dd' _ hs => ?_⟩
  have he : ∃ q, h'.get? d = some q := let ⟨q, _, _, hq, _⟩ := dd'; ⟨q, hq⟩
  exact ⟨.non, _, d_write I (by rw [hd]; exact True.intro) hs he (dk_new (Nat.le_trans (length_mergeK more kvs) hz) n1 (KV.merge rel2 rel) dd'), rfl, q⟩
/-! ### d == {} -/
def rEqN : R2 := fun x y H Q => ∃ a b ks, x = .ref a ∧ y = .ref b ∧ Rd H a (.dK ks) ∧ Rd H b (.dK []) ∧ Q (.bl ks.isEmpty) H
theorem op_eqN {X : Cx} (hu : X.A.units + 64 < cLine) : OpR X (compareOp .Eq) rEqN := by
  intro pins s σ H x y v u Q I rx ry h
  obtain ⟨a, b, ks, rfl, rfl, ea, eb, q⟩ := h
  obtain rfl : v = Value.ref a := rx
  obtain rfl : u = Value.ref b := ry
  obtain ⟨_, ya, va, ra, da⟩ := dk_rd I.hok ea
  obtain ⟨_, yb, vb, rb, db⟩ := dk_rd I.hok eb
  obtain rfl : vb = [] := by cases rb; rfl
  refine PySem.W.eq_dictsT (knd := mixKind X.prog X.w) (n := 0) (e := fun _ => true) ya yb da db (fun k v y _ e => by cases e) (by omega) ⟨.bl ks.isEmpty, H, I, ?_, q⟩
  have e : (va.length == ([] : List (Key × Value)).length && va.all fun p => (valueAt ([] : List (Key × Value)) p.1).isSome && true) = ks.isEmpty := by
    have hl := ra.length
    cases ks with
    | nil => cases va with
      | nil => rfl
      | cons _ _ => cases hl
    | cons _ _ => cases va with
      | nil => cases hl
      | cons _ _ => rfl
  rw [e]
  rfl
/-! ### o.f as a target -/
def gAttr (K : PySem.W.Frag) (to : TE) (f : Str) : TG := fun v σ H Q => to σ H fun x H1 => ∃ a C dx fs, x = .ref a ∧ H1 a = some (.ins C dx fs) ∧ Cls K C ∧ NoAttr K C f ∧ fs.length < 1000 ∧ Q σ (upd H1 a (.ins C dx (putF f v fs)))
theorem pg_attr {X : Cx} {o : Expr} {f : Str} {pos : Pos} {to : TE} (ho : PE X o to) : PG X (.Attribute o f pos) (gAttr X.K to f) := by
  constructor
  intro pins s σ H v u Q I r h
  rw [assign_Attribute]
  refine wpAny_bind (wpAny_holding (thn (ho.run pins s σ H _ I h) fun ov s1 hq => ?_))
  obtain ⟨x, H1, I1, r1, a, C, dx, fs, ex, ea, c, n, l, q⟩ := hq
  subst ex
  obtain rfl : ov = .ref a := r1
  refine wpAny_bind (wpAny_standAt (wpAny_bind (wpAny_holding (setattr_ok I1 ea c n l r fun s2 I2 => ?_))))
  exact wpAny_release ⟨σ, _, I2, q⟩
section
variable {T : List (Addr × Str)} {X : Cx} {e a b c : Expr} {es : List Expr} {σ : L2.St} {F H F' H' : Hp} {P P1 P2 : V → Hp → Prop} {d d1 d2 : PyData} {ds : List PyData} {v : V} {pos p p2 : Pos} {l o C dx : Addr} {xs : List V} {i j : Int} {x y z m f : Str} {rest : List Stmt} {D : Ends} {fs : List (Str × V)} {k n : Nat} {sp : Sp} {kvs : List (Key × V)} {dk : Tb Key}
theorem b_upd (ha : EV T X a σ F H (.ref l)) (he : EN T X e σ F H (cK dk)) (hF : F l = none) (hl : H l = some (.dK kvs)) (s : Sub F H) (hz : kvs.length + dk.length ≤ sizeLine)
    (q : ∀ kvs' F1 H1, Adv T F H F1 H1 → F1 l = none → H1 l = some (.dK kvs) → kvs'.length ≤ kvs.length + dk.length → Sub F1 (upd H1 l (.dK kvs')) → rB X rest D σ (upd H1 l (.dK kvs')))
    (hB : PE X (.Call (.Attribute a "update" p) [e] [] p2) (tBM X.K "dict" rUpd (rE X a) (tCons (rE X e) tNil)) := by exact pe_bm PySem.F.plainAttrs_dict PySem.F.slot_dict_update PySem.F.type_dict_update mt_upd pe_r (pa_cons pe_r pa_nil))
    (hs : swapsWith (.Call (.Attribute a "update" p) [e] [] p2) none pos.line X.env = pure false := by rfl) : rB X (.Expr (.Call (.Attribute a "update" p) [e] [] p2) pos :: rest) D σ H :=
  b_exprR (goE hB (ha F H (.refl s) _ fun u F1 H1 a1 q1 => by
    obtain ⟨f1, h1⟩ := a1.off hF hl notTbl_dK
    have q1 : u = .ref l := q1
    subst q1
    refine ⟨.inr (.inr (.inl ⟨rfl, .inl ⟨_, h1⟩⟩)), he F1 H1 a1 _ fun r o F2 H2 a2 hn hF2 hl2 ⟨ks, ek, hd⟩ => ?_⟩
    obtain ⟨f2, h2⟩ := a2.off f1 h1 notTbl_dK
    subst ek
    have hlk := hd.length
    exact ⟨l, r, kvs, ks, rfl, rfl, hn.ne h1 notTbl_dK, h2, hl2, by rw [hlk]; exact hz, q _ F2 H2 (a1.trans a2) f2 h2 (by have := length_mergeK ks kvs; omega) (a2.sub.updO f2)⟩)) hs
-- o.f = e, by wishes
theorem b_fldR (h : rE X e σ H fun v H1 => rE X a σ H1 fun u H2 => ∃ o C dx fs, u = .ref o ∧ H2 o = some (.ins C dx fs) ∧ Cls X.K C ∧ NoAttr X.K C f ∧ fs.length < 1000 ∧ rB X rest D σ (upd H2 o (.ins C dx (putF f v fs))))
    (hs : swapsWith e (some (.Attribute a f p)) pos.line X.env = pure false := by rfl) : rB X (.Assign [.Attribute a f p] e pos :: rest) D σ H :=
  goC (ps_fld pe_r pe_r hs) h
-- o.f, o.g = e1, e2
theorem b_fld2R {e1 e2 a1 a2 : Expr} {f1 f2 : Str} {p1 p3 pt : Pos} {kt k2 : Nat} (hc : X.calm = true) (h : rE X e1 σ H fun v H1 => rE X e2 σ H1 fun w H2 => ∀ q, H2 q = none → rE X a1 σ (upd H2 q (.tup [v, w])) fun u H3 => ∃ o C dx fs, u = .ref o ∧ H3 o = some (.ins C dx fs) ∧ Cls X.K C ∧ NoAttr X.K C f1 ∧ fs.length < 1000 ∧
      rE X a2 σ (upd H3 o (.ins C dx (putF f1 v fs))) fun u2 H4 => ∃ o2 C2 dx2 fs2, u2 = .ref o2 ∧ H4 o2 = some (.ins C2 dx2 fs2) ∧ Cls X.K C2 ∧ NoAttr X.K C2 f2 ∧ fs2.length < 1000 ∧ rB X rest D σ (upd H4 o2 (.ins C2 dx2 (putF f2 w fs2))))
    (hs : swapsWithSole [.Tuple [.Attribute a1 f1 p1, .Attribute a2 f2 p3] kt pt] (.Tuple [e1, e2] k2 p2) pos.line X.env = pure false := by rfl) (hw : swappedStores [.Tuple [.Attribute a1 f1 p1, .Attribute a2 f2 p3] kt pt] (.Tuple [e1, e2] k2 p2) X.env = pure none := by rfl)
    (h1 : (assignEach [.Tuple [.Attribute a1 f1 p1, .Attribute a2 f2 p3] kt pt] X.env).map (·.2) = [assign (.Tuple [.Attribute a1 f1 p1, .Attribute a2 f2 p3] kt pt) X.env] := by rfl)
    (hA : PA X [e1, e2] (tCons (rE X e1) (tCons (rE X e2) tNil)) := by exact pa_cons pe_r (pa_cons pe_r pa_nil))
    (hG : PG X (.Tuple [.Attribute a1 f1 p1, .Attribute a2 f2 p3] kt pt) (gTup X.K 2 (gCons (gAttr X.K (rE X a1) f1) (gCons (gAttr X.K (rE X a2) f2) gNil))) := by exact pg_tup rfl (pgs_cons (pg_attr pe_r) (pgs_cons (pg_attr pe_r) pgs_nil))) :
    rB X (.Assign [.Tuple [.Attribute a1 f1 p1, .Attribute a2 f2 p3] kt pt] (.Tuple [e1, e2] k2 p2) pos :: rest) D σ H := by
  refine goC (ps_asg (te := tTup (tCons (rE X e1) (tCons (rE X e2) tNil))) (pe_tup hA) hG hs hw h1) ?_
  refine fun pins s I => wpAny_mono (h pins s I) (fun u s' ⟨v, H1, I1, r, q⟩ => ⟨v, H1, I1, r, fun pins s I => wpAny_mono (q pins s I) (fun u s' ⟨w, H2, I2, r2, q2⟩ => ⟨w, H2, I2, r2, ?_⟩) fun _ _ z => z⟩) fun _ _ z => z
  refine ⟨Nat.le_of_ble_eq_true rfl, fun r hr => ⟨r, [v, w], rfl, SqT.of upd_same, rfl, v, [w], rfl, ?_⟩⟩
  refine fun pins s I => wpAny_mono (q2 r hr pins s I) (fun u s' ⟨x, H3, I3, r3, o, C, dx, fs, z1, z2, z3, z4, z5, z6⟩ => ⟨x, H3, I3, r3, o, C, dx, fs, z1, z2, z3, z4, z5, w, [], rfl, ?_⟩) fun _ _ z => z
  exact fun pins s I => wpAny_mono (z6 pins s I) (fun u s' ⟨x, H3, I3, r3, o, C, dx, fs, z1, z2, z3, z4, z5, z6⟩ => ⟨x, H3, I3, r3, o, C, dx, fs, z1, z2, z3, z4, z5, rfl, z6⟩) fun _ _ z => z
-- an item of a list beside the standing part
theorem ev_ixm (ha : EV T X a σ F H (.ref l)) (hl : H l = some (.lst xs)) (hb : ED T X b σ F H (.int i)) (h : atI xs i = some v) (hs : PlainIx b := by exact fun _ _ => rfl) : EV T X (.Subscript a b pos) σ F H v :=
  ex_op2 (pe_ix ix_list pe_r pe_r hs) ha hb mono_eq fun x y F1 H1 a1 h1 h2 Q k => ⟨l, xs, i, v, h1, h2, SqL.of (a1.hh _ _ hl notTbl_lst), h, k v F1 H1 (.refl a1.sub) rfl⟩
-- [[] for x in ..]: as many lists, each its own
theorem e_lists {α : Type} {enc : α → PyData} {us : List α} {bs : α → Bs} {tg it : Expr} {p3 : Pos} {scope : Scope} {own : List (Str × Nat)} {Q : VK} (hc : X.calm = true) (hN : X.N.Nodup) (ok : blkC X.N X.env.scope scope own = true) (w : Wk T X tg it σ F H (us.map enc)) (hb : ∀ x ∈ us, ∀ i ∈ (bs x).map (·.1), i ∈ own.map (·.2))
    (turn : ∀ (s : Shared) (Hb : Hp) (C : Addr) (cl : List (Str × Addr)) (fp : List Addr), ∀ x ∈ us, GT (bkX X scope s Hb C cl fp) tg (enc x) (bs x))
    (hl : us.length ≤ sizeLine) (s : Sub F H) (k : ∀ D hs F1 H1, Adv T F H F1 H1 → Nw H D → F1 D = none → H1 D = some (.lst (hs.map V.ref)) → hs.length = us.length → (D :: hs).Nodup → (∀ h ∈ hs, Nw H h ∧ F1 h = none ∧ H1 h = some (.lst [])) → Q (.ref D) H1)
    (hs : ∀ x, foldedSetIterable it X.env x = pure x := by intro _; rfl) : rE X (.ListComp (.List [] p3) [Comprehension.mk tg it [] 0] scope pos) σ H Q := by
  obtain ⟨wi, hi, hw⟩ := w
  let g : TG := fun v σ H Q => ∀ s Hb C cl fp, rG (bkX X scope s Hb C cl fp) tg v σ H Q
  let te : TE := fun σ H Q => ∀ s Hb C cl fp, rE (bkX X scope s Hb C cl fp) (.List [] p3) σ H Q
  refine goE (pe_lc (g := g) (tt := tYes) (te := te) hc hN hi (blkOk_by ok) (fun s Hb C cl fp => ⟨fun pins s1 σ H v u Q I r h => h s Hb C cl fp pins s1 u I r⟩) (fun s Hb C cl fp => pts_nil (X := bkX X scope s Hb C cl fp)) (fun s Hb C cl fp => ⟨fun pins s1 σ H Q I h => h s Hb C cl fp pins s1 I⟩) hs) ?_
  refine hw F H (.refl s) _ fun J0 F2 H2 a2 wk => ?_
  rw [List.length_map] at wk
  intro Dl hD
  have lay : Adv T F2 H2 F2 (upd H2 Dl (.lst [])) := Adv.lay a2.sub hD
  refine lc_it wk (fun i H' => ∃ F', Adv T F2 H2 F' H' ∧ F' Dl = none ∧ ∃ hs : List Addr, H' Dl = some (.lst (hs.map V.ref)) ∧ hs.length = i ∧ (Dl :: hs).Nodup ∧ ∀ h ∈ hs, Nw H2 h ∧ F' h = none ∧ H' h = some (.lst [])) ⟨F2, lay, a2.sub.offN hD, [], upd_same, rfl, by simp, fun h hh => by cases hh⟩ (fun i H' _ ⟨F', x1, _⟩ => ⟨F', x1.ff, x1.sub⟩) (fun i x H3 H' hlt ⟨F', x1, x2, hs, x3, x4, x5, x6⟩ y => ?_) fun H' ⟨F', x1, x2, hs, x3, x4, x5, x6⟩ => ?_
  · obtain ⟨F'', d, ad, hd, im⟩ := y F' x1.ff x1.sub
    have hx : us[i]? = some us[i] := List.getElem?_eq_getElem hlt
    have hm := List.getElem_mem hlt
    rw [List.getElem?_map, hx] at hd
    obtain rfl : enc us[i] = d := Option.some.inj hd
    intro s Hb C cl fp
    refine turn s Hb C cl fp _ hm F'' H' x _ _ ad.sub im fun vs hvs => ⟨wipe_sets _ _ _ _ (hb _ hm), ?_⟩
    show te (sets (wipe σ (own.map (·.2))) ((bs us[i]).map (·.1)) vs) H' _
    intro s Hb C cl fp
    refine EF.go (T := T) (ef_lst ea_nil (Nat.zero_le _)) (.refl ad.sub) fun r ys F4 H4 a4 hn hF hl4 hd4 => ?_
    obtain rfl : ys = [] := hd4
    obtain ⟨o1, o2⟩ := (ad.trans a4).off x2 x3 notTbl_lst
    have hrD : r ≠ Dl := fun z => by
      have := (ad.off x2 x3 notTbl_lst).2
      obtain ⟨ps, e⟩ := hn _ (by rw [z]; exact this)
      exact notTbl_lst ps e
    have hrh : ∀ h ∈ hs, r ≠ h := fun h hh z => by
      have := (ad.off (x6 h hh).2.1 (x6 h hh).2.2 notTbl_lst).2
      obtain ⟨ps, e⟩ := hn _ (by rw [z]; exact this)
      exact notTbl_lst ps e
    refine ⟨hs.map V.ref, o2, by rw [List.length_map]; omega, F4, (x1.trans (ad.trans a4)).mut (Nw.of hD) o1 o2 mut_lst, o1, hs ++ [r], by rw [upd_same, List.map_append]; rfl, by rw [List.length_append, x4]; rfl, ?_, fun h hh => ?_⟩
    · rw [← List.cons_append, List.nodup_append]
      refine ⟨x5, by simp, fun a ha b hb2 => ?_⟩
      rw [List.mem_singleton.mp hb2]
      rcases List.mem_cons.mp ha with e | e
      · rw [e]; exact hrD.symm
      · exact (hrh a e).symm
    · rcases List.mem_append.mp hh with e | e
      · obtain ⟨q1, q2, q3⟩ := x6 h e
        obtain ⟨o3, o4⟩ := (ad.trans a4).off q2 q3 notTbl_lst
        have hne : h ≠ Dl := fun z => (List.nodup_cons.mp x5).1 (z ▸ e)
        exact ⟨q1, o3, by rw [upd_ne hne]; exact o4⟩
      · rw [List.mem_singleton.mp e]
        exact ⟨Nw.back (x1.trans ad) hn, hF, by rw [upd_ne hrD]; exact hl4⟩
  · exact k Dl hs F' H' (a2.trans x1) (Nw.back a2 (.of hD)) x2 x3 x4 x5 fun h hh => ⟨Nw.back a2 (x6 h hh).1, (x6 h hh).2⟩
-- many objects come to stand
theorem stand_all {F0 H0 : Hp} : ∀ (qs : List (Addr × HO)) {F H : Hp}, Adv T F0 H0 F H → (qs.map (·.1)).Nodup → (∀ q ∈ qs, Nw H0 q.1 ∧ F q.1 = none ∧ H q.1 = some q.2 ∧ NotTbl q.2 ∧ ∀ ob u, q.2 ≠ .frz ob u) →
    ∃ F', Adv T F0 H0 F' H ∧ Ext F F' ∧ (∀ q ∈ qs, F' q.1 = some q.2) ∧ ∀ a, a ∉ qs.map (·.1) → F' a = F a
  | [], F, H, a, _, _ => ⟨F, a, Ext.rfl, fun q hq => by (cases hq), fun _ _ => rfl⟩
  | q :: qs, F, H, a, nd, h => by
    obtain ⟨h1, h2, h3, h4, h5⟩ := h q (List.mem_cons_self ..)
    have nd' := List.nodup_cons.mp (by simpa using nd : (q.1 :: qs.map (·.1)).Nodup)
    have ex : Ext F (upd F q.1 q.2) := fun x o hx => by rw [upd_ne fun z => by rw [z, h2] at hx; cases hx]; exact hx
    obtain ⟨F', b1, b2, b3, b4⟩ := stand_all qs (a.set h1 h3 h4 h5) nd'.2 fun r hr => by
      obtain ⟨g1, g2, g3, g4, g5⟩ := h r (List.mem_cons_of_mem _ hr)
      refine ⟨g1, ?_, g3, g4, g5⟩
      have hne : r.1 ≠ q.1 := fun z => nd'.1 (by rw [← z]; exact List.mem_map_of_mem hr)
      rw [upd_ne hne]
      exact g2
    refine ⟨F', b1, ex.trans b2, fun r hr => ?_, fun x hx => ?_⟩
    · rcases List.mem_cons.mp hr with e | e
      · rw [e, b4 _ nd'.1, upd_same]
      · exact b3 r e
    · have hx' : x ≠ q.1 ∧ x ∉ qs.map (·.1) := by
        simp only [List.map_cons, List.mem_cons, not_or] at hx
        exact hx
      rw [b4 x hx'.2, upd_ne hx'.1]
theorem isEmpty_len {α β : Type} {xs : List α} {ys : List β} (h : xs.length = ys.length) : xs.isEmpty = ys.isEmpty := by
  cases xs <;> cases ys <;> first | rfl | cases h
theorem rx_eqN {P1 : V → Hp → Prop} (h1 : ∀ x F1 H1, Adv T F H F1 H1 → P1 x F1 → ∃ a ks, x = .ref a ∧ Rd H1 a (.dK ks) ∧ ks.length = dk.length) : RX T rEqN F H P1 (imP (dOf [])) (imP (.bool dk.isEmpty)) := fun x y F1 H1 a1 p1 p2 Q k => by
  obtain ⟨a, ks, e1, r1, l1⟩ := h1 x F1 H1 a1 p1
  obtain ⟨b, ks2, e2, r2, d2⟩ := im_dOf.mp p2
  obtain rfl : ks2 = [] := d2
  exact ⟨a, b, ks, e1, e2, r1, a1.sub.rdR r2, k _ F1 H1 (.refl a1.sub) (by rw [isEmpty_len l1]; rfl)⟩
theorem en_nil : EN T X (.Dict [] [] pos) σ F H (cK []) := fun F1 H1 a1 Q k => goE pe_dnewK fun p hp => k p _ F1 _ (Adv.lay a1.sub hp) (.of hp) (a1.sub.offN hp) upd_same ⟨[], rfl, rfl⟩
theorem ed_isnilD (hu : X.A.units + 64 < cLine) (ha : ED T X a σ F H (dOf dk)) : ED T X (.Compare a [.Eq] [.Dict [] [] p] pos) σ F H (.bool dk.isEmpty) :=
  ex_cmp (op_eqN hu) ha (EN.ed en_nil) mono_im (rx_eqN fun x F1 H1 a1 h => by
    obtain ⟨r, ks, e1, e2, e3⟩ := im_dOf.mp h
    exact ⟨r, ks, e1, a1.sub.rdR e2, e3.length⟩) (nomark _)
theorem et_isnilD (hu : X.A.units + 64 < cLine) (ha : ED T X a σ F H (dOf dk)) : ET T X (.Compare a [.Eq] [.Dict [] [] p] pos) σ F H dk.isEmpty :=
  et_cmp (op_eqN hu) ha (EN.ed en_nil) mono_im (rx_eqN fun x F1 H1 a1 h => by
    obtain ⟨r, ks, e1, e2, e3⟩ := im_dOf.mp h
    exact ⟨r, ks, e1, a1.sub.rdR e2, e3.length⟩) (nomark _)
theorem ed_isnilM (hu : X.A.units + 64 < cLine) (ha : EV T X a σ F H (.ref l)) (hl : H l = some (.dK kvs)) (hd : kvs.length = dk.length) : ED T X (.Compare a [.Eq] [.Dict [] [] p] pos) σ F H (.bool dk.isEmpty) :=
  ex_cmp (op_eqN hu) ha (EN.ed en_nil) mono_eq (rx_eqN fun x F1 H1 a1 h => ⟨l, kvs, h, .inl (a1.hh _ _ hl notTbl_dK), hd⟩) (nomark _)
-- dict(d): a copy
theorem en_copy (hm : X.mg "dict" = none) (he : ED T X e σ F H (dOf dk)) (hg : Gl X "dict" := by rfl) (hs : starEach [e] X.env = (false, eval e X.env) :: starEach [] X.env := by rfl) : EN T X (.Call (.Name "dict" p) [e] [] pos) σ F H (cK dk) := fun F1 H1 a1 Q k =>
  goE (pe_callTy call_dictD hg hm boot_dictb pa_r (by decide) (by decide) hs (by rfl)) (EA.go (ea1 he mono_im hs) a1 fun vs F2 H2 a2 ⟨v, e1, iv⟩ => by
    obtain ⟨r, ks, e2, e3, e4⟩ := im_dOf.mp iv
    exact ⟨r, ks, by rw [e1, e2], a2.sub.rdR e3, fun q hq => k q _ F2 _ (a2.trans (Adv.lay a2.sub hq)) (Nw.back a2 (.of hq)) (a2.sub.offN hq) upd_same ⟨ks, rfl, e4⟩⟩)
-- x = a new object
theorem b_asgN {C : Hp → HO → Prop} {i : Nat} (h : EN T X e σ F H C) (s : Sub F H) (k : ∀ l o F1 H1, Adv T F H F1 H1 → Nw H l → F1 l = none → H1 l = some o → C F1 o → rB X rest D (σ.set i (some (.ref l))) H1) (hN : X.N.Nodup) (hi : X.N[i]? = some x := by rfl) (hx : Loc X.env.scope x := by first | exact .inl rfl | exact .inr rfl) (hs : swapsWith e (some (.Name x p)) pos.line X.env = pure false := by rfl)
    (hf : X.fn x = true ∨ X.env.scope.names.lookup x = some .local := by first | exact .inl rfl | exact .inr rfl | assumption) : rB X (.Assign [.Name x p] e pos :: rest) D σ H :=
  b_asgR (h F H (.refl s) _ k) hN hi hx hs hf
-- a dict comes to stand
theorem stand_dK {F0 H0 : Hp} {l : Addr} (a : Adv T F0 H0 F H) (nw : Nw H0 l) (hF : F l = none) (hl : H l = some (.dK kvs)) (hd : DL F dk kvs) : ∃ F', Adv T F0 H0 F' H ∧ Im F' (dOf dk) (.ref l) ∧ Ext F F' ∧ ∀ a, a ≠ l → F' a = F a := by
  have ex : Ext F (upd F l (.dK kvs)) := fun x o q => by rw [upd_ne fun z => by rw [z, hF] at q; cases q]; exact q
  exact ⟨_, a.set nw hl notTbl_dK, im_dOf.mpr ⟨l, kvs, rfl, .inl upd_same, hd.up ex⟩, ex, fun a h => upd_ne h⟩
theorem ed_neg (ha : ED T X a σ F H (.int i)) : ED T X (.UnaryOp .USub a pos) σ F H (.int (-i)) := fun F1 H1 a1 Q k => goE (pe_un un_neg pe_r) (EX.go ha a1 fun v F2 H2 a2 q => ⟨i, q, k _ F2 H2 a2 rfl⟩)
end
end Tw
namespace Tw
open PySem PySem.Spec PyProof.Rows L2 LamX
/-! ### {t: v}, t a tuple -/
def tDisp1T (tk tv : TE) : TE := fun σ H Q => ∀ p, H p = none → tk σ (upd H p (.dT [])) fun x H1 => tv σ H1 fun y H2 => ∃ b ks, x = .ref b ∧ H2 b = some (.tup (ks.map kV)) ∧ H2 p = some (.dT []) ∧ Q (.ref p) (upd H2 p (.dT [(ks, y)]))
theorem pe_disp1T {X : Cx} {k v : Expr} {pos : Pos} {tk tv : TE} (hu : X.A.units + 64 < cLine) (hk : PE X k tk) (hv : PE X v tv) : PE X (.Dict [some k] [v] pos) (tDisp1T tk tv) := by
  constructor
  intro pins s σ H Q I q
  have hn := I.hok.fresh (Nat.le_refl s.heap.objs.size)
  have I1 := I.laid (a := s.heap.objs.size) (o := .dT []) (h' := s.heap.push { cls := .type "dict", data := .dict #[] }) (t' := s.toks) (fun _ _ q => Heap.get?_push_of_some _ q) (Nat.le_refl _) (dt_empty s.heap I.big)
  refine PySem.wpAny_Dict_any rfl rfl (by simp) (Nat.le_of_ble_eq_true rfl) (pairTrees_cons_walk (thn (hk.run pins _ σ _ _ I1 (q _ hn)) fun u s1 ⟨x, H1, I1', rx, q1⟩ => thn (hv.run pins s1 σ H1 _ I1' q1) fun w2 s2 ⟨y, H2, I2, ry, b, ks, ex, hb, hp, q2⟩ => pairTrees_nil_walk ?_))
  subst ex
  obtain rfl : u = .ref b := rx
  obtain ⟨z, hd, xs, r0, dd⟩ := dt_of I2.hok hp
  cases r0
  refine wpAny_storeAllH (knd := tupleKind (mixKind X.prog X.w)) (by show X.A.units < cLine; omega) [(.ref b, w2)] [(ks, b, w2)] [] _ _ ⟨rfl, rfl, key_of I2.hok hb, trivial⟩ dd (Nat.le_of_ble_eq_true rfl) fun h' tk dd' hs => ?_
  obtain ⟨o, es, ep, ho, h2, h3, h4, _, h5⟩ := dd'
  refine ⟨.ref s.heap.objs.size, _, d_write (t' := tk) (ob := .dT [(ks, y)]) I2 (by rw [hp]; exact True.intro) hs ⟨o, ho⟩ ⟨Nat.le_of_ble_eq_true rfl, hd, [(ks, b, w2)], ?_, o, es, ep, ho, h2, h3, h4, h5⟩, rfl, q2⟩
  refine .cons ⟨rfl, ?_, ry⟩ .nil
  rw [upd_ne (ne_at hb hp (fun z => nomatch z))]
  exact hb
end Tw
namespace Tw
open PySem PySem.Spec PyProof.Rows L2 LamX
/-! ### sorted(d), d a dict whose keys are tuples -/
def keyD (k : List Key) : PyData := .tuple (k.map kE)
theorem reads_keys : ∀ (ks : List Key) (us : List Value), Vals (ks.map kV) us → ∀ h : Heap, ∃ as, ReadsAll h us (ks.map kE) as
  | [], _, r, h => by cases r; exact ⟨[], .nil⟩
  | k :: ks, _, r, h => by
    cases r with
    | cons r1 r2 =>
      obtain ⟨as, q⟩ := reads_keys ks _ r2 h
      cases k with
      | inl i =>
        obtain ⟨t, rfl⟩ := r1
        exact ⟨_, .cons (.int i t) q⟩
      | inr x =>
        obtain ⟨t, rfl⟩ := r1
        exact ⟨_, .cons (.str x t) q⟩
theorem reads_key_tup {X : Cx} {pins : List (Addr × Obj)} {σ : L2.St} {H : Hp} {s : Shared} (I : Inv X pins σ H s) {b : Addr} {ks : List Key} (hb : H b = some (.tup (ks.map kV))) : ∃ as, Reads s.heap (.ref b) (keyD ks) as := by
  obtain ⟨its, rv, ⟨o, ho, hc, n, hd⟩, hz⟩ := I.tuple (SqT.of hb)
  obtain ⟨as, q⟩ := reads_keys ks its rv s.heap
  exact ⟨_, .tuple ho hc hd q⟩
theorem key_as : ∀ (ks : List Key) (h : Heap) (us : List Value) (as : List Addr), ReadsAll h us (ks.map kE) as → as = []
  | [], _, _, _, r => by cases r; rfl
  | k :: ks, h, _, _, r => by
    cases r with
    | cons r1 r2 =>
      have e2 := key_as ks h _ _ r2
      cases k <;> cases r1 <;> simpa using e2
theorem keyD_as {h : Heap} {ks : List Key} {v : Value} {as : List Addr} (r : Reads h v (keyD ks) as) : as = [] := by
  cases r with
  | tuple _ _ _ q => exact key_as ks h _ _ q
theorem sortD_mapE {α : Type} (enc : α → PyData) (l : List α) : sortD (l.map enc) = (l.mergeSort (PySem.W.dataLe false enc)).map enc :=
  (List.map_mergeSort (r := PySem.W.dataLe false enc) (s := PySem.W.dataLe false id) (f := enc) (l := l) fun a _ b _ => rfl).symm
theorem each_refs {β : Type} {h : Heap} (f : β → Addr) (g : β → PyData) : ∀ (bs : List β), (∀ b ∈ bs, ∃ as, Reads h (.ref (f b)) (g b) as ∧ as = []) → ∀ a : Addr, PySem.W.EachIs (fun v b => ∃ as, Reads h v (g b) as ∧ a ∉ as) (bs.map fun b => Value.ref (f b)) bs
  | [], _, _ => .nil
  | b :: bs, hb, a => by
    obtain ⟨as, r, e⟩ := hb b (List.mem_cons_self ..)
    exact .cons ⟨as, r, by rw [e]; exact fun z => by cases z⟩ (each_refs f g bs (fun c hc => hb c (List.mem_cons_of_mem _ hc)) a)
theorem each_ref {β : Type} (f : β → Addr) : ∀ (bs : List β), PySem.W.EachIs (fun v b => v = Value.ref (f b)) (bs.map fun b => Value.ref (f b)) bs
  | [] => .nil
  | b :: bs => .cons rfl (each_ref f bs)
theorem vals_each_ref {β : Type} (f : β → Addr) : ∀ {zs : List β} {out : List Value}, PySem.W.EachIs (fun v b => v = Value.ref (f b)) out zs → Vals (zs.map fun z => V.ref (f z)) out
  | _, _, .nil => .nil
  | _, _, .cons h t => .cons h (vals_each_ref f t)
-- the sort of a new list of such references
theorem sort_refs {X : Cx} {pins : List (Addr × Obj)} {σ : L2.St} {H : Hp} {s : Shared} {β : Type} (I : Inv X pins σ H s) (f : β → Addr) (g : β → PyData) (bs : List β) {A : Around} {E : Value → Shared → Prop} {Q : Value → Shared → Prop}
    (hr : ∀ b ∈ bs, ∃ as, Reads s.heap (.ref (f b)) (g b) as ∧ as = []) (hal : PySem.W.AllAlike (bs.map g)) (hk : PySem.W.Sortable (bs.map g)) (hdp : ∀ b ∈ bs, (g b).depth ≤ 8) (hu : A.units + 32 < cLine) (hz : bs.length ≤ sizeLine)
    (h : ∀ s', H s.heap.objs.size = none → Inv X pins σ (upd H s.heap.objs.size (.lst ((bs.mergeSort (PySem.W.dataLe false g)).map fun z => V.ref (f z)))) s' → Q (.ref s.heap.objs.size) s') :
    wpAny (model X.prog X.w) A (do
      let l ← newList (bs.map fun b => Value.ref (f b))
      let _ ← holding [l] (call (.builtin "list.sort") [l] [])
      ret l) (fun fin s' => ∃ r, fin = .done (.ret r) ∧ Q r s') E s := by
  refine wpAny_bind (wpAny_newList ?_ (by rw [List.length_map]; exact hz))
  have hoL : (s.heap.push (seqObj "list" (bs.map fun b => Value.ref (f b)).toArray 0)).get? s.heap.objs.size = some (seqObj "list" (bs.map fun b => Value.ref (f b)).toArray 0) := Heap.get?_push_size _ rfl
  show wpAny _ _ _ _ _ { s with heap := s.heap.push (seqObj "list" (bs.map fun b => Value.ref (f b)).toArray 0) }
  refine wpAny_bind (wpAny_holding (PySem.W.list_sort_data (s := { s with heap := s.heap.push (seqObj "list" (bs.map fun b => Value.ref (f b)).toArray 0) }) (enc := g) (bs := bs) (R := fun v b => v = Value.ref (f b)) hoL (each_ref f bs) (each_refs f g bs (fun b hb => ?_) _) hal hk hz (fun b hb => ?_) fun out ho2 ho3 => ?_))
  · obtain ⟨as, r, e⟩ := hr b hb
    exact ⟨as, PyProof.Rows.Reads.keeps (fun _ _ e => Heap.get?_push_of_some _ e) r, e⟩
  · have := hdp b hb
    omega
  · obtain ⟨e', he'⟩ := PyProof.Rows.sortedHeap_at (vs := bs.map fun b => Value.ref (f b)) (out := out.toArray) hoL
    have hn := I.hok.fresh (Nat.le_refl s.heap.objs.size)
    refine wpAny_pure ⟨_, rfl, h _ hn (I.laid (t' := s.toks) (o := .lst ((bs.mergeSort (PySem.W.dataLe false g)).map fun z => V.ref (f z))) (fun b u e => ?_) (Nat.le_refl _) ⟨?_, out, e', vals_each_ref f ho3, he'⟩)⟩
    · have hb : b < s.heap.objs.size := Heap.lt_size e
      rw [PyProof.Rows.sortedHeap_old (Nat.ne_of_lt hb) (by rw [size_push']; exact Nat.lt_succ_of_lt hb)]
      exact Heap.get?_push_of_some _ e
    · rw [List.length_map, List.length_mergeSort]; exact hz
theorem acc_of {h : Heap} {P : Nat → Value → Prop} {acc : Array Value} {vs : List Value} (hi : ItemsOf P acc vs.length) (e : ∀ j v, P j v → vs[j]? = some v) : acc.toList = vs := by
  apply List.ext_getElem?
  intro j
  have hl : acc.toList.length = vs.length := by rw [Array.length_toList, hi.1]
  cases hj : acc.toList[j]? with
  | none =>
    have h1 := List.getElem?_eq_none_iff.mp hj
    rw [List.getElem?_eq_none (by omega)]
  | some v => exact (e j v (hi.2 j v (by rw [← Array.getElem?_toList]; exact hj))).symm
def rSrtT (K : PySem.W.Frag) : List V → Hp → VK → Prop := fun vs H Q => ∃ (d : Addr) (kvt : List (List Key × V)), vs = [.ref d] ∧ Rd H d (.dT kvt) ∧ PySem.W.AllAlike (kvt.map fun q => keyD q.1) ∧ PySem.W.Sortable (kvt.map fun q => keyD q.1) ∧ (∀ q ∈ kvt, (keyD q.1).depth ≤ 8) ∧
  ∀ p (zs : List (Addr × List Key)), H p = none → zs.map (fun z => keyD z.2) = sortD (kvt.map fun q => keyD q.1) → (∀ z ∈ zs, H z.1 = some (.tup (z.2.map kV))) → Q (.ref p) (upd H p (.lst (zs.map fun z => V.ref z.1)))
theorem kt_map {H : Hp} : ∀ {kvs : List (List Key × V)} {ks : List (List Key × Addr × Value)}, KT H kvs ks → (ks.map fun x => (x.2.1, x.1)).map (fun b : Addr × List Key => keyD b.2) = kvs.map fun q => keyD q.1
  | _, _, .nil => rfl
  | _, _, .cons h t => by
    rw [List.map_cons, List.map_cons, List.map_cons, kt_map t]
    show keyD _ :: _ = keyD _ :: _
    rw [h.1]
theorem kt_mem {H : Hp} : ∀ {kvs : List (List Key × V)} {ks : List (List Key × Addr × Value)}, KT H kvs ks → ∀ b ∈ ks.map (fun x => (x.2.1, x.1)), H b.1 = some (.tup (b.2.map kV))
  | _, _, .nil, b, hb => by cases hb
  | _, _, .cons h t, b, hb => by
    rcases List.mem_cons.mp hb with e | e
    · have h2 := h.2.1
      rw [h.1] at h2
      rw [e]
      exact h2
    · exact kt_mem t b e
theorem cr_srtT {X : Cx} (hc : X.calm = true) (hu : X.A.units + 64 < cLine) : CallR X (.builtin "sorted") (rSrtT X.K) := by
  intro pins s σ H vs us Q I r h
  obtain ⟨d, kvs, rfl, hd, hal, hk, hdp, q⟩ := h
  obtain ⟨u, rfl, rx⟩ := r.one
  cases rx
  obtain ⟨z, hs, ks, pr, o, es, ep, ho, hx, hdt, he, hn⟩ := (show ObjOk X.prog X.w H s.heap d (.dT kvs) from hd.ok I.hok)
  have l1 : es.size = ks.length := size_of_entries he
  have l2 : kvs.length = ks.length := Paired.length pr
  refine Calls.call_function_entry PyProof.Rows.kind_sorted PyProof.Rows.plain_sorted PyProof.Rows.entry_sorted (PyProof.Rows.args_sorted1 _) ?_
  unfold Builtin.«sorted»
  refine wpAny_bind (m := checkCount "sorted" 1 1 _) (wpAny_pure ?_)
  refine wpAny_bind (PySem.W.kdu_collect (A := X.A.in1) (kdl_raw hs hx hdt) (I.ok.hd hc) ho (by omega) fun h' tk acc hk' hacc => ?_)
  have ea : acc.toList = (ks.map fun x => (x.2.1, x.1)).map fun b : Addr × List Key => Value.ref b.1 := by
    rw [List.map_map]
    refine acc_of (h := h') (P := fun i v => ∃ en : DictEntry, es[i]? = some en ∧ v = en.key) (vs := ks.map ((fun b : Addr × List Key => Value.ref b.1) ∘ fun x => (x.2.1, x.1))) (by rw [List.length_map, ← l1]; exact hacc) fun j v ⟨en, hen, hv⟩ => ?_
    have qe := entry_at he j
    rw [hen] at qe
    rw [List.getElem?_map]
    cases hb : ks[j]? with
    | none => rw [hb] at qe; cases qe
    | some b =>
      rw [hb] at qe
      have e2 : en = entryOfKey (tupleKind (mixKind X.prog X.w)) b := Option.some.inj qe
      rw [hv, e2]
      rfl
  rw [ea]
  have I1 : Inv X pins σ H { s with heap := h', toks := tk } := I.kept hk'
  have hmap := kt_map pr
  have hmem := kt_mem pr
  refine sort_refs (A := X.A.in1) (s := { s with heap := h', toks := tk }) I1 (fun b : Addr × List Key => b.1) (fun b => keyD b.2) (ks.map fun x => (x.2.1, x.1)) (fun b hb => ?_) (by rw [hmap]; exact hal) (by rw [hmap]; exact hk) (fun b hb => ?_) (by have e : X.A.in1.units = X.A.units + 1 := rfl; omega) (by rw [List.length_map]; omega) fun s' hn' I' => ?_
  · obtain ⟨as, r⟩ := reads_key_tup I1 (hmem b hb)
    exact ⟨as, r, keyD_as r⟩
  · have hb2 : keyD b.2 ∈ kvs.map fun q => keyD q.1 := by rw [← hmap]; exact List.mem_map_of_mem (f := fun b : Addr × List Key => keyD b.2) hb
    obtain ⟨q2, hq2, e2⟩ := List.mem_map.mp hb2
    have := hdp q2 hq2
    rw [e2] at this
    exact this
  · refine ⟨.ref h'.objs.size, _, I', rfl, q _ ((ks.map fun x => (x.2.1, x.1)).mergeSort (PySem.W.dataLe false fun b => keyD b.2)) hn' ?_ fun z hz => hmem z (List.mem_mergeSort.mp hz)⟩
    rw [← hmap, sortD_mapE]
section
variable {T : List (Addr × Str)} {X : Cx} {e : Expr} {σ : L2.St} {F H F' H' F0 H0 : Hp} {pos p : Pos} {dt : Tb (List Key)} {l : Addr} {kvt : List (List Key × V)}
-- tuples come to stand, as the items of a list
theorem stand_tups : ∀ (zs : List (Addr × List Key)) {F : Hp}, Adv T F0 H0 F H → (∀ z ∈ zs, H z.1 = some (.tup (z.2.map kV))) → ∃ F', Adv T F0 H0 F' H ∧ Ext F F' ∧ ImL F' (zs.map fun z => keyD z.2) (zs.map fun z => V.ref z.1)
  | [], F, a, _ => ⟨F, a, Ext.rfl, rfl⟩
  | z :: zs, F, a, h => by
    obtain ⟨b1, b2⟩ := a.tup (h z (List.mem_cons_self ..))
    obtain ⟨F', c1, c2, c3⟩ := stand_tups zs b1 fun y hy => h y (List.mem_cons_of_mem _ hy)
    refine ⟨F', c1, b2.trans c2, _, _, rfl, ⟨z.1, _, rfl, c2 _ _ upd_same, ?_⟩, c3⟩
    have gen : ∀ ks : List Key, ImL F' (ks.map kE) (ks.map kV) := by
      intro ks
      induction ks with
      | nil => rfl
      | cons k ks ih => exact ⟨_, _, rfl, by cases k <;> rfl, ih⟩
    exact gen z.2
-- sorted(d), the dict told as a new one
theorem ef_srtT (hc : X.calm = true) (hu : X.A.units + 64 < cLine) (hm : X.mg "sorted" = none) (ks : List (List Key)) (hal : PySem.W.AllAlike (ks.map keyD)) (hk : PySem.W.Sortable (ks.map keyD)) (hdp : ∀ k ∈ ks, (keyD k).depth ≤ 8)
    (h : ∀ F1 H1, Adv T F H F1 H1 → ∀ Q : VK, (∀ l kvt F2 H2, Adv T F1 H1 F2 H2 → Rd H2 l (.dT kvt) → kvt.map (·.1) = ks → Q (.ref l) H2) → rE X e σ H1 Q)
    (hg : Gl X "sorted" := by rfl) (hs : starEach [e] X.env = (false, eval e X.env) :: starEach [] X.env := by rfl) : EF T X (.Call (.Name "sorted" p) [e] [] pos) σ F H (sortD (ks.map keyD)) := fun F1 H1 a1 Q k =>
  goE (pe_callB (cr_srtT hc hu) hg hm boot_sortedb (pa_cons pe_r pa_nil hs) (by decide) (by decide) hs (by rfl)) (h F1 H1 a1 _ fun l kvt F2 H2 a2 rd hks => by
    have e1 : (kvt.map fun q => keyD q.1) = ks.map keyD := by rw [← hks, List.map_map]; rfl
    refine ⟨l, kvt, rfl, rd, by rw [e1]; exact hal, by rw [e1]; exact hk, fun q hq => hdp _ (by rw [← hks]; exact List.mem_map_of_mem hq), fun r zs hr hz hm2 => ?_⟩
    rw [e1] at hz
    obtain ⟨F3, b1, b2, b3⟩ := stand_tups (T := T) zs (.refl a2.sub) hm2
    have lay : Adv T F3 H2 F3 (upd H2 r (.lst (zs.map fun z => V.ref z.1))) := Adv.lay b1.sub hr
    exact k r _ F3 _ ((a2.trans b1).trans lay) (Nw.back a2 (.of hr)) (b1.sub.offN hr) upd_same (by rw [← hz]; exact b3))
end
/-! ### d.items() of a new dict, which is locked for good -/
theorem Adv.setN {T : List (Addr × Str)} {F H F' H' : Hp} {p : Addr} {o : HO} (a : Adv T F H F' H') (hp : Nw H p) (hF : F' p = none) (hp' : H' p = some o) (n : NotTbl o) : Adv T F H (upd F' p o) H' ∧ Ext F' (upd F' p o) := by
  have keep : ∀ x u, F' x = some u → upd F' p o x = some u := fun x u h => by rw [upd_ne fun z => by rw [z, hF] at h; cases h]; exact h
  refine ⟨⟨fun x u h => keep x u (a.ff x u h), fun x u h => ?_, a.hh, fun x u h => ?_, a.tab⟩, keep⟩
  · by_cases e : x = p
    · subst e; rw [upd_same] at h; cases h; exact ⟨n, .inl hp'⟩
    · rw [upd_ne e] at h; exact a.sub x u h
  · by_cases e : x = p
    · subst e; exact .inr (.inl hp)
    · rw [upd_ne e] at h; exact a.sep x u h
theorem pe_lockd {X : Cx} {e : Expr} : PE X e (fun σ H Q => rE X e σ H fun v H1 => ∃ d kvs, v = .ref d ∧ H1 d = some (.dK kvs) ∧ ∀ od, Q v (upd H1 d (.frz od (.dK kvs)))) := by
  constructor
  intro pins s σ H Q I h
  refine wpAny_mono (h pins s I) (fun u s1 ⟨v, H1, I1, r, d, kvs, ev, hd, q⟩ => ?_) fun _ _ z => z
  obtain ⟨od, I2⟩ := I1.lock hd trivial
  exact ⟨v, _, I2, r, q od⟩
theorem dl_at {κ : Type} [DecidableEq κ] {F : Hp} : ∀ {ds : Tb κ} {ks : List (κ × V)} {i : Nat} {k : κ} {w : V}, DL F ds ks → ks[i]? = some (k, w) → ∃ d, ds[i]? = some (k, d) ∧ Im F d w
  | [], _, i, _, _, h, q => by rw [h] at q; simp at q
  | (k', d) :: _, _, 0, _, _, ⟨v, r, e, m, _⟩, q => by
    rw [e] at q
    cases q
    exact ⟨d, rfl, m⟩
  | (_, _) :: ds, _, i + 1, _, _, ⟨v, r, e, _, h⟩, q => by
    rw [e] at q
    exact dl_at (i := i) h q
section
variable {T : List (Addr × Str)} {X : Cx} {e : Expr} {σ : L2.St} {F H : Hp} {apos cpos tpos : Pos} {elts : List Expr} {kk : Nat} {dk : Tb Key}
theorem wk_items (h : EN T X e σ F H (cK dk)) (hbase : attributeBase e "items" X.env (eval e X.env) = eval e X.env := by rfl) (hline : (apos.endLine == cpos.line) = true := by rfl) :
    Wk T X (.Tuple elts kk tpos) (.Call (.Attribute e "items" apos) [] [] cpos) σ F H (dk.map fun q => .tuple [kE q.1, q.2]) := by
  refine ⟨_, pi_items pe_lockd hbase hline, fun F1 H1 a1 R k => EN.go h a1 fun d o F2 H2 a2 hn hF hl ⟨ks, ek, dl⟩ => ?_⟩
  subst ek
  refine ⟨d, ks, rfl, hl, fun od => ⟨d, od, ks, rfl, upd_same, ?_⟩⟩
  obtain ⟨b1, b2⟩ := ((a2.mut hn hF hl mut_dK (o' := .frz od (.dK ks)))).setN hn hF upd_same notTbl_frz
  refine k _ _ _ b1 ?_
  rw [List.length_map, ← dl.length]
  have fd : ∀ {F'}, Ext (upd F2 d (.frz od (.dK ks))) F' → F' d = some (.frz od (.dK ks)) := fun x => x _ _ upd_same
  refine walk_items.mono (fun H' ⟨F', x1, x2⟩ => x2.at (fd x1)) fun i H' v H'' hi _ ⟨T2, x, y, q1, q2, q3, q4, q5⟩ F' x1 x2 => ?_
  dsimp only at q4 q5
  cases e1 : ks[i]? with
  | none => rw [e1] at q4; cases q4
  | some r =>
    obtain ⟨kq, w⟩ := r
    rw [e1] at q4 q5
    have q4 : kV kq = x := Option.some.inj q4
    have q5 : w = y := Option.some.inj q5
    subst q4 q5
    obtain ⟨dd, e2, m⟩ := dl_at dl e1
    have ad : Adv T F' H' (upd F' T2 (.tup [kV kq, w])) (upd H' T2 (.tup [kV kq, w])) := Adv.new x2 q2 notTbl_tup
    subst q3
    refine ⟨_, .tuple [kE kq, dd], ad, by rw [List.getElem?_map, e2]; rfl, T2, _, q1, upd_same, _, _, rfl, by cases kq <;> rfl, _, _, rfl, (m.up (b2.trans x1)).up ad.ff, rfl⟩
end
end Tw
set_option maxHeartbeats 1000000
namespace Tw
open PySem
/-! Python's order of data (plain) -/
section
variable {α : Type} {enc : α → PyData}
theorem dle_trans (a b c : α) : PySem.W.dataLe false enc a b = true → PySem.W.dataLe false enc b c = true → PySem.W.dataLe false enc a c = true := (PySem.W.sortLe_total (PyProof.Rows.listOrd PyProof.Rows.itemOrd) false fun b => PySem.W.keyToks (enc b)).trans a b c
theorem dle_total (a b : α) : (PySem.W.dataLe false enc a b || PySem.W.dataLe false enc b a) = true := by
  have := (PySem.W.sortLe_total (PyProof.Rows.listOrd PyProof.Rows.itemOrd) false fun b => PySem.W.keyToks (enc b)).total a b
  rw [Bool.or_eq_true]
  exact this
theorem dle_anti {a b : α} (h1 : PySem.W.dataLe false enc a b = true) (h2 : PySem.W.dataLe false enc b a = true) : PySem.W.keyToks (enc a) = PySem.W.keyToks (enc b) := by
  have h1 : (!PyProof.Rows.lexLt PyProof.Rows.itemOrd (PySem.W.keyToks (enc b)) (PySem.W.keyToks (enc a))) = true := h1
  have h2 : (!PyProof.Rows.lexLt PyProof.Rows.itemOrd (PySem.W.keyToks (enc a)) (PySem.W.keyToks (enc b))) = true := h2
  rw [Bool.not_eq_true'] at h1 h2
  exact PyProof.Rows.lex_total _ _ h2 h1
theorem sort_perm (inj : ∀ a b, PySem.W.keyToks (enc a) = PySem.W.keyToks (enc b) → a = b) {l1 l2 : List α} (p : l1.Perm l2) : l1.mergeSort (PySem.W.dataLe false enc) = l2.mergeSort (PySem.W.dataLe false enc) :=
  List.Perm.eq_of_pairwise (fun a b _ _ h1 h2 => inj a b (dle_anti h1 h2)) (List.pairwise_mergeSort dle_trans dle_total l1) (List.pairwise_mergeSort dle_trans dle_total l2) (((List.mergeSort_perm l1 _).trans p).trans (List.mergeSort_perm l2 _).symm)
end
theorem int_inj (a b : Int) (h : PySem.W.keyToks (.int a) = PySem.W.keyToks (.int b)) : a = b := by
  simpa [PySem.W.keyToks] using h
-- each row once, upwards
theorem sort_row {a b : List Nat} (na : a.Nodup) (pb : b.Pairwise (· < ·)) (m : ∀ x, x ∈ a ↔ x ∈ b) : (a.map fun i : Nat => (i : Int)).mergeSort (PySem.W.dataLe false PyData.int) = b.map fun i : Nat => (i : Int) := by
  have nb : b.Nodup := pb.imp fun h => Nat.ne_of_lt h
  have p : (a.map fun i : Nat => (i : Int)).Perm (b.map fun i : Nat => (i : Int)) := ((List.perm_ext_iff_of_nodup na nb).mpr m).map _
  rw [sort_perm int_inj p]
  refine List.mergeSort_of_pairwise (List.pairwise_map.mpr (pb.imp fun {x y} h => ?_))
  have e := congrFun (congrFun (PySem.W.dataLe_int (fun n : Int => n)) (x : Int)) (y : Int)
  show PySem.W.dataLe false (fun n : Int => PyData.int n) (x : Int) (y : Int) = true
  rw [e]
  exact decide_eq_true (by omega)
theorem con_inj (a b : Con) (h : PySem.W.keyToks a.d = PySem.W.keyToks b.d) : a = b := by
  obtain ⟨a1, a2, a3, a4, a5, a6⟩ := a
  obtain ⟨b1, b2, b3, b4, b5, b6⟩ := b
  simp only [Con.d, PySem.W.keyToks, PySem.W.keyToksAll, List.cons_append, List.nil_append, List.cons.injEq, true_and, Sum.inl.injEq, Sum.inr.injEq, and_true] at h
  obtain ⟨h1, h2, h3, h4, h5, h6⟩ := h
  have e1 : a1 = b1 := by omega
  have e2 : a2 = b2 := by omega
  have e3 : a3 = b3 := by omega
  have e4 : a4 = b4 := by omega
  rw [e1, e2, e3, e4, PySem.W.str_of_cps h5, PySem.W.str_of_cps h6]
end Tw
set_option maxHeartbeats 2000000
namespace Tw
open PySem PySem.Spec PyProof.Rows L2 LamX
/-! ### sorted(set(list of tuples of ints)), up to 120 -/
def gI (k : List Int) : PyData := .tuple (k.map PyData.int)
def toI (l : List Nat) : List Int := l.map fun i : Nat => (i : Int)
theorem tup_gI (l : List Nat) : tupD l = gI (toI l) := by
  unfold tupD gI toI
  rw [List.map_map]
  rfl
theorem toI_inj {a b : List Nat} (h : toI a = toI b) : a = b := by
  unfold toI at h
  exact List.map_inj_right (fun x y e => by omega) |>.mp h
theorem gI_inj : ∀ (a b : List Int), PySem.W.keyToks (gI a) = PySem.W.keyToks (gI b) → a = b
  | [], [], _ => rfl
  | [], y :: b, h => by simp [gI, PySem.W.keyToks, PySem.W.keyToksAll] at h
  | x :: a, [], h => by simp [gI, PySem.W.keyToks, PySem.W.keyToksAll] at h
  | x :: a, y :: b, h => by
    have h : Sum.inl 1 :: ([Sum.inl x] ++ PySem.W.keyToksAll (a.map PyData.int)) = Sum.inl 1 :: ([Sum.inl y] ++ PySem.W.keyToksAll (b.map PyData.int)) := by simpa [gI, PySem.W.keyToks, PySem.W.keyToksAll] using h
    injection h with _ h
    injection h with e h
    injection e with e
    have h : PySem.W.keyToks (gI a) = PySem.W.keyToks (gI b) := by simpa [gI, PySem.W.keyToks] using h
    rw [e, gI_inj a b h]
theorem once_nodup : ∀ ls : List (List Nat), (onceL ls).Nodup
  | [] => List.nodup_nil
  | x :: ls => by
    have ih := once_nodup ls
    have e : onceL (x :: ls) = if x ∈ onceL ls then onceL ls else x :: onceL ls := rfl
    rw [e]
    split
    · exact ih
    · rename_i h
      exact List.nodup_cons.mpr ⟨h, ih⟩
theorem gI_alike (a b : List Int) : PySem.W.alike (gI a) (gI b) = true := by
  have all : ∀ a b : List Int, PySem.W.alikeAll (a.map PyData.int) (b.map PyData.int) = true := by
    intro a
    induction a with
    | nil => intro b; cases b <;> simp [PySem.W.alikeAll]
    | cons x a ih =>
      intro b
      cases b with
      | nil => simp [PySem.W.alikeAll]
      | cons y b => simpa [PySem.W.alikeAll, PySem.W.alike] using ih b
  unfold gI
  rw [PySem.W.alike]
  exact all a b
theorem gI_depth (k : List Int) : (gI k).depth ≤ 8 := by
  have all : ∀ k : List Int, PyData.depthAll (k.map PyData.int) = 0 := by
    intro k
    induction k with
    | nil => rfl
    | cons x k ih => simp [PyData.depthAll, PyData.depth, ih]
  unfold gI
  rw [PyData.depth, all]
  decide
-- what stays known of such a set
structure Ro (P : Program) (w : World) (h : Heap) (a : Addr) (L : List (Addr × List Int)) : Prop where
  ex : ∃ (es : Array (Int × Value)) (ep : Nat) (t : SetTable), (∃ o, h.get? a = some o ∧ o.ExactSet ∧ o.data = .set es ep t) ∧ es.toList = rowsOf P w L ∧ Tk t (L.map fun p => thash P w p.2) ∧ (L.map Prod.snd).Nodup ∧ t.plain = true ∧ (w.params.followText "set-order" = true ∨ t.led = true) ∧ L.length * 5 < t.mask * 3 ∧ L.length ≤ 120
def RoO (P : Program) (w : World) (a : Addr) (L : List (Addr × List Int)) : HO := .ext fun h => Ro P w h a L
section
variable {P : Program} {w : World}
theorem Rw.ro {h : Heap} {a : Addr} {L : List (Addr × List Int)} {es : Array (Int × Value)} {ep : Nat} {t : SetTable} (R : Rw P w h a L es ep t) : Ro P w h a L := ⟨es, ep, t, R.ob, R.rows, R.tab, R.nd, R.plain, R.led, R.room, R.few⟩
theorem ro_new {H : Hp} {h : Heap} {a : Addr} {L : List (Addr × List Int)} (R : Ro P w h a L) : ObjOk P w H h a (RoO P w a L) := by
  obtain ⟨es, ep, t, ⟨o, ho, q⟩, rest⟩ := id R.ex
  refine ⟨R, ⟨o, ho⟩, fun h1 h2 p k => ?_⟩
  obtain ⟨es2, ep2, t2, ⟨o2, ho2, q2⟩, rest2⟩ := Ro.ex p
  exact ⟨es2, ep2, t2, ⟨o2, k o2 ho2, q2⟩, rest2⟩
end
section
variable {X : Cx}
def rSet (K : PySem.W.Frag) (P : Program) (w : World) : List V → Hp → VK → Prop := fun vs H Q => ∃ (l : Addr) (ks : List (Addr × List Int)), vs = [.ref l] ∧ SqL K H l (ks.map fun p => V.ref p.1) ∧ (∀ p ∈ ks, H p.1 = some (.tup (p.2.map V.int))) ∧ ks.length ≤ 120 ∧
  ∀ a L, H a = none → (∀ p ∈ L, p ∈ ks) → (∀ p ∈ ks, p.2 ∈ L.map Prod.snd) → (L.map Prod.snd).Nodup → Q (.ref a) (upd H a (RoO P w a L))
theorem cr_set (hc : X.calm = true) (hu : X.A.units + 64 < cLine) : CallR X (.type "set") (rSet X.K X.prog X.w) := by
  intro pins s σ H vs us Q I r h
  obtain ⟨l, ks, rfl, hl, tups, few, q⟩ := h
  rw [Vals.ref1 r]
  obtain ⟨its, rv, pl, _⟩ := I.list hl
  have fresh : H s.heap.objs.size = none := I.hok.fresh (Nat.le_refl _)
  refine call_set (P := X.prog) (w := X.w) (ks := ks) (I.ok.hd hc) pl.isList (by simpa using refs_of_vals rv) (fun p hp => L2.Inv.isT I (SqT.of (tups p hp))) few (by omega) fun h2 tk L es ep t R g kept => ?_
  exact ⟨.ref s.heap.objs.size, upd H s.heap.objs.size (RoO X.prog X.w s.heap.objs.size L), I.laid (t' := tk) kept (Nat.le_refl _) (ro_new R.ro), rfl, q _ L fresh (fun p hp => List.mem_of_mem_take (g.sub p hp)) (fun p hp => g.all p (by rw [List.take_length]; exact hp)) R.nd⟩
def rSso (P : Program) (w : World) : List V → Hp → VK → Prop := fun vs H Q => ∃ (a : Addr) (L : List (Addr × List Int)), vs = [.ref a] ∧ H a = some (RoO P w a L) ∧ (∀ p ∈ L, H p.1 = some (.tup (p.2.map V.int)) ∧ p.2 ≠ []) ∧
  ∀ p (zs : List (Addr × List Int)), H p = none → zs.Perm L → zs.Pairwise (fun x y => PySem.W.dataLe false (fun z : Addr × List Int => gI z.2) x y = true) → Q (.ref p) (upd H p (.lst (zs.map fun z => V.ref z.1)))
theorem refs_some {L : List (Addr × List Int)} : ∀ {vs : List Value}, (∀ v ∈ vs, v ∈ L.map fun p => Value.ref p.1) → ∃ M : List (Addr × List Int), vs = M.map (fun p => Value.ref p.1) ∧ ∀ p ∈ M, p ∈ L
  | [], _ => ⟨[], rfl, fun p h => by cases h⟩
  | v :: vs, h => by
    obtain ⟨p, hp, e⟩ := List.mem_map.mp (h v (List.mem_cons_self ..))
    obtain ⟨M, e2, h2⟩ := refs_some (L := L) (vs := vs) fun u hu => h u (List.mem_cons_of_mem _ hu)
    exact ⟨p :: M, by rw [List.map_cons, e, e2], fun q hq => (List.mem_cons.mp hq).elim (fun z => z ▸ hp) (h2 q)⟩
theorem cr_sso (hc : X.calm = true) (hu : X.A.units + 64 < cLine) : CallR X (.builtin "sorted") (rSso X.prog X.w) := by
  intro pins s σ H vs us Q I r h
  obtain ⟨a, L, rfl, ha, tups, q⟩ := h
  obtain ⟨es, ep, t, ⟨o, ho, ex, dat⟩, rows, T, nd, pl, ld, room, few⟩ := Ro.ex (I.hok a _ ha).1
  rw [Vals.ref1 r]
  have size := rows_size rows
  have line : 120 ≤ sizeLine := by decide
  refine Calls.call_function_entry PyProof.Rows.kind_sorted PyProof.Rows.plain_sorted PyProof.Rows.entry_sorted (PyProof.Rows.args_sorted1 _) ?_
  unfold Builtin.«sorted»
  refine wpAny_bind (m := checkCount "sorted" 1 1 _) (wpAny_pure ?_)
  refine wpAny_bind (collect_set (A := X.A.in1) (I.ok.hd hc) ⟨o, ho, ex.1, dat⟩ (tk_fits T size (by omega)) (by show es.size < 4096; omega) T.ris ld fun s1 out kept _ gens os pm => ?_)
  have evs : es.toList.map Prod.snd = L.map fun p => Value.ref p.1 := by
    rw [rows]
    unfold rowsOf
    rw [List.map_map]
    rfl
  rw [evs] at pm
  obtain ⟨M, rfl, sub⟩ := refs_some fun v hv => pm.mem_iff.mp hv
  -- each row once
  have one : ∀ x ∈ L, ∀ y ∈ L, x.1 = y.1 → x = y := fun x hx y hy e => by
    have h1 := (tups x hx).1
    rw [e, (tups y hy).1] at h1
    injection h1 with h1
    injection h1 with h1
    exact Prod.ext e (List.map_inj_right (fun i j z => by injection z) |>.mp h1).symm
  have nL : L.Nodup := nodup_of_map nd
  have nR : (L.map fun p => Value.ref p.1).Nodup := List.pairwise_map.mpr (nL.imp_of_mem fun hx hy ne e => ne (one _ hx _ hy (by injection e)))
  have pM : M.Perm L := (List.perm_ext_iff_of_nodup (nodup_of_map (pm.nodup_iff.mpr nR)) nL).mpr fun x => ⟨sub x, fun hx => by
    obtain ⟨y, hy, e⟩ := List.mem_map.mp (pm.mem_iff.mpr (List.mem_map.mpr ⟨x, hx, rfl⟩))
    rw [← one y (sub y hy) x hx (by injection e)]
    exact hy⟩
  have I1 : Inv X pins σ H s1 := I.call' (ch := []) os (Un.kept kept) (I.hok.kept kept) (by rw [gens]; exact I.bare) fun b z => absurd z List.not_mem_nil
  refine sort_refs I1 Prod.fst (fun z : Addr × List Int => gI z.2) M (fun x hx => ?_) (PySem.W.AllAlike.of fun x y => gI_alike x.2 y.2) (.inl fun d hd => ?_) (fun x _ => gI_depth x.2) (by show X.A.units + 1 + 32 < cLine; omega) (by rw [pM.length_eq]; omega) fun s2 fresh I2 => ?_
  · obtain ⟨as, rd⟩ := reads_key_tup I1 (ks := x.2.map Sum.inl) (by rw [(tups x (sub x hx)).1, List.map_map]; rfl)
    have e : keyD (x.2.map Sum.inl) = gI x.2 := by
      unfold keyD gI
      rw [List.map_map]
      rfl
    have e2 := keyD_as rd
    rw [e] at rd
    exact ⟨as, rd, e2⟩
  · obtain ⟨x, hx, rfl⟩ := List.mem_map.mp hd
    cases h : x.2 with
    | nil => exact absurd h (tups x (sub x hx)).2
    | cons i k => exact ⟨.int i, k.map PyData.int, rfl⟩
  · exact ⟨.ref s1.heap.objs.size, _, I2, rfl, q _ _ fresh ((List.mergeSort_perm M _).trans pM) (List.pairwise_mergeSort dle_trans dle_total M)⟩
end
-- rows that stand
theorem im_rows {F : Hp} : ∀ {ls : List (List Nat)} {xs : List V}, ImL F (ls.map tupD) xs → ∃ ks : List (Addr × List Int), xs = ks.map (fun p => V.ref p.1) ∧ ks.map Prod.snd = ls.map toI ∧ ∀ p ∈ ks, F p.1 = some (.tup (p.2.map V.int))
  | [], _, h => ⟨[], h, rfl, fun p h => by cases h⟩
  | l :: ls, _, ⟨v, vs, e, ⟨b, ys, e1, h1, h2⟩, h3⟩ => by
    obtain ⟨ks, e2, e3, h4⟩ := im_rows h3
    have h2 : ImL F (l.map fun i => PyData.int (i : Nat)) ys := h2
    have e5 : ys = (toI l).map V.int := by
      refine (ImL.ints (F := F)).mp ?_
      unfold toI
      rw [List.map_map]
      exact h2
    exact ⟨(b, toI l) :: ks, by rw [e, e1, e2]; rfl, by rw [List.map_cons, List.map_cons, e3], fun p hp => (List.mem_cons.mp hp).elim (fun z => by rw [z, h1, e5]) (h4 p)⟩
theorem rows_im {F : Hp} : ∀ {zs : List (Addr × List Int)}, (∀ p ∈ zs, F p.1 = some (.tup (p.2.map V.int))) → ImL F (zs.map fun z => gI z.2) (zs.map fun z => V.ref z.1)
  | [], _ => rfl
  | z :: zs, h => ⟨_, _, rfl, ⟨z.1, _, rfl, h z (List.mem_cons_self ..), ImL.ints.mpr rfl⟩, rows_im fun p hp => h p (List.mem_cons_of_mem _ hp)⟩
section
variable {T : List (Addr × Str)} {X : Cx} {e : Expr} {σ : L2.St} {F H : Hp} {pos p p2 q : Pos} {ls : List (List Nat)}
theorem ef_sset (hc : X.calm = true) (hu : X.A.units + 64 < cLine) (hm : X.mg "sorted" = none) (hm2 : X.mg "set" = none) (h : ED T X e σ F H (.list (ls.map tupD))) (hl : ls.length ≤ 120) (hne : ∀ l ∈ ls, l ≠ [])
    (hg : Gl X "sorted" := by rfl) (hg2 : Gl X "set" := by rfl) (hs : starEach [e] X.env = (false, eval e X.env) :: starEach [] X.env := by rfl)
    (hs2 : starEach [.Call (.Name "set" p2) [e] [] q] X.env = (false, eval (.Call (.Name "set" p2) [e] [] q) X.env) :: starEach [] X.env := by rfl) :
    EF T X (.Call (.Name "sorted" p) [.Call (.Name "set" p2) [e] [] q] [] pos) σ F H ((uniqS ls).map tupD) := fun F1 H1 a1 Q k => by
  refine goE (pe_callB (cr_sso hc hu) hg hm boot_sortedb (pa_cons pe_r pa_nil hs2) (by decide) (by decide) hs2 (by rfl)) (goE (pe_callTy (cr_set hc hu) hg2 hm2 boot_setb (pa_cons pe_r pa_nil hs) (by decide) (by decide) hs (by rfl)) (h F1 H1 a1 _ fun v F2 H2 a2 im => ?_))
  obtain ⟨l, xs, rfl, hl0, il⟩ := im
  obtain ⟨ks, rfl, keys, tups⟩ := im_rows il
  have len : ks.length = ls.length := by
    rw [← List.length_map (f := Prod.snd), keys, List.length_map]
  refine ⟨l, ks, rfl, SqL.of (a2.sub.at hl0), fun r hr => a2.sub.at (tups r hr), by omega, fun a L ha sub all nd => ⟨a, L, rfl, upd_same, fun r hr => ?_, fun zl zs hz perm sorted => ?_⟩⟩
  · have hr2 := sub r hr
    refine ⟨by rw [upd_ne (fun z => a2.sub.some (tups r hr2) (by rw [z]; exact ha))]; exact a2.sub.at (tups r hr2), fun z => ?_⟩
    have := List.mem_map_of_mem (f := Prod.snd) hr2
    rw [keys, z] at this
    obtain ⟨x, hx, e⟩ := List.mem_map.mp this
    exact hne x hx (List.map_eq_nil_iff.mp e)
  · have lay := (a2.trans (Adv.lay (T := T) (o := RoO X.prog X.w a L) a2.sub ha))
    have lay2 := lay.trans (Adv.lay (T := T) (o := .lst (zs.map fun z => V.ref z.1)) lay.sub hz)
    refine k zl _ F2 _ lay2 (Nw.back lay (.of hz)) (lay.sub.offN hz) upd_same ?_
    have tz : ∀ r ∈ zs, F2 r.1 = some (.tup (r.2.map V.int)) := fun r hr => tups r (sub r (perm.mem_iff.mp hr))
    -- the same rows, in order
    have mem : ∀ y, y ∈ zs.map Prod.snd ↔ y ∈ (onceL ls).map toI := fun y => by
      rw [(perm.map Prod.snd).mem_iff]
      constructor
      · intro hy
        obtain ⟨r, hr, rfl⟩ := List.mem_map.mp hy
        have := List.mem_map_of_mem (f := Prod.snd) (sub r hr)
        rw [keys] at this
        obtain ⟨x, hx, e⟩ := List.mem_map.mp this
        exact List.mem_map.mpr ⟨x, mem_onceL.mpr hx, e⟩
      · intro hy
        obtain ⟨x, hx, rfl⟩ := List.mem_map.mp hy
        have : toI x ∈ ks.map Prod.snd := by
          rw [keys]
          exact List.mem_map_of_mem (mem_onceL.mp hx)
        obtain ⟨r, hr, e⟩ := List.mem_map.mp this
        rw [← e]
        exact all r hr
    have nz : (zs.map Prod.snd).Nodup := (perm.map Prod.snd).nodup_iff.mpr nd
    have no : ((onceL ls).map toI).Nodup := List.pairwise_map.mpr ((once_nodup ls).imp fun h e => h (toI_inj e))
    have p1 : (zs.map Prod.snd).Perm ((onceL ls).map toI) := (List.perm_ext_iff_of_nodup nz no).mpr mem
    have p2 : (zs.map Prod.snd).Perm ((uniqS ls).map toI) := p1.trans ((List.mergeSort_perm (onceL ls) _).symm.map toI)
    have s1 : (zs.map Prod.snd).Pairwise fun x y => PySem.W.dataLe false gI x y = true := List.pairwise_map.mpr sorted
    have s2 : ((uniqS ls).map toI).Pairwise fun x y => PySem.W.dataLe false gI x y = true := by
      refine List.pairwise_map.mpr ((List.pairwise_mergeSort (dle_trans (enc := tupD)) dle_total (onceL ls)).imp fun {x y} hxy => ?_)
      have e : PySem.W.dataLe false tupD x y = PySem.W.dataLe false gI (toI x) (toI y) := by
        show PySem.W.dataLe false id (tupD x) (tupD y) = PySem.W.dataLe false id (gI (toI x)) (gI (toI y))
        rw [tup_gI, tup_gI]
      rw [← e]
      exact hxy
    have eq : zs.map Prod.snd = (uniqS ls).map toI := List.Perm.eq_of_pairwise (fun x y _ _ h1 h2 => gI_inj x y (dle_anti h1 h2)) s1 s2 p2
    have eq2 : (uniqS ls).map tupD = zs.map fun z => gI z.2 := by
      rw [show (fun z : Addr × List Int => gI z.2) = gI ∘ Prod.snd from rfl, ← List.map_map, eq, List.map_map]
      exact List.map_congr_left fun x _ => tup_gI x
    rw [eq2]
    exact rows_im tz
end
end Tw
set_option maxHeartbeats 4000000
namespace Tw
open PySem PySem.Spec PyProof.Rows L2 LamX
def rowT (r : List Nat) : Tb Key := r.map fun i : Nat => (.inl (i : Int), .bool true)
def ledDs (l : List Con) : List PyData := (ledF l).map fun r => dOf (rowT r)
def wholeF (l : List Con) : List (List Nat) := (ledF l).zipIdx.map fun q => q.1.filter fun at_ => decide (q.2 ∈ (ledF l).getD at_ [])
def partsF (l : List Con) : List (List Nat) := uniqS (wholeF l)
theorem ledF_len (l : List Con) : (ledF l).length = l.length := by simp [ledF]
theorem wholeF_len (l : List Con) : (wholeF l).length = l.length := by simp [wholeF, ledF_len]
theorem ledF_row {l : List Con} {r : List Nat} (h : r ∈ ledF l) : r.Nodup ∧ (∀ i ∈ r, i < l.length) ∧ r.length ≤ l.length := by
  unfold ledF at h
  obtain ⟨i, _, rfl⟩ := List.mem_map.mp h
  refine ⟨List.Pairwise.filter _ List.nodup_range, fun j hj => List.mem_range.mp (List.mem_filter.mp hj).1, ?_⟩
  exact Nat.le_trans (List.length_filter_le _ _) (by rw [List.length_range]; exact Nat.le_refl _)
theorem rowT_nd {r : List Nat} (h : r.Nodup) : (r.map fun i : Nat => (Sum.inl (i : Int) : Key)).Nodup := by
  refine List.Pairwise.map _ (fun a b hab => ?_) h
  exact fun e => hab (by have := Sum.inl.inj e; omega)
theorem rowT_mem {r : List Nat} {i : Nat} : (valD (rowT r) (.inl (i : Int))).isSome = decide (i ∈ r) := by
  rw [Bool.eq_iff_iff, decide_eq_true_eq, valD_mem]
  unfold rowT
  rw [List.map_map]
  constructor
  · intro h
    obtain ⟨j, hj, e⟩ := List.mem_map.mp h
    have := Sum.inl.inj e
    have : j = i := by omega
    rw [← this]; exact hj
  · exact fun h => List.mem_map.mpr ⟨i, h, rfl⟩
theorem whole_ne (l : List Con) (hz : ∀ c ∈ l, c.ab ≤ c.ae ∧ c.bb ≤ c.be) : ∀ r ∈ wholeF l, r ≠ [] := by
  intro r hr
  unfold wholeF at hr
  obtain ⟨⟨q, i⟩, hq, rfl⟩ := List.mem_map.mp hr
  have hi : i < (ledF l).length ∧ (ledF l)[i]? = some q := by
    have := List.mem_zipIdx hq
    refine ⟨by omega, ?_⟩
    rw [this.2.2, List.getElem?_eq_getElem (by omega)]
    simp
  rw [ledF_len] at hi
  obtain ⟨r, e, m⟩ := led_refl l hz hi.1
  rw [hi.2] at e
  obtain rfl := Option.some.inj e
  intro z
  have : i ∈ q.filter fun at_ => decide (i ∈ (ledF l).getD at_ []) := List.mem_filter.mpr ⟨m, by
    rw [List.getD_eq_getElem?_getD, hi.2]
    exact decide_eq_true m⟩
  rw [show q.filter (fun at_ => decide (i ∈ (ledF l).getD at_ [])) = [] from z] at this
  cases this
structure IsBlocks (C : Addr) (l : List Con) (x : Addr) (F : Hp) : Prop where
  ex : ∃ dx fs, F x = some (.ins C dx fs) ∧ (∃ v, fs.lookup ("known" : Str) = some v ∧ Im F (.tuple (l.map Con.d)) v) ∧ (∃ v, fs.lookup ("led" : Str) = some v ∧ Im F (.list (ledDs l)) v) ∧ (∃ v, fs.lookup ("parts" : Str) = some v ∧ Im F (.tuple ((partsF l).map tupD)) v) ∧ ∀ m ∈ (["ends_before", "leads", "pairs"] : List Str), fs.lookup m = none
section
variable {P : Program} {w : World} {K : PySem.W.Frag} {mg : Str → Option Value} {base : Heap} {T : List (Addr × Str)} {C : Addr}
def Rblocks (C : Addr) (ds : List PyData) (post : Addr → Hp → Prop) : Prop := ∃ p : Pr, okP p ∧ (conts p).length ≤ 120 ∧ ds = [prD p] ∧ post = IsBlocks C (conts p)
theorem ok_blocks (F : CI K mg "Blocks" C "Blocks.__init__" (inClass (top 42) 0)) (g : G K mg) (n1 : NoAttr K C "known") (n2 : NoAttr K C "led") (n3 : NoAttr K C "parts") (c32 : Cl P w K mg base 3 "contests_contests" ["pair"] (spD T Rcontests)) (c35 : Cl P w K mg base 2 "leads_in" ["known"] (spD T Rleads)) :
    Mak P w K mg base 4 "Blocks" C ["self", "pair"] (spI T C (Rblocks C)) := by
  refine mak_of (N := ["self", "pair", "whole", "some", "at", "number"]) F ⟨rfl, rfl, rfl, by decide +kernel, rfl, by decide +kernel, by decide +kernel⟩ (len_spI fun ds d ⟨n, _, _, e, _⟩ => by rw [e]; rfl) (fun _ _ _ _ _ _ us hl => match us, hl with | [_, _], _ => rfl) ?_
  rintro f cdv A outer s H0 vs Q E hr ⟨F0, Hc, o, dx, args, ds, post, rfl, a0, nw, hFo, hHo, hv, ⟨p, hp, hl120, e1, e2⟩, k⟩
  subst e1 e2
  obtain ⟨v1, _, rfl, i1, rfl⟩ := hv
  have nd : (["self", "pair", "whole", "some", "at", "number"] : List Str).Nodup := by decide +kernel
  have hC := F.cls
  -- known
  refine b_fld (T := T) (ed_call c32 hr (ea_cons (ed_var (i := 1) rfl i1) ea_nil) ⟨p, hp, rfl, rfl⟩) (ev_var (i := 0) rfl) hHo hFo hC n1 (by decide) a0.sub (fun vk F1 H1 a1 ik f1 h1 s1 => ?_) mono_im
  have A1 := (a0.trans a1).mut nw f1 h1 mut_ins (o' := .ins C dx (putF "known" vk []))
  have hz : (conts p).length ≤ sizeLine := Nat.le_trans hl120 (by decide)
  -- led
  refine b_fld (T := T) (EF.ed (EF.to (ef_lc0 (enc := fun r : List Nat => .list (r.map fun i => PyData.int (i : Nat))) (xs := ledF (conts p)) (bs := fun r => [(3, .list (r.map fun i => PyData.int (i : Nat)))]) (own := [("some", 3)]) rfl nd (by kernel_rfl) (wk_list (ED.to (ed_call c35 hr (ea_cons (ed_fld (ev_var (i := 0) rfl) upd_same hC n1 rfl ik) ea_nil) ⟨conts p, hl120, rfl, rfl⟩) rfl)) (fun _ _ i hi => hi)
    (fun r => dOf (rowT r)) (fun s1 Hb C2 cl fp r hr2 => ⟨gt_name nd, fun F2 H2 a2 vs hvs => ?_⟩) (by rw [ledF_len]; exact hz)) rfl)) (ev_var (i := 0) rfl) upd_same f1 hC n2 (by show 1 < 1000; decide) s1 (fun vl F2 H2 a2 il f2 h2 s2 => ?_) mono_im
  · obtain ⟨u, _, rfl, m, rfl⟩ := hvs
    obtain ⟨rn, rb, rl⟩ := ledF_row hr2
    exact EN.ed (en_dc (enc := fun i : Nat => PyData.int (i : Nat)) (xs := r) (bs := fun i => [(4, .int (i : Nat))]) (own := [("at", 4)]) rfl nd (by kernel_rfl) (wk_list (ed_var (i := 3) rfl m)) (fun _ _ i hi => hi) (fun i => .inl (i : Int)) (fun i => .bool true)
      (fun s2 Hb2 C3 cl2 fp2 i hi => ⟨gt_name nd, fun F3 H3 a3 vs3 hvs3 => by
        obtain ⟨u3, _, rfl, m3, rfl⟩ := hvs3
        exact ⟨ed_var (i := 4) rfl m3, ed_bool⟩⟩) (by omega) (rowT_nd rn))
  have A2 := (A1.trans a2).mut nw f2 h2 mut_ins (o' := .ins C dx (putF "led" vl (putF "known" vk [])))
  have hz2 : (ledF (conts p)).zipIdx.length ≤ sizeLine := by rw [List.length_zipIdx, ledF_len]; exact hz
  have il2 : Im F2 (.list (ledDs (conts p))) vl := il
  -- whole
  refine b_setLc0 (T := T) (i := 2) (enc := fun q : List Nat × Nat => .tuple [.int (q.2 : Nat), dOf (rowT q.1)]) (xs := (ledF (conts p)).zipIdx) (bs := fun q => [(5, .int (q.2 : Nat)), (3, dOf (rowT q.1))]) (own := [("number", 5), ("some", 3)]) rfl nd (by kernel_rfl)
    (Wk.to (wk_enuml (b_enum g) (ed_fld (ev_var (i := 0) rfl) upd_same hC n2 rfl il2)) (by unfold enumD ledDs; rw [List.zipIdx_map, List.map_map]; rfl)) (fun _ _ i hi => hi)
    (fun q => tupD (q.1.filter fun at_ => decide (q.2 ∈ (ledF (conts p)).getD at_ []))) (fun s3 Hb C2 cl fp q hq => ⟨gt_tup rfl (gts_cons (gt_name nd) (gts_cons (gt_name nd) gts_nil)), fun F3 H3 a3 vs hvs => ?_⟩) hz2 s2 (fun wl F3 H3 a3 iw => ?_)
  · obtain ⟨u0, _, rfl, m0, u1, _, rfl, m1, rfl⟩ := hvs
    obtain ⟨q1, q2⟩ := a3.off f2 upd_same notTbl_ins
    obtain ⟨qa, ks, e1, e2, e3⟩ := im_dOf.mp m1
    subst e1
    obtain ⟨rn, rb, rl⟩ := ledF_row (show q.1 ∈ ledF (conts p) from by
      have := List.mem_zipIdx hq
      rw [this.2.2]
      exact List.getElem_mem _)
    refine ED.to (ed_tupl (b_tuple g) (EF.ed (ef_lock e2 fun F4 H4 a4 F5 H5 ob lk => ef_lc1 (enc := fun i : Nat => PyData.int (i : Nat)) (xs := q.1) (bs := fun i => [(4, .int (i : Nat))]) (own := [("at", 4)]) rfl nd (by kernel_rfl) (Wk.to (wk_keys (dk := rowT q.1) (ev_var (i := 3) rfl) lk.at_ ((e3.up a4.ff).ext lk.ed)) (by unfold rowT; rw [List.map_map]; rfl)) (fun _ _ i hi => hi)
      (fun i => decide (q.2 ∈ (ledF (conts p)).getD i [])) (fun i => PyData.int (i : Nat)) (fun s4 Hb4 C4 cl4 fp4 i hi => ⟨gt_name nd, fun F6 H6 a6 vs6 hvs6 => ?_⟩) (Nat.le_trans rl hz)))) rfl
    obtain ⟨u2, _, rfl, m2, rfl⟩ := hvs6
    have o4 := (a4.off q1 q2 notTbl_ins).2
    have o5 := lk.oth o (.ins C dx (putF "led" vl (putF "known" vk []))) (fun z => z) (fun _ _ z => nomatch z) o4
    have o6 := a6.hh _ _ o5 notTbl_ins
    have il6 : Im F6 (.list (ledDs (conts p))) vl := ((il2.up (a3.trans a4).ff).ext lk.ed).up a6.ff
    have hlt : i < (ledF (conts p)).length := by rw [ledF_len]; exact rb i hi
    have hat : (ledDs (conts p))[i]? = some (dOf (rowT ((ledF (conts p)).getD i []))) := by
      unfold ledDs
      rw [List.getElem?_map, List.getD_eq_getElem?_getD, List.getElem?_eq_getElem hlt]
      rfl
    have i5 : Im F6 (kE (.inl (q.2 : Int))) u0 := ((m0.up a4.ff).ext lk.ed).up a6.ff
    exact ⟨(et_din (k := .inl (q.2 : Int)) (room_u1 hr) (ed_var (i := 5) rfl i5) (ed_ixl (ed_fld (ev_var (i := 0) rfl) o6 hC n2 rfl il6) (ed_var (i := 4) rfl m2) (atI_nat hat))).to rowT_mem, fun _ => ed_var (i := 4) rfl m2⟩
  have iw' : Im F3 (.list ((wholeF (conts p)).map tupD)) (.ref wl) := by
    unfold wholeF
    rw [List.map_map]
    exact iw
  obtain ⟨f3, h3⟩ := a3.off f2 upd_same notTbl_ins
  -- parts
  refine b_fld (T := T) (P := imP (.tuple ((partsF (conts p)).map tupD))) (ed_tupl (b_tuple g) (EF.ed (ef_sset rfl hr.units (b_sorted g) (b_set g) (ed_var (i := 2) rfl iw') (by rw [wholeF_len]; exact hl120) (whole_ne _ conts_wf)))) (ev_var (i := 0) rfl) h3 f3 hC n3 (by show 2 < 1000; decide) a3.sub (fun vp F4 H4 a4 ip f4 h4 s4 => ?_) mono_im
  have A4 := ((A2.trans a3).trans a4).mut nw f4 h4 mut_ins (o' := .ins C dx (putF "parts" vp (putF "led" vl (putF "known" vk []))))
  have A5 := A4.set nw upd_same notTbl_ins
  have ex : Ext F4 (upd F4 o (.ins C dx (putF "parts" vp (putF "led" vl (putF "known" vk []))))) := fun x u q => by rw [upd_ne fun z => by rw [z, f4] at q; cases q]; exact q
  refine rB_nil (k _ _ A5 ⟨dx, _, upd_same, ⟨vk, rfl, ik.up (a2.ff.trans (a3.ff.trans (a4.ff.trans ex)))⟩, ⟨vl, rfl, il2.up (a3.ff.trans (a4.ff.trans ex))⟩, ⟨vp, rfl, ip.up ex⟩, fun m hm => ?_⟩)
  simp only [List.mem_cons, List.mem_nil_iff, or_false] at hm
  rcases hm with rfl | rfl | rfl <;> rfl
end
end Tw
namespace Tw
open PySem PySem.Spec PyProof.Rows L2 LamX
def okQ (p : Pr) : Prop := okP p ∧ (conts p).length ≤ 120
theorem parts_row {l : List Con} {r : List Nat} (h : r ∈ partsF l) : r ∈ wholeF l := mem_uniqS.mp h
theorem whole_row {l : List Con} {r : List Nat} (h : r ∈ wholeF l) : ∀ i ∈ r, i < l.length := by
  unfold wholeF at h
  obtain ⟨⟨q, i⟩, hq, rfl⟩ := List.mem_map.mp h
  intro j hj
  have hm : q ∈ ledF l := by
    have := List.mem_zipIdx hq
    have e := this.2.2
    rw [e]
    exact List.getElem_mem _
  exact (ledF_row hm).2.1 j (List.mem_filter.mp hj).1
theorem whole_len {l : List Con} {r : List Nat} (h : r ∈ wholeF l) : r.length ≤ l.length := by
  unfold wholeF at h
  obtain ⟨⟨q, i⟩, hq, rfl⟩ := List.mem_map.mp h
  have hm : q ∈ ledF l := by
    have := List.mem_zipIdx hq
    have e := this.2.2
    rw [e]
    exact List.getElem_mem _
  exact Nat.le_trans (List.length_filter_le _ _) (ledF_row hm).2.2
theorem parts_len (l : List Con) : (partsF l).length ≤ l.length := by
  have := len_uniqS (wholeF l)
  rw [wholeF_len] at this
  exact this
def cAt (l : List Con) (i : Nat) : Con := l.getD i ⟨0, 0, 0, 0, "", ""⟩
theorem cAt_at {l : List Con} {i : Nat} (h : i < l.length) : (l.map Con.d)[i]? = some (cAt l i).d := by
  unfold cAt
  rw [List.getElem?_map, List.getD_eq_getElem?_getD, List.getElem?_eq_getElem h]
  rfl
def hd0 (r : List Nat) : Nat := r.getD 0 0
theorem tupD_hd {r : List Nat} (h : r ≠ []) : (r.map fun i => PyData.int (i : Nat))[0]? = some (.int (hd0 r)) := by
  cases r with
  | nil => exact absurd rfl h
  | cons x r => rfl
theorem hd0_mem {r : List Nat} (h : r ≠ []) : hd0 r ∈ r := by
  cases r with
  | nil => exact absurd rfl h
  | cons x r => exact List.mem_cons_self ..
def isRace (l : List Con) (r : List Nat) : Bool := decide (((r.length : Nat) : Int) = 1) && decide ((cAt l (hd0 r)).kind = "data")
def racesF (l : List Con) : List Nat := ((partsF l).filter (isRace l)).map hd0
section
variable {P : Program} {w : World} {K : PySem.W.Frag} {mg : Str → Option Value} {base : Heap} {T : List (Addr × Str)} {C : Addr}
theorem ed_parts {X : Cx} {a : Expr} {σ : L2.St} {F H : Hp} {pos : Pos} {l : List Con} (hC : Cls X.K C) (n3 : NoAttr X.K C "parts") (ha : EX T X a σ F H (fun v F => ∃ o, v = .ref o ∧ IsBlocks C l o F)) (hb : attributeBase a "parts" X.env (eval a X.env) = eval a X.env := by rfl) : ED T X (.Attribute a "parts" pos) σ F H (.tuple ((partsF l).map tupD)) :=
  fun F1 H1 a1 Q k => goE (pe_fld pe_r hb) (ha F1 H1 a1 _ fun x F2 H2 a2 ⟨o, e1, ⟨dx, fs, h1, _, _, ⟨v, h2, h3⟩, _⟩⟩ => ⟨o, C, dx, fs, v, e1, a2.sub.at h1, hC, n3, h2, k v F2 H2 a2 h3⟩)
def Rpieces (ds : List PyData) (d : PyData) : Prop := ∃ p : Pr, okQ p ∧ ds = [prD p] ∧ d = .tuple ((partsF (conts p)).map tupD)
theorem ok_pieces {x : Str} (F : Df K mg x "pieces" (top 43)) (g : G K mg) (hC : Cls K C) (n3 : NoAttr K C "parts") (c42 : Mak P w K mg base 4 "Blocks" C ["self", "pair"] (spI T C (Rblocks C))) : Cl P w K mg base 6 x ["pair"] (spD T Rpieces) := by
  refine cl_of (N := ["pair"]) F ⟨rfl, rfl, rfl, by decide +kernel, rfl, by decide +kernel, by decide +kernel⟩ (len_spD fun ds d ⟨n, _, e, _⟩ => by rw [e]; rfl) (fun _ _ _ _ _ _ us hl => match us, hl with | [_], _ => rfl) ?_
  rintro f cdv A outer s H0 vs Q E hr ⟨F0, ds, d, sF, hv, ⟨p, hp, e1, e2⟩, k⟩
  subst e1 e2
  obtain ⟨v1, _, rfl, i1, rfl⟩ := hv
  exact b_ret (T := T) (ed_parts hC n3 (ex_make c42 hr (ea_cons (ed_var (i := 0) rfl i1) ea_nil) ⟨p, hp.1, hp.2, rfl, rfl⟩)) sF k
def Rserial (ds : List PyData) (d : PyData) : Prop := ∃ p : Pr, okQ p ∧ ds = [prD p] ∧ d = .bool (decide ((((partsF (conts p)).length : Nat) : Int) ≤ 1))
theorem ok_serial {x : Str} (F : Df K mg x "is_serial" (top 45)) (g : G K mg) (c44 : Cl P w K mg base 6 "pieces_pieces" ["pair"] (spD T Rpieces)) : Cl P w K mg base 7 x ["pair"] (spD T Rserial) := by
  refine cl_of (N := ["pair"]) F ⟨rfl, rfl, rfl, by decide +kernel, rfl, by decide +kernel, by decide +kernel⟩ (len_spD fun ds d ⟨n, _, e, _⟩ => by rw [e]; rfl) (fun _ _ _ _ _ _ us hl => match us, hl with | [_], _ => rfl) ?_
  rintro f cdv A outer s H0 vs Q E hr ⟨F0, ds, d, sF, hv, ⟨p, hp, e1, e2⟩, k⟩
  subst e1 e2
  obtain ⟨v1, _, rfl, i1, rfl⟩ := hv
  exact b_ret (T := T) (ED.to (ed_le (ed_lent (b_len g) (ed_call c44 hr (ea_cons (ed_var (i := 0) rfl i1) ea_nil) ⟨p, hp, rfl, rfl⟩)) ed_int) (by rw [List.length_map])) sF k
def Rraces (ds : List PyData) (d : PyData) : Prop := ∃ p : Pr, okQ p ∧ ds = [prD p] ∧ d = .tuple ((racesF (conts p)).map fun i => PyData.int (i : Nat))
theorem ok_races {x : Str} (F : Df K mg x "races" (top 53)) (g : G K mg) (c32 : Cl P w K mg base 3 "contests_contests" ["pair"] (spD T Rcontests)) (c44 : Cl P w K mg base 6 "pieces_pieces" ["pair"] (spD T Rpieces)) : Cl P w K mg base 7 x ["pair"] (spD T Rraces) := by
  refine cl_of (N := ["pair", "every", "piece"]) F ⟨rfl, rfl, rfl, by decide +kernel, rfl, by decide +kernel, by decide +kernel⟩ (len_spD fun ds d ⟨n, _, e, _⟩ => by rw [e]; rfl) (fun _ _ _ _ _ _ us hl => match us, hl with | [_], _ => rfl) ?_
  rintro f cdv A outer s H0 vs Q E hr ⟨F0, ds, d, sF, hv, ⟨p, hp, e1, e2⟩, k⟩
  subst e1 e2
  obtain ⟨v1, _, rfl, i1, rfl⟩ := hv
  have nd : (["pair", "every", "piece"] : List Str).Nodup := by decide +kernel
  have hz : (partsF (conts p)).length ≤ sizeLine := Nat.le_trans (parts_len _) (Nat.le_trans hp.2 (by decide))
  refine b_asg (T := T) (i := 1) (ed_call c32 hr (ea_cons (ed_var (i := 0) rfl i1) ea_nil) ⟨p, hp.1, rfl, rfl⟩) sF (fun ve F1 H1 a1 ie => ?_) nd
  refine b_ret (T := T) (P := imP (.tuple ((racesF (conts p)).map fun i => PyData.int (i : Nat)))) (ED.to (ed_tupl (b_tuple g) (EF.ed (ef_lc1 (enc := tupD) (xs := partsF (conts p)) (bs := fun r => [(2, tupD r)]) (own := [("piece", 2)]) rfl nd (by kernel_rfl) (wk_tup (ed_call c44 hr (ea_cons (ed_var (i := 0) rfl (i1.up a1.ff)) ea_nil) ⟨p, hp, rfl, rfl⟩)) (fun _ _ i hi => hi)
    (isRace (conts p)) (fun r => .int (hd0 r : Nat)) (fun s3 Hb C2 cl fp r hr3 => ⟨gt_name nd, fun F3 H3 a3 vs hvs => ?_⟩) hz))) ?_) a1.sub fun v F2 H2 a2 q => k v F2 H2 (a1.trans a2) q
  · obtain ⟨u0, _, rfl, m0, rfl⟩ := hvs
    have hne := whole_ne _ conts_wf r (parts_row hr3)
    have hb := whole_row (parts_row hr3) _ (hd0_mem hne)
    refine ⟨et_w (ew_and ((et_eqI (ed_lent (b_len g) (ed_var (i := 2) rfl m0)) ed_int).to (by rw [List.length_map])) fun _ => ew_and1 (et_eqS (ed_ixt (ed_ixt (ed_var (i := 1) rfl (ie.up a3.ff)) (ed_ixt (ed_var (i := 2) rfl m0) ed_int (atI_nat (i := 0) (tupD_hd hne))) (atI_nat (cAt_at hb))) ed_int rfl) (ed_gstr (c_data g)))), fun _ => ed_ixt (ed_var (i := 2) rfl m0) ed_int (atI_nat (i := 0) (tupD_hd hne))⟩
  · unfold racesF
    rw [List.map_map]
    rfl
end
end Tw
namespace Tw
open PySem PySem.Spec PyProof.Rows L2 LamX
def rowAt (l : List Con) (i : Nat) : List Nat := (partsF l).getD i []
def colI (l : List Con) (r : List Nat) (f : Con → Nat) : List Int := r.map fun n => ((f (cAt l n) : Nat) : Int)
def endsB (l : List Con) (i j : Nat) : Bool :=
  if decide (botI (colI l (rowAt l j) Con.ab) ≤ topI (colI l (rowAt l i) Con.ae)) = true then false else decide (topI (colI l (rowAt l i) Con.be) < botI (colI l (rowAt l j) Con.bb))
structure OkL (l : List Con) : Prop where
  len : l.length ≤ 120
  wf : ∀ c ∈ l, c.ab ≤ c.ae ∧ c.bb ≤ c.be
theorem rowAt_mem {l : List Con} {i : Nat} (h : i < (partsF l).length) : rowAt l i ∈ partsF l ∧ (partsF l)[i]? = some (rowAt l i) := by
  unfold rowAt
  rw [List.getD_eq_getElem?_getD, List.getElem?_eq_getElem h]
  exact ⟨List.getElem_mem h, rfl⟩
theorem rowAt_ok {l : List Con} (o : OkL l) {i : Nat} (h : i < (partsF l).length) : rowAt l i ≠ [] ∧ (∀ n ∈ rowAt l i, n < l.length) ∧ (rowAt l i).length ≤ 120 := by
  have m := parts_row (rowAt_mem h).1
  exact ⟨whole_ne l o.wf _ m, whole_row m, Nat.le_trans (whole_len m) o.len⟩
theorem tup_at {l : List Con} {i : Nat} (h : i < (partsF l).length) : ((partsF l).map tupD)[i]? = some (tupD (rowAt l i)) := by
  rw [List.getElem?_map, (rowAt_mem h).2]
  rfl
def spEnds (T : List (Addr × Str)) (C : Addr) : Sp := fun vs H Q _ => ∃ F o l, ∃ (i j : Nat), Sub F H ∧ IsBlocks C l o F ∧ OkL l ∧ i < (partsF l).length ∧ j < (partsF l).length ∧ vs = [.ref o, .int (i : Nat), .int (j : Nat)] ∧ ∀ v F' H', Adv T F H F' H' → Im F' (.bool (endsB l i j)) v → Q v H'
section
variable {P : Program} {w : World} {K : PySem.W.Frag} {mg : Str → Option Value} {base : Heap} {T : List (Addr × Str)} {C : Addr}
theorem ok_ends (F : CM K C "ends_before" "Blocks.ends_before" (inClass (top 42) 2)) (g : G K mg) (n1 : NoAttr K C "known") (n3 : NoAttr K C "parts") : Met P w K mg base 1 C "ends_before" ["self", "one", "other"] (spEnds T C) := by
  refine met_of (N := ["self", "one", "other", "early", "late", "number", "contest"]) F ⟨rfl, rfl, rfl, by decide +kernel, rfl, by decide +kernel, by decide +kernel⟩ (fun vs H Q E ⟨F, o, l, i, j, _, _, _, _, _, e, _⟩ => by rw [e]; rfl) (fun _ _ _ _ _ _ us hl => match us, hl with | [_, _, _], _ => rfl) ?_
  rintro f cdv A outer s H0 vs Q E hr ⟨F0, o, l, i, j, sF, ib, okl, hi, hj, rfl, k⟩
  have nd : (["self", "one", "other", "early", "late", "number", "contest"] : List Str).Nodup := by decide +kernel
  have hC := F.cls
  obtain ⟨dx, fs, ho, ⟨vk, hk1, ik⟩, _, ⟨vp, hp1, ip⟩, _⟩ := ib
  obtain ⟨e1, e2, e3⟩ := rowAt_ok okl hi
  obtain ⟨l1, l2, l3⟩ := rowAt_ok okl hj
  have hz : 120 ≤ sizeLine := by decide
  refine b_setLc0 (T := T) (i := 3) (enc := fun n : Nat => PyData.int (n : Nat)) (xs := rowAt l i) (bs := fun n => [(5, .int (n : Nat))]) (own := [("number", 5)]) rfl nd (by kernel_rfl) (wk_tup (ed_ixt (ed_fld (ev_var (i := 0) rfl) (sF.at ho) hC n3 hp1 ip) (ed_var (i := 1) rfl rfl) (atI_nat (tup_at hi)))) (fun _ _ i hi => hi)
    (fun n => (cAt l n).d) (fun s1 Hb C2 cl fp n hn => ⟨gt_name nd, fun F1 H1 a1 us hus => ?_⟩) (Nat.le_trans e3 hz) sF (fun la F1 H1 a1 ia => ?_)
  · obtain ⟨u, _, rfl, m, rfl⟩ := hus
    exact ed_ixt (ed_fld (ev_var (i := 0) rfl) (a1.sub.at (a1.ff _ _ ho)) hC n1 hk1 (ik.up a1.ff)) (ed_var (i := 5) rfl m) (atI_nat (cAt_at (e2 n hn)))
  have ho1 := a1.ff _ _ ho
  refine b_setLc0 (T := T) (i := 4) (enc := fun n : Nat => PyData.int (n : Nat)) (xs := rowAt l j) (bs := fun n => [(5, .int (n : Nat))]) (own := [("number", 5)]) rfl nd (by kernel_rfl) (wk_tup (ed_ixt (ed_fld (ev_var (i := 0) rfl) (a1.sub.at ho1) hC n3 hp1 (ip.up a1.ff)) (ed_var (i := 2) rfl rfl) (atI_nat (tup_at hj)))) (fun _ _ i hi => hi)
    (fun n => (cAt l n).d) (fun s1 Hb C2 cl fp n hn => ⟨gt_name nd, fun F2 H2 a2 us hus => ?_⟩) (Nat.le_trans l3 hz) a1.sub (fun lb F2 H2 a2 ib2 => ?_)
  · obtain ⟨u, _, rfl, m, rfl⟩ := hus
    exact ed_ixt (ed_fld (ev_var (i := 0) rfl) (a2.sub.at (a2.ff _ _ ho1)) hC n1 hk1 (ik.up (a1.ff.trans a2.ff))) (ed_var (i := 5) rfl m) (atI_nat (cAt_at (l2 n hn)))
  have ia2 := ia.up a2.ff
  have a12 := a1.trans a2
  -- one column
  have col : ∀ (r : List Nat) (f : Con → Nat), (colI l r f).map PyData.int = r.map fun n => PyData.int ((f (cAt l n) : Nat) : Int) := fun r f => by
    unfold colI
    rw [List.map_map]; rfl
  have cne : ∀ {r : List Nat} {f : Con → Nat}, r ≠ [] → colI l r f ≠ [] := fun h z => h (by unfold colI at z; simpa using z)
  refine b_when (T := T) (k0 := decide (botI (colI l (rowAt l j) Con.ab) ≤ topI (colI l (rowAt l i) Con.ae))) (et_ge
      (ed_maxl rfl (b_max g) (EF.ed (EF.to (ef_lc0 (enc := fun n : Nat => (cAt l n).d) (xs := rowAt l i) (bs := fun n => [(6, (cAt l n).d)]) (own := [("contest", 6)]) rfl nd (by kernel_rfl) (wk_list (ed_var (i := 3) rfl ia2)) (fun _ _ i hi => hi) (fun n => .int ((cAt l n).ae : Nat)) (fun s1 Hb C2 cl fp n hn => ⟨gt_name nd, fun F3 H3 a3 us hus => ?_⟩) (Nat.le_trans e3 hz)) (col _ _).symm)) (cne e1))
      (ed_minl rfl (b_min g) (EF.ed (EF.to (ef_lc0 (enc := fun n : Nat => (cAt l n).d) (xs := rowAt l j) (bs := fun n => [(6, (cAt l n).d)]) (own := [("contest", 6)]) rfl nd (by kernel_rfl) (wk_list (ed_var (i := 4) rfl ib2)) (fun _ _ i hi => hi) (fun n => .int ((cAt l n).ab : Nat)) (fun s1 Hb C2 cl fp n hn => ⟨gt_name nd, fun F3 H3 a3 us hus => ?_⟩) (Nat.le_trans l3 hz)) (col _ _).symm)) (cne l1))) a2.sub (fun z F3 H3 a3 => ?_) fun z F3 H3 a3 => ?_
  · obtain ⟨u, _, rfl, m, rfl⟩ := hus
    exact ed_ixt (ed_var (i := 6) rfl m) ed_int rfl
  · obtain ⟨u, _, rfl, m, rfl⟩ := hus
    exact ed_ixt (ed_var (i := 6) rfl m) ed_int rfl
  · refine b_ret (T := T) (P := imP (.bool false)) ed_bool a3.sub fun v F4 H4 a4 q => k v F4 H4 (a12.trans (a3.trans a4)) ?_
    unfold endsB
    rw [if_pos z]
    exact q
  · refine b_ret (T := T) (P := imP (.bool (decide (topI (colI l (rowAt l i) Con.be) < botI (colI l (rowAt l j) Con.bb))))) (ed_lt
      (ed_maxl rfl (b_max g) (EF.ed (EF.to (ef_lc0 (enc := fun n : Nat => (cAt l n).d) (xs := rowAt l i) (bs := fun n => [(6, (cAt l n).d)]) (own := [("contest", 6)]) rfl nd (by kernel_rfl) (wk_list (ed_var (i := 3) rfl (ia2.up a3.ff))) (fun _ _ i hi => hi) (fun n => .int ((cAt l n).be : Nat)) (fun s1 Hb C2 cl fp n hn => ⟨gt_name nd, fun F4 H4 a4 us hus => ?_⟩) (Nat.le_trans e3 hz)) (col _ _).symm)) (cne e1))
      (ed_minl rfl (b_min g) (EF.ed (EF.to (ef_lc0 (enc := fun n : Nat => (cAt l n).d) (xs := rowAt l j) (bs := fun n => [(6, (cAt l n).d)]) (own := [("contest", 6)]) rfl nd (by kernel_rfl) (wk_list (ed_var (i := 4) rfl (ib2.up a3.ff))) (fun _ _ i hi => hi) (fun n => .int ((cAt l n).bb : Nat)) (fun s1 Hb C2 cl fp n hn => ⟨gt_name nd, fun F4 H4 a4 us hus => ?_⟩) (Nat.le_trans l3 hz)) (col _ _).symm)) (cne l1))) a3.sub fun v F4 H4 a4 q => k v F4 H4 (a12.trans (a3.trans a4)) ?_
    · obtain ⟨u, _, rfl, m, rfl⟩ := hus
      exact ed_ixt (ed_var (i := 6) rfl m) ed_int rfl
    · obtain ⟨u, _, rfl, m, rfl⟩ := hus
      exact ed_ixt (ed_var (i := 6) rfl m) ed_int rfl
    · unfold endsB
      rw [if_neg (by rw [z]; exact Bool.false_ne_true)]
      exact q
end
end Tw
namespace Tw
open PySem PySem.Spec PyProof.Rows L2 LamX
theorem IsBlocks.up {C : Addr} {l : List Con} {x : Addr} {F F' : Hp} (h : IsBlocks C l x F) (e : Ext F F') : IsBlocks C l x F' := by
  obtain ⟨dx, fs, h1, ⟨v1, a1, b1⟩, ⟨v2, a2, b2⟩, ⟨v3, a3, b3⟩, h4⟩ := h
  exact ⟨dx, fs, e _ _ h1, ⟨v1, a1, b1.up e⟩, ⟨v2, a2, b2.up e⟩, ⟨v3, a3, b3.up e⟩, h4⟩
def lstI (r : List Nat) : PyData := .list (r.map fun i => PyData.int (i : Nat))
def rowsD (rs : List (List Nat)) : PyData := .list (rs.map lstI)
def nP (l : List Con) : Nat := (partsF l).length
def afterR (l : List Con) (r : List Nat) : List Nat := (List.range (nP l)).filter fun j => decide (hd0 (rowAt l j) ∈ (ledF l).getD (hd0 r) [])
def afterF (l : List Con) : List (List Nat) := (partsF l).map (afterR l)
def aheadN (l : List Con) (n j : Nat) : List Nat := (List.range n).filter fun i => decide (j ∈ (afterF l).getD i [])
def aheadF (l : List Con) : List (List Nat) := (List.range (nP l)).map (aheadN l (nP l))
def joinedF (l : List Con) (i : Nat) : List Nat := (afterF l).getD i [] ++ (aheadF l).getD i []
def earlierR (l : List Con) (i : Nat) : List Nat := ((List.range (nP l)).filter fun o => !decide (o ∈ joinedF l i)).filter fun o => endsB l o i
def earlierF (l : List Con) : List (List Nat) := (List.range (nP l)).map (earlierR l)
def ones (xs : List Nat) : Tb Key := dcF (fun i : Nat => (Sum.inl (i : Int) : Key)) (fun _ => .bool true) xs
theorem ones_mem {xs : List Nat} {i : Nat} : (valD (ones xs) (.inl (i : Int))).isSome = decide (i ∈ xs) := by
  rw [Bool.eq_iff_iff, decide_eq_true_eq]
  unfold ones
  rw [dcF_some]
  constructor
  · rintro ⟨x, hx, e⟩
    have := Sum.inl.inj e
    have : x = i := by omega
    rw [← this]; exact hx
  · exact fun h => ⟨i, h, rfl⟩
theorem row_at {rs : List (List Nat)} {i : Nat} (h : i < rs.length) : (rs.map lstI)[i]? = some (lstI (rs.getD i [])) := by
  rw [List.getElem?_map, List.getD_eq_getElem?_getD, List.getElem?_eq_getElem h]
  rfl
theorem afterF_len (l : List Con) : (afterF l).length = nP l := by simp [afterF, nP]
theorem aheadF_len (l : List Con) : (aheadF l).length = nP l := by simp [aheadF]
theorem afterF_row {l : List Con} {i : Nat} : ((afterF l).getD i []).length ≤ nP l ∧ ∀ j ∈ (afterF l).getD i [], j < nP l := by
  rw [List.getD_eq_getElem?_getD]
  cases e : (afterF l)[i]? with
  | none => exact ⟨Nat.zero_le _, fun j hj => by cases hj⟩
  | some r =>
    have hm := List.mem_of_getElem? e
    obtain ⟨q, _, rfl⟩ := List.mem_map.mp hm
    exact ⟨Nat.le_trans (List.length_filter_le _ _) (by rw [List.length_range]; exact Nat.le_refl _), fun j hj => List.mem_range.mp (List.mem_filter.mp hj).1⟩
theorem aheadF_row {l : List Con} {i : Nat} : ((aheadF l).getD i []).length ≤ nP l := by
  rw [List.getD_eq_getElem?_getD]
  cases e : (aheadF l)[i]? with
  | none => exact Nat.zero_le _
  | some r =>
    have hm := List.mem_of_getElem? e
    obtain ⟨q, _, rfl⟩ := List.mem_map.mp hm
    exact Nat.le_trans (List.length_filter_le _ _) (by rw [List.length_range]; exact Nat.le_refl _)
theorem nP_le {l : List Con} (o : OkL l) : nP l ≤ 120 := Nat.le_trans (parts_len l) o.len
-- earlier_of, the maker still at work
def spEarl (T : List (Addr × Str)) (CB CW : Addr) : Sp := fun vs H Q _ => ∃ F o b l dx fs va vh, ∃ (i : Nat), Sub F H ∧ H o = some (.ins CW dx fs) ∧ fs.lookup ("after" : Str) = some va ∧ fs.lookup ("ahead" : Str) = some vh ∧ Im F (rowsD (afterF l)) va ∧ Im F (rowsD (aheadF l)) vh ∧ IsBlocks CB l b F ∧ OkL l ∧ i < nP l ∧
  vs = [.ref o, .ref b, .int (i : Nat)] ∧ ∀ v F' H', Adv T F H F' H' → Im F' (lstI (earlierR l i)) v → Q v H'
section
variable {P : Program} {w : World} {K : PySem.W.Frag} {mg : Str → Option Value} {base : Heap} {T : List (Addr × Str)} {CB CW : Addr}
theorem ok_earl (F : CM K CW "earlier_of" "Ways.earlier_of" (inClass (top 48) 1)) (g : G K mg) (hCB : Cls K CB) (n3 : NoAttr K CB "parts") (na : NoAttr K CW "after") (nh : NoAttr K CW "ahead") (ce : Met P w K mg base 1 CB "ends_before" ["self", "one", "other"] (spEnds T CB)) :
    Met P w K mg base 2 CW "earlier_of" ["self", "blocks", "piece"] (spEarl T CB CW) := by
  refine met_of (N := ["self", "blocks", "piece", "joined", "apart", "other"]) F ⟨rfl, rfl, rfl, by decide +kernel, rfl, by decide +kernel, by decide +kernel⟩ (fun vs H Q E ⟨F, o, b, l, dx, fs, va, vh, i, _, _, _, _, _, _, _, _, _, e, _⟩ => by rw [e]; rfl) (fun _ _ _ _ _ _ us hl => match us, hl with | [_, _, _], _ => rfl) ?_
  rintro f cdv A outer s H0 vs Q E hr ⟨F0, o, b, l, dx, fs, va, vh, i, sF, ho, ha1, hh1, ia, ih, ib, okl, hi, rfl, k⟩
  have nd : (["self", "blocks", "piece", "joined", "apart", "other"] : List Str).Nodup := by decide +kernel
  have hC := F.cls
  have hn := nP_le okl
  have hz : 240 ≤ sizeLine := by decide
  have haf := (afterF_row (l := l) (i := i)).1
  have hah := aheadF_row (l := l) (i := i)
  have jl : (joinedF l i).length ≤ 240 := by unfold joinedF; rw [List.length_append]; omega
  -- joined
  refine b_asg (T := T) (i := 3) (P := imP (dOf (ones (joinedF l i)))) (EN.ed (en_dcG (enc := fun n : Nat => PyData.int (n : Nat)) (xs := joinedF l i) (bs := fun n => [(5, .int (n : Nat))]) (own := [("other", 5)]) rfl nd (by kernel_rfl)
      (Wk.to (wk_list (EF.ed (ef_addl (ed_ixl (ed_fld (ev_var (i := 0) rfl) ho hC na ha1 ia) (ed_var (i := 2) rfl rfl) (atI_nat (row_at (by rw [afterF_len]; exact hi)))) (ed_ixl (ed_fld (ev_var (i := 0) rfl) ho hC nh hh1 ih) (ed_var (i := 2) rfl rfl) (atI_nat (row_at (by rw [aheadF_len]; exact hi)))) (by rw [List.length_map, List.length_map]; omega)))) (by unfold joinedF; rw [List.map_append]))
      (fun _ _ i hi => hi) (fun n => .inl (n : Int)) (fun _ => .bool true) (fun s1 Hb C2 cl fp n hn => ⟨gt_name nd, fun F1 H1 a1 us hus => ?_⟩) (by omega))) sF (fun vj F1 H1 a1 ij => ?_) nd
  · obtain ⟨u, _, rfl, m, rfl⟩ := hus
    exact ⟨ed_var (i := 5) rfl m, ed_bool⟩
  -- apart
  have ib1 := ib.up a1.ff
  obtain ⟨dx2, fs2, hb2, _, _, ⟨vp, hp1, ip⟩, hm⟩ := ib1
  refine b_setLc1 (T := T) (i := 4) (enc := fun n : Nat => PyData.int (n : Nat)) (xs := List.range (nP l)) (bs := fun n => [(5, .int (n : Nat))]) (own := [("other", 5)]) rfl nd (by kernel_rfl)
      (Wk.to (wk_range1 (b_range g) (ed_lent (b_len g) (ed_fld (ev_var (i := 1) rfl) (a1.sub.at hb2) hCB n3 hp1 ip)) (by rw [List.length_map]; omega) (by rw [List.length_map]; have : nP l = (partsF l).length := rfl; omega)) (by rw [List.length_map, Int.toNat_natCast, range0]; rfl))
      (fun _ _ i hi => hi) (fun n => !decide (n ∈ joinedF l i)) (fun n => .int (n : Nat)) (fun s1 Hb C2 cl fp n hn => ⟨gt_name nd, fun F2 H2 a2 us hus => ?_⟩) (by rw [List.length_range]; omega) a1.sub (fun la F2 H2 a2 iap => ?_)
  · obtain ⟨u, _, rfl, m, rfl⟩ := hus
    have mk : Im F2 (kE (.inl (n : Int))) u := m
    exact ⟨(et_dni (k := .inl (n : Int)) (room_u1 hr) (ed_var (i := 5) rfl mk) (ed_var (i := 3) rfl (ij.up a2.ff))).to (by rw [ones_mem]), fun _ => ed_var (i := 5) rfl m⟩
  have a12 := a1.trans a2
  refine b_ret (T := T) (P := imP (lstI (earlierR l i))) (EF.ed (EF.to (ef_lc1 (enc := fun n : Nat => PyData.int (n : Nat)) (xs := (List.range (nP l)).filter fun o => !decide (o ∈ joinedF l i)) (bs := fun n => [(5, .int (n : Nat))]) (own := [("other", 5)]) rfl nd (by kernel_rfl) (wk_list (ed_var (i := 4) rfl iap)) (fun _ _ i hi => hi)
      (fun n => endsB l n i) (fun n => .int (n : Nat)) (fun s1 Hb C2 cl fp n hn2 => ⟨gt_name nd, fun F3 H3 a3 us hus => ?_⟩) (Nat.le_trans (List.length_filter_le _ _) (by rw [List.length_range]; omega))) rfl)) a2.sub fun v F3 H3 a3 q => k v F3 H3 (a12.trans a3) q
  obtain ⟨u, _, rfl, m, rfl⟩ := hus
  obtain rfl : u = .int (n : Nat) := m
  have hnl : n < nP l := List.mem_range.mp (List.mem_filter.mp hn2).1
  have hb3 : F3 b = some (.ins CB dx2 fs2) := (a2.ff.trans a3.ff) _ _ hb2
  refine ⟨?_, fun _ => ed_var (i := 5) rfl rfl⟩
  refine et_val fun F4 H4 a4 Q' k' => rx_meth ce hr (EX.go (ev_var (T := T) (i := 1) rfl) a4 fun u F5 H5 a5 e1 => ?_)
  obtain rfl : u = .ref b := e1
  refine ⟨b, dx2, fs2, rfl, a5.sub.at (a5.ff _ _ (a4.ff _ _ hb3)), hm _ (by decide), ?_⟩
  refine EA.go (ea_cons (d := .int (n : Nat)) (ed_var (i := 5) rfl rfl) (ea_cons (d := .int (i : Nat)) (ed_var (i := 2) rfl rfl) ea_nil)) (a4.trans a5) fun vs F6 H6 a6 hv => ?_
  obtain ⟨w1, _, rfl, q1, w2, _, rfl, q2, rfl⟩ := hv
  obtain rfl : w1 = .int (n : Nat) := q1
  obtain rfl : w2 = .int (i : Nat) := q2
  exact ⟨F6, b, l, n, i, a6.sub, ib.up (a12.ff.trans (a3.ff.trans (a4.ff.trans (a5.ff.trans a6.ff)))), okl, hnl, hi, rfl, fun v F7 H7 a7 q => k' v F7 H7 (a5.trans (a6.trans a7)) q⟩
end
end Tw
namespace Tw
open PySem PySem.Spec PyProof.Rows L2 LamX
structure IsWays (C : Addr) (l : List Con) (x : Addr) (F : Hp) : Prop where
  ex : ∃ dx fs, F x = some (.ins C dx fs) ∧ (∃ v, fs.lookup ("earlier" : Str) = some v ∧ Im F (rowsD (earlierF l)) v) ∧ fs.lookup ("ways" : Str) = none
theorem aheadN_succ {l : List Con} {n j : Nat} : aheadN l (n + 1) j = aheadN l n j ++ (if j ∈ (afterF l).getD n [] then [n] else []) := by
  unfold aheadN
  rw [List.range_succ, List.filter_append]
  congr 1
  by_cases h : j ∈ (afterF l).getD n []
  · rw [if_pos h]; simp only [List.filter_cons, List.filter_nil, decide_eq_true h, if_true]
  · rw [if_neg h]; simp only [List.filter_cons, List.filter_nil, decide_eq_false h, Bool.false_eq_true, if_false]
theorem enum_parts (l : List Con) : enumD ((partsF l).map tupD) = (partsF l).zipIdx.map fun q => .tuple [.int (q.2 : Nat), tupD q.1] := by
  unfold enumD
  rw [List.zipIdx_map, List.map_map]
  rfl
theorem zip_at {l : List Con} {i : Nat} {q : List Nat × Nat} (h : (partsF l).zipIdx[i]? = some q) : q = (rowAt l i, i) ∧ i < nP l := by
  rw [List.getElem?_zipIdx] at h
  cases e : (partsF l)[i]? with
  | none => rw [e] at h; cases h
  | some r =>
    rw [e] at h
    have hi := (List.getElem?_eq_some_iff.mp e).1
    rw [(rowAt_mem hi).2] at e
    simp at h
    have := Option.some.inj e
    exact ⟨by rw [← h, this], hi⟩
theorem zip_range {α : Type} (d : α) : ∀ (xs : List α), xs.zipIdx = (List.range xs.length).map fun j => (xs.getD j d, j) := fun xs => by
  apply List.ext_getElem?
  intro j
  rw [List.getElem?_zipIdx, List.getElem?_map]
  by_cases h : j < xs.length
  · rw [List.getElem?_range h, List.getElem?_eq_getElem h]
    simp [List.getD_eq_getElem?_getD, List.getElem?_eq_getElem h]
  · rw [List.getElem?_eq_none (by omega), List.getElem?_eq_none (by rw [List.length_range]; omega)]
    rfl
theorem after_eq (l : List Con) (row : List Nat) : ((partsF l).zipIdx.filter fun q => decide (hd0 q.1 ∈ row)).map (·.2) = (List.range (nP l)).filter fun j => decide (hd0 (rowAt l j) ∈ row) := by
  rw [zip_range [] (partsF l), List.filter_map, List.map_map]
  have : ((fun x : List Nat × Nat => x.2) ∘ fun j => ((partsF l).getD j [], j)) = id := rfl
  rw [this, List.map_id]
  rfl
structure WSt (T : List (Addr × Str)) (F0 Hc : Hp) (o CW dx : Addr) (fs : List (Str × V)) (la lh : Addr) (hs : List Addr) (ys : List PyData) (cur : Nat → List Nat) (F H : Hp) : Prop where
  adv : Adv T F0 Hc F H
  fo : F o = none
  ho : H o = some (.ins CW dx fs)
  fa : F la = none
  ha : ∃ xs, H la = some (.lst xs) ∧ ImL F ys xs
  fh : F lh = none
  hh : H lh = some (.lst (hs.map V.ref))
  each : ∀ (j : Nat) (h : Addr), hs[j]? = some h → F h = none ∧ H h = some (.lst ((cur j).map fun n => V.int (n : Nat)))
theorem WSt.step {T : List (Addr × Str)} {F0 Hc : Hp} {o CW dx : Addr} {fs : List (Str × V)} {la lh : Addr} {hs : List Addr} {ys : List PyData} {cur : Nat → List Nat} {F H F1 H1 : Hp} (w : WSt T F0 Hc o CW dx fs la lh hs ys cur F H) (a : Adv T F H F1 H1) : WSt T F0 Hc o CW dx fs la lh hs ys cur F1 H1 := by
  obtain ⟨xs, h1, h2⟩ := w.ha
  have q1 := a.off w.fo w.ho notTbl_ins
  have q2 := a.off w.fa h1 notTbl_lst
  have q3 := a.off w.fh w.hh notTbl_lst
  exact ⟨w.adv.trans a, q1.1, q1.2, q2.1, ⟨xs, q2.2, h2.up a.ff⟩, q3.1, q3.2, fun j h e => a.off (w.each j h e).1 (w.each j h e).2 notTbl_lst⟩
theorem take_next' {α : Type} {xs : List α} {i : Nat} {x : α} (h : xs[i]? = some x) : xs.take (i + 1) = xs.take i ++ [x] := by
  rw [List.take_add_one, h]; rfl
theorem mem_take_new {xs : List Nat} {t : Nat} {x : Nat} (nd : xs.Nodup) (h : xs[t]? = some x) : x ∉ xs.take t := fun hm => by
  have e : xs = xs.take t ++ xs.drop t := (List.take_append_drop t xs).symm
  rw [e] at nd
  have hd : x ∈ xs.drop t := by
    have hlt := (List.getElem?_eq_some_iff.mp h).1
    rw [List.drop_eq_getElem_cons hlt]
    rw [List.getElem?_eq_getElem hlt] at h
    rw [← Option.some.inj h]
    exact List.mem_cons_self ..
  exact (List.nodup_append.mp nd).2.2 _ hm _ hd rfl
section
variable {P : Program} {w : World} {K : PySem.W.Frag} {mg : Str → Option Value} {base : Heap} {T : List (Addr × Str)} {CB CW : Addr}
def Rways (C : Addr) (ds : List PyData) (post : Addr → Hp → Prop) : Prop := ∃ p : Pr, okQ p ∧ ds = [prD p] ∧ post = IsWays C (conts p)
theorem ok_ways (F : CI K mg "Ways" CW "Ways.__init__" (inClass (top 48) 0)) (g : G K mg) (hCB : Cls K CB) (n2 : NoAttr K CB "led") (n3 : NoAttr K CB "parts") (np : NoAttr K CW "piece_at") (na : NoAttr K CW "after") (nh : NoAttr K CW "ahead") (ne : NoAttr K CW "earlier")
    (c42 : Mak P w K mg base 4 "Blocks" CB ["self", "pair"] (spI T CB (Rblocks CB))) (cel : Met P w K mg base 2 CW "earlier_of" ["self", "blocks", "piece"] (spEarl T CB CW)) : Mak P w K mg base 6 "Ways" CW ["self", "pair"] (spI T CW (Rways CW)) := by
  refine mak_of (N := ["self", "pair", "blocks", "piece", "numbers", "one", "led", "other", "number", "its"]) F ⟨rfl, rfl, rfl, by decide +kernel, rfl, by decide +kernel, by decide +kernel⟩ (len_spI fun ds d ⟨n, _, e, _⟩ => by rw [e]; rfl) (fun _ _ _ _ _ _ us hl => match us, hl with | [_, _], _ => rfl) ?_
  rintro f cdv A outer s H0 vs Q E hr ⟨F0, Hc, o, dx, args, ds, post, rfl, a0, nw, hFo, hHo, hv, ⟨p, hp, e1, e2⟩, k⟩
  subst e1 e2
  obtain ⟨v1, _, rfl, i1, rfl⟩ := hv
  have nd : (["self", "pair", "blocks", "piece", "numbers", "one", "led", "other", "number", "its"] : List Str).Nodup := by decide +kernel
  have hC := F.cls
  have okl : OkL (conts p) := ⟨hp.2, conts_wf⟩
  have hnP := nP_le okl
  have hbig : 120 * 121 ≤ sizeLine := by decide
  -- blocks
  refine b_asg (T := T) (i := 2) (ex_make c42 hr (ea_cons (ed_var (i := 1) rfl i1) ea_nil) ⟨p, hp.1, hp.2, rfl, rfl⟩) a0.sub (fun vb F1 H1 a1 ⟨b, eb, ib⟩ => ?_) nd
  subst eb
  generalize conts p = l at *
  obtain ⟨f1, h1⟩ := a1.off hFo hHo notTbl_ins
  have a01 := a0.trans a1
  -- piece_at
  refine b_fldR (goE pe_dnewK fun pd hpd => EX.go (T := T) (ev_var (i := 0) rfl) (Adv.lay (T := T) (o := .dK []) a1.sub hpd) fun u F2 H2 a2 eu => ?_)
  have l2 := Adv.lay (T := T) (o := HO.dK []) a1.sub hpd
  have opd : o ≠ pd := fun z => by rw [z, hpd] at h1; cases h1
  obtain ⟨f2, h2⟩ := (l2.trans a2).off f1 h1 notTbl_ins
  obtain ⟨f2p, h2p⟩ := a2.off (a1.sub.offN hpd) upd_same notTbl_dK
  refine ⟨o, CW, dx, [], eu, h2, hC, np, by decide, ?_⟩
  have A2 := (a01.trans (l2.trans a2)).mut nw f2 h2 mut_ins (o' := .ins CW dx (putF "piece_at" (.ref pd) []))
  have nwpd : Nw Hc pd := Nw.back a01 (.of hpd)
  have ib2 := ib.up (l2.trans a2).ff
  have h2p' : (upd H2 o (.ins CW dx (putF "piece_at" (.ref pd) []))) pd = some (.dK []) := by rw [upd_ne opd.symm]; exact h2p
  generalize hH2 : upd H2 o (.ins CW dx (putF "piece_at" (.ref pd) [])) = H2' at A2 h2p'
  have h2o : H2' o = some (.ins CW dx (putF "piece_at" (.ref pd) [])) := by rw [← hH2]; exact upd_same
  have bpar : ∀ {F' H' : Hp} {σ : L2.St}, Sub F' H' → Ext F2 F' → σ[2]? = some (some (.ref b)) → ED T (cxOf L2.CX0 P w K mg base ["self", "pair", "blocks", "piece", "numbers", "one", "led", "other", "number", "its"] "Ways.__init__" (defScope (inClass (top 48) 0)) f cdv A outer s H0 E).nox (.Attribute (.Name "blocks" ⟨0,0,0,0⟩) "parts" ⟨0,0,0,0⟩) σ F' H' (.tuple ((partsF l).map tupD)) := fun sb ex hs => by
    obtain ⟨dxb, fsb, hb, _, _, ⟨vp, hp1, ip⟩, _⟩ := ib2.up ex
    exact ed_fld (ev_var (i := 2) hs) (sb.at hb) hCB n3 hp1 ip
  obtain ⟨dxb, fsb, hbF, _, ⟨vl, hl1, il⟩, ⟨vp, hp1, ip⟩, _⟩ := id ib2
  refine b_for (T := T) (enc := fun q : List Nat × Nat => .tuple [.int (q.2 : Nat), tupD q.1]) (xs := (partsF l).zipIdx) (bs := fun q => [(3, .int (q.2 : Nat)), (4, tupD q.1)]) rfl .never (Wk.to (wk_enumt (b_enum g) (ed_fld (ev_var (i := 2) rfl) (A2.sub.at hbF) hCB n3 hp1 ip)) (enum_parts l)) A2.sub (fun x _ => gt_tup rfl (gts_cons (gt_name nd) (gts_cons (gt_name nd) gts_nil)))
    (fun i σ F' H' => ∃ x y, σ = [some (.ref o), some v1, some (.ref b), x, y, none, none, none, none, none] ∧ Adv T F0 Hc F' H' ∧ F' o = none ∧ F' pd = none ∧ H' o = some (.ins CW dx (putF "piece_at" (.ref pd) [])) ∧ ∃ kvs, H' pd = some (.dK kvs) ∧ kvs.length ≤ i * 120) (fun F3 H3 a3 => ?_) ?_ ?_
  · obtain ⟨o1, o2⟩ := a3.off f2 h2o notTbl_ins
    obtain ⟨o3, o4⟩ := a3.off f2p h2p' notTbl_dK
    exact ⟨none, none, rfl, A2.trans a3, o1, o3, o2, [], o4, Nat.zero_le _⟩
  · rintro i q σ1 F3 H3 hx s3 x3 ⟨x, y, rfl, A3, f3, f3p, h3, kvs, h3p, hk⟩ us F4 H4 a4 ⟨u0, _, rfl, m0, u1, _, rfl, m1, rfl⟩ N hN
    obtain ⟨rfl, hi⟩ := zip_at hx
    obtain ⟨g1, g2⟩ := a4.off f3 h3 notTbl_ins
    obtain ⟨g3, g4⟩ := a4.off f3p h3p notTbl_dK
    obtain ⟨r1, r2, r3⟩ := rowAt_ok okl hi
    have dl := dcF_len (fun n : Nat => (Sum.inl (n : Int) : Key)) (fun _ => PyData.int (i : Nat)) (rowAt l i)
    refine b_upd (T := T) (ev_fld (ev_var (i := 0) rfl) g2 hC np rfl) (en_dcG (enc := fun n : Nat => PyData.int (n : Nat)) (xs := rowAt l i) (bs := fun n => [(8, .int (n : Nat))]) (own := [("number", 8)]) rfl nd (by kernel_rfl) (wk_tup (ed_var (i := 4) rfl m1)) (fun _ _ i hi => hi) (fun n => .inl (n : Int)) (fun _ => .int (i : Nat))
      (fun s1 Hb C2 cl fp n hn => ⟨gt_name nd, fun F5 H5 a5 us hus => ?_⟩) (by omega)) g3 g4 a4.sub (by
        have : i * 120 ≤ 120 * 120 := Nat.mul_le_mul_right _ (by omega)
        omega) fun kvs' F5 H5 a5 f5 h5 hk5 s5 => ?_
    · obtain ⟨u, _, rfl, m, rfl⟩ := hus
      exact ⟨ed_var (i := 8) rfl m, ed_var (i := 3) rfl (m0.up a5.ff)⟩
    · obtain ⟨g5, g6⟩ := a5.off g1 g2 notTbl_ins
      refine rB_nil (hN _ _ _ s5 (a4.ff.trans a5.ff) ⟨_, _, rfl, ((A3.trans a4).trans a5).mut nwpd f5 h5 mut_dK, g5, f5, by rw [upd_ne opd]; exact g6, kvs', upd_same, ?_⟩)
      have : (i + 1) * 120 = i * 120 + 120 := Nat.succ_mul _ _
      omega
  · rintro σ1 F3 H3 s3 x3 ⟨x, y, rfl, A3, f3, f3p, h3, kvs, h3p, hk⟩
    have ib3 := ib2.up x3
    -- after, ahead
    refine b_fld2R rfl (EF.go (T := T) (ef_lst ea_nil (Nat.zero_le _)) (.refl s3) fun la ys F4 H4 a4 nla fla hla dla => ?_)
    obtain rfl : ys = [] := dla
    have ib4 := ib3.up a4.ff
    obtain ⟨dxb4, fsb4, hb4, _, _, ⟨vp4, hp4, ip4⟩, _⟩ := id ib4
    refine e_lists (T := T) (enc := tupD) (us := partsF l) (bs := fun r => [(4, tupD r)]) (own := [("numbers", 4)]) rfl nd (by kernel_rfl) (wk_tup (ed_fld (ev_var (i := 2) rfl) (a4.sub.at hb4) hCB n3 hp4 ip4)) (fun _ _ i hi => hi) (fun s1 Hb C2 cl fp r hr2 => gt_name nd) (by show nP l ≤ _; omega) a4.sub fun lh hs F5 H5 a5 nlh flh hlh hsl hsn hsa => ?_
    intro q hq
    have lq : Adv T F5 H5 F5 (upd H5 q (.tup [V.ref la, V.ref lh])) := Adv.lay a5.sub hq
    refine EX.go (T := T) (ev_var (i := 0) rfl) lq fun u F6 H6 a6 eu => ?_
    have x6 := (a4.trans a5).trans (lq.trans a6)
    obtain ⟨fo6, ho6⟩ := x6.off f3 h3 notTbl_ins
    refine ⟨o, CW, dx, _, eu, ho6, hC, na, by show 1 < 1000; decide, ?_⟩
    have A6 := (A3.trans x6).mut nw fo6 ho6 mut_ins (o' := .ins CW dx (putF "after" (.ref la) (putF "piece_at" (.ref pd) [])))
    refine EX.go (T := T) (ev_var (i := 0) rfl) (.refl A6.sub) fun u2 F7 H7 a7 eu2 => ?_
    obtain ⟨fo7, ho7⟩ := a7.off fo6 upd_same notTbl_ins
    refine ⟨o, CW, dx, _, eu2, ho7, hC, nh, by show 2 < 1000; decide, ?_⟩
    generalize hfs : putF "ahead" (.ref lh) (putF "after" (.ref la) (putF "piece_at" (.ref pd) [])) = fs3
    have fs_af : fs3.lookup ("after" : Str) = some (.ref la) := by rw [← hfs]; rfl
    have fs_ah : fs3.lookup ("ahead" : Str) = some (.ref lh) := by rw [← hfs]; rfl
    have fs_eo : fs3.lookup ("earlier_of" : Str) = none := by rw [← hfs]; rfl
    have fs_wy : fs3.lookup ("ways" : Str) = none := by rw [← hfs]; rfl
    have fs_ln : fs3.length < 900 := by rw [← hfs]; show 3 < 900; decide
    have A7 := (A6.trans a7).mut nw fo7 ho7 mut_ins (o' := .ins CW dx fs3)
    -- what is laid
    have la4 : F4 la = none ∧ H4 la = some (.lst []) := ⟨fla, hla⟩
    obtain ⟨fla5, hla5⟩ := a5.off fla hla notTbl_lst
    have t57 : ∀ {a : Addr} {y : HO}, F5 a = none → H5 a = some y → NotTbl y → (∀ xs, y ≠ .tup xs) → a ≠ o → F7 a = none ∧ (upd H7 o (.ins CW dx fs3)) a = some y := fun {a y} e1 e2 e3 e5 e4 => by
      obtain ⟨z1, z2⟩ := (lq.trans a6).off e1 e2 e3 e5
      obtain ⟨z3, z4⟩ := a7.off z1 (by rw [upd_ne e4]; exact z2) e3 e5
      exact ⟨z3, by rw [upd_ne e4]; exact z4⟩
    have ho5 := ((a4.trans a5).off f3 h3 notTbl_ins).2
    have lst_ne : ∀ {a : Addr} {ys : List V}, H5 a = some (.lst ys) → a ≠ o := fun e => ne_at e ho5 (fun z => nomatch z)
    have nwla : Nw Hc la := Nw.back A3 nla
    have nwlh : Nw Hc lh := Nw.back (A3.trans a4) nlh
    have nwhs : ∀ h ∈ hs, Nw Hc h := fun h hh => Nw.back (A3.trans a4) (hsa h hh).1
    have la_lh : la ≠ lh := nlh.ne hla notTbl_lst
    have la_hs : ∀ h ∈ hs, la ≠ h := fun h hh => (hsa h hh).1.ne hla notTbl_lst
    have W0 : WSt T F0 Hc o CW dx fs3 la lh hs [] (fun _ => []) F7 (upd H7 o (.ins CW dx fs3)) := by
      obtain ⟨z1, z2⟩ := t57 fla5 hla5 notTbl_lst (fun _ z => nomatch z) (lst_ne hla5)
      obtain ⟨z3, z4⟩ := t57 flh hlh notTbl_lst (fun _ z => nomatch z) (lst_ne hlh)
      refine ⟨A7, fo7, upd_same, z1, ⟨[], z2, rfl⟩, z3, z4, fun j h e => ?_⟩
      have hh := List.mem_of_getElem? e
      exact t57 (hsa h hh).2.1 (hsa h hh).2.2 notTbl_lst (fun _ z => nomatch z) (lst_ne (hsa h hh).2.2)
    have ib7 := ib4.up (a5.ff.trans (lq.ff.trans (a6.ff.trans a7.ff)))
    generalize upd H7 o (.ins CW dx fs3) = H7' at A7 W0
    obtain ⟨dxb7, fsb7, hb7, _, ⟨vl7, hl7, il7⟩, ⟨vp7, hp7, ip7⟩, _⟩ := id ib7
    refine b_for (T := T) (enc := fun q : List Nat × Nat => .tuple [.int (q.2 : Nat), tupD q.1]) (xs := (partsF l).zipIdx) (bs := fun q => [(5, .int (q.2 : Nat)), (4, tupD q.1)]) rfl .never (Wk.to (wk_enumt (b_enum g) (ed_fld (ev_var (i := 2) rfl) (A7.sub.at hb7) hCB n3 hp7 ip7)) (enum_parts l)) A7.sub (fun x _ => gt_tup rfl (gts_cons (gt_name nd) (gts_cons (gt_name nd) gts_nil)))
      (fun i σ F' H' => ∃ x4 x5 x6 x7, σ = [some (.ref o), some v1, some (.ref b), x, x4, x5, x6, x7, none, none] ∧ WSt T F0 Hc o CW dx fs3 la lh hs (((afterF l).take i).map lstI) (aheadN l i) F' H') (fun F8 H8 a8 => ⟨y, none, none, none, rfl, by
        have : aheadN l 0 = fun _ => [] := by funext j; rfl
        rw [this]; exact W0.step a8⟩) ?_ ?_
    · rintro i q σ1 F8 H8 hx s8 x8 ⟨y4, y5, y6, y7, rfl, W8⟩ us F9 H9 a9 ⟨u0, _, rfl, m0, u1, _, rfl, m1, rfl⟩ N hN
      obtain ⟨rfl, hi⟩ := zip_at hx
      obtain rfl : u0 = .int (i : Nat) := m0
      obtain ⟨r1, r2, r3⟩ := rowAt_ok okl hi
      have hrow : hd0 (rowAt l i) < l.length := r2 _ (hd0_mem r1)
      have W9 := W8.step a9
      have x79 := x8.trans a9.ff
      have il9 := il7.up x79
      obtain ⟨rl, xl, el, hl9, dl9⟩ := il9
      subst el
      obtain ⟨w, hw1, hw2⟩ := dl9.at (i := hd0 (rowAt l i)) (d := dOf (rowT ((ledF l).getD (hd0 (rowAt l i)) []))) (by
        unfold ledDs
        rw [List.getElem?_map, List.getD_eq_getElem?_getD, List.getElem?_eq_getElem (by rw [ledF_len]; exact hrow)]
        rfl)
      obtain ⟨qa, ks, ew, rdq, dlq⟩ := im_dOf.mp hw2
      subst ew
      generalize hrw : (ledF l).getD (hd0 (rowAt l i)) [] = row at dlq
      have rowlen : row.length ≤ 120 := by
        rw [← hrw, List.getD_eq_getElem?_getD, List.getElem?_eq_getElem (by rw [ledF_len]; exact hrow)]
        exact Nat.le_trans (ledF_row (List.getElem_mem _)).2.2 okl.len
      show rB _ _ _ [some (.ref o), some v1, some (.ref b), x, some u1, some (.int (i : Nat)), y6, y7, none, none] H9
      -- led
      refine b_asg (T := T) (i := 6) (P := imP (dOf (ones row))) (EN.ed (en_lock mono_cK rdq fun F10 H10 a10 F11 H11 ob lk => en_dcG (enc := fun n : Nat => PyData.int (n : Nat)) (xs := row) (bs := fun n => [(8, .int (n : Nat))]) (own := [("number", 8)]) rfl nd (by kernel_rfl)
          (Wk.to (wk_keys (dk := rowT row) (ev_ixl (ev_fld (ev_var (i := 2) rfl) (lk.sub.at (lk.ed.oth _ _ (fun z => z) (fun _ _ z => nomatch z) ((x79.trans a10.ff) _ _ hb7))) hCB n2 hl7) (lk.ed.oth _ _ (fun z => z) (fun _ _ z => nomatch z) (a10.ff _ _ hl9)) (ed_ixt (ed_var (i := 4) rfl ((m1.up a10.ff).ext lk.ed)) ed_int (atI_nat (i := 0) (tupD_hd r1))) (atI_nat hw1)) lk.at_ ((dlq.up a10.ff).ext lk.ed)) (by unfold rowT; rw [List.map_map]; rfl))
          (fun _ _ i hi => hi) (fun n => .inl (n : Int)) (fun _ => .bool true) (fun s1 Hb C2 cl fp n hn => ⟨gt_name nd, fun F12 H12 a12 us hus => by
            obtain ⟨u, _, rfl, m, rfl⟩ := hus
            exact ⟨ed_var (i := 8) rfl m, ed_bool⟩⟩) (by omega))) a9.sub (fun vled F10 H10 a10 iled => ?_) nd
      have W10 := W9.step a10
      obtain ⟨xsa, ha10, da10⟩ := W10.ha
      have ib10 := ib7.up (x79.trans a10.ff)
      obtain ⟨dxbA, fsbA, hbA, _, _, ⟨vpA, hpA, ipA⟩, _⟩ := id ib10
      have tkl : xsa.length ≤ 120 := by
        rw [da10.length, List.length_map]
        exact Nat.le_trans (by rw [List.length_take]; omega) (Nat.le_trans (Nat.le_of_eq (afterF_len l)) hnP)
      show rB _ _ _ [some (.ref o), some v1, some (.ref b), x, some u1, some (.int (i : Nat)), some vled, y7, none, none] H10
      -- after
      refine b_app (T := T) (P := imP (lstI (afterR l (rowAt l i)))) (ev_fld (ev_var (i := 0) rfl) W10.ho hC na fs_af) ha10 W10.fa (EF.ed (EF.to (ef_lc1 (enc := fun q : List Nat × Nat => .tuple [.int (q.2 : Nat), tupD q.1]) (xs := (partsF l).zipIdx) (bs := fun q => [(7, .int (q.2 : Nat)), (9, tupD q.1)]) (own := [("other", 7), ("its", 9)]) rfl nd (by kernel_rfl)
          (Wk.to (wk_enumt (b_enum g) (ed_fld (ev_var (i := 2) rfl) (a10.sub.at hbA) hCB n3 hpA ipA)) (enum_parts l)) (fun _ _ i hi => hi) (fun q => decide (hd0 q.1 ∈ row)) (fun q => .int (q.2 : Nat)) (fun s1 Hb C2 cl fp q hq => ⟨gt_tup rfl (gts_cons (gt_name nd) (gts_cons (gt_name nd) gts_nil)), fun F11 H11 a11 us hus => ?_⟩) (by rw [List.length_zipIdx]; show nP l ≤ _; omega)) (by
            unfold afterR
            rw [hrw, ← after_eq, List.map_map]; rfl))) a10.sub (by omega) fun v F11 H11 a11 iv f11 h11 s11 => ?_
      · obtain ⟨w0, _, rfl, n0, w1, _, rfl, n1, rfl⟩ := hus
        have hq1 : q.1 ∈ partsF l := by
          have := List.mem_zipIdx hq
          rw [this.2.2]
          exact List.getElem_mem _
        have qne := whole_ne l okl.wf _ (parts_row hq1)
        exact ⟨(et_din (k := .inl (hd0 q.1 : Int)) (room_u1 hr) (ed_ixt (ed_var (i := 9) rfl n1) ed_int (atI_nat (i := 0) (tupD_hd qne))) (ed_var (i := 6) rfl (iled.up a11.ff))).to (by rw [ones_mem]), fun _ => ed_var (i := 7) rfl n0⟩
      have W11 := W10.step a11
      have rnew : ((afterF l).take (i + 1)).map lstI = ((afterF l).take i).map lstI ++ [lstI (afterR l (rowAt l i))] := by
        have : (afterF l)[i]? = some (afterR l (rowAt l i)) := by
          unfold afterF
          rw [List.getElem?_map, (rowAt_mem hi).2]; rfl
        rw [take_next' this, List.map_append]; rfl
      have afi : (afterF l).getD i [] = afterR l (rowAt l i) := by
        unfold afterF
        rw [List.getD_eq_getElem?_getD, List.getElem?_map, (rowAt_mem hi).2]; rfl
      have la_o : la ≠ o := ne_at h11 W11.ho (fun z => nomatch z)
      have W12 : WSt T F0 Hc o CW dx fs3 la lh hs (((afterF l).take (i + 1)).map lstI) (aheadN l i) F11 (upd H11 la (.lst (xsa ++ [v]))) := by
        refine ⟨W11.adv.mut nwla f11 h11 mut_lst, W11.fo, by rw [upd_ne la_o.symm]; exact W11.ho, W11.fa, ⟨_, upd_same, ?_⟩, W11.fh, by rw [upd_ne la_lh.symm]; exact W11.hh, fun j h e => ⟨(W11.each j h e).1, by rw [upd_ne (la_hs h (List.mem_of_getElem? e)).symm]; exact (W11.each j h e).2⟩⟩
        rw [rnew]
        exact (da10.up a11.ff).snoc iv
      generalize upd H11 la (.lst (xsa ++ [v])) = H12 at s11 W12
      obtain ⟨xsb, hb12, db12⟩ := W12.ha
      have arow := afterF_row (l := l) (i := i)
      rw [afi] at arow
      have arn : (afterR l (rowAt l i)).Nodup := List.Pairwise.filter _ List.nodup_range
      have atr : (((afterF l).take (i + 1)).map lstI)[i]? = some (lstI (afterR l (rowAt l i))) := by
        rw [rnew, List.getElem?_append_right (by rw [List.length_map, List.length_take, afterF_len]; omega), List.length_map, List.length_take, afterF_len, Nat.min_eq_left (Nat.le_of_lt hi), Nat.sub_self]
        rfl
      refine b_for (T := T) (enc := fun n : Nat => PyData.int (n : Nat)) (xs := afterR l (rowAt l i)) (bs := fun n => [(7, .int (n : Nat))]) rfl .never (wk_list (ed_ixm (ev_fld (ev_var (i := 0) rfl) W12.ho hC na fs_af) hb12 db12 (ed_var (i := 5) rfl rfl) (atI_nat atr))) s11 (fun x _ => gt_name nd)
        (fun t σ F' H' => ∃ x7, σ = [some (.ref o), some v1, some (.ref b), x, some u1, some (.int (i : Nat)), some vled, x7, none, none] ∧ WSt T F0 Hc o CW dx fs3 la lh hs (((afterF l).take (i + 1)).map lstI) (fun j => aheadN l i j ++ if j ∈ (afterR l (rowAt l i)).take t then [i] else []) F' H') (fun F13 H13 a13 => ⟨y7, rfl, by
          have : (fun j => aheadN l i j ++ if j ∈ (afterR l (rowAt l i)).take 0 then [i] else []) = aheadN l i := by funext j; simp
          rw [this]; exact W12.step a13⟩) ?_ ?_
      · rintro t ot σ2 F13 H13 ht s13 x13 ⟨z7, rfl, W13⟩ us F14 H14 a14 ⟨w0, _, rfl, n0, rfl⟩ N2 hN2
        obtain rfl : w0 = .int (ot : Nat) := n0
        have hot : ot < nP l := arow.2 ot (List.mem_of_getElem? ht)
        have W14 := W13.step a14
        have hsz : hs.length = nP l := hsl
        have hat : hs[ot]? = some hs[ot] := List.getElem?_eq_getElem (by omega)
        obtain ⟨fe, he⟩ := W14.each ot _ hat
        have hmem := List.mem_of_getElem? hat
        have hnew : ot ∉ (afterR l (rowAt l i)).take t := mem_take_new arn ht
        have lenc : ((aheadN l i ot ++ if ot ∈ (afterR l (rowAt l i)).take t then [i] else []).map fun n => V.int (n : Nat)).length < sizeLine := by
          rw [if_neg hnew, List.append_nil, List.length_map]
          have h1 : (aheadN l i ot).length ≤ i := Nat.le_trans (List.length_filter_le _ _) (by rw [List.length_range]; exact Nat.le_refl _)
          have h2 : i < nP l := hi
          omega
        refine b_app (T := T) (P := imP (.int (i : Nat))) (l := hs[ot]) (ev_ixm (v := .ref hs[ot]) (ev_fld (ev_var (i := 0) rfl) W14.ho hC nh fs_ah) W14.hh (ed_var (i := 7) rfl rfl) (atI_nat (by rw [List.getElem?_map, hat]; rfl))) he fe (ed_var (i := 5) rfl rfl) a14.sub lenc fun v2 F15 H15 a15 iv2 f15 h15 s15 => ?_
        obtain rfl : v2 = .int (i : Nat) := iv2
        have W15 := W14.step a15
        refine rB_nil (hN2 _ _ _ s15 (a14.ff.trans a15.ff) ⟨_, rfl, W15.adv.mut (nwhs _ hmem) f15 h15 mut_lst, W15.fo, ?_, W15.fa, ?_, W15.fh, ?_, fun j h e => ?_⟩)
        · rw [upd_ne (ne_at W15.ho h15 (fun z => nomatch z))]; exact W15.ho
        · obtain ⟨xs5, q1, q2⟩ := W15.ha
          exact ⟨xs5, by rw [upd_ne (la_hs _ hmem)]; exact q1, q2⟩
        · rw [upd_ne (fun z => (List.nodup_cons.mp hsn).1 (by rw [z]; exact hmem))]; exact W15.hh
        · refine ⟨(W15.each j h e).1, ?_⟩
          rw [take_next' ht]
          by_cases ej : j = ot
          · subst ej
            rw [hat] at e
            obtain rfl := Option.some.inj e
            rw [upd_same, if_neg hnew, if_pos (by simp)]
            simp
          · have hne : h ≠ hs[ot] := fun z => by
              rw [z] at e
              exact ej ((List.getElem?_inj (by have := (List.getElem?_eq_some_iff.mp e).1; exact this) (List.nodup_cons.mp hsn).2).mp (by rw [e, hat]))
            rw [upd_ne hne, (W15.each j h e).2]
            have : (j ∈ List.take t (afterR l (rowAt l i)) ++ [ot]) ↔ j ∈ List.take t (afterR l (rowAt l i)) := by simp [ej]
            simp only [this]
      · rintro σ2 F13 H13 s13 x13 ⟨z7, rfl, W13⟩
        rw [List.take_length] at W13
        refine rB_nil (hN _ _ _ s13 (a9.ff.trans (a10.ff.trans (a11.ff.trans x13))) ⟨_, _, _, _, rfl, ?_⟩)
        have : aheadN l (i + 1) = fun j => aheadN l i j ++ if j ∈ afterR l (rowAt l i) then [i] else [] := by
          funext j
          rw [aheadN_succ, afi]
        rw [this]
        exact W13
    · rintro σ1 F8 H8 s8 x8 ⟨y4, y5, y6, y7, rfl, W8⟩
      rw [List.length_zipIdx, List.take_of_length_le (by rw [afterF_len]; exact Nat.le_refl _)] at W8
      have W8 : WSt T F0 Hc o CW dx fs3 la lh hs ((afterF l).map lstI) (aheadN l (nP l)) F8 H8 := W8
      obtain ⟨xsa, ha8, da8⟩ := W8.ha
      -- all comes to stand
      let qs : List (Addr × HO) := (la, .lst xsa) :: (lh, .lst (hs.map V.ref)) :: ((List.range hs.length).map fun j => (hs.getD j 0, HO.lst ((aheadN l (nP l) j).map fun n => V.int (n : Nat))))
      have qmap : qs.map (·.1) = la :: lh :: hs := by
        show la :: lh :: ((List.range hs.length).map fun j => (hs.getD j 0, HO.lst ((aheadN l (nP l) j).map fun n => V.int (n : Nat)))).map (·.1) = _
        rw [List.map_map]
        congr 2
        apply List.ext_getElem?
        intro j
        rw [List.getElem?_map]
        by_cases hj : j < hs.length
        · rw [List.getElem?_range hj, List.getElem?_eq_getElem hj]
          simp [List.getD_eq_getElem?_getD, List.getElem?_eq_getElem hj]
        · rw [List.getElem?_eq_none (by rw [List.length_range]; omega), List.getElem?_eq_none (by omega)]; rfl
      have qnd : (qs.map (·.1)).Nodup := by
        rw [qmap]
        refine List.nodup_cons.mpr ⟨fun hm => ?_, hsn⟩
        rcases List.mem_cons.mp hm with e | e
        · exact la_lh e
        · exact la_hs _ e rfl
      obtain ⟨F9, A9, x9, at9, out9⟩ := stand_all qs W8.adv qnd fun q hq => by
        rcases List.mem_cons.mp hq with e | hq
        · rw [e]; exact ⟨nwla, W8.fa, ha8, notTbl_lst, fun _ _ z => nomatch z⟩
        · rcases List.mem_cons.mp hq with e | hq
          · rw [e]; exact ⟨nwlh, W8.fh, W8.hh, notTbl_lst, fun _ _ z => nomatch z⟩
          · obtain ⟨j, hj, rfl⟩ := List.mem_map.mp hq
            have hj := List.mem_range.mp hj
            have e : hs[j]? = some (hs.getD j 0) := by rw [List.getD_eq_getElem?_getD, List.getElem?_eq_getElem hj]; rfl
            exact ⟨nwhs _ (List.mem_of_getElem? e), (W8.each j _ e).1, (W8.each j _ e).2, notTbl_lst, fun _ _ z => nomatch z⟩
      have fo9 : F9 o = none := by
        rw [out9 o (fun hm => ?_)]
        · exact W8.fo
        · rw [qmap] at hm
          rcases List.mem_cons.mp hm with e | hm
          · exact ne_at W8.ho ha8 (fun z => nomatch z) e
          · rcases List.mem_cons.mp hm with e | hm
            · exact ne_at W8.ho W8.hh (fun z => nomatch z) e
            · obtain ⟨j, hj⟩ := List.getElem?_of_mem hm
              exact ne_at W8.ho (W8.each j _ hj).2 (fun z => nomatch z) rfl
      have iaf : Im F9 (rowsD (afterF l)) (.ref la) := ⟨la, xsa, rfl, at9 _ (List.mem_cons_self ..), da8.up x9⟩
      have iah : Im F9 (rowsD (aheadF l)) (.ref lh) := by
        refine ⟨lh, _, rfl, at9 _ (List.mem_cons_of_mem _ (List.mem_cons_self ..)), ?_⟩
        have e1 : (aheadF l).map lstI = (List.range hs.length).map fun j => lstI (aheadN l (nP l) j) := by
          unfold aheadF
          rw [List.map_map, show hs.length = nP l from hsl]; rfl
        have e2 : hs.map V.ref = (List.range hs.length).map fun j => V.ref (hs.getD j 0) := by
          apply List.ext_getElem?
          intro j
          rw [List.getElem?_map, List.getElem?_map]
          by_cases hj : j < hs.length
          · rw [List.getElem?_range hj, List.getElem?_eq_getElem hj]
            simp [List.getD_eq_getElem?_getD, List.getElem?_eq_getElem hj]
          · rw [List.getElem?_eq_none (by omega), List.getElem?_eq_none (by rw [List.length_range]; omega)]; rfl
        rw [e1, e2]
        have gen : ∀ (js : List Nat), (∀ j ∈ js, j < hs.length) → ImL F9 (js.map fun j => lstI (aheadN l (nP l) j)) (js.map fun j => V.ref (hs.getD j 0)) := by
          intro js
          induction js with
          | nil => intro _; rfl
          | cons j js ih =>
            intro hjs
            refine ⟨_, _, rfl, ⟨hs.getD j 0, _, rfl, at9 (hs.getD j 0, HO.lst ((aheadN l (nP l) j).map fun n => V.int (n : Nat))) ?_, ?_⟩, ih fun k hk => hjs k (List.mem_cons_of_mem _ hk)⟩
            · exact List.mem_cons_of_mem _ (List.mem_cons_of_mem _ (List.mem_map.mpr ⟨j, List.mem_range.mpr (hjs j (List.mem_cons_self ..)), rfl⟩))
            · have := (ImL.ints (F := F9) (ns := (aheadN l (nP l) j).map fun n => ((n : Nat) : Int))).mpr rfl
              rw [List.map_map, List.map_map] at this
              exact this
        exact gen _ fun j hj => List.mem_range.mp hj
      have ib9 := ib7.up (x8.trans x9)
      obtain ⟨dxb9, fsb9, hb9, _, _, ⟨vp9, hp9, ip9⟩, _⟩ := id ib9
      refine b_fld (T := T) (P := imP (rowsD (earlierF l))) (EF.ed (EF.to (ef_lc0 (enc := fun n : Nat => PyData.int (n : Nat)) (xs := List.range (nP l)) (bs := fun n => [(3, .int (n : Nat))]) (own := [("piece", 3)]) rfl nd (by kernel_rfl)
          (Wk.to (wk_range1 (b_range g) (ed_lent (b_len g) (ed_fld (ev_var (i := 2) rfl) (A9.sub.at hb9) hCB n3 hp9 ip9)) (by rw [List.length_map]; omega) (by rw [List.length_map]; have : nP l = (partsF l).length := rfl; omega)) (by rw [List.length_map, Int.toNat_natCast, range0]; rfl))
          (fun _ _ i hi => hi) (fun n => lstI (earlierR l n)) (fun s1 Hb C2 cl fp n hn => ⟨gt_name nd, fun F10 H10 a10 us hus => ?_⟩) (by rw [List.length_range]; omega)) (by unfold earlierF; rw [List.map_map]; rfl))) (ev_var (i := 0) rfl) W8.ho fo9 hC ne (by omega) A9.sub (fun ve F10 H10 a10 ie f10 h10 s10 => ?_) mono_im
      · obtain ⟨u, _, rfl, m, rfl⟩ := hus
        obtain rfl : u = .int (n : Nat) := m
        intro F11 H11 a11 Q2 k2
        refine rx_meth cel hr (EX.go (T := T) (ev_var (i := 0) rfl) a11 fun u F12 H12 a12 eu => ?_)
        obtain rfl : u = .ref o := eu
        obtain ⟨fo12, ho12⟩ := (a10.trans (a11.trans a12)).off fo9 W8.ho notTbl_ins
        refine ⟨o, dx, fs3, rfl, ho12, fs_eo, ?_⟩
        refine EA.go (T := T) (eg_cons (ev_var (i := 2) rfl) (eg_cons (ev_var (i := 3) rfl) eg_nil mono_eq) mono_eq) (a11.trans a12) fun vs F13 H13 a13 ⟨w1, r1, e1, e2, w2, r2, e3, e4, e5⟩ => ?_
        obtain rfl : w1 = .ref b := e2
        obtain rfl : w2 = .int (n : Nat) := e4
        subst e1 e3 e5
        have ho13 := (a13.off fo12 ho12 notTbl_ins).2
        have x13 := a10.ff.trans (a11.ff.trans (a12.ff.trans a13.ff))
        exact ⟨F13, o, b, l, dx, fs3, _, _, n, a13.sub, ho13, fs_af, fs_ah, iaf.up x13, iah.up x13, ib9.up x13, okl, List.mem_range.mp hn, rfl, fun v F' H' a q => k2 v F' H' (a12.trans (a13.trans a)) q⟩
      · have A10 := (A9.trans a10).mut nw f10 h10 mut_ins (o' := .ins CW dx (putF "earlier" ve fs3))
        have A11 := A10.set nw upd_same notTbl_ins
        have ex : Ext F10 (upd F10 o (.ins CW dx (putF "earlier" ve fs3))) := fun x u q => by rw [upd_ne fun z => by rw [z, f10] at q; cases q]; exact q
        refine rB_nil (k _ _ A11 ⟨dx, _, upd_same, ⟨ve, by rw [← hfs]; rfl, ie.up ex⟩, by rw [← hfs]; rfl⟩)
end
end Tw
namespace Tw
open PySem PySem.Spec PyProof.Rows L2 LamX
abbrev HT := Tb Key
def heldS1 (tb : HT) (s : Step) : HT := if s.1 ∈ (["lock", "share"] : List Str) then putD tb (.inr s.2) (.str s.1) else tb
def heldS (tb : HT) (s : Step) : HT := if s.1 = "free" then dropD (heldS1 tb s) (.inr s.2) else heldS1 tb s
def held (t : Thr) (i : Nat) : HT := (t.take i).foldl heldS []
theorem held_succ {t : Thr} {i : Nat} {s : Step} (h : t[i]? = some s) : held t (i + 1) = heldS (held t i) s := by
  unfold held
  rw [take_next' h, List.foldl_append]
  rfl
theorem len_dropD (tb : HT) (k : Key) : (dropD tb k).length ≤ tb.length := List.length_filter_le _ _
theorem heldS1_len (tb : HT) (s : Step) : (heldS1 tb s).length ≤ tb.length + 1 := by
  unfold heldS1
  split
  · exact length_putD _ _ _
  · omega
theorem held_len (t : Thr) (i : Nat) : (held t i).length ≤ i := by
  induction i with
  | zero => exact Nat.zero_le _
  | succ i ih =>
    by_cases hi : i < t.length
    · rw [held_succ (List.getElem?_eq_getElem hi)]
      unfold heldS
      have := heldS1_len (held t i) t[i]
      split
      · have := len_dropD (heldS1 (held t i) t[i]) (.inr t[i].2)
        omega
      · omega
    · have e : held t (i + 1) = held t i := by
        unfold held
        rw [List.take_of_length_le (by omega), List.take_of_length_le (by omega)]
      rw [e]; omega
theorem keepS_nodup {ks ks' : List Str} {s : Step} (h : ks.Nodup) (e : keepS ks s = some ks') : ks'.Nodup := by
  unfold keepS at e
  split at e
  · split at e
    · cases e
    · rename_i hn
      cases e
      exact List.nodup_append.mpr ⟨h, by simp, fun a ha b hb z => hn (by rw [List.mem_singleton.mp hb] at z; rw [← z]; exact ha)⟩
  · split at e
    · split at e
      · cases e; exact h.erase _
      · cases e
    · cases e; exact h
theorem held_keys {t : Thr} (i : Nat) (hi : i ≤ t.length) {ks : List Str} (e : keepT [] (t.take i) = some ks) : ks.Nodup ∧ ∀ n, (valD (held t i) (.inr n)).isSome = true ↔ n ∈ ks := by
  induction i generalizing ks with
  | zero =>
    have : ks = [] := by simpa [keepT] using e.symm
    subst this
    exact ⟨List.nodup_nil, fun n => by simp [held, valD]⟩
  | succ i ih =>
    have hx : t[i]? = some t[i] := List.getElem?_eq_getElem (by omega)
    rw [keepT_take hx] at e
    cases e0 : keepT [] (t.take i) with
    | none => rw [e0] at e; cases e
    | some k0 =>
      rw [e0] at e
      have e : keepS k0 t[i] = some ks := e
      obtain ⟨nd0, ih⟩ := ih (by omega) e0
      refine ⟨keepS_nodup nd0 e, fun n => ?_⟩
      rw [held_succ hx]
      unfold keepS at e
      unfold heldS heldS1
      split at e
      · rename_i h1
        rw [if_pos h1]
        have nf : ¬ t[i].1 = "free" := fun z => by rw [z] at h1; exact absurd h1 (by decide)
        rw [if_neg nf]
        split at e
        · cases e
        · cases e
          rw [valD_put]
          by_cases z : n = t[i].2
          · subst z; simp
          · rw [if_neg fun q => z (Sum.inr.inj q), ih]; simp [z]
      · rename_i h1
        rw [if_neg h1]
        split at e
        · rename_i h2
          rw [if_pos h2]
          split at e
          · cases e
            rw [valD_drop]
            by_cases z : n = t[i].2
            · subst z
              rw [if_pos rfl]
              simp [nd0.mem_erase_iff]
            · rw [if_neg fun q => z (Sum.inr.inj q), ih, nd0.mem_erase_iff]
              simp [z]
          · cases e
        · rename_i h2
          rw [if_neg h2]
          cases e
          exact ih n
def StrTb (tb : HT) : Prop := ∀ k d, valD tb k = some d → ∃ w, d = .str w
theorem held_str (t : Thr) (i : Nat) : StrTb (held t i) := by
  induction i with
  | zero => intro k d h; simp [held, valD] at h
  | succ i ih =>
    by_cases hi : i < t.length
    · rw [held_succ (List.getElem?_eq_getElem hi)]
      have h1 : StrTb (heldS1 (held t i) t[i]) := by
        unfold heldS1
        split
        · intro k d h
          rw [valD_put] at h
          split at h
          · cases h; exact ⟨_, rfl⟩
          · exact ih k d h
        · exact ih
      unfold heldS
      split
      · intro k d h
        rw [valD_drop] at h
        split at h
        · cases h
        · exact h1 k d h
      · exact h1
    · have e : held t (i + 1) = held t i := by
        unfold held
        rw [List.take_of_length_le (by omega), List.take_of_length_le (by omega)]
      rw [e]; exact ih
def holdD (t : Thr) : PyData := .list ((List.range (t.length + 1)).map fun i => dOf (held t i))
section
variable {P : Program} {w : World} {K : PySem.W.Frag} {mg : Str → Option Value} {base : Heap} {T : List (Addr × Str)}
def Rholdings (ds : List PyData) (d : PyData) : Prop := ∃ t : Thr, okT t ∧ isThr t = true ∧ ds = [thD t] ∧ d = holdD t
theorem ok_holdings (F : DfN K mg "holdings" 37) (g : G K mg) : Cl P w K mg base 1 "holdings" ["thread"] (spD T Rholdings) := by
  refine cl_of (N := ["thread", "found", "word", "name", "kept"]) F ⟨rfl, rfl, rfl, by decide +kernel, rfl, by decide +kernel, by decide +kernel⟩ (len_spD fun ds d ⟨n, _, _, e, _⟩ => by rw [e]; rfl) (fun _ _ _ _ _ _ us hl => match us, hl with | [_], _ => rfl) ?_
  rintro f cdv A outer s H0 vs Q E hr ⟨F0, ds, d, sF, hv, ⟨t, ht, hthr, e1, e2⟩, k⟩
  subst e1 e2
  obtain ⟨v1, _, rfl, i1, rfl⟩ := hv
  have nd : (["thread", "found", "word", "name", "kept"] : List Str).Nodup := by decide +kernel
  obtain ⟨h40, hkp⟩ := isThr_keep hthr
  have hz : 100 < sizeLine := by decide
  refine b_asgF (T := T) (i := 1) (ef_lst (ds := [dOf []]) (ea_cons (EN.ed en_nil) ea_nil)) sF (fun l xs F1 H1 a1 hn hF hl hd => ?_) nd
  have nw : Nw H0 l := hn
  have A0 : App T F0 H0 l (fun σ => ∃ x y z, σ = [some v1, some (.ref l), x, y, z]) [dOf []] _ F1 H1 := ⟨⟨none, none, none, rfl⟩, a1, hF, xs, hl, hd⟩
  refine b_for (T := T) (enc := stD) (xs := t) (bs := fun s => [(2, .str s.1), (3, .str s.2)]) rfl .never (wk_tup (ed_var (i := 0) rfl (i1.up a1.ff))) a1.sub (fun x _ => gt_tup rfl (gts_cons (gt_name nd) (gts_cons (gt_name nd) gts_nil)))
    (fun i σ F' H' => App T F0 H0 l (fun σ => ∃ x y z, σ = [some v1, some (.ref l), x, y, z]) ((List.range (i + 1)).map fun j => dOf (held t j)) σ F' H')
    (fun F2 H2 a2 => (A0.step a2 A0.is).to rfl) ?_ ?_
  · rintro i ⟨wd, nm⟩ σ1 F2 H2 hx s2 x2 A2 us F3 H3 a3 ⟨u1, _, rfl, m1, u2, _, rfl, m2, rfl⟩ N hN
    have hil := (List.getElem?_eq_some_iff.mp hx).1
    obtain ⟨⟨x, y, z, rfl⟩, _⟩ := id A2
    have m1 : u1 = .str wd := m1
    have m2 : u2 = .str nm := m2
    subst m1 m2
    have A3 := A2.step a3 (σ' := [some v1, some (.ref l), some (.str wd), some (.str nm), z]) ⟨_, _, _, rfl⟩
    show rB _ _ _ [some v1, some (.ref l), some (.str wd), some (.str nm), z] H3
    obtain ⟨ys, hl3, hd3⟩ := A3.at_
    have hlast : atI ((List.range (i + 1)).map fun j => dOf (held t j)) (-1) = some (dOf (held t i)) := by
      unfold atI ixN
      rw [if_neg (by decide), if_pos (by rw [List.length_map, List.length_range]; omega), List.length_map, List.length_range]
      show (List.map _ (List.range (i + 1)))[(-1 + ((i + 1 : Nat) : Int)).toNat]? = _
      rw [show (-1 + ((i + 1 : Nat) : Int)).toNat = i by omega, List.getElem?_map, List.getElem?_range (by omega)]
      rfl
    have hlen := held_len t i
    -- kept
    refine b_asgN (T := T) (i := 4) (en_copy (b_dict g) (ed_ixm (ev_var (i := 1) rfl) hl3 hd3 (ed_neg ed_int) hlast)) a3.sub (fun kd o F4 H4 a4 hn4 hF4 hl4 hc => ?_) nd
    obtain ⟨kvs, rfl, dl⟩ := hc
    have A4 := A3.step a4 A3.is
    have nwk : Nw H0 kd := Nw.back A3.adv hn4
    have l_ne : l ≠ kd := hn4.ne hl3 notTbl_lst
    show rB _ _ _ [some v1, some (.ref l), some (.str wd), some (.str nm), some (.ref kd)] H4
    let Jst : HT → L2.St → Hp → Hp → Prop := fun tb σ F' H' => σ = [some v1, some (.ref l), some (.str wd), some (.str nm), some (.ref kd)] ∧ App T F0 H0 l (fun σ => ∃ x y z, σ = [some v1, some (.ref l), x, y, z]) ((List.range (i + 1)).map fun j => dOf (held t j)) σ F' H' ∧ F' kd = none ∧ ∃ kvs, H' kd = some (.dK kvs) ∧ DL F' tb kvs
    have step := held_succ hx
    refine b_whenJ (T := T) (k0 := decide (wd ∈ (["lock", "share"] : List Str))) (Jst (heldS1 (held t i) (wd, nm)))
      (et_inSt (zs := ["lock", "share"]) (ed_var (i := 2) rfl rfl) (ed_tup (ea_cons (ed_gstr (c_lock g)) (ea_cons (ed_gstr (c_share g)) ea_nil)))) a4.sub (fun zz F5 H5 a5 N' hN' => ?_) (fun zz F5 H5 a5 => ?_) ?_
    · have z' : wd ∈ (["lock", "share"] : List Str) := by simpa using zz
      obtain ⟨f5, h5⟩ := a5.off hF4 hl4 notTbl_dK
      have dl5 := dl.up a5.ff
      refine b_dput (T := T) (k := .inr nm) (d := .str wd) (room_u1 hr) a5.sub (ed_var (i := 2) rfl rfl) (ev_var (i := 4) rfl) (ed_var (i := 3) rfl rfl) f5 h5 dl5 (by rw [dl.length]; omega) fun kvs' F6 H6 a6 f6 h6 dl6 s6 => ?_
      have A6 := A4.step (a5.trans a6) (σ' := [some v1, some (.ref l), some (.str wd), some (.str nm), some (.ref kd)]) ⟨_, _, _, rfl⟩
      refine rB_nil (hN' _ _ _ s6 (a5.trans a6).ff ⟨rfl, ⟨A6.is, A6.adv.mut nwk f6 h6 mut_dK, A6.fl, ?_⟩, f6, kvs', upd_same, ?_⟩)
      · obtain ⟨ys6, q1, q2⟩ := A6.at_
        exact ⟨ys6, by rw [upd_ne l_ne]; exact q1, q2⟩
      · unfold heldS1
        rw [if_pos z']
        exact dl6
    · have z' : wd ∉ (["lock", "share"] : List Str) := by simpa using zz
      obtain ⟨f5, h5⟩ := a5.off hF4 hl4 notTbl_dK
      refine ⟨rfl, A4.step a5 ⟨_, _, _, rfl⟩, f5, kvs, h5, ?_⟩
      unfold heldS1
      rw [if_neg z']
      exact dl.up a5.ff
    · rintro σ5 F5 H5 s5 x5 ⟨rfl, A5, f5, kvs5, h5, dl5⟩
      refine b_whenJ (T := T) (k0 := decide (wd = "free")) (Jst (held t (i + 1))) (et_eqS (ed_var (i := 2) rfl rfl) (ed_gstr (c_free g))) s5 (fun zz F6 H6 a6 N' hN' => ?_) (fun zz F6 H6 a6 => ?_) ?_
      · have z' : wd = "free" := by simpa using zz
        subst z'
        obtain ⟨f6, h6⟩ := a6.off f5 h5 notTbl_dK
        have dl6 := dl5.up a6.ff
        have nls : ("free" : Str) ∉ (["lock", "share"] : List Str) := by decide
        have hs1 : heldS1 (held t i) ("free", nm) = held t i := by unfold heldS1; rw [if_neg nls]
        obtain ⟨ks, ek⟩ := keep_pre hkp i
        obtain ⟨ks', ek'⟩ := keep_pre hkp (i + 1)
        rw [keepT_take hx, ek] at ek'
        have ek' : keepS ks ("free", nm) = some ks' := ek'
        have hmem : nm ∈ ks := by
          unfold keepS at ek'
          rw [if_neg nls, if_pos rfl] at ek'
          by_cases q : nm ∈ ks
          · exact q
          · rw [if_neg q] at ek'; cases ek'
        refine b_dpop (T := T) (k := .inr nm) a6.sub (ev_var (i := 4) rfl) (ed_var (i := 3) rfl rfl) f6 h6 dl6 (by rw [hs1]; exact ((held_keys i (by omega) ek).2 nm).mpr hmem) fun kvs' F7 H7 a7 f7 h7 dl7 s7 => ?_
        have A7 := A5.step (a6.trans a7) (σ' := [some v1, some (.ref l), some (.str "free"), some (.str nm), some (.ref kd)]) ⟨_, _, _, rfl⟩
        refine rB_nil (hN' _ _ _ s7 (a6.trans a7).ff ⟨rfl, ⟨A7.is, A7.adv.mut nwk f7 h7 mut_dK, A7.fl, ?_⟩, f7, kvs', upd_same, ?_⟩)
        · obtain ⟨ys6, q1, q2⟩ := A7.at_
          exact ⟨ys6, by rw [upd_ne l_ne]; exact q1, q2⟩
        · rw [step]
          unfold heldS
          rw [if_pos rfl]
          exact dl7
      · have z' : wd ≠ "free" := by simpa using zz
        obtain ⟨f6, h6⟩ := a6.off f5 h5 notTbl_dK
        refine ⟨rfl, A5.step a6 ⟨_, _, _, rfl⟩, f6, kvs5, h6, ?_⟩
        rw [step]
        unfold heldS
        rw [if_neg z']
        exact dl5.up a6.ff
      · rintro σ6 F6 H6 s6 x6 ⟨rfl, A6, f6, kvs6, h6, dl6⟩
        obtain ⟨F7, a7, ik, x7, o7⟩ := stand_dK A6.adv nwk f6 h6 dl6
        have A7 : App T F0 H0 l (fun σ => ∃ x y z, σ = [some v1, some (.ref l), x, y, z]) ((List.range (i + 1)).map fun j => dOf (held t j)) [some v1, some (.ref l), some (.str wd), some (.str nm), some (.ref kd)] F7 H6 := by
          obtain ⟨ys6, q1, q2⟩ := A6.at_
          exact ⟨A6.is, a7, by rw [o7 l l_ne]; exact A6.fl, ys6, q1, q2.up x7⟩
        refine b_appA (T := T) A7 nw (ev_var (i := 1) rfl) (ed_var (i := 4) rfl ik) (by rw [List.length_map, List.length_range]; omega) fun F8 H8 s8 x8 A8 => ?_
        refine rB_nil (hN _ _ _ s8 (a3.ff.trans (a4.ff.trans (x5.trans (x6.trans (x7.trans x8))))) (A8.to ?_))
        rw [List.range_succ (n := i + 1), List.map_append]
        rfl
  · rintro σ1 F2 H2 s2 x2 A2
    obtain ⟨x, y, z, rfl⟩ := A2.is
    obtain ⟨F5, a5, m5, _⟩ := A2.out nw
    exact b_ret (T := T) (ed_var (i := 1) rfl m5) a5.sub fun v F6 H6 a6 q => k v F6 H6 (a5.trans a6) q
end
end Tw
namespace Tw
open PySem PySem.Spec PyProof.Rows L2 LamX
structure IsPlane (C : Addr) (p : Pr) (x : Addr) (F : Hp) : Prop where
  ex : ∃ dx fs, F x = some (.ins C dx fs) ∧ (∃ v, fs.lookup ("sizes" : Str) = some v ∧ Im F (.tuple [.int p.1.length, .int p.2.length]) v) ∧ (∃ v, fs.lookup ("end" : Str) = some v ∧ Im F (.tuple [.int p.1.length, .int p.2.length]) v) ∧ (∃ v, fs.lookup ("held_by" : Str) = some v ∧ Im F (.list [holdD p.1, holdD p.2]) v) ∧ ∀ m ∈ (["is_open_at", "next_states", "reached_from"] : List Str), fs.lookup m = none
theorem IsPlane.up {C : Addr} {p : Pr} {x : Addr} {F F' : Hp} (h : IsPlane C p x F) (e : Ext F F') : IsPlane C p x F' := by
  obtain ⟨dx, fs, h1, ⟨v1, a1, b1⟩, ⟨v2, a2, b2⟩, ⟨v3, a3, b3⟩, h4⟩ := h
  exact ⟨dx, fs, e _ _ h1, ⟨v1, a1, b1.up e⟩, ⟨v2, a2, b2.up e⟩, ⟨v3, a3, b3.up e⟩, h4⟩
def strAt (tb : HT) (k : Key) : Str := match valD tb k with | some (.str w) => w | _ => ""
theorem strAt_some {tb : HT} (h : StrTb tb) {k : Key} (hk : (valD tb k).isSome = true) : valD tb k = some (.str (strAt tb k)) := by
  obtain ⟨d, e⟩ := Option.isSome_iff_exists.mp hk
  obtain ⟨w, rfl⟩ := h k d e
  unfold strAt
  rw [e]
def openB (a b : HT) : Bool := ((a.map (·.1)).filter fun k => (valD b k).isSome).all fun k => decide (strAt a k = "share") && decide (strAt b k = "share")
def openAt (p : Pr) (i j : Nat) : Bool := openB (held p.1 i) (held p.2 j)
theorem hold_at {t : Thr} {i : Nat} (h : i ≤ t.length) : ((List.range (t.length + 1)).map fun i => dOf (held t i))[i]? = some (dOf (held t i)) := by
  rw [List.getElem?_map, List.getElem?_range (by omega)]; rfl
def spOpen (T : List (Addr × Str)) (C : Addr) : Sp := fun vs H Q _ => ∃ F o p vst, ∃ (i j : Nat), Sub F H ∧ IsPlane C p o F ∧ i ≤ p.1.length ∧ j ≤ p.2.length ∧ p.1.length ≤ 40 ∧ Im F (.tuple [.int (i : Nat), .int (j : Nat)]) vst ∧ vs = [.ref o, vst] ∧ ∀ v F' H', Adv T F H F' H' → Im F' (.bool (openAt p i j)) v → Q v H'
section
variable {P : Program} {w : World} {K : PySem.W.Frag} {mg : Str → Option Value} {base : Heap} {T : List (Addr × Str)} {C : Addr}
def Rplane (C : Addr) (ds : List PyData) (post : Addr → Hp → Prop) : Prop := ∃ p : Pr, okP p ∧ ds = [prD p] ∧ post = IsPlane C p
theorem ok_plane (F : CI K mg "Plane" C "Plane.__init__" (inClass (top 38) 0)) (g : G K mg) (n1 : NoAttr K C "sizes") (n2 : NoAttr K C "end") (n3 : NoAttr K C "held_by") (c37 : Cl P w K mg base 1 "holdings" ["thread"] (spD T Rholdings)) : Mak P w K mg base 2 "Plane" C ["self", "pair"] (spI T C (Rplane C)) := by
  refine mak_of (N := ["self", "pair", "thread"]) F ⟨rfl, rfl, rfl, by decide +kernel, rfl, by decide +kernel, by decide +kernel⟩ (len_spI fun ds d ⟨n, _, e, _⟩ => by rw [e]; rfl) (fun _ _ _ _ _ _ us hl => match us, hl with | [_, _], _ => rfl) ?_
  rintro f cdv A outer s H0 vs Q E hr ⟨F0, Hc, o, dx, args, ds, post, rfl, a0, nw, hFo, hHo, hv, ⟨p, hp, e1, e2⟩, k⟩
  subst e1 e2
  obtain ⟨v1, _, rfl, i1, rfl⟩ := hv
  have nd : (["self", "pair", "thread"] : List Str).Nodup := by decide +kernel
  have hC := F.cls
  have l1 : (p.1.map stD).length = p.1.length := List.length_map _
  have l2 : (p.2.map stD).length = p.2.length := List.length_map _
  refine b_fld (T := T) (P := imP (.tuple [.int p.1.length, .int p.2.length])) (ED.to (ed_tup (ea_cons (ed_lent (b_len g) (ed_ixt (ed_var (i := 1) rfl i1) ed_int rfl)) (ea_cons (ed_lent (b_len g) (ed_ixt (ed_var (i := 1) rfl i1) ed_int rfl)) ea_nil))) (by rw [l1, l2])) (ev_var (i := 0) rfl) hHo hFo hC n1 (by decide) a0.sub (fun vk F1 H1 a1 ik f1 h1 s1 => ?_) mono_im
  have A1 := (a0.trans a1).mut nw f1 h1 mut_ins (o' := .ins C dx (putF "sizes" vk []))
  refine b_fld (T := T) (P := imP (.tuple [.int p.1.length, .int p.2.length])) (ed_fld (ev_var (i := 0) rfl) upd_same hC n1 rfl ik) (ev_var (i := 0) rfl) upd_same f1 hC n2 (by show 1 < 1000; decide) s1 (fun ve F2 H2 a2 ie f2 h2 s2 => ?_) mono_im
  have A2 := (A1.trans a2).mut nw f2 h2 mut_ins (o' := .ins C dx (putF "end" ve (putF "sizes" vk [])))
  refine b_fld (T := T) (P := imP (.list [holdD p.1, holdD p.2])) (EF.ed (EF.to (ef_lc0 (enc := thD) (xs := [p.1, p.2]) (bs := fun t => [(2, thD t)]) (own := [("thread", 2)]) rfl nd (by kernel_rfl) (wk_tup (ed_var (i := 1) rfl (i1.up (a1.ff.trans a2.ff)))) (fun _ _ i hi => hi) (fun t => holdD t) (fun s3 Hb C2 cl fp t ht => ⟨gt_name nd, fun F3 H3 a3 us hus => ?_⟩) (Nat.le_of_ble_eq_true rfl)) rfl)) (ev_var (i := 0) rfl) upd_same f2 hC n3 (by show 2 < 1000; decide) s2 (fun vh F3 H3 a3 ih f3 h3 s3 => ?_) mono_im
  · obtain ⟨u, _, rfl, m, rfl⟩ := hus
    refine ed_call c37 hr (ea_cons (ed_var (i := 2) rfl m) ea_nil) ?_
    rcases List.mem_cons.mp ht with e | e
    · subst e; exact ⟨_, hp.1, hp.2.2.1, rfl, rfl⟩
    · obtain rfl := List.mem_singleton.mp e
      exact ⟨_, hp.2.1, hp.2.2.2, rfl, rfl⟩
  have A3 := (A2.trans a3).mut nw f3 h3 mut_ins (o' := .ins C dx (putF "held_by" vh (putF "end" ve (putF "sizes" vk []))))
  have A4 := A3.set nw upd_same notTbl_ins
  have ex : Ext F3 (upd F3 o (.ins C dx (putF "held_by" vh (putF "end" ve (putF "sizes" vk []))))) := fun x u q => by rw [upd_ne fun z => by rw [z, f3] at q; cases q]; exact q
  refine rB_nil (k _ _ A4 ⟨dx, _, upd_same, ⟨vk, rfl, ik.up (a2.ff.trans (a3.ff.trans ex))⟩, ⟨ve, rfl, ie.up (a3.ff.trans ex)⟩, ⟨vh, rfl, ih.up ex⟩, fun m hm => ?_⟩)
  simp only [List.mem_cons, List.mem_nil_iff, or_false] at hm
  rcases hm with rfl | rfl | rfl <;> rfl
theorem ok_open (F : CM K C "is_open_at" "Plane.is_open_at" (inClass (top 38) 1)) (g : G K mg) (n3 : NoAttr K C "held_by") : Met P w K mg base 1 C "is_open_at" ["self", "state"] (spOpen T C) := by
  refine met_of (N := ["self", "state", "one", "other", "lock"]) F ⟨rfl, rfl, rfl, by decide +kernel, rfl, by decide +kernel, by decide +kernel⟩ (fun vs H Q E ⟨F, o, p, vst, i, j, _, _, _, _, _, _, e, _⟩ => by rw [e]; rfl) (fun _ _ _ _ _ _ us hl => match us, hl with | [_, _], _ => rfl) ?_
  rintro f cdv A outer s H0 vs Q E hr ⟨F0, o, p, vst, i, j, sF, ip, hi, hj, h40, ist, rfl, k⟩
  have nd : (["self", "state", "one", "other", "lock"] : List Str).Nodup := by decide +kernel
  have hC := F.cls
  obtain ⟨dx, fs, ho, _, _, ⟨vh, hh1, ih⟩, _⟩ := ip
  have sa : held p.1 i = held p.1 i := rfl
  refine b_unp (T := T) (d := .tuple [dOf (held p.1 i), dOf (held p.2 j)]) (bs := [(2, dOf (held p.1 i)), (3, dOf (held p.2 j))]) (gt_tup rfl (gts_cons (gt_name nd) (gts_cons (gt_name nd) gts_nil)))
    (ed_tup (ea_cons (ed_ixl (ed_ixl (ds := [holdD p.1, holdD p.2]) (ed_fld (ev_var (i := 0) rfl) (sF.at ho) hC n3 hh1 ih) ed_int rfl) (ed_ixt (ed_var (i := 1) rfl ist) ed_int rfl) (atI_nat (hold_at hi))) (ea_cons (ed_ixl (ed_ixl (ds := [holdD p.1, holdD p.2]) (ed_fld (ev_var (i := 0) rfl) (sF.at ho) hC n3 hh1 ih) ed_int rfl) (ed_ixt (ed_var (i := 1) rfl ist) ed_int rfl) (atI_nat (hold_at hj))) ea_nil))) sF fun us F1 H1 a1 hus => ?_
  obtain ⟨u1, _, rfl, m1, u2, _, rfl, m2, rfl⟩ := hus
  show rB _ _ _ [some (.ref o), some vst, some u1, some u2, none] H1
  obtain ⟨qa, ks, e1, e2, e3⟩ := im_dOf.mp m1
  subst e1
  have hlen : (held p.1 i).length ≤ 40 := Nat.le_trans (held_len _ _) (by omega)
  have hz : 40 ≤ sizeLine := by decide
  refine b_ret (T := T) (P := imP (.bool (openAt p i j))) (ED.to (ed_all (bs := (((held p.1 i).map (·.1)).filter fun k => (valD (held p.2 j) k).isSome).map fun k => decide (strAt (held p.1 i) k = "share") && decide (strAt (held p.2 j) k = "share")) rfl (b_all g) (EF.ed (EF.to (ef_lock e2 fun F4 H4 a4 F5 H5 ob lk => ef_lc1 (enc := kE) (xs := (held p.1 i).map (·.1)) (bs := fun kk => [(4, kE kk)]) (own := [("lock", 4)]) rfl nd (by kernel_rfl) (Wk.to (wk_keys (dk := held p.1 i) (ev_var (i := 2) rfl) lk.at_ ((e3.up a4.ff).ext lk.ed)) (by rw [List.map_map]; rfl)) (fun _ _ i hi => hi)
      (fun kk => (valD (held p.2 j) kk).isSome) (fun kk => .bool (decide (strAt (held p.1 i) kk = "share") && decide (strAt (held p.2 j) kk = "share"))) (fun s4 Hb4 C4 cl4 fp4 kk hk => ⟨gt_name nd, fun F6 H6 a6 vs6 hvs6 => ?_⟩) (by rw [List.length_map]; omega)) ?_))) ?_) a1.sub fun v F2 H2 a2 q => k v F2 H2 (a1.trans a2) q
  · obtain ⟨u3, _, rfl, m3, rfl⟩ := hvs6
    have im1 : Im F6 (dOf (held p.1 i)) (.ref qa) := ((m1.up a4.ff).ext lk.ed).up a6.ff
    have im2 : Im F6 (dOf (held p.2 j)) u2 := ((m2.up a4.ff).ext lk.ed).up a6.ff
    have k1 : (valD (held p.1 i) kk).isSome = true := valD_mem.mpr hk
    refine ⟨et_din (k := kk) (room_u1 hr) (ed_var (i := 4) rfl m3) (ed_var (i := 3) rfl im2), fun k2 => ?_⟩
    refine ed_and (k1 := decide (strAt (held p.1 i) kk = "share")) (k2 := decide (strAt (held p.2 j) kk = "share")) (ed_eqS (ed_dget (k := kk) (room_u1 hr) (ed_var (i := 2) rfl im1) (ed_var (i := 4) rfl m3) (strAt_some (held_str _ _) k1)) (ed_gstr (c_share g))) fun _ =>
      ed_one (ed_eqS (ed_dget (k := kk) (room_u1 hr) (ed_var (i := 3) rfl im2) (ed_var (i := 4) rfl m3) (strAt_some (held_str _ _) k2)) (ed_gstr (c_share g)))
  · rw [List.map_map]; rfl
  · unfold openAt openB
    rw [List.all_map]
    rfl
end
end Tw
namespace Tw
open PySem PySem.Spec PyProof.Rows L2 LamX
def stN (q : Nat × Nat) : PyData := .tuple [.int (q.1 : Nat), .int (q.2 : Nat)]
def canA (p : Pr) (i j : Nat) : Bool := decide (i < p.1.length) && openAt p (i + 1) j
def canB (p : Pr) (i j : Nat) : Bool := decide (j < p.2.length) && openAt p i (j + 1)
def nextL (p : Pr) (i j : Nat) : List (Str × (Nat × Nat)) := (if canA p i j = true then [(("a" : Str), (i + 1, j))] else []) ++ (if canB p i j = true then [(("b" : Str), (i, j + 1))] else [])
def nextT (p : Pr) (i j : Nat) : Tb Key := (nextL p i j).map fun q => (.inr q.1, stN q.2)
def GridP (p : Pr) (q : Nat × Nat) : Prop := q.1 ≤ p.1.length ∧ q.2 ≤ p.2.length
theorem nextL_ok {p : Pr} {i j : Nat} (h : GridP p (i, j)) : ∀ q ∈ nextL p i j, GridP p q.2 ∧ q.1.length = 1 := by
  intro q hq
  unfold nextL at hq
  rcases List.mem_append.mp hq with hq | hq
  · by_cases c : canA p i j = true
    · rw [if_pos c] at hq
      rw [List.mem_singleton.mp hq]
      unfold canA at c
      simp only [Bool.and_eq_true, decide_eq_true_eq] at c
      exact ⟨⟨by show i + 1 ≤ _; omega, h.2⟩, rfl⟩
    · rw [if_neg c] at hq; cases hq
  · by_cases c : canB p i j = true
    · rw [if_pos c] at hq
      rw [List.mem_singleton.mp hq]
      unfold canB at c
      simp only [Bool.and_eq_true, decide_eq_true_eq] at c
      exact ⟨⟨h.1, by show j + 1 ≤ _; omega⟩, rfl⟩
    · rw [if_neg c] at hq; cases hq
def spNext (T : List (Addr × Str)) (C : Addr) : Sp := fun vs H Q _ => ∃ F o p vst, ∃ (i j : Nat), Sub F H ∧ IsPlane C p o F ∧ GridP p (i, j) ∧ p.1.length ≤ 40 ∧ Im F (stN (i, j)) vst ∧ vs = [.ref o, vst] ∧
  ∀ d ks F' H', Adv T F H F' H' → Nw H d → F' d = none → H' d = some (.dK ks) → DL F' (nextT p i j) ks → Q (.ref d) H'
section
variable {P : Program} {w : World} {K : PySem.W.Frag} {mg : Str → Option Value} {base : Heap} {T : List (Addr × Str)} {C : Addr}
theorem ed_open {X : Cx} {a st : Expr} {σ : L2.St} {F H : Hp} {pos p1 : Pos} {n o : Nat} {p : Pr} {i j : Nat} {pl : Sem Bool} (co : Met X.prog X.w X.K X.mg X.base 1 C "is_open_at" ["self", "state"] (spOpen T C)) (hr : Room n X.A) (ip : IsPlane C p o F) (h1 : i ≤ p.1.length) (h2 : j ≤ p.2.length) (h40 : p.1.length ≤ 40)
    (ha : EV T X a σ F H (.ref o)) (hb : ED T X st σ F H (.tuple [.int (i : Nat), .int (j : Nat)])) (hn : 1 ≤ n)
    (hst : starEach [st] X.env = (false, eval st X.env) :: starEach [] X.env := by rfl)
    (ht : eval (.Call (.Attribute a "is_open_at" p1) [st] [] pos) X.env = (do
      let ov ← eval a X.env
      standAt p1.atName
      let (f, first) ← holding [ov] (getMethod ov "is_open_at" pl)
      callWith pos f first (backTo pos (starEach [st] X.env)) (backToKw pos (keywordEach [] X.env))) := by rfl) :
    ED T X (.Call (.Attribute a "is_open_at" p1) [st] [] pos) σ F H (.bool (openAt p i j)) := fun F1 H1 a1 Q k =>
  rx_meth (pl := pl) co hr (EX.go ha a1 fun u F2 H2 a2 e => by
    obtain ⟨dx, fs, ho, _, _, _, hm⟩ := ip.up (a1.ff.trans a2.ff)
    refine ⟨o, dx, fs, e, a2.sub.at ho, hm _ (by decide), EA.go (ea_cons hb ea_nil hst) (a1.trans a2) fun vs F3 H3 a3 ⟨v, _, e1, i1, e2⟩ => ?_⟩
    subst e1 e2
    exact ⟨F3, o, p, v, i, j, a3.sub, ip.up (a1.ff.trans (a2.ff.trans a3.ff)), h1, h2, h40, i1, rfl, fun v F' H' a q => k v F' H' (a2.trans (a3.trans a)) q⟩) hn hst (by rfl) ht
theorem ok_next (F : CM K C "next_states" "Plane.next_states" (inClass (top 38) 3)) (g : G K mg) (n1 : NoAttr K C "sizes") (co : Met P w K mg base 1 C "is_open_at" ["self", "state"] (spOpen T C)) : Met P w K mg base 2 C "next_states" ["self", "state"] (spNext T C) := by
  refine met_of (N := ["self", "state", "i", "j", "found"]) F ⟨rfl, rfl, rfl, by decide +kernel, rfl, by decide +kernel, by decide +kernel⟩ (fun vs H Q E ⟨F, o, p, vst, i, j, _, _, _, _, _, e, _⟩ => by rw [e]; rfl) (fun _ _ _ _ _ _ us hl => match us, hl with | [_, _], _ => rfl) ?_
  rintro f cdv A outer s H0 vs Q E hr ⟨F0, o, p, vst, i, j, sF, ip, hg, h40, ist, rfl, k⟩
  have nd : (["self", "state", "i", "j", "found"] : List Str).Nodup := by decide +kernel
  have hC := F.cls
  obtain ⟨dx, fs, ho, ⟨vz, hz1, iz⟩, _, _, _⟩ := id ip
  refine b_unp (T := T) (bs := [(2, .int (i : Nat)), (3, .int (j : Nat))]) (gt_tup rfl (gts_cons (gt_name nd) (gts_cons (gt_name nd) gts_nil))) (ed_var (i := 1) rfl ist) sF fun us F1 H1 a1 hus => ?_
  obtain ⟨u1, _, rfl, m1, u2, _, rfl, m2, rfl⟩ := hus
  obtain rfl : u1 = .int (i : Nat) := m1
  obtain rfl : u2 = .int (j : Nat) := m2
  show rB _ _ _ [some (.ref o), some vst, some (.int (i : Nat)), some (.int (j : Nat)), none] H1
  refine b_asgN (T := T) (i := 4) en_nil a1.sub (fun d ob F2 H2 a2 hn hF hl hc => ?_) nd
  obtain ⟨ks0, rfl, dl0⟩ := hc
  have nw : Nw H0 d := Nw.back a1 hn
  have A2 := a1.trans a2
  show rB _ _ _ [some (.ref o), some vst, some (.int (i : Nat)), some (.int (j : Nat)), some (.ref d)] H2
  let Jst : Tb Key → L2.St → Hp → Hp → Prop := fun tb σ F' H' => σ = [some (.ref o), some vst, some (.int (i : Nat)), some (.int (j : Nat)), some (.ref d)] ∧ Adv T F0 H0 F' H' ∧ F' d = none ∧ ∃ kvs, H' d = some (.dK kvs) ∧ DL F' tb kvs
  have sz : ∀ {F' H'}, Adv T F0 H0 F' H' → ED T (cxOf L2.CX0 P w K mg base ["self", "state", "i", "j", "found"] "Plane.next_states" (defScope (inClass (top 38) 3)) f cdv A outer s H0 E).nox (.Attribute (.Name "self" ⟨0, 0, 0, 0⟩) "sizes" ⟨0, 0, 0, 0⟩) [some (.ref o), some vst, some (.int (i : Nat)), some (.int (j : Nat)), some (.ref d)] F' H' (.tuple [.int p.1.length, .int p.2.length]) := fun a => ed_fld (ev_var (i := 0) rfl) (a.sub.at (a.ff _ _ ho)) hC n1 hz1 (iz.up a.ff)
  have hz : 10 < sizeLine := by decide
  refine b_whenJ (T := T) (k0 := canA p i j) (Jst (if canA p i j = true then [(.inr "a", stN (i + 1, j))] else [])) (et_w (ew_and (k1 := decide (i < p.1.length)) (k2 := openAt p (i + 1) j) ((et_lt (ed_var (i := 2) rfl rfl) (ed_ixt (ed_fld (ev_var (i := 0) rfl) (A2.sub.at (A2.ff _ _ ho)) hC n1 hz1 (iz.up A2.ff)) ed_int rfl)).to (by simp)) fun hlt => ew_and1 (et_val (ed_open co hr (ip.up A2.ff) (by have := of_decide_eq_true hlt; omega) hg.2 h40 (ev_var (i := 0) rfl) (ed_tup (ea_cons (ED.to (ed_add (ed_var (i := 2) rfl rfl) ed_int) (by simp)) (ea_cons (ed_var (i := 3) rfl rfl) ea_nil))) (by decide))))) A2.sub (fun z F3 H3 a3 N hN => ?_) (fun z F3 H3 a3 => ?_) ?_
  · obtain ⟨f3, h3⟩ := a3.off hF hl notTbl_dK
    have dl3 : DL F3 [] ks0 := dl0.up a3.ff
    refine b_dput (T := T) (k := .inr "a") (d := stN (i + 1, j)) (room_u1 hr) a3.sub (ed_tup (ea_cons (ED.to (ed_add (ed_var (i := 2) rfl rfl) ed_int) (by simp)) (ea_cons (ed_var (i := 3) rfl rfl) ea_nil))) (ev_var (i := 4) rfl) ed_str f3 h3 dl3 (by rw [dl3.length]; show 0 < _; omega) fun kvs' F4 H4 a4 f4 h4 dl4 s4 => ?_
    refine rB_nil (hN _ _ _ s4 (a3.trans a4).ff ⟨rfl, ((A2.trans a3).trans a4).mut nw f4 h4 mut_dK, f4, kvs', upd_same, ?_⟩)
    rw [if_pos z]
    exact dl4
  · obtain ⟨f3, h3⟩ := a3.off hF hl notTbl_dK
    refine ⟨rfl, A2.trans a3, f3, ks0, h3, ?_⟩
    rw [if_neg (by rw [z]; exact Bool.false_ne_true)]
    exact dl0.up a3.ff
  · rintro σ3 F3 H3 s3 x3 ⟨rfl, A3, f3, kvs3, h3, dl3⟩
    refine b_whenJ (T := T) (k0 := canB p i j) (Jst (nextT p i j)) (et_w (ew_and (k1 := decide (j < p.2.length)) (k2 := openAt p i (j + 1)) ((et_lt (ed_var (i := 3) rfl rfl) (ed_ixt (ed_fld (ev_var (i := 0) rfl) (A3.sub.at (A3.ff _ _ ho)) hC n1 hz1 (iz.up A3.ff)) ed_int rfl)).to (by simp)) fun hlt => ew_and1 (et_val (ed_open co hr (ip.up A3.ff) hg.1 (by have := of_decide_eq_true hlt; omega) h40 (ev_var (i := 0) rfl) (ed_tup (ea_cons (ed_var (i := 2) rfl rfl) (ea_cons (ED.to (ed_add (ed_var (i := 3) rfl rfl) ed_int) (by simp)) ea_nil))) (by decide))))) A3.sub (fun z F4 H4 a4 N hN => ?_) (fun z F4 H4 a4 => ?_) ?_
    · obtain ⟨f4, h4⟩ := a4.off f3 h3 notTbl_dK
      have dl4 := dl3.up a4.ff
      refine b_dput (T := T) (k := .inr "b") (d := stN (i, j + 1)) (room_u1 hr) a4.sub (ed_tup (ea_cons (ed_var (i := 2) rfl rfl) (ea_cons (ED.to (ed_add (ed_var (i := 3) rfl rfl) ed_int) (by simp)) ea_nil))) (ev_var (i := 4) rfl) ed_str f4 h4 dl4 (by rw [dl4.length]; split <;> (show _ < sizeLine; simp; omega)) fun kvs' F5 H5 a5 f5 h5 dl5 s5 => ?_
      refine rB_nil (hN _ _ _ s5 (a4.trans a5).ff ⟨rfl, ((A3.trans a4).trans a5).mut nw f5 h5 mut_dK, f5, kvs', upd_same, ?_⟩)
      unfold nextT nextL
      rw [if_pos z]
      by_cases c : canA p i j = true
      · rw [if_pos c] at dl5 ⊢; exact dl5
      · rw [if_neg c] at dl5 ⊢; exact dl5
    · obtain ⟨f4, h4⟩ := a4.off f3 h3 notTbl_dK
      refine ⟨rfl, A3.trans a4, f4, kvs3, h4, ?_⟩
      unfold nextT nextL
      rw [if_neg (show ¬ canB p i j = true by rw [z]; exact Bool.false_ne_true), List.append_nil]
      by_cases c : canA p i j = true
      · rw [if_pos c] at dl3 ⊢; exact dl3.up a4.ff
      · rw [if_neg c] at dl3 ⊢; exact dl3.up a4.ff
    · rintro σ4 F4 H4 s4 x4 ⟨rfl, A4, f4, kvs4, h4, dl4⟩
      refine b_ret (T := T) (ev_var (i := 4) rfl) s4 fun v F5 H5 a5 q => ?_
      obtain rfl : v = .ref d := q
      obtain ⟨f5, h5⟩ := a5.off f4 h4 notTbl_dK
      exact k d kvs4 F5 H5 (A4.trans a5) nw f5 h5 (dl4.up a5.ff)
end
end Tw
namespace Tw
open PySem PySem.Spec PyProof.Rows L2 LamX
abbrev RS := Tb (List Key) × List (Nat × Nat)
def keyN (q : Nat × Nat) : List Key := [.inl (q.1 : Int), .inl (q.2 : Int)]
theorem keyN_D (q : Nat × Nat) : PyData.tuple ((keyN q).map kE) = stN q := rfl
def pathOf (tb : Tb (List Key)) (q : Nat × Nat) : Str := match valD tb (keyN q) with | some (.str w) => w | _ => ""
def tryAdd (path : Str) (st : RS) (q : Str × (Nat × Nat)) : RS := if (valD st.1 (keyN q.2)).isSome = true then st else (st.1 ++ [(keyN q.2, .str (path ++ q.1))], st.2 ++ [q.2])
def stepR (p : Pr) (st : RS) : RS := match st.2.getLast? with
  | none => st
  | some h => (nextL p h.1 h.2).foldl (tryAdd (pathOf st.1 h)) (st.1, st.2.dropLast)
def runR (p : Pr) : Nat → RS → RS
  | 0, st => st
  | n + 1, st => if st.2 = [] then st else runR p n (stepR p st)
def rs0 : RS := ([(keyN (0, 0), .str "")], [(0, 0)])
def reachR (p : Pr) : RS := runR p 6000 rs0
theorem keyN_inj {a b : Nat × Nat} (h : keyN a = keyN b) : a = b := by
  unfold keyN at h
  simp only [List.cons.injEq, Sum.inl.injEq, and_true] at h
  exact Prod.ext (by omega) (by omega)
structure RSok (p : Pr) (st : RS) : Prop where
  keys : ∃ qs : List (Nat × Nat), st.1.map (·.1) = qs.map keyN ∧ qs.Nodup ∧ ∀ q ∈ qs, GridP p q
  vals : ∀ k d, valD st.1 k = some d → ∃ w, d = .str w ∧ w.length ≤ st.1.length
  wait : ∀ q ∈ st.2, GridP p q ∧ (valD st.1 (keyN q)).isSome = true
theorem str_len (a b : Str) : (a ++ b).length = a.length + b.length := by
  show (a.cps ++ b.cps).size = _
  rw [Array.size_append]; rfl
theorem tryAdd_ok {p : Pr} {st : RS} {path : Str} {q : Str × (Nat × Nat)} (o : RSok p st) (hg : GridP p q.2) (h1 : q.1.length = 1) (hp : path.length ≤ st.1.length) : RSok p (tryAdd path st q) ∧ st.1.length ≤ (tryAdd path st q).1.length := by
  unfold tryAdd
  split
  · exact ⟨o, Nat.le_refl _⟩
  · rename_i hn
    have hn : valD st.1 (keyN q.2) = none := by simpa using hn
    obtain ⟨qs, e1, e2, e3⟩ := o.keys
    refine ⟨⟨⟨qs ++ [q.2], by rw [List.map_append, List.map_append, e1]; rfl, List.nodup_append.mpr ⟨e2, by simp, fun a ha b hb z => ?_⟩, fun x hx => ?_⟩, fun k d h => ?_, fun x hx => ?_⟩, by simp⟩
    · rw [List.mem_singleton.mp hb] at z
      have : keyN q.2 ∈ st.1.map (·.1) := by rw [e1, ← z]; exact List.mem_map_of_mem ha
      have := valD_mem.mpr this
      rw [hn] at this; cases this
    · rcases List.mem_append.mp hx with hx | hx
      · exact e3 x hx
      · rw [List.mem_singleton.mp hx]; exact hg
    · rw [valD_snoc _ _ _ _ hn] at h
      split at h
      · cases h
        refine ⟨_, rfl, ?_⟩
        rw [str_len, List.length_append, List.length_singleton]
        omega
      · obtain ⟨w, e4, e5⟩ := o.vals k d h
        refine ⟨w, e4, ?_⟩
        rw [List.length_append]; omega
    · show GridP p x ∧ (valD (st.1 ++ [(keyN q.2, .str (path ++ q.1))]) (keyN x)).isSome = true
      rw [valD_snoc _ _ _ _ hn]
      rcases List.mem_append.mp hx with hx | hx
      · obtain ⟨g1, g2⟩ := o.wait x hx
        refine ⟨g1, ?_⟩
        split
        · rfl
        · exact g2
      · rw [List.mem_singleton.mp hx]
        exact ⟨hg, by rw [if_pos rfl]; rfl⟩
def meas (p : Pr) (st : RS) : Nat := 2 * ((p.1.length + 1) * (p.2.length + 1) - st.1.length) + st.2.length
theorem nat_pigeon : ∀ (n : Nat) (l : List Nat), l.Nodup → (∀ x ∈ l, x < n) → l.length ≤ n
  | 0, l, _, h => by
    cases l with
    | nil => exact Nat.le_refl _
    | cons x l => exact absurd (h x (List.mem_cons_self ..)) (Nat.not_lt_zero _)
  | n + 1, l, nd, h => by
    have ih := nat_pigeon n (l.erase n) (nd.erase n) fun x hx => by
      have h1 := h x (List.mem_of_mem_erase hx)
      have h2 : x ≠ n := (nd.mem_erase_iff.mp hx).1
      omega
    have := List.length_erase_le (a := n) (l := l)
    by_cases hm : n ∈ l
    · have := List.length_erase_of_mem hm; omega
    · rw [List.erase_of_not_mem hm] at ih; omega
theorem keys_len {p : Pr} {st : RS} (o : RSok p st) : st.1.length ≤ (p.1.length + 1) * (p.2.length + 1) := by
  obtain ⟨qs, e1, e2, e3⟩ := o.keys
  have hl : st.1.length = qs.length := by have := congrArg List.length e1; simpa using this
  rw [hl]
  have := nat_pigeon ((p.1.length + 1) * (p.2.length + 1)) (qs.map fun q => q.1 * (p.2.length + 1) + q.2) ?_ fun x hx => ?_
  · simpa using this
  · refine List.pairwise_map.mpr (List.Pairwise.imp_of_mem (fun {a b} ha hb hne z => hne ?_) e2)
    have h1 := (e3 a ha).2
    have h2 := (e3 b hb).2
    have d1 : (a.1 * (p.2.length + 1) + a.2) / (p.2.length + 1) = a.1 := by
      rw [Nat.mul_comm, Nat.mul_add_div (by omega), Nat.div_eq_of_lt (by omega)]; rfl
    have d2 : (b.1 * (p.2.length + 1) + b.2) / (p.2.length + 1) = b.1 := by
      rw [Nat.mul_comm, Nat.mul_add_div (by omega), Nat.div_eq_of_lt (by omega)]; rfl
    have e4 : a.1 = b.1 := by rw [← d1, ← d2, z]
    refine Prod.ext e4 ?_
    rw [e4] at z
    omega
  · obtain ⟨q, hq, rfl⟩ := List.mem_map.mp hx
    obtain ⟨g1, g2⟩ := e3 q hq
    have : q.1 * (p.2.length + 1) ≤ p.1.length * (p.2.length + 1) := Nat.mul_le_mul_right _ g1
    rw [Nat.add_mul]
    omega
theorem tryAdd_meas {p : Pr} {st : RS} {path : Str} {q : Str × (Nat × Nat)} (o' : RSok p (tryAdd path st q)) : meas p (tryAdd path st q) ≤ meas p st := by
  have hk := keys_len o'
  unfold tryAdd at hk ⊢
  split
  · exact Nat.le_refl _
  · rename_i hn
    rw [if_neg hn] at hk
    unfold meas
    simp only [List.length_append, List.length_singleton] at hk ⊢
    omega
theorem fold_ok {p : Pr} (path : Str) : ∀ (qs : List (Str × (Nat × Nat))) (st : RS), RSok p st → (∀ q ∈ qs, GridP p q.2 ∧ q.1.length = 1) → path.length ≤ st.1.length → RSok p (qs.foldl (tryAdd path) st) ∧ meas p (qs.foldl (tryAdd path) st) ≤ meas p st
  | [], st, o, _, _ => ⟨o, Nat.le_refl _⟩
  | q :: qs, st, o, h, hp => by
    obtain ⟨g1, g2⟩ := h q (List.mem_cons_self ..)
    obtain ⟨o1, l1⟩ := tryAdd_ok o g1 g2 hp
    obtain ⟨o2, m2⟩ := fold_ok path qs (tryAdd path st q) o1 (fun r hr => h r (List.mem_cons_of_mem _ hr)) (by omega)
    exact ⟨o2, Nat.le_trans m2 (tryAdd_meas o1)⟩
theorem last_of {α : Type} : ∀ {xs : List α}, xs ≠ [] → ∃ x, xs.getLast? = some x ∧ xs = xs.dropLast ++ [x] ∧ x ∈ xs := fun {xs} h => by
  refine ⟨xs.getLast h, List.getLast?_eq_some_getLast h, (List.dropLast_concat_getLast h).symm, List.getLast_mem h⟩
theorem pathOf_some {p : Pr} {st : RS} (o : RSok p st) {q : Nat × Nat} (h : (valD st.1 (keyN q)).isSome = true) : valD st.1 (keyN q) = some (.str (pathOf st.1 q)) ∧ (pathOf st.1 q).length ≤ st.1.length := by
  obtain ⟨d, e⟩ := Option.isSome_iff_exists.mp h
  obtain ⟨w, rfl, hw⟩ := o.vals _ d e
  unfold pathOf
  rw [e]
  exact ⟨rfl, hw⟩
theorem step_ok {p : Pr} {st : RS} (o : RSok p st) (h : st.2 ≠ []) : RSok p (stepR p st) ∧ meas p (stepR p st) < meas p st := by
  obtain ⟨x, e1, e2, e3⟩ := last_of h
  obtain ⟨g1, g2⟩ := o.wait x e3
  obtain ⟨_, hpl⟩ := pathOf_some o g2
  have o' : RSok p (st.1, st.2.dropLast) := ⟨o.keys, o.vals, fun q hq => o.wait q ((List.dropLast_sublist _).subset hq)⟩
  have e4 : stepR p st = (nextL p x.1 x.2).foldl (tryAdd (pathOf st.1 x)) (st.1, st.2.dropLast) := by unfold stepR; rw [e1]
  rw [e4]
  obtain ⟨q1, q2⟩ := fold_ok (pathOf st.1 x) (nextL p x.1 x.2) (st.1, st.2.dropLast) o' (nextL_ok g1) hpl
  refine ⟨q1, Nat.lt_of_le_of_lt q2 ?_⟩
  unfold meas
  have : st.2.length = st.2.dropLast.length + 1 := by
    have := congrArg List.length e2
    simpa using this
  show 2 * ((p.1.length + 1) * (p.2.length + 1) - st.1.length) + st.2.dropLast.length < 2 * ((p.1.length + 1) * (p.2.length + 1) - st.1.length) + st.2.length
  omega
theorem rs0_ok (p : Pr) : RSok p rs0 := by
  refine ⟨⟨[(0, 0)], rfl, by simp, fun q hq => by rw [List.mem_singleton.mp hq]; exact ⟨Nat.zero_le _, Nat.zero_le _⟩⟩, fun k d h => ?_, fun q hq => ?_⟩
  · by_cases e : keyN (0, 0) = k
    · subst e
      have : valD rs0.1 (keyN (0, 0)) = some (.str "") := valD_pos
      rw [this] at h
      cases h
      exact ⟨_, rfl, Nat.zero_le _⟩
    · have : valD rs0.1 k = none := valD_neg e
      rw [this] at h; cases h
  · rw [List.mem_singleton.mp (show q ∈ [(0, 0)] from hq)]
    refine ⟨⟨Nat.zero_le _, Nat.zero_le _⟩, ?_⟩
    have : valD rs0.1 (keyN (0, 0)) = some (.str "") := valD_pos
    rw [this]; rfl
theorem run_ok {p : Pr} : ∀ (n : Nat) (st : RS), RSok p st → RSok p (runR p n st)
  | 0, st, o => o
  | n + 1, st, o => by
    unfold runR
    split
    · exact o
    · rename_i h
      exact run_ok n _ (step_ok o h).1
theorem reach_ok (p : Pr) : RSok p (reachR p) := run_ok _ _ (rs0_ok p)
theorem nd_sts (ws : List (Nat × Nat)) : PyData.hasDictAll (ws.map stN) = false := by
  induction ws with
  | nil => rfl
  | cons a l ih => rw [List.map_cons, PyData.hasDictAll, ih]; simp [stN, PyData.hasDict, PyData.hasDictAll]
theorem sh_sts (ws : List (Nat × Nat)) : SeqAt.shaped (.list (ws.map stN)) = true := by
  have : PyData.canLayAll0 (ws.map stN) = true ∧ PyData.depthAll (ws.map stN) ≤ 1 := by
    induction ws with
    | nil => exact ⟨rfl, Nat.zero_le _⟩
    | cons a l ih =>
      rw [List.map_cons, PyData.canLayAll0, PyData.depthAll, ih.1]
      refine ⟨by simp [stN, PyData.canLay0, PyData.canLayAll0], ?_⟩
      have : (stN a).depth = 1 := by simp [stN, PyData.depth, PyData.depthAll]
      rw [this]
      have := ih.2
      omega
  unfold SeqAt.shaped
  rw [PyData.canLay0, this.1, PyData.depth]
  simp
  omega
def spReach (T : List (Addr × Str)) (C : Addr) : Sp := fun vs H Q _ => ∃ F o p vst, Sub F H ∧ IsPlane C p o F ∧ p.1.length ≤ 40 ∧ p.2.length ≤ 40 ∧ Im F (stN (0, 0)) vst ∧ vs = [.ref o, vst] ∧
  ∀ d ks F' H', Adv T F H F' H' → Nw H d → F' d = none → H' d = some (.dT ks) → DL F' (reachR p).1 ks → Q (.ref d) H'
section
variable {P : Program} {w : World} {K : PySem.W.Frag} {mg : Str → Option Value} {base : Heap} {T : List (Addr × Str)} {C : Addr}
theorem en_next {X : Cx} {a st : Expr} {σ : L2.St} {F H : Hp} {pos p1 : Pos} {n o : Nat} {p : Pr} {q : Nat × Nat} {pl : Sem Bool} (co : Met X.prog X.w X.K X.mg X.base 2 C "next_states" ["self", "state"] (spNext T C)) (hr : Room n X.A) (ip : IsPlane C p o F) (h1 : GridP p q) (h40 : p.1.length ≤ 40)
    (ha : EV T X a σ F H (.ref o)) (hb : ED T X st σ F H (stN q)) (hn : 2 ≤ n)
    (hst : starEach [st] X.env = (false, eval st X.env) :: starEach [] X.env := by rfl)
    (ht : eval (.Call (.Attribute a "next_states" p1) [st] [] pos) X.env = (do
      let ov ← eval a X.env
      standAt p1.atName
      let (f, first) ← holding [ov] (getMethod ov "next_states" pl)
      callWith pos f first (backTo pos (starEach [st] X.env)) (backToKw pos (keywordEach [] X.env))) := by rfl) :
    EN T X (.Call (.Attribute a "next_states" p1) [st] [] pos) σ F H (cK (nextT p q.1 q.2)) := fun F1 H1 a1 Q k =>
  rx_meth (pl := pl) co hr (EX.go ha a1 fun u F2 H2 a2 e => by
    obtain ⟨dx, fs, ho, _, _, _, hm⟩ := ip.up (a1.ff.trans a2.ff)
    refine ⟨o, dx, fs, e, a2.sub.at ho, hm _ (by decide), EA.go (ea_cons hb ea_nil hst) (a1.trans a2) fun vs F3 H3 a3 ⟨v, _, e1, i1, e2⟩ => ?_⟩
    subst e1 e2
    exact ⟨F3, o, p, v, q.1, q.2, a3.sub, ip.up (a1.ff.trans (a2.ff.trans a3.ff)), h1, h40, i1, rfl, fun d ks F' H' a hnw hF hl dl => k d _ F' H' (a2.trans (a3.trans a)) (Nw.back (a2.trans a3) hnw) hF hl ⟨ks, rfl, dl⟩⟩) hn hst (by rfl) ht
theorem next_items (p : Pr) (i j : Nat) : (nextT p i j).map (fun q => PyData.tuple [kE q.1, q.2]) = (nextL p i j).map fun q => PyData.tuple [.str q.1, stN q.2] := by
  unfold nextT
  rw [List.map_map]
  rfl
theorem ok_reach (F : CM K C "reached_from" "Plane.reached_from" (inClass (top 38) 4)) (g : G K mg) (cn : Met P w K mg base 2 C "next_states" ["self", "state"] (spNext T C)) : Met P w K mg base 3 C "reached_from" ["self", "state"] (spReach T C) := by
  refine met_of (N := ["self", "state", "found", "waiting", "here", "letter", "later"]) F ⟨rfl, rfl, rfl, by decide +kernel, rfl, by decide +kernel, by decide +kernel⟩ (fun vs H Q E ⟨F, o, p, vst, _, _, _, _, _, e, _⟩ => by rw [e]; rfl) (fun _ _ _ _ _ _ us hl => match us, hl with | [_, _], _ => rfl) ?_
  rintro f cdv A outer s H0 vs Q E hr ⟨F0, o, p, vst, sF, ip, h40, h40', ist, rfl, k⟩
  have nd : (["self", "state", "found", "waiting", "here", "letter", "later"] : List Str).Nodup := by decide +kernel
  have hC := F.cls
  have hG : (p.1.length + 1) * (p.2.length + 1) ≤ 1681 := Nat.le_trans (Nat.mul_le_mul (by omega) (by omega)) (by decide : 41 * 41 ≤ 1681)
  have hz : 10000 < sizeLine := by decide
  -- found, waiting
  refine b_parR (m := 2) (n := 3) rfl nd (goE (pe_disp1T hr.units pe_r pe_r) fun d hd => ?_)
  have lay0 : Adv T F0 H0 F0 (upd H0 d (.dT [])) := Adv.lay sF hd
  refine EX.go (T := T) (ed_var (i := 1) rfl ist) lay0 fun x F1 H1 a1 i1 => EX.go (T := T) (ed_str (x := "")) (.refl a1.sub) fun y F2 H2 a2 i2 => ?_
  obtain ⟨b, xs, eb, hb, db⟩ := i1
  subst eb
  have hb2 : H2 b = some (.tup ((keyN (0, 0)).map kV)) := by
    have e : xs = (keyN (0, 0)).map kV := im_keys (ks := keyN (0, 0)) db
    rw [← e]
    exact a2.sub.at (a2.ff _ _ hb)
  obtain ⟨fd2, hd2⟩ := (a1.trans a2).off (sF.offN hd) upd_same notTbl_dT
  refine ⟨b, keyN (0, 0), rfl, hb2, hd2, ?_⟩
  have nwd : Nw H0 d := .of hd
  have A2 := (lay0.trans (a1.trans a2)).mut nwd fd2 hd2 mut_dT (o' := .dT [(keyN (0, 0), y)])
  refine EF.go (T := T) (ef_lst (ds := [stN (0, 0)]) (ea_cons (ed_var (i := 1) rfl (ist.up (a1.ff.trans a2.ff))) ea_nil)) (.refl A2.sub) fun l ys F3 H3 a3 hn hF hl hdl => ?_
  obtain ⟨fd3, hd3⟩ := a3.off fd2 upd_same notTbl_dT
  have nwl : Nw H0 l := Nw.back A2 hn
  have A3 := A2.trans a3
  show rB _ _ _ [some (.ref o), some vst, some (.ref d), some (.ref l), none, none, none] H3
  have d_l : d ≠ l := hn.ne upd_same notTbl_dT
  -- what stands at a turn
  let St : RS → Hp → Hp → Prop := fun st F' H' => Adv T F0 H0 F' H' ∧ F' d = none ∧ F' l = none ∧ (∃ kvt, H' d = some (.dT kvt) ∧ DL F' st.1 kvt) ∧ ∃ ws, H' l = some (.lst ws) ∧ ImL F' (st.2.map stN) ws
  have St_step : ∀ {st F' H' F'' H''}, St st F' H' → Adv T F' H' F'' H'' → St st F'' H'' := fun {st F' H' F'' H''} ⟨b1, b2, b3, ⟨kvt, b4, b5⟩, ws, b6, b7⟩ a => by
    obtain ⟨c1, c2⟩ := a.off b2 b4 notTbl_dT
    obtain ⟨c3, c4⟩ := a.off b3 b6 notTbl_lst
    exact ⟨b1.trans a, c1, c3, ⟨kvt, c2, b5.up a.ff⟩, ws, c4, b7.up a.ff⟩
  refine b_while (T := T) .never (fun m σ F' H' => ∃ x y z st, σ = [some (.ref o), some vst, some (.ref d), some (.ref l), x, y, z] ∧ St st F' H' ∧ RSok p st ∧ meas p st ≤ m ∧ m ≤ 6000 ∧ runR p m st = reachR p) A3.sub ⟨6000, none, none, none, rs0, rfl, ⟨A3, fd3, hF, ⟨_, hd3, y, [], rfl, i2.up a3.ff, rfl⟩, ys, hl, hdl⟩, rs0_ok p, ?_, Nat.le_refl _, rfl⟩ ?_
  · unfold meas
    show 2 * (_ - 1) + 1 ≤ 6000
    omega
  · rintro m σ1 F4 H4 s4 x4 ⟨x, y, z, st, rfl, S4, ok4, hm, hm6, hrun⟩
    obtain ⟨b1, b2, b3, ⟨kvt, b4, b5⟩, ws, b6, b7⟩ := id S4
    refine ⟨!(st.2.map stN).isEmpty, et_nonil hr.units (ev_var (i := 3) rfl) b6 b7 (nd_sts _) (sh_sts _), fun hne F5 H5 a5 N hN => ?_, fun he F5 H5 a5 => ?_⟩
    · have hne2 : st.2 ≠ [] := fun z => by rw [z] at hne; cases hne
      have S5 := St_step S4 a5
      obtain ⟨b1, b2, b3, ⟨kvt, b4, b5⟩, ws, b6, b7⟩ := id S5
      obtain ⟨h, e1, e2, e3⟩ := last_of hne2
      obtain ⟨g1, g2⟩ := ok4.wait h e3
      obtain ⟨hpath, hpl⟩ := pathOf_some ok4 g2
      have hkl := keys_len ok4
      -- the last one
      have hwl : ws.length = st.2.length := by rw [b7.length, List.length_map]
      have hpos : 0 < st.2.length := List.length_pos_iff.mpr hne2
      have hlast : (st.2.map stN)[ws.length - 1]? = some (stN h) := by
        rw [List.getElem?_map, hwl, ← List.getLast?_eq_getElem?, e1]
        rfl
      obtain ⟨vh, hv1, hv2⟩ := b7.at hlast
      have bdl : ImL F5 (st.2.dropLast.map stN) ws.dropLast := by
        rw [show ws.dropLast = ws.take (st.2.length - 1) by rw [List.dropLast_eq_take, hwl], List.dropLast_eq_take, List.map_take]
        exact b7.take _
      refine b_asgR (i := 4) (e_pop (T := T) a5.sub (ev_var (i := 3) rfl) b3 b6 hv1 fun F6 H6 a6 f6 h6 s6 => ?_) nd
      have S6 := St_step S5 a6
      obtain ⟨c1, c2, c3, ⟨kvt6, c4, c5⟩, ws6, c6, c7⟩ := id S6
      have S7 : St (st.1, st.2.dropLast) F6 (upd H6 l (.lst ws.dropLast)) := ⟨c1.mut nwl f6 h6 mut_lst, c2, f6, ⟨kvt6, by rw [upd_ne d_l]; exact c4, c5⟩, _, upd_same, bdl.up a6.ff⟩
      have hv6 := hv2.up a6.ff
      have x06 : Ext F0 F6 := c1.ff
      generalize upd H6 l (.lst ws.dropLast) = H7 at S7 s6
      show rB _ _ _ [some (.ref o), some vst, some (.ref d), some (.ref l), some vh, y, z] H7
      refine b_for (T := T) (enc := fun q : Str × (Nat × Nat) => PyData.tuple [.str q.1, stN q.2]) (xs := nextL p h.1 h.2) (bs := fun q => [(5, .str q.1), (6, stN q.2)]) rfl .never (Wk.to (wk_items (en_next cn hr (ip.up x06) g1 h40 (ev_var (i := 0) rfl) (ed_var (i := 4) rfl hv6) (by decide))) (next_items p h.1 h.2)) s6 (fun q _ => gt_tup rfl (gts_cons (gt_name nd) (gts_cons (gt_name nd) gts_nil)))
        (fun t σ F' H' => ∃ y z, σ = [some (.ref o), some vst, some (.ref d), some (.ref l), some vh, y, z] ∧ St (((nextL p h.1 h.2).take t).foldl (tryAdd (pathOf st.1 h)) (st.1, st.2.dropLast)) F' H') (fun F8 H8 a8 => ⟨y, z, rfl, St_step S7 a8⟩) ?_ ?_
      · rintro t q σ2 F8 H8 ht s8 x8 ⟨y2, z2, rfl, S8⟩ us F9 H9 a9 ⟨w1, _, rfl, n1, w2, _, rfl, n2, rfl⟩ N2 hN2
        obtain rfl : w1 = .str q.1 := n1
        have htk := take_next' ht
        have S9 := St_step S8 a9
        have o0 : RSok p (st.1, st.2.dropLast) := ⟨ok4.keys, ok4.vals, fun q hq => ok4.wait q ((List.dropLast_sublist _).subset hq)⟩
        obtain ⟨okt, mst⟩ := fold_ok (p := p) (pathOf st.1 h) ((nextL p h.1 h.2).take t) (st.1, st.2.dropLast) o0 (fun r hr2 => nextL_ok g1 r (List.mem_of_mem_take hr2)) hpl
        have hw6 : meas p (st.1, st.2.dropLast) ≤ 6000 := by
          have e9 : st.2.dropLast.length ≤ st.2.length := by rw [List.length_dropLast]; omega
          have : meas p (st.1, st.2.dropLast) ≤ meas p st := by
            show 2 * ((p.1.length + 1) * (p.2.length + 1) - st.1.length) + st.2.dropLast.length ≤ 2 * ((p.1.length + 1) * (p.2.length + 1) - st.1.length) + st.2.length
            omega
          omega
        have fnew : ((nextL p h.1 h.2).take (t + 1)).foldl (tryAdd (pathOf st.1 h)) (st.1, st.2.dropLast) = tryAdd (pathOf st.1 h) (((nextL p h.1 h.2).take t).foldl (tryAdd (pathOf st.1 h)) (st.1, st.2.dropLast)) q := by
          rw [htk, List.foldl_append]; rfl
        -- the way to here is still the one
        have keepv : ∀ (qs : List (Str × (Nat × Nat))) (s0 : RS), valD s0.1 (keyN h) = some (.str (pathOf st.1 h)) → valD (qs.foldl (tryAdd (pathOf st.1 h)) s0).1 (keyN h) = some (.str (pathOf st.1 h)) := by
          intro qs
          induction qs with
          | nil => intro s0 e; exact e
          | cons q qs ih =>
            intro s0 e
            refine ih _ ?_
            unfold tryAdd
            split
            · exact e
            · rename_i hn
              rw [valD_snoc _ _ _ _ (by simpa using hn), if_neg fun z => ?_]
              · exact e
              · rw [z, ] at e
                rw [e] at hn
                exact hn rfl
        have hhere := keepv ((nextL p h.1 h.2).take t) (st.1, st.2.dropLast) hpath
        generalize ((nextL p h.1 h.2).take t).foldl (tryAdd (pathOf st.1 h)) (st.1, st.2.dropLast) = cur at S9 okt fnew hhere mst
        obtain ⟨b1, b2, b3, ⟨kvt, b4, b5⟩, ws9, b6, b7⟩ := id S9
        have hq1 := (nextL_ok g1 q (List.mem_of_getElem? ht)).2
        have hckl := keys_len okt
        show rB _ _ _ [some (.ref o), some vst, some (.ref d), some (.ref l), some vh, some (.str q.1), some w2] H9
        have hv9 := hv6.up (x8.trans a9.ff)
        refine b_when (T := T) (k0 := !(valD cur.1 (keyN q.2)).isSome) (et_dnit (ks := keyN q.2) (room_u1 hr) (ed_var (i := 6) rfl n2) (ev_var (i := 2) rfl) b4 b5) a9.sub (fun zz F10 H10 a10 => ?_) fun zz F10 H10 a10 => ?_
        · have S10 := St_step S9 a10
          obtain ⟨b1, b2, b3, ⟨kvt, b4, b5⟩, ws10, b6, b7⟩ := id S10
          have hnone : valD cur.1 (keyN q.2) = none := by simpa using zz
          have hpl2 := (pathOf_some ok4 g2).2
          refine b_dputt (T := T) (ks := keyN q.2) (d := .str (pathOf st.1 h ++ q.1)) (room_u1 hr) a10.sub (ed_adds (ed_dgett (ks := keyN h) (room_u1 hr) (ev_var (i := 2) rfl) b4 b5 (ed_var (i := 4) rfl (hv9.up a10.ff)) hhere) (ed_var (i := 5) rfl rfl) (by omega)) (ev_var (i := 2) rfl) (ed_var (i := 6) rfl (n2.up a10.ff)) b2 b4 b5 (by rw [b5.length]; omega) fun kvt' F11 H11 a11 f11 h11 dl11 s11 => ?_
          have S11 := St_step S10 a11
          obtain ⟨c1, c2, c3, ⟨kvt11, c4, c5⟩, ws11, c6, c7⟩ := id S11
          rw [putD_new hnone] at dl11
          have hwait : cur.2.length ≤ 6000 := by
            have : cur.2.length ≤ meas p cur := Nat.le_add_left _ _
            omega
          have c6' : (upd H11 d (.dT kvt')) l = some (.lst ws11) := by rw [upd_ne d_l.symm]; exact c6
          have A11 := c1.mut nwd f11 h11 mut_dT (o' := .dT kvt')
          refine b_app (T := T) (P := imP (stN q.2)) (ev_var (i := 3) rfl) c6' c3 (ed_var (i := 6) rfl (n2.up (a10.ff.trans a11.ff))) s11 (by rw [c7.length, List.length_map]; omega) fun v F12 H12 a12 iv f12 h12 s12 => ?_
          obtain ⟨fd12, hd12⟩ := a12.off f11 upd_same notTbl_dT
          refine rB_nil (rB_nil (hN2 _ _ _ s12 (a9.ff.trans (a10.ff.trans (a11.ff.trans a12.ff))) ⟨_, _, rfl, ?_⟩))
          rw [fnew]
          unfold tryAdd
          rw [hnone]
          refine ⟨(A11.trans a12).mut nwl f12 h12 mut_lst, fd12, f12, ⟨kvt', by rw [upd_ne d_l]; exact hd12, dl11.up a12.ff⟩, _, upd_same, ?_⟩
          show ImL F12 ((cur.2 ++ [q.2]).map stN) _
          rw [List.map_append]
          exact (c7.up a12.ff).snoc iv
        · have S10 := St_step S9 a10
          refine rB_nil (hN2 _ _ _ a10.sub (a9.ff.trans a10.ff) ⟨_, _, rfl, ?_⟩)
          rw [fnew]
          have hsome : (valD cur.1 (keyN q.2)).isSome = true := by simpa using zz
          unfold tryAdd
          rw [if_pos hsome]
          exact S10
      · rintro σ2 F8 H8 s8 x8 ⟨y2, z2, rfl, S8⟩
        rw [List.take_length] at S8
        have e4 : stepR p st = (nextL p h.1 h.2).foldl (tryAdd (pathOf st.1 h)) (st.1, st.2.dropLast) := by unfold stepR; rw [e1]
        rw [← e4] at S8
        obtain ⟨ok', ms'⟩ := step_ok ok4 hne2
        have hm0 : m ≠ 0 := fun z => by omega
        obtain ⟨m', rfl⟩ := Nat.exists_eq_succ_of_ne_zero hm0
        refine rB_nil (hN m' _ _ _ (Nat.lt_succ_self _) s8 (a5.ff.trans (a6.ff.trans x8)) ⟨_, _, _, stepR p st, rfl, S8, ok', by omega, by omega, ?_⟩)
        rw [← hrun]
        show _ = if st.2 = [] then st else runR p m' (stepR p st)
        rw [if_neg hne2]
    · have he2 : st.2 = [] := by
        cases hq : st.2 with
        | nil => rfl
        | cons a r => rw [hq] at he; cases he
      have hst : st = reachR p := by
        rw [← hrun]
        cases m with
        | zero => rfl
        | succ m => show _ = if st.2 = [] then st else _; rw [if_pos he2]
      have S5 := St_step S4 a5
      obtain ⟨b1, b2, b3, ⟨kvt, b4, b5⟩, ws, b6, b7⟩ := id S5
      refine b_ret (T := T) (ev_var (i := 2) rfl) a5.sub fun v F6 H6 a6 q => ?_
      obtain rfl : v = .ref d := q
      obtain ⟨fd6, hd6⟩ := a6.off b2 b4 notTbl_dT
      exact k d kvt F6 H6 (b1.trans a6) nwd fd6 hd6 (by rw [← hst]; exact b5.up a6.ff)
end
end Tw
namespace Tw
open PySem PySem.Spec PyProof.Rows L2 LamX
def deN : List Key → Nat × Nat
  | [.inl a, .inl b] => (a.toNat, b.toNat)
  | _ => (0, 0)
theorem deN_key (q : Nat × Nat) : deN (keyN q) = q := by
  unfold deN keyN
  simp
def reachQ (p : Pr) : List (Nat × Nat) := (reachR p).1.map fun q => deN q.1
theorem reachQ_keys (p : Pr) : (reachR p).1.map (·.1) = (reachQ p).map keyN ∧ ∀ q ∈ reachQ p, GridP p q := by
  obtain ⟨qs, e1, e2, e3⟩ := (reach_ok p).keys
  have : reachQ p = qs := by
    unfold reachQ
    have : ((reachR p).1.map fun q => deN q.1) = ((reachR p).1.map (·.1)).map deN := by rw [List.map_map]; rfl
    rw [this, e1, List.map_map]
    have : deN ∘ keyN = id := by funext q; exact deN_key q
    rw [this, List.map_id]
  rw [this]
  exact ⟨e1, e3⟩
def deadF (p : Pr) : List (Nat × Nat) := ((reachQ p).mergeSort (PySem.W.dataLe false stN)).filter fun q => !PyData.eqv (stN q) (stN (p.1.length, p.2.length)) && (nextT p q.1 q.2).isEmpty
theorem okD_st (q : Nat × Nat) : okD (stN q) = true := by
  simp [okD, stN, PyData.hasDict, PyData.hasDictAll, SeqAt.shaped, PyData.canLay0, PyData.canLayAll0, PyData.depth, PyData.depthAll]
section
variable {P : Program} {w : World} {K : PySem.W.Frag} {mg : Str → Option Value} {base : Heap} {T : List (Addr × Str)} {C : Addr}
theorem rx_reach {X : Cx} {a : Expr} {e1 e2 : Expr} {σ : L2.St} {F1 H1 F H : Hp} {pos p1 pt : Pos} {kk n o : Nat} {p : Pr} {pl : Sem Bool} {Q : VK} (co : Met X.prog X.w X.K X.mg X.base 3 C "reached_from" ["self", "state"] (spReach T C)) (hr : Room n X.A) (a1 : Adv T F1 H1 F H) (ip : IsPlane C p o F) (h40 : p.1.length ≤ 40) (h40' : p.2.length ≤ 40)
    (ha : EV T X a σ F1 H1 (.ref o)) (hb : ED T X (.Tuple [e1, e2] kk pt) σ F1 H1 (stN (0, 0))) (k : ∀ l kvt F2 H2, Adv T F H F2 H2 → Rd H2 l (.dT kvt) → kvt.map (·.1) = (reachR p).1.map (·.1) → Q (.ref l) H2) (hn : 3 ≤ n)
    (hst : starEach [.Tuple [e1, e2] kk pt] X.env = (false, eval (.Tuple [e1, e2] kk pt) X.env) :: starEach [] X.env := by rfl)
    (ht : eval (.Call (.Attribute a "reached_from" p1) [.Tuple [e1, e2] kk pt] [] pos) X.env = (do
      let ov ← eval a X.env
      standAt p1.atName
      let (f, first) ← holding [ov] (getMethod ov "reached_from" pl)
      callWith pos f first (backTo pos (starEach [.Tuple [e1, e2] kk pt] X.env)) (backToKw pos (keywordEach [] X.env))) := by rfl) :
    rE X (.Call (.Attribute a "reached_from" p1) [.Tuple [e1, e2] kk pt] [] pos) σ H Q :=
  rx_meth (pl := pl) co hr (EX.go ha a1 fun u F2 H2 a2 e => by
    obtain ⟨dx, fs, ho, _, _, _, hm⟩ := ip.up a2.ff
    refine ⟨o, dx, fs, e, a2.sub.at ho, hm _ (by decide), EA.go (ea_cons hb ea_nil hst) (a1.trans a2) fun vs F3 H3 a3 ⟨v, _, e1, i1, e2⟩ => ?_⟩
    subst e1 e2
    exact ⟨F3, o, p, v, a3.sub, ip.up (a2.ff.trans a3.ff), h40, h40', i1, rfl, fun d ks F' H' a hnw hF hl dl => k d ks F' H' (a2.trans (a3.trans a)) (.inl hl) dl.keys⟩) hn hst (by rfl) ht
def Rdead (ds : List PyData) (d : PyData) : Prop := ∃ p : Pr, okP p ∧ ds = [prD p] ∧ d = .tuple ((deadF p).map stN)
theorem ok_dead {x : Str} (F : Df K mg x "deadlocks" (top 39)) (g : G K mg) (hC : Cls K C) (n2 : NoAttr K C "end") (c38 : Mak P w K mg base 2 "Plane" C ["self", "pair"] (spI T C (Rplane C))) (cn : Met P w K mg base 2 C "next_states" ["self", "state"] (spNext T C)) (cr : Met P w K mg base 3 C "reached_from" ["self", "state"] (spReach T C)) :
    Cl P w K mg base 4 x ["pair"] (spD T Rdead) := by
  refine cl_of (N := ["pair", "plane", "state"]) F ⟨rfl, rfl, rfl, by decide +kernel, rfl, by decide +kernel, by decide +kernel⟩ (len_spD fun ds d ⟨n, _, e, _⟩ => by rw [e]; rfl) (fun _ _ _ _ _ _ us hl => match us, hl with | [_], _ => rfl) ?_
  rintro f cdv A outer s H0 vs Q E hr ⟨F0, ds, d, sF, hv, ⟨p, hp, e1, e2⟩, k⟩
  subst e1 e2
  obtain ⟨v1, _, rfl, i1, rfl⟩ := hv
  have nd : (["pair", "plane", "state"] : List Str).Nodup := by decide +kernel
  have h40 := (isThr_keep hp.2.2.1).1
  have h40' := (isThr_keep hp.2.2.2).1
  refine b_asg (T := T) (i := 1) (ex_make c38 hr (ea_cons (ed_var (i := 0) rfl i1) ea_nil) ⟨p, hp, rfl, rfl⟩) sF (fun ve F1 H1 a1 ⟨o, eo, ip⟩ => ?_) nd
  subst eo
  obtain ⟨rk, rg⟩ := reachQ_keys p
  have rlen : (reachQ p).length ≤ 1681 := by
    have e : (reachQ p).length = (reachR p).1.length := by unfold reachQ; rw [List.length_map]
    rw [e]
    exact Nat.le_trans (keys_len (reach_ok p)) (Nat.le_trans (Nat.mul_le_mul (by omega) (by omega)) (by decide : 41 * 41 ≤ 1681))
  have hz : 1681 ≤ sizeLine := by decide
  have hkD : ((reachR p).1.map (·.1)).map keyD = (reachQ p).map stN := by rw [rk, List.map_map]; rfl
  have hal : PySem.W.AllAlike (((reachR p).1.map (·.1)).map keyD) := by rw [hkD]; exact PySem.W.AllAlike.of fun a b => by simp [stN, PySem.W.alike, PySem.W.alikeAll]
  have hsk : PySem.W.Sortable (((reachR p).1.map (·.1)).map keyD) := by rw [hkD]; exact PySem.W.Sortable.tuples fun b => ⟨_, _, rfl⟩
  have hdp : ∀ k ∈ (reachR p).1.map (·.1), (keyD k).depth ≤ 8 := fun k hk => by
    rw [rk] at hk
    obtain ⟨q, _, rfl⟩ := List.mem_map.mp hk
    show (stN q).depth ≤ 8
    simp [stN, PyData.depth, PyData.depthAll]
  refine b_ret (T := T) (P := imP (.tuple ((deadF p).map stN))) (ed_tupl (b_tuple g) (EF.ed (EF.to (ef_lc1 (enc := stN) (xs := (reachQ p).mergeSort (PySem.W.dataLe false stN)) (bs := fun q => [(2, stN q)]) (own := [("state", 2)]) rfl nd (by kernel_rfl)
      (Wk.to (wk_list (EF.ed (ef_srtT rfl hr.units (b_sorted g) ((reachR p).1.map (·.1)) hal hsk hdp fun F2 H2 a2 Q2 k2 => rx_reach (T := T) cr hr a2 (ip.up a2.ff) h40 h40' (ev_var (i := 1) rfl) (ed_tup (ea_cons ed_int (ea_cons ed_int ea_nil))) k2 (by decide)))) (by rw [hkD, sortD_mapE])) (fun _ _ i hi => hi)
      (fun q => !PyData.eqv (stN q) (stN (p.1.length, p.2.length)) && (nextT p q.1 q.2).isEmpty) (fun q => stN q) (fun s3 Hb C2 cl fp q hq => ⟨gt_name nd, fun F3 H3 a3 us hus => ?_⟩) (by rw [List.length_mergeSort]; omega)) rfl))) a1.sub fun v F2 H2 a2 q => k v F2 H2 (a1.trans a2) q
  obtain ⟨u0, _, rfl, m0, rfl⟩ := hus
  have ip3 := ip.up a3.ff
  obtain ⟨dx, fs, ho, _, ⟨ve, he1, ie⟩, _, _⟩ := id ip3
  exact ⟨et_w (ew_and (et_neD hr.units (ed_var (i := 2) rfl m0) (ed_fld (ev_var (i := 1) rfl) (a3.sub.at ho) hC n2 he1 ie) (okD_st q) (okD_st (p.1.length, p.2.length))) fun _ => ew_and1 (et_isnilD hr.units (EN.ed (en_next cn hr ip3 (rg q (List.mem_mergeSort.mp hq)) h40 (ev_var (i := 1) rfl) (ed_var (i := 2) rfl m0) (by decide))))), fun _ => ed_var (i := 2) rfl m0⟩
end
end Tw
namespace Tw
open PySem PySem.Spec PyProof.Rows L2 LamX
/-! sorted(range(len(self.NAME)), key=lambda one: (len(self.NAME[one]), one)) -/
abbrev keyBody (f : Str) (p1 p2 p3 p4 p5 p6 p7 p8 : Pos) (x1 : Nat) : Expr := .Tuple [.Call (.Name "len" p1) [.Subscript (.Attribute (.Name "self" p2) f p3) (.Name "one" p4) p5] [] p6, .Name "one" p7] x1 p8
section
variable {X : Cx} {pins : List (Addr × Obj)} {σ : L2.St} {H : Hp} {s : Shared}
theorem lam_key {A : Around} {E : Value → Shared → Prop} {scope : Scope} {qn : Str} {L fa c : Addr} {cd : Value} {cl : List (Str × Addr)} {m : Str → Option Value} {o C dx la lr : Addr} {fs : List (Str × V)} {xs ys : List V} {f : Str} {i : Nat} {t : Tok} {p1 p2 p3 p4 p5 p6 p7 p8 : Pos} {x1 : Nat}
    (I : Inv X pins σ H s) (hk : scope.kind = .function) (s1 : scope.names.lookup ("self" : Str) = some .free) (s2 : scope.names.lookup ("one" : Str) = some .local) (s3 : scope.names.lookup ("len" : Str) = some .globalImplicit)
    (hc : cl.lookup ("self" : Str) = some c) (hcell : s.heap.IsCell c (some (.ref o))) (hL : s.heap.Ns L m) (hm : m "one" = some (.int (i : Nat) t)) (hlen : X.mg "len" = none)
    (ho : H o = some (.ins C dx fs)) (hC : Cls X.K C) (hn : NoAttr X.K C f) (hl : fs.lookup f = some (.ref la)) (hla : H la = some (.lst xs)) (hx : xs[i]? = some (.ref lr)) (hlr : H lr = some (.lst ys)) :
    wpAny (model X.prog X.w) A (eval (keyBody f p1 p2 p3 p4 p5 p6 p7 p8 x1) (PySem.W.envX qn scope L fa cd cl)) (PySem.W.KeyPure (.tuple [.int (ys.length : Nat), .int (i : Nat)]) s) E s := by
  have one : ∀ {p : Pos} {s' : Shared} {Q : Value → Shared → Prop}, s'.heap = s.heap → Q (.int (i : Nat) t) s' → wpAny (model X.prog X.w) A (eval (.Name "one" p) (PySem.W.envX qn scope L fa cd cl)) Q E s' := fun e h =>
    wpAny_Name (wpAny_loadName_local hk s2 (by rw [e]; exact hL) hm h) (by decide)
  have hn63 := line63
  obtain ⟨mA, O, r, _, _, _⟩ := ins_get I.hok ho
  obtain ⟨u, hu, ru⟩ := RelO.some_of (v := V.ref la) (o := mA f) (by rw [← hl]; exact r f)
  obtain rfl : u = .ref la := ru
  obtain ⟨its, r1, pl1, hz1⟩ := I.list (.inl (.inl hla))
  obtain ⟨w, ew, rw'⟩ := r1.get hx
  obtain rfl : w = .ref lr := rw'
  obtain ⟨its2, r2, pl2, hz2⟩ := I.list (.inl (.inl hlr))
  have hlen2 := r2.length
  have hl1 := r1.length
  have hi : i < xs.length := (List.getElem?_eq_some_iff.mp hx).1
  refine wpAny_Tuple_spliced (args_cons (wpAny_Call_Name_kw ?_) rfl)
  obtain ⟨mb, h1, h2⟩ := I.mod.blt
  refine Calls.Name_function_global hk s3 (Calls.loadGlobal_builtin (by exact I.mod.glob.keeps I.bk) hlen (by exact h1.keeps I.bk) ((h2 "len" (by decide)).trans boot_len) ?_) (by decide)
  refine PyProof.Rows.callWith_builtin1 (args_cons (Subscript_ (attr_of rfl ?_)) rfl) rfl rfl
  refine wpAny_Name (wpAny_loadName_free hk s1 hc hcell ?_ (by decide)) (by decide)
  refine get_map I.kIn O (hC.get f) hC.hd hn hu (handed_of (v := .ref la) rfl) ?_
  refine one rfl ?_
  refine item_listR pl1.isList (Int.ofNat_nonneg i) (by omega) (by simpa using ew) ?_ rfl
  refine args_nil ?_
  refine Calls.call_len_list pl2.isList (by simp only [List.size_toArray]; omega) ?_
  refine args_cons (one rfl (args_nil ?_)) rfl
  refine ⟨Nat.le_of_ble_eq_true rfl, ?_⟩
  refine ⟨_, _, rfl, fun b o e => Heap.get?_push_of_some _ e, ?_⟩
  refine .tuple (vs := _) (Heap.get?_push_size _ rfl) rfl rfl ?_
  have e : (its2.toArray.size : Int) = (ys.length : Nat) := by rw [List.size_toArray, hlen2]
  rw [e]
  exact .cons (.int _ _) (.cons (.int _ _) .nil)

theorem each_of_items {acc : Array Value} : ∀ {n : Nat}, ItemsOf (fun i v => ∃ t, v = Value.int ((0 : Int) + (i : Int) * 1) t) acc n → PySem.W.EachIs (fun v (i : Nat) => ∃ t, v = Value.int (i : Int) t) acc.toList (List.range n) := by
  intro n h
  obtain ⟨h1, h2⟩ := h
  dsimp only at h2
  have gen : ∀ (vs : List Value) (k : Nat), (∀ j v, vs[j]? = some v → ∃ t, v = Value.int ((k + j : Nat) : Int) t) → PySem.W.EachIs (fun v (i : Nat) => ∃ t, v = Value.int (i : Int) t) vs (List.range' k vs.length) := by
    intro vs
    induction vs with
    | nil => intro k _; exact .nil
    | cons v vs ih =>
      intro k h
      rw [List.length_cons, List.range'_succ]
      refine .cons (by simpa using h 0 v rfl) (ih (k + 1) fun j w e => ?_)
      obtain ⟨t, q⟩ := h (j + 1) w e
      exact ⟨t, by rw [q]; congr 1; omega⟩
  have := gen acc.toList 0 fun j v e => by
    obtain ⟨t, q⟩ := h2 j v (by simpa using e)
    exact ⟨t, by rw [q]; congr 1; omega⟩
  rw [List.range_eq_range', ← h1]
  simpa using this
def lenK (len : Nat → Nat) (i : Nat) : PyData := .tuple [.int (len i : Nat), .int (i : Nat)]
def byLen (len : Nat → Nat) (n : Nat) : List Nat := (List.range n).mergeSort (PySem.W.dataLe false (lenK len))
theorem sorted_rkey {E : Value → Shared → Prop} {Q : Value → Shared → Prop} {scope : Scope} {qn : Str} {params : Arguments} {fl c c' r : Addr} {pm ctv : Value} {cl : List (Str × Addr)} {o C dx la : Addr} {fs : List (Str × V)} {xs : List V} {f : Str} {n : Nat} {len : Nat → Nat} {tr ur vr : Tok} {p1 p2 p3 p4 p5 p6 p7 p8 : Pos} {x1 k : Nat}
    (I : Inv X pins σ H s) (hroom : Room k X.A) (hk : scope.kind = .function) (hgen : scope.isGenerator = false) (hco : scope.isCoroutine = false) (own : ∀ y ∈ scope.names, y.2 ≠ .cell) (s1 : scope.names.lookup ("self" : Str) = some .free) (s2 : scope.names.lookup ("one" : Str) = some .local) (s3 : scope.names.lookup ("len" : Str) = some .globalImplicit)
    (hf : s.heap.get? fl = some (PySem.W.kla_obj "<lambda>" qn params (keyBody f p1 p2 p3 p4 p5 p6 p7 p8 x1) scope cl pm c' ctv)) (hcd : s.heap.CodeRec (.ref c') qn)
    (hbind : ∀ v : Value, bindArgs (PySem.W.kla_fn "<lambda>" qn params (keyBody f p1 p2 p3 p4 p5 p6 p7 p8 x1) scope cl pm (.ref c') ctv) ⟨[v], []⟩ = pure [(("one" : Str), v)])
    (hc : cl.lookup ("self" : Str) = some c) (hcell : s.heap.IsCell c (some (.ref o))) (hlen : X.mg "len" = none)
    (ho : H o = some (.ins C dx fs)) (hC : Cls X.K C) (hn : NoAttr X.K C f) (hl : fs.lookup f = some (.ref la)) (hla : H la = some (.lst xs)) (hx : ∀ i < n, ∃ lr ys, xs[i]? = some (.ref lr) ∧ H lr = some (.lst ys) ∧ ys.length = len i)
    (hr : IsRange s.heap r 0 (n : Nat) 1 tr ur vr) (hn2 : n ≤ 1000)
    (h : ∀ (out : List Value) (cc : Nat) (h1 h' : Heap) (tk : Nat), (∀ b u, s.heap.get? b = some u → h1.get? b = some u) → (∀ b u, h1.get? b = some u → h'.get? b = some u) → h'.get? h1.objs.size = some (seqObj "list" out.toArray cc) → PySem.W.EachIs (fun v (i : Nat) => ∃ t, v = Value.int (i : Int) t) out (byLen len n) → Q (.ref h1.objs.size) { s with heap := h', toks := tk }) :
    wpAny (model X.prog X.w) X.A (call (.builtin "sorted") [.ref r] [(Str.ofString "key", .ref fl)]) Q E s := by
  have hu := hroom.units
  refine call_function_entry_kw kind_sorted plain_sorted entry_sorted (ksk_s1 _ _) ?_
  unfold Builtin.«sorted»
  refine wpAny_bind (m := checkCount "sorted" 1 1 _) (wpAny_pure ?_)
  refine wpAny_bind (L2.collect_range hroom.hd hr (n := n) ?_ ?_ (by omega) fun h1 tk acc hk1 hi => ?_)
  · exact small_one (by omega) (by omega) (by omega) (by omega)
  · rw [rangeSize_nat]; omega
  have ea := each_of_items hi
  have sz : acc.toList.length ≤ 1000 := by rw [ea.length, List.length_range]; exact hn2
  have szl : acc.toList.length ≤ sizeLine := Nat.le_trans sz (by decide)
  refine wpAny_bind (wpAny_newList ?_ szl)
  refine wpAny_bind (wpAny_holding (PySem.W.list_sort_key_data (n := 0) (vs := acc.toList) (bs := List.range n) (R := fun v (i : Nat) => ∃ t, v = Value.int (i : Int) t) (b := false) (lenK len) (Heap.get?_push_size _ rfl) ea (PySem.W.AllAlike.of fun a b => by simp [lenK, PySem.W.alike, PySem.W.alikeAll]) (PySem.W.Sortable.tuples fun b => ⟨_, _, rfl⟩)
    (by rw [List.length_range]; exact Nat.le_trans hn2 (by decide)) (fun x hx => ?_) (ksk_l1 _ _) (ksk_t1 _ _) (fun v i hv hi2 h2 tk2 kp => ?_) fun out cc h2 tk2 kp hD hlen2 each => ?_))
  · have e : (lenK len x).depth ≤ 8 := by simp [lenK, PyData.depth, PyData.depthAll]
    show X.A.units + 1 + 1 + _ < _
    omega
  · obtain ⟨t, rfl⟩ := hv
    have hi3 : i < n := List.mem_range.mp hi2
    obtain ⟨lr, ys, e1, e2, e3⟩ := hx i hi3
    have kp2 : ∀ b u, s.heap.get? b = some u → h2.get? b = some u := fun b u e => kp b u (fun z => by
      have := Heap.lt_size (hk1 b u e)
      rw [z] at this
      exact Nat.lt_irrefl _ this) (Heap.get?_push_of_some _ (hk1 b u e))
    refine wpAny_call (PySem.W.kla_callFunE (by exact hroom.depth) (kp2 _ _ hf) rfl hco hgen rfl (hcd.keeps kp2) ?_)
    rw [hbind]
    refine wpAny_pure (wpAny_newFunctionEnv own (fun y hy => ?_) (fun h₁ hns hsb => ⟨(I.nolimit.keeps kp2).fresh _ hsb, ?_⟩) hk)
    · rw [List.mem_singleton.mp hy]; exact s2
    have kp3 : ∀ b u, h2.get? b = some u → h₁.get? b = some u := fun b u e => hsb.extBut b u (Nat.ne_of_lt (Heap.lt_size e)) (Heap.get?_push_of_some _ e)
    refine PySem.W.kla_codeExpr ?_
    refine wpAny_mono (lam_key (s := { s with heap := h₁, toks := _ }) (i := i) (t := t) (lr := lr) (ys := ys) (I.kept fun b u e => kp3 b u (kp2 b u e)) hk s1 s2 s3 hc ?_ hns rfl hlen ho hC hn hl hla e1 e2) (fun v s2 ⟨h4, tk4, e4, k4, r4⟩ => ?_) fun _ _ z => z
    · exact hcell.keeps fun b u e => kp3 b u (kp2 b u e)
    · subst e4
      refine ⟨h4, tk4, rfl, fun b u e => k4 b u (kp3 b u e), ?_⟩
      rw [lenK, ← e3]; exact r4
  · refine wpAny_pure ⟨_, rfl, ?_⟩
    exact h out cc h1 h2 tk2 hk1 (fun b u e => kp b u (fun z => by
      have := Heap.lt_size e
      rw [z] at this
      exact Nat.lt_irrefl _ this) (Heap.get?_push_of_some _ e)) hD each

theorem self_cell {scope : Scope} (I : Inv X pins σ H s) (L : ∀ y ∈ scope.names, y.2 = .free → X.env.scope.names.lookup y.1 = some .cell) (s1 : scope.names.lookup ("self" : Str) = some .free) {i : Nat} {o : Addr} (hN : X.N[i]? = some ("self" : Str)) (hs : σ[i]? = some (some (.ref o))) :
    ∃ c, (cloFrom X.env.cells scope.names []).lookup ("self" : Str) = some c ∧ s.heap.IsCell c (some (.ref o)) := by
  have hy : ((("self" : Str), NameKind.free) : Str × NameKind) ∈ scope.names := PySem.mem_of_lookup s1
  obtain ⟨c, hc⟩ := mem_lookup (cloFrom_has (cells := X.env.cells) (acc := []) hy)
  have kc := L _ hy rfl
  have cm : X.env.cells.lookup ("self" : Str) = some c := by
    rcases cloFrom_mem (PySem.mem_of_lookup hc) with hm | ⟨h1, h2⟩
    · cases hm
    · obtain ⟨c1, hc1⟩ := I.ok.has _ (.inl (show X.env.kindOf _ = _ from kc))
      have hc1 : X.env.cells.lookup ("self" : Str) = some c1 := hc1
      have e2 : c = c1 := by
        rw [h2, hc1] <;> rfl
      rw [e2]; exact hc1
  refine ⟨c, hc, ?_⟩
  obtain ⟨m, _, hl⟩ := I.loc
  obtain ⟨u, r, q⟩ := hl i _ _ hN hs (.inr (.inl kc))
  obtain rfl : u = .ref o := r
  rcases q with ⟨k', _⟩ | ⟨_, c2, h2, z⟩
  · have k' : X.env.scope.names.lookup ("self" : Str) = some .local := k'
    rw [kc] at k'; cases k'
  · rw [cm] at h2
    cases h2
    exact z
theorem pe_srtk {T : List (Addr × Str)} {c P : Addr} {ea : Expr} {ta : TE} {scope : Scope} {params : Arguments} {f : Str} {i k : Nat} {p pos pr posr lp kp : Pos} {p1 p2 p3 p4 p5 p6 p7 p8 : Pos} {x1 : Nat}
    (hms : X.mg "sorted" = none) (hmr : X.mg "range" = none) (hml : X.mg "len" = none) (ha : PE X ea ta) (hroom : Room k X.A)
    (TB : TabB X.base X.mg c P) (hcode : X.env.code = .ref c) (hmT : (P, X.env.qual ++ "<lambda>") ∈ T) (hu : ∀ p ∈ T, p.1 = P → p.2 = X.env.qual ++ "<lambda>") (hdef : defaultsOf params X.env = ([], []))
    (hk : scope.kind = .function) (hgen : scope.isGenerator = false) (hco : scope.isCoroutine = false) (own : ∀ y ∈ scope.names, y.2 ≠ .cell) (L : ∀ y ∈ scope.names, y.2 = .free → X.env.scope.names.lookup y.1 = some .cell)
    (s1 : scope.names.lookup ("self" : Str) = some .free) (s2 : scope.names.lookup ("one" : Str) = some .local) (s3 : scope.names.lookup ("len" : Str) = some .globalImplicit)
    (hbind : ∀ (q : Str) (cl : List (Str × Addr)) (pm cv ctv : Value) (v : Value), bindArgs (PySem.W.kla_fn "<lambda>" q params (keyBody f p1 p2 p3 p4 p5 p6 p7 p8 x1) scope cl pm cv ctv) ⟨[v], []⟩ = pure [(("one" : Str), v)])
    (hN : X.N[i]? = some ("self" : Str)) (hgs : Gl X "sorted" := by rfl) (hgr : Gl X "range" := by rfl)
    (na : starEach [ea] X.env = (false, eval ea X.env) :: starEach [] X.env := by rfl) :
    PE X (.Call (.Name "sorted" p) [.Call (.Name "range" pr) [ea] [] posr] [⟨some "key", .Lambda params (keyBody f p1 p2 p3 p4 p5 p6 p7 p8 x1) scope lp, kp⟩] pos)
      (fun σ H Q => ta σ H fun v H1 => Tabs T H1 ∧ ∃ (n : Nat) (o C dx la : Addr) (fs : List (Str × V)) (xs : List V) (len : Nat → Nat), v = .int n ∧ n ≤ 1000 ∧ σ[i]? = some (some (.ref o)) ∧ H1 o = some (.ins C dx fs) ∧ Cls X.K C ∧ NoAttr X.K C f ∧ fs.lookup f = some (.ref la) ∧ H1 la = some (.lst xs) ∧
        (∀ i < n, ∃ lr ys, xs[i]? = some (.ref lr) ∧ H1 lr = some (.lst ys) ∧ ys.length = len i) ∧ ∀ H2 a, ExtN H1 H2 → Tabs T H2 → H2 a = none → Q (.ref a) (upd H2 a (.lst ((byLen len n).map fun i => V.int (i : Nat))))) := by
  refine ⟨fun pins s σ H Q I h => ?_⟩
  refine wpAny_Call_Name_kw (ld_blt I hgs hms boot_sortedb ?_)
  refine PyProof.Rows.callWith_kw (PyProof.Rows.args_cons (Call_ (ld_blt I hgr hmr boot_range (PyProof.Rows.callWith_type1 (one_arg ha I h (fun v s4 x H2 I2 r q => ?_) na) na))) (by rfl))
  obtain ⟨hT, n, o, C, dx, la, fs, xs, len, rfl, hn, hso, ho, hC, hnA, hl, hla, hx, hq⟩ := q
  obtain ⟨t, rfl⟩ := r
  refine call_range_1 (PyProof.Rows.args_nil ?_)
  have I3 : Inv X pins σ H2 { s4 with heap := s4.heap.push { cls := .type "range", data := .fields #[.int 0 s4.toks, .int n t, .int 1 (s4.toks + 1)] }, toks := s4.toks + 1 + 1 } := I2.kept fun b u e => Heap.get?_push_of_some _ e
  have I4 : Inv X ((s4.heap.objs.size, ({ cls := .type "range", data := .fields #[.int 0 s4.toks, .int n t, .int 1 (s4.toks + 1)] } : Obj)) :: pins) σ H2 { s4 with heap := s4.heap.push { cls := .type "range", data := .fields #[.int 0 s4.toks, .int n t, .int 1 (s4.toks + 1)] }, toks := s4.toks + 1 + 1 } := by
    refine I3.pins_of fun p hp => ?_
    rcases List.mem_cons.mp hp with z | z
    · rw [z]
      exact ⟨Heap.get?_push_size _ rfl, I2.hok.fresh (Nat.le_refl _), Nat.ne_of_gt I2.lt, I2.nofs (Nat.le_refl _), fun v z => by cases z⟩
    · exact I3.pin p (List.mem_append_right _ z)
  refine kws_cons (lam_make2 I4 TB hcode hmT hu hT hdef (fun y hy e => ?_) fun fl c' pm ctv H5 s5 I5 eN T5 hf hfn hfr hco2 => ?_)
  · exact I.ok.has _ (.inl (show X.env.kindOf _ = _ from L y hy e))
  refine kws_nil ?_
  obtain ⟨cc, hcl, hcell⟩ := self_cell (scope := scope) I5 L s1 hN hso
  obtain ⟨⟨oc, vs, t5, hoc, hdc, hvc⟩, _, _⟩ := I5.hok c' _ hco2
  have ext : ∀ {a : Addr} {u : HO}, H2 a = some u → NotTbl u → H5 a = some u := fun e nt => eN _ _ e nt
  refine sorted_rkey (C := C) (dx := dx) (la := la) (fs := fs) (xs := xs) (n := n) (len := len) I5 hroom hk hgen hco own s1 s2 s3 hf ⟨c', oc, vs, t5, rfl, hoc, hdc, hvc⟩ (hbind _ _ _ _ _) hcl hcell hml (ext ho notTbl_ins) hC hnA hl (ext hla notTbl_lst) (fun i hi => ?_) (I5.pin _ (List.mem_append_right _ (List.mem_cons_self ..))).1 hn fun out cc h1 h' tk k1 k2 hD each => ?_
  · obtain ⟨lr, ys, z1, z2, z3⟩ := hx i hi
    exact ⟨lr, ys, z1, ext z2 notTbl_lst, z3⟩
  · have J : Inv X pins σ H5 s5 := I5.pins_of fun p hp => I5.pin p (List.mem_append_right _ (List.mem_cons_of_mem _ hp))
    have J1 : Inv X pins σ H5 { s5 with heap := h1 } := J.kept (t' := s5.toks) k1
    have J2 : Inv X pins σ (upd H5 h1.objs.size (.lst ((byLen len n).map fun i => V.int (i : Nat)))) { s5 with heap := h', toks := tk } := J1.laid k2 (Nat.le_refl _) ⟨?_, out, cc, ?_, hD⟩
    · exact ⟨.ref h1.objs.size, _, J2, rfl, hq H5 _ eN T5 (J1.hok.fresh (Nat.le_refl _))⟩
    · rw [List.length_map]
      unfold byLen
      rw [List.length_mergeSort, List.length_range]
      exact Nat.le_trans hn (by decide)
    · have gen : ∀ (bs : List Nat) (vs : List Value), PySem.W.EachIs (fun v (i : Nat) => ∃ t, v = Value.int (i : Int) t) vs bs → Vals (bs.map fun i => V.int (i : Nat)) vs := by
        intro bs
        induction bs with
        | nil => intro vs h; cases h; exact .nil
        | cons b bs ih => intro vs h; cases h with
          | cons h1 h2 => exact .cons h1 (ih _ h2)
      exact gen _ _ each
end
section
variable {X : Cx} {a b : Expr} {σ : L2.St} {H : Hp} {rest : List Stmt} {D : Ends} {pos p : Pos}
-- x, y = a, b where a comprehension or a lambda holds one of the names
theorem b_par2 {x y : Str} {m n : Nat} {px py pt pt2 : Pos} {kt k2 : Nat} (hc : X.calm = true) (hN : X.N.Nodup) (h : rE X a σ H fun v H1 => rE X b σ H1 fun w H2 => ∀ q, H2 q = none → rB X rest D ((σ.set m (some v)).set n (some w)) (upd H2 q (.tup [v, w])))
    (hi : X.N[m]? = some x := by rfl) (hj : X.N[n]? = some y := by rfl) (hx : Loc X.env.scope x := by first | exact .inl rfl | exact .inr rfl) (hy : Loc X.env.scope y := by first | exact .inl rfl | exact .inr rfl)
    (hf : X.fn x = true ∨ X.env.scope.names.lookup x = some .local := by first | exact .inl rfl | exact .inr rfl | assumption) (hf2 : X.fn y = true ∨ X.env.scope.names.lookup y = some .local := by first | exact .inl rfl | exact .inr rfl | assumption)
    (hA : PA X [a, b] (tCons (rE X a) (tCons (rE X b) tNil)) := by exact pa_cons pe_r (pa_cons pe_r pa_nil))
    (hs : swapsWithSole [.Tuple [.Name x px, .Name y py] kt pt] (.Tuple [a, b] k2 pt2) pos.line X.env = pure false := by rfl) (hw : swappedStores [.Tuple [.Name x px, .Name y py] kt pt] (.Tuple [a, b] k2 pt2) X.env = pure none := by rfl)
    (h1 : (assignEach [.Tuple [.Name x px, .Name y py] kt pt] X.env).map (·.2) = [assign (.Tuple [.Name x px, .Name y py] kt pt) X.env] := by rfl) : rB X (.Assign [.Tuple [.Name x px, .Name y py] kt pt] (.Tuple [a, b] k2 pt2) pos :: rest) D σ H := by
  refine goC (ps_asg (te := tTup (tCons (rE X a) (tCons (rE X b) tNil))) (pe_tup hA) (pg_tup hc (pgs_cons (pg_name hN hi hx hf) (pgs_cons (pg_name hN hj hy hf2) pgs_nil))) hs hw h1) ?_
  refine fun pins s I => wpAny_mono (h pins s I) (fun u s' ⟨v, H1, I1, r, q⟩ => ⟨v, H1, I1, r, fun pins s I => wpAny_mono (q pins s I) (fun u s' ⟨w, H2, I2, r2, q2⟩ => ⟨w, H2, I2, r2, ?_⟩) fun _ _ z => z⟩) fun _ _ z => z
  exact ⟨Nat.le_of_ble_eq_true rfl, fun r hr => ⟨r, [v, w], rfl, SqT.of upd_same, rfl, v, [w], rfl, w, [], rfl, rfl, q2 r hr⟩⟩
end
theorem ef_srtk {X : Cx} {σ : L2.St} {F H : Hp} {T : List (Addr × Str)} {c P : Addr} {ea : Expr} {scope sc0 : Scope} {params : Arguments} {f qn : Str} {i k : Nat} {p pos pr posr lp kp : Pos} {p1 p2 p3 p4 p5 p6 p7 p8 : Pos} {x1 : Nat} {n : Nat} {o C dx la : Addr} {fs : List (Str × V)} {xs : List V} {len : Nat → Nat}
    (hms : X.mg "sorted" = none) (hmr : X.mg "range" = none) (hml : X.mg "len" = none) (ha : ED T X ea σ F H (.int n)) (hroom : Room k X.A)
    (TB : TabB X.base X.mg c P) (hcode : X.env.code = .ref c) (hq : X.env.qual = qn) (hmT : (P, qn ++ "<lambda>") ∈ T) (hu : ∀ p ∈ T, p.1 = P → p.2 = qn ++ "<lambda>") (hT0 : Tabs T H)
    (hs : σ[i]? = some (some (.ref o))) (ho : F o = some (.ins C dx fs)) (hC : Cls X.K C) (hnA : NoAttr X.K C f) (hl : fs.lookup f = some (.ref la)) (hla : F la = some (.lst xs)) (hx : ∀ i < n, ∃ lr ys, xs[i]? = some (.ref lr) ∧ F lr = some (.lst ys) ∧ ys.length = len i) (hn : n ≤ 1000)
    (hN : X.N[i]? = some ("self" : Str))
    (hdef : defaultsOf params X.env = ([], []) := by rfl)
    (hk : scope.kind = .function := by rfl) (hgen : scope.isGenerator = false := by rfl) (hco : scope.isCoroutine = false := by rfl) (own : ∀ y ∈ scope.names, y.2 ≠ .cell := by decide +kernel) (hsc : X.env.scope = sc0 := by rfl) (L : ∀ y ∈ scope.names, y.2 = .free → sc0.names.lookup y.1 = some .cell := by decide +kernel)
    (s1 : scope.names.lookup ("self" : Str) = some .free := by decide +kernel) (s2 : scope.names.lookup ("one" : Str) = some .local := by decide +kernel) (s3 : scope.names.lookup ("len" : Str) = some .globalImplicit := by decide +kernel)
    (hbind : ∀ (q : Str) (cl : List (Str × Addr)) (pm cv ctv : Value) (v : Value), bindArgs (PySem.W.kla_fn "<lambda>" q params (keyBody f p1 p2 p3 p4 p5 p6 p7 p8 x1) scope cl pm cv ctv) ⟨[v], []⟩ = pure [(("one" : Str), v)] := by exact fun _ _ _ _ _ _ => rfl)
    (hgs : Gl X "sorted" := by rfl) (hgr : Gl X "range" := by rfl) (na : starEach [ea] X.env = (false, eval ea X.env) :: starEach [] X.env := by rfl) :
    EF T X (.Call (.Name "sorted" p) [.Call (.Name "range" pr) [ea] [] posr] [⟨some "key", .Lambda params (keyBody f p1 p2 p3 p4 p5 p6 p7 p8 x1) scope lp, kp⟩] pos) σ F H ((byLen len n).map fun i => .int (i : Nat)) := fun F1 H1 a1 Q k => by
  subst hq hsc
  refine goE (pe_srtk (T := T) (i := i) hms hmr hml pe_r hroom TB hcode hmT hu hdef hk hgen hco own L s1 s2 s3 hbind hN hgs hgr na) (ha F1 H1 a1 _ fun v F3 H3 a3 ev => ?_)
  obtain rfl : v = .int n := ev
  have A3 := a1.trans a3
  refine ⟨A3.tab hT0, n, o, C, dx, la, fs, xs, len, rfl, hn, hs, A3.sub.at (A3.ff _ _ ho), hC, hnA, hl, A3.sub.at (A3.ff _ _ hla), fun i hi => ?_, fun H4 a e4 t4 hn4 => ?_⟩
  · obtain ⟨lr, ys, z1, z2, z3⟩ := hx i hi
    exact ⟨lr, ys, z1, A3.sub.at (A3.ff _ _ z2), z3⟩
  · have b4 : Adv T F1 H1 F3 H4 := ⟨a3.ff, fun x u hx => ⟨(a3.sub x u hx).1, by
      rcases (a3.sub x u hx).2 with q | ⟨q1, ob, q2⟩
      · exact .inl (e4 _ _ q (a3.sub x u hx).1)
      · exact .inr ⟨q1, ob, e4 _ _ q2 notTbl_frz⟩⟩, a3.hh.trans e4, fun x u hx => a3.sep x u hx, fun _ => t4⟩
    exact k a _ F3 _ (b4.trans (Adv.lay b4.sub hn4)) (Nw.back b4 (.of hn4)) (b4.sub.offN hn4) upd_same (by
      have := (ImL.ints (F := F3) (ns := (byLen len n).map fun i : Nat => (i : Int)) (vs := ((byLen len n).map fun i : Nat => (i : Int)).map V.int)).mpr rfl
      rwa [List.map_map, List.map_map] at this)
end Tw
set_option maxHeartbeats 400000
namespace Tw
open PySem PySem.Spec PyProof.Rows L2 LamX
structure CMc (K : PySem.W.Frag) (C : Addr) (m qual : Str) (st : Stmt) (c : Addr) : Prop where
  cls : Cls K C
  ex : ∃ f fd, FunD K m qual (defArgs st) (defBody st) (defScope st) [] [] f fd ∧ Meth K C m f ∧ fd.code = .ref c
section
variable {P : Program} {w : World} {K : PySem.W.Frag} {mg : Str → Option Value} {base : Heap}
theorem met_ofc {m qual : Str} {C : Addr} {st : Stmt} {N ps : List Str} {k : Nat} {sp : Sp} {c : Addr} (h : CMc K C m qual st c) (S : FnScope N ps (defScope st)) (len : ∀ vs H Q E, sp vs H Q E → vs.length = ps.length)
    (hbd : ∀ (kV doc pm : Value) (an : Option Addr) (cdv ct : Value) (us : List Value), us.length = ps.length → bindArgs (PySem.W.fnOf m qual (defArgs st) (defBody st) (defScope st) .none kV doc pm an cdv ct) ⟨us, []⟩ = pure (ps.zip us))
    (hbody : ∀ (f : Addr) (A : Around) (outer : List Env) (s : Shared) (H : Hp) (vs : List V) (Q : VK) (E : XK), Room k (A.deeper (envOfC qual (defScope st) s.heap.objs.size f (.ref c))) → sp vs H Q E →
      rB (cxOf L2.CX0 P w K mg base N qual (defScope st) f (.ref c) A outer s H E).nox (defBody st) { nx := fun _ H' => Q .non H', rt := Q } (start N vs) H) : Met P w K mg base (k + 1) C m ps sp := by
  obtain ⟨f, fd, F, M, hc⟩ := h.ex
  obtain ⟨oc, od, dV, kV, doc, pm, an, cdv, ct, osl, rfl, lk, hcd, hD, _⟩ := id F.ex
  obtain rfl : cdv = .ref c := hc
  exact ⟨f, _, h.cls, M, fn_of lk hcd S len fun A outer s H vs Q E hr h => ⟨_, PSs.nox pss_r, hbody f A outer s H vs Q E hr h⟩, binds_of F hbd⟩
end
section
variable {T : List (Addr × Str)} {X : Cx} {e : Expr} {σ : L2.St} {F H : Hp} {rest : List Stmt} {D : Ends} {pos p : Pos} {x : Str} {i : Nat} {v d : Int}
theorem b_augI (hv : σ[i]? = some (some (.int v))) (h : ED T X e σ F H (.int d)) (s : Sub F H) (k : ∀ F1 H1, Adv T F H F1 H1 → rB X rest D (σ.set i (some (.int (v + d)))) H1) (hN : X.N.Nodup) (hi : X.N[i]? = some x := by rfl) (hx : Loc X.env.scope x := by first | exact .inl rfl | exact .inr rfl)
    (hf : X.fn x = true ∨ X.env.scope.names.lookup x = some .local := by first | exact .inl rfl | exact .inr rfl | assumption) : rB X (.AugAssign (.Name x p) .Add e pos :: rest) D σ H :=
  goC (ps_aug hN hi hx pe_r iop_add hf) ⟨_, hv, h F H (.refl s) _ fun y F1 H1 a1 q => ⟨v, d, rfl, q, k F1 H1 a1⟩⟩
end
-- the numbers of the rows
def vD (tb : Tb Key) (i : Nat) : Int := match valD tb (.inl (i : Int)) with
  | some (.int n) => n
  | _ => 0
def wStep (er : Nat → List Nat) (st : Tb Key × Int) (i : Nat) : Tb Key × Int :=
  let v := 1 + (((er i).filter fun o : Nat => (valD st.1 (.inl (o : Int))).isSome).map (vD st.1)).sum
  (putD st.1 (.inl (i : Int)) (.int v), st.2 + v)
def waysS (l : List Con) (j : Nat) : Tb Key × Int := ((byLen (fun i => (earlierR l i).length) (nP l)).take j).foldl (wStep (earlierR l)) ([], 1)
def waysF (l : List Con) : Int := (waysS l (nP l)).2
theorem waysS_succ {l : List Con} {j i : Nat} (h : (byLen (fun i => (earlierR l i).length) (nP l))[j]? = some i) : waysS l (j + 1) = wStep (earlierR l) (waysS l j) i := by
  unfold waysS
  rw [take_next' h, List.foldl_append]
  rfl
def IntTb (tb : Tb Key) : Prop := ∀ k d, valD tb k = some d → ∃ n, d = .int n
theorem waysS_ok (l : List Con) (j : Nat) : IntTb (waysS l j).1 ∧ (waysS l j).1.length ≤ j := by
  induction j with
  | zero => exact ⟨fun k d h => by simp [waysS, valD] at h, by simp [waysS]⟩
  | succ j ih =>
    cases h : (byLen (fun i => (earlierR l i).length) (nP l))[j]? with
    | none =>
      have e : waysS l (j + 1) = waysS l j := by
        unfold waysS
        have := List.getElem?_eq_none_iff.mp h
        rw [List.take_of_length_le (by omega), List.take_of_length_le (by omega)]
      rw [e]
      exact ⟨ih.1, by omega⟩
    | some i =>
      rw [waysS_succ h]
      refine ⟨fun k d hd => ?_, ?_⟩
      · unfold wStep at hd
        dsimp only at hd
        rw [valD_put] at hd
        split at hd
        · exact ⟨_, (Option.some.inj hd).symm⟩
        · exact ih.1 k d hd
      · have := length_putD (waysS l j).1 (.inl (i : Int)) (.int (1 + (((earlierR l i).filter fun o : Nat => (valD (waysS l j).1 (.inl (o : Int))).isSome).map (vD (waysS l j).1)).sum))
        have h2 := ih.2
        unfold wStep
        dsimp only
        omega
theorem byLen_len (f : Nat → Nat) (n : Nat) : (byLen f n).length = n := by unfold byLen; rw [List.length_mergeSort, List.length_range]
theorem byLen_lt {f : Nat → Nat} {n i : Nat} (h : i ∈ byLen f n) : i < n := List.mem_range.mp (List.mem_mergeSort.mp h)
theorem earlierR_ok {l : List Con} {i : Nat} : (earlierR l i).length ≤ nP l ∧ ∀ j ∈ earlierR l i, j < nP l := by
  unfold earlierR
  refine ⟨Nat.le_trans (List.length_filter_le _ _) (Nat.le_trans (List.length_filter_le _ _) (by rw [List.length_range]; exact Nat.le_refl _)), fun j hj => ?_⟩
  exact List.mem_range.mp (List.mem_filter.mp (List.mem_filter.mp hj).1).1
section
variable {P : Program} {w : World} {K : PySem.W.Frag} {mg : Str → Option Value} {base : Heap} {T : List (Addr × Str)} {CW c Pt : Addr}
def spWays (T : List (Addr × Str)) (CW : Addr) : Sp := fun vs H Q _ => ∃ F o l v, Sub F H ∧ Tabs T H ∧ IsWays CW l o F ∧ OkL l ∧ vs = [.ref o, v] ∧ Im F (dOf []) v ∧ ∀ v F' H', Adv T F H F' H' → Im F' (.int (waysF l)) v → Q v H'
theorem ok_waysM (F : CMc K CW "ways" "Ways.ways" (inClass (top 48) 2) c) (g : G K mg) (ne : NoAttr K CW "earlier") (TB : TabB base mg c Pt) (hT : (Pt, ((("Ways.ways" : Str) ++ ".<locals>.") ++ ("<lambda>" : Str))) ∈ T) (hu : ∀ p ∈ T, p.1 = Pt → p.2 = ((("Ways.ways" : Str) ++ ".<locals>.") ++ ("<lambda>" : Str))) :
    Met P w K mg base 1 CW "ways" ["self", "letters"] (spWays T CW) := by
  refine met_ofc (N := ["self", "letters", "rows", "total", "piece", "one"]) F ⟨rfl, rfl, rfl, by decide +kernel, rfl, by decide +kernel, by decide +kernel⟩ (fun vs H Q E ⟨F, o, l, v, _, _, _, _, e, _⟩ => by rw [e]; rfl) (fun _ _ _ _ _ _ us hl => match us, hl with | [_, _], _ => rfl) ?_
  rintro f A outer s H0 vs Q E hr ⟨F0, o, l, v1, sF, hT0, iw, okl, rfl, i1, k⟩
  have nd : (["self", "letters", "rows", "total", "piece", "one"] : List Str).Nodup := by decide +kernel
  have hC := F.cls
  have hnP := nP_le okl
  have hz : 1000 ≤ sizeLine := by decide
  obtain ⟨dx, fs, ho, ⟨ve, he1, ie⟩, _⟩ := id iw
  obtain ⟨la, xs, eve, hla, dla⟩ := id ie
  subst eve
  have lenE : (earlierF l).length = nP l := by simp [earlierF]
  -- rows, total
  refine b_par2 (m := 2) (n := 3) rfl nd (goE pe_dnewK fun d hd => ?_)
  have lay : Adv T F0 H0 F0 (upd H0 d (.dK [])) := Adv.lay sF hd
  refine ed_int (T := T) F0 _ (.refl lay.sub) _ fun u F1 H1' a1' eu q hq => ?_
  obtain rfl : u = .int 1 := eu
  generalize hH1 : upd H1' q (.tup [V.ref d, V.int 1]) = H1
  have a1 : Adv T F0 (upd H0 d (.dK [])) F1 H1 := by rw [← hH1]; exact a1'.trans (Adv.lay a1'.sub hq)
  have A1 := lay.trans a1
  obtain ⟨f1, h1⟩ := a1.off (sF.offN hd) upd_same notTbl_dK
  have nwd : Nw H0 d := .of hd
  have rowsAt : ∀ {F' : Hp} {i : Nat}, Ext F0 F' → i < nP l → ∃ lr ys, xs[i]? = some (.ref lr) ∧ F' lr = some (.lst ys) ∧ ys.length = (earlierR l i).length := fun {F' i} ex hi => by
    obtain ⟨u, hu1, hu2⟩ := dla.at (i := i) (d := lstI (earlierR l i)) (by
      unfold earlierF
      rw [List.map_map, List.getElem?_map, List.getElem?_range hi]
      rfl)
    obtain ⟨lr, ys, e1, e2, e3⟩ := hu2
    exact ⟨lr, ys, by rw [hu1, e1], ex _ _ e2, by rw [e3.length, List.length_map]⟩
  have s1 : Sub F1 H1 := a1.sub
  have rowE : ∀ i < nP l, ((earlierF l).map lstI)[i]? = some (lstI (earlierR l i)) := fun i hi => by
    unfold earlierF
    rw [List.map_map, List.getElem?_map, List.getElem?_range hi]
    rfl
  have rows1 : ∀ i < nP l, ∃ lr ys, xs[i]? = some (V.ref lr) ∧ F1 lr = some (HO.lst ys) ∧ ys.length = (fun i => (earlierR l i).length) i := fun i hi => rowsAt A1.ff hi
  have hT1 := A1.tab hT0
  have ie1 := ie.up A1.ff
  have ho1 := A1.ff _ _ ho
  have hla1 := A1.ff _ _ hla
  have hnP2 : nP l ≤ 1000 := by omega
  have lenZ : (((earlierF l).map lstI).length : Int) = (nP l : Nat) := by rw [List.length_map, lenE]
  refine b_for (T := T) (enc := fun i : Nat => .int (i : Nat)) (xs := byLen (fun i => (earlierR l i).length) (nP l)) (bs := fun i => [(4, .int (i : Nat))]) rfl .never
    (wk_list (EF.ed (ef_srtk (T := T) (sc0 := defScope (inClass (top 48) 2)) (i := 0) (qn := (("Ways.ways" : Str) ++ ".<locals>.")) (len := fun i => (earlierR l i).length) (b_sorted g) (b_range g) (b_len g) (ED.to (ed_lenl (T := T) (b_len g) (ed_fld (ev_var (i := 0) rfl) (s1.at ho1) hC ne he1 ie1)) (by rw [lenZ])) hr TB rfl rfl hT hu hT1 rfl ho1 hC ne he1 hla1 rows1 hnP2 rfl)))
    a1.sub (fun x _ => gt_name nd)
    (fun i σ F' H' => ∃ x, σ = [some (.ref o), some v1, some (.ref d), some (.int (waysS l i).2), x, none] ∧ Adv T F0 H0 F' H' ∧ F' d = none ∧ ∃ kvs, H' d = some (.dK kvs) ∧ DL F' (waysS l i).1 kvs)
    (fun F2 H2 a2 => by
      obtain ⟨f2, h2⟩ := a2.off f1 h1 notTbl_dK
      exact ⟨none, rfl, A1.trans a2, f2, [], h2, rfl⟩) ?_ ?_
  · rintro i pc σ1 F2 H2 hx s2 x2 ⟨x, rfl, A2, f2, kvs, h2, dl⟩ us F3 H3 a3 ⟨u0, _, rfl, m0, rfl⟩ N hN
    obtain rfl : u0 = .int (pc : Nat) := m0
    have hpc : pc < nP l := byLen_lt (List.mem_of_getElem? hx)
    have A3 := A2.trans a3
    obtain ⟨f3, h3⟩ := a3.off f2 h2 notTbl_dK
    have dl3 := dl.up a3.ff
    obtain ⟨hit, hlen⟩ := waysS_ok l i
    have hil : i < nP l := by rw [← byLen_len (fun i => (earlierR l i).length) (nP l)]; exact (List.getElem?_eq_some_iff.mp hx).1
    have step := waysS_succ hx
    show rB _ _ _ [some (.ref o), some v1, some (.ref d), some (.int (waysS l i).2), some (.int (pc : Nat)), none] H3
    generalize htb : (waysS l i).1 = tb at *
    have hv : ∀ {n : Nat}, (valD tb (.inl (n : Int))).isSome = true → valD tb (.inl (n : Int)) = some (.int (vD tb n)) := fun {n} q => by
      obtain ⟨dd, e⟩ := Option.isSome_iff_exists.mp q
      obtain ⟨z, rfl⟩ := hit _ _ e
      rw [e]
      unfold vD
      rw [e]
    have er := earlierR_ok (l := l) (i := pc)
    generalize hval : (1 + (((earlierR l pc).filter fun o : Nat => (valD tb (.inl (o : Int))).isSome).map (vD tb)).sum : Int) = val
    refine b_when (T := T) (et_dni (ds := []) (k := .inl (pc : Int)) (room_u1 hr) (ed_var (i := 4) rfl rfl) (ed_var (i := 1) rfl (i1.up A3.ff))) a3.sub (fun _ F4 H4 a4 => ?_) (fun z => by simp [valD] at z)
    have A4 := A3.trans a4
    obtain ⟨f4, h4⟩ := a4.off f3 h3 notTbl_dK
    have dl4 := dl3.up a4.ff
    refine b_dput (T := T) (k := .inl (pc : Int)) (d := .int val) (room_u1 hr) a4.sub
      (ED.to (ed_add ed_int (ed_sum (ns := (((earlierR l pc).filter fun o : Nat => (valD tb (.inl (o : Int))).isSome).map (vD tb))) rfl (b_sum g) (EF.ed (EF.to (ef_lc1 (enc := fun n : Nat => PyData.int (n : Nat)) (xs := earlierR l pc) (bs := fun n => [(5, .int (n : Nat))]) (own := [("one", 5)]) rfl nd (by kernel_rfl)
        (wk_list (ed_ixl (ed_fld (ev_var (i := 0) rfl) (a4.sub.at (A4.ff _ _ ho)) hC ne he1 (ie.up A4.ff)) (ed_var (i := 4) rfl rfl) (atI_nat (i := pc) (rowE pc hpc)))) (fun _ _ i hi => hi) (fun n : Nat => (valD tb (.inl (n : Int))).isSome) (fun n => .int (vD tb n)) (fun s3 Hb C2 cl fp n hn => ⟨gt_name nd, fun F5 H5 a5 us hus => ?_⟩) (by omega)) (by rw [List.map_map]; rfl))))) (by rw [hval]))
      (ev_var (i := 2) rfl) (ed_var (i := 4) rfl rfl) f4 h4 dl4 (by rw [dl4.length]; omega) fun kvs' F5 H5 a5 f5 h5 dl5 s5 => ?_
    · obtain ⟨u1, _, rfl, m1, rfl⟩ := hus
      obtain ⟨f5, h5⟩ := a5.off f4 h4 notTbl_dK
      have dl5 := dl4.up a5.ff
      exact ⟨et_dinm (k := .inl (n : Int)) (room_u1 hr) (ed_var (i := 5) rfl m1) (ev_var (i := 2) rfl) h5 dl5, fun q => ed_dgetm (k := .inl (n : Int)) (room_u1 hr) (ev_var (i := 2) rfl) h5 dl5 (ed_var (i := 5) rfl m1) (hv q)⟩
    · have A5 := (A4.trans a5).mut nwd f5 h5 mut_dK (o' := .dK kvs')
      refine b_augI (T := T) (v := (waysS l i).2) (d := val) (i := 3) rfl (ed_dgetm (k := .inl (pc : Int)) (room_u1 hr) (ev_var (i := 2) rfl) upd_same dl5 (ed_var (i := 4) rfl rfl) (by rw [valD_put, if_pos rfl])) A5.sub (fun F6 H6 a6 => ?_) nd
      obtain ⟨f6, h6⟩ := a6.off f5 upd_same notTbl_dK
      have x36 := ((a3.ff.trans a4.ff).trans a5.ff).trans a6.ff
      refine rB_nil (rB_nil (hN _ _ _ a6.sub x36 ⟨some (.int (pc : Nat)), ?_, A5.trans a6, f6, kvs', h6, ?_⟩))
      · rw [step]
        unfold wStep
        dsimp only
        rw [htb, hval]
        rfl
      · rw [step]
        unfold wStep
        dsimp only
        rw [htb, hval]
        exact dl5.up a6.ff
  · rintro σ1 F2 H2 s2 x2 ⟨x, rfl, A2, f2, kvs, h2, dl⟩
    refine b_ret (T := T) (P := imP (.int (waysF l))) (ED.to (ed_var (d := .int (waysS l (byLen (fun i => (earlierR l i).length) (nP l)).length).2) (i := 3) rfl rfl) (by rw [byLen_len]; rfl)) s2 fun v F3 H3 a3 q => ?_
    exact k v F3 H3 ((A2.trans a3)) q
end
end Tw
set_option maxHeartbeats 1000000
namespace Tw
open PySem PySem.Spec PyProof.Rows L2 LamX
-- data in, data out, where the tables of the lambdas must stand
def spDT (T : List (Addr × Str)) (R : List PyData → PyData → Prop) : Sp := fun vs H Q _ => ∃ F ds d, Sub F H ∧ Tabs T H ∧ ImL F ds vs ∧ R ds d ∧ ∀ v F' H', Adv T F H F' H' → Im F' d v → Q v H'
theorem len_spDT {T : List (Addr × Str)} {R : List PyData → PyData → Prop} {n : Nat} (h : ∀ ds d, R ds d → ds.length = n) : ∀ vs H Q E, spDT T R vs H Q E → vs.length = n := fun vs H Q E ⟨F, ds, d, s, _, hv, r, k⟩ => by rw [hv.length, h ds d r]
section
variable {T : List (Addr × Str)} {X : Cx} {e : Expr} {es : List Expr} {σ : L2.St} {F H : Hp} {d : PyData} {ds : List PyData} {pos p : Pos}
theorem ed_callT {k j : Nat} {x : Str} {ps : List Str} {R : List PyData → PyData → Prop} (hT : Tabs T H) (c : Cl X.prog X.w X.K X.mg X.base k x ps (spDT T R)) (hr : Room j X.A) (ha : EDs T X (e :: es) σ F H ds) (r : R ds d)
    (hk : k ≤ j := by decide) (hg : Gl X x := by rfl) (hdb : (x == ("__debug__" : Str)) = false := by decide) (he : starEach (e :: es) X.env = (false, eval e X.env) :: starEach es X.env := by rfl) (hpl : (backTo pos (starEach es X.env)).any (·.1) = false := by rfl) : ED T X (.Call (.Name x p) (e :: es) [] pos) σ F H d :=
  ex_call c hr ha (fun vs F1 H1 a1 p Q q => ⟨F1, ds, d, a1.sub, a1.tab hT, p, r, q⟩) hk hg hdb he hpl
end
section
variable {P : Program} {w : World} {K : PySem.W.Frag} {mg : Str → Option Value} {base : Heap} {T : List (Addr × Str)} {CW : Addr}
def Rcount (ds : List PyData) (d : PyData) : Prop := ∃ p : Pr, okQ p ∧ ds = [prD p] ∧ d = .int (waysF (conts p))
theorem ok_count {x : Str} (F : Df K mg x "count_runs" (top 49)) (g : G K mg) (c48 : Mak P w K mg base 6 "Ways" CW ["self", "pair"] (spI T CW (Rways CW))) (cw : Met P w K mg base 1 CW "ways" ["self", "letters"] (spWays T CW)) : Cl P w K mg base 8 x ["pair"] (spDT T Rcount) := by
  refine cl_of (N := ["pair"]) F ⟨rfl, rfl, rfl, by decide +kernel, rfl, by decide +kernel, by decide +kernel⟩ (len_spDT fun ds d ⟨n, _, e, _⟩ => by rw [e]; rfl) (fun _ _ _ _ _ _ us hl => match us, hl with | [_], _ => rfl) ?_
  rintro f cdv A outer s H0 vs Q E hr ⟨F0, ds, d, sF, hT, hv, ⟨p, hp, e1, e2⟩, k⟩
  subst e1 e2
  obtain ⟨v1, _, rfl, i1, rfl⟩ := hv
  refine b_retR (rx_meth cw hr (EX.go (T := T) (ex_make c48 hr (ea_cons (ed_var (i := 0) rfl i1) ea_nil) ⟨p, hp, rfl, rfl⟩) (.refl sF) fun u F1 H1 a1 ⟨o, eu, iw⟩ => ?_))
  obtain ⟨dx, fs, ho, _, hw⟩ := id iw
  refine ⟨o, dx, fs, eu, a1.sub.at ho, hw, ?_⟩
  refine EA.go (T := T) (ea_cons (EN.ed en_nil) ea_nil) (.refl a1.sub) fun vs F2 H2 a2 hv => ?_
  obtain ⟨v, _, rfl, iv, rfl⟩ := hv
  exact ⟨F2, o, conts p, v, a2.sub, a2.tab (a1.tab hT), ⟨iw.ex.elim fun dx h => ⟨dx, h.elim fun fs h => ⟨fs, a2.ff _ _ h.1, ⟨h.2.1.elim fun v hv => ⟨v, hv.1, hv.2.up a2.ff⟩, h.2.2⟩⟩⟩⟩, ⟨hp.2, conts_wf⟩, rfl, iv, fun v F' H' a' h' => k v F' H' ((a1.trans a2).trans a') h'⟩
end
end Tw
namespace Tw
open PySem PySem.Spec PyProof.Rows L2 LamX
def edF (kv : V) (pl : Addr) : List (Str × V) := [("kept", kv), ("past", .ref pl)]
-- an editor as it stands beside the standing part: the pair kept, those past
structure EdAt (C x pl : Addr) (p : Pr) (xs : List V) (F H : Hp) : Prop where
  fx : F x = none
  ex : ∃ dx kv, H x = some (.ins C dx (edF kv pl)) ∧ Im F (prD p) kv
  fp : F pl = none
  hp : H pl = some (.lst xs)
theorem EdAt.step {T : List (Addr × Str)} {C x pl : Addr} {p : Pr} {xs : List V} {F H F' H' : Hp} (e : EdAt C x pl p xs F H) (a : Adv T F H F' H') : EdAt C x pl p xs F' H' := by
  obtain ⟨dx, kv, h1, h2⟩ := e.ex
  have q1 := a.off e.fx h1 notTbl_ins
  have q2 := a.off e.fp e.hp notTbl_lst
  exact ⟨q1.1, ⟨dx, kv, q1.2, h2.up a.ff⟩, q2.1, q2.2⟩
def spEd (T : List (Addr × Str)) (C : Addr) (R : Pr → Nat → PyData → Prop) : Sp := fun vs H Q _ => ∃ F x pl p xs d, Sub F H ∧ Tabs T H ∧ EdAt C x pl p xs F H ∧ okQ p ∧ vs = [.ref x] ∧ R p xs.length d ∧ ∀ v F' H', Adv T F H F' H' → Im F' d v → Q v H'
section
variable {P : Program} {w : World} {K : PySem.W.Frag} {mg : Str → Option Value} {base : Heap} {T : List (Addr × Str)} {CE : Addr}
theorem ed_kept {X : Cx} {σ : L2.St} {F H F0 H0 : Hp} {x pl : Addr} {p : Pr} {xs : List V} {a : Expr} {pos : Pos} (nk : NoAttr X.K CE "kept") (hC : Cls X.K CE) (e : EdAt CE x pl p xs F H) (ha : EV T X a σ F H (.ref x)) (hb : attributeBase a "kept" X.env (eval a X.env) = eval a X.env := by rfl) : ED T X (.Attribute a "kept" pos) σ F H (prD p) := by
  obtain ⟨dx, kv, h1, h2⟩ := e.ex
  exact ed_fld ha h1 hC nk rfl h2 (hb := hb)
theorem ok_pair (F : CM K CE "pair" "Editor.pair" (inClass (top 59) 9)) (nk : NoAttr K CE "kept") : Met P w K mg base 1 CE "pair" ["self"] (spEd T CE fun p _ d => d = prD p) := by
  refine met_of (N := ["self"]) F ⟨rfl, rfl, rfl, by decide +kernel, rfl, by decide +kernel, by decide +kernel⟩ (fun vs H Q E ⟨F, x, pl, p, xs, d, _, _, _, _, e, _⟩ => by rw [e]; rfl) (fun _ _ _ _ _ _ us hl => match us, hl with | [_], _ => rfl) ?_
  rintro f cdv A outer s H0 vs Q E hr ⟨F0, x, pl, p, xs, d, sF, hT, ea, hp, rfl, rfl, k⟩
  exact b_ret (T := T) (ed_kept nk F.cls ea (F0 := F0) (H0 := H0) (ev_var (i := 0) rfl)) sF k
theorem ok_back (F : CM K CE "steps_back" "Editor.steps_back" (inClass (top 59) 8)) (g : G K mg) (np : NoAttr K CE "past") : Met P w K mg base 1 CE "steps_back" ["self"] (spEd T CE fun _ n d => d = .int (n : Nat)) := by
  refine met_of (N := ["self"]) F ⟨rfl, rfl, rfl, by decide +kernel, rfl, by decide +kernel, by decide +kernel⟩ (fun vs H Q E ⟨F, x, pl, p, xs, d, _, _, _, _, e, _⟩ => by rw [e]; rfl) (fun _ _ _ _ _ _ us hl => match us, hl with | [_], _ => rfl) ?_
  rintro f cdv A outer s H0 vs Q E hr ⟨F0, x, pl, p, xs, d, sF, hT, ea, hp, rfl, rfl, k⟩
  obtain ⟨dx, kv, h1, h2⟩ := ea.ex
  exact b_ret (T := T) (ed_lenm (b_len g) (ev_fld (ev_var (i := 0) rfl) h1 F.cls np rfl) ea.hp) sF k
theorem ok_edlen (F : CM K CE "__len__" "Editor.__len__" (inClass (top 59) 2)) (g : G K mg) (nk : NoAttr K CE "kept") : Met P w K mg base 1 CE "__len__" ["self"] (spEd T CE fun p _ d => d = .int ((p.1.length + p.2.length : Nat) : Int)) := by
  refine met_of (N := ["self"]) F ⟨rfl, rfl, rfl, by decide +kernel, rfl, by decide +kernel, by decide +kernel⟩ (fun vs H Q E ⟨F, x, pl, p, xs, d, _, _, _, _, e, _⟩ => by rw [e]; rfl) (fun _ _ _ _ _ _ us hl => match us, hl with | [_], _ => rfl) ?_
  rintro f cdv A outer s H0 vs Q E hr ⟨F0, x, pl, p, xs, d, sF, hT, ea, hp, rfl, rfl, k⟩
  have h40 := (isThr_keep hp.1.2.2.1).1
  have h40' := (isThr_keep hp.1.2.2.2).1
  have hz : 80 ≤ sizeLine := by decide
  exact b_ret (T := T) (ED.to (ed_lent (b_len g) (ed_addt (xs := p.1.map stD) (ys := p.2.map stD) (ed_ixt (ed_kept nk F.cls ea (F0 := F0) (H0 := H0) (ev_var (i := 0) rfl)) ed_int rfl) (ed_ixt (ed_kept nk F.cls ea (F0 := F0) (H0 := H0) (ev_var (i := 0) rfl)) ed_int rfl) (by rw [List.length_map, List.length_map]; omega))) (by rw [List.length_append, List.length_map, List.length_map])) sF k
theorem ok_edcont (F : CM K CE "contests" "Editor.contests" (inClass (top 59) 10)) (nk : NoAttr K CE "kept") (c : Cl P w K mg base 3 "contests_contests" ["pair"] (spD T Rcontests)) : Met P w K mg base 4 CE "contests" ["self"] (spEd T CE fun p _ d => Rcontests [prD p] d) := by
  refine met_of (N := ["self"]) F ⟨rfl, rfl, rfl, by decide +kernel, rfl, by decide +kernel, by decide +kernel⟩ (fun vs H Q E ⟨F, x, pl, p, xs, d, _, _, _, _, e, _⟩ => by rw [e]; rfl) (fun _ _ _ _ _ _ us hl => match us, hl with | [_], _ => rfl) ?_
  rintro f cdv A outer s H0 vs Q E hr ⟨F0, x, pl, p, xs, d, sF, hT, ea, hp, rfl, r, k⟩
  exact b_ret (T := T) (ed_call c hr (ea_cons (ed_kept nk F.cls ea (F0 := F0) (H0 := H0) (ev_var (i := 0) rfl)) ea_nil) r) sF k
theorem ok_edpc (F : CM K CE "pieces" "Editor.pieces" (inClass (top 59) 11)) (nk : NoAttr K CE "kept") (c : Cl P w K mg base 6 "pieces_pieces" ["pair"] (spD T Rpieces)) : Met P w K mg base 7 CE "pieces" ["self"] (spEd T CE fun p _ d => Rpieces [prD p] d) := by
  refine met_of (N := ["self"]) F ⟨rfl, rfl, rfl, by decide +kernel, rfl, by decide +kernel, by decide +kernel⟩ (fun vs H Q E ⟨F, x, pl, p, xs, d, _, _, _, _, e, _⟩ => by rw [e]; rfl) (fun _ _ _ _ _ _ us hl => match us, hl with | [_], _ => rfl) ?_
  rintro f cdv A outer s H0 vs Q E hr ⟨F0, x, pl, p, xs, d, sF, hT, ea, hp, rfl, r, k⟩
  exact b_ret (T := T) (ed_call c hr (ea_cons (ed_kept nk F.cls ea (F0 := F0) (H0 := H0) (ev_var (i := 0) rfl)) ea_nil) r) sF k
theorem ok_edcr (F : CM K CE "count_runs" "Editor.count_runs" (inClass (top 59) 12)) (nk : NoAttr K CE "kept") (c : Cl P w K mg base 8 "count_runs_counting" ["pair"] (spDT T Rcount)) : Met P w K mg base 9 CE "count_runs" ["self"] (spEd T CE fun p _ d => Rcount [prD p] d) := by
  refine met_of (N := ["self"]) F ⟨rfl, rfl, rfl, by decide +kernel, rfl, by decide +kernel, by decide +kernel⟩ (fun vs H Q E ⟨F, x, pl, p, xs, d, _, _, _, _, e, _⟩ => by rw [e]; rfl) (fun _ _ _ _ _ _ us hl => match us, hl with | [_], _ => rfl) ?_
  rintro f cdv A outer s H0 vs Q E hr ⟨F0, x, pl, p, xs, d, sF, hT, ea, hp, rfl, r, k⟩
  exact b_ret (T := T) (ed_callT hT c hr (ea_cons (ed_kept nk F.cls ea (F0 := F0) (H0 := H0) (ev_var (i := 0) rfl)) ea_nil) r) sF k
theorem ok_edser (F : CM K CE "is_serial" "Editor.is_serial" (inClass (top 59) 13)) (nk : NoAttr K CE "kept") (c : Cl P w K mg base 7 "is_serial_pieces" ["pair"] (spD T Rserial)) : Met P w K mg base 8 CE "is_serial" ["self"] (spEd T CE fun p _ d => Rserial [prD p] d) := by
  refine met_of (N := ["self"]) F ⟨rfl, rfl, rfl, by decide +kernel, rfl, by decide +kernel, by decide +kernel⟩ (fun vs H Q E ⟨F, x, pl, p, xs, d, _, _, _, _, e, _⟩ => by rw [e]; rfl) (fun _ _ _ _ _ _ us hl => match us, hl with | [_], _ => rfl) ?_
  rintro f cdv A outer s H0 vs Q E hr ⟨F0, x, pl, p, xs, d, sF, hT, ea, hp, rfl, r, k⟩
  exact b_ret (T := T) (ed_call c hr (ea_cons (ed_kept nk F.cls ea (F0 := F0) (H0 := H0) (ev_var (i := 0) rfl)) ea_nil) r) sF k
theorem ok_eddl (F : CM K CE "deadlocks" "Editor.deadlocks" (inClass (top 59) 14)) (nk : NoAttr K CE "kept") (c : Cl P w K mg base 4 "deadlocks_states" ["pair"] (spD T Rdead)) : Met P w K mg base 5 CE "deadlocks" ["self"] (spEd T CE fun p _ d => Rdead [prD p] d) := by
  refine met_of (N := ["self"]) F ⟨rfl, rfl, rfl, by decide +kernel, rfl, by decide +kernel, by decide +kernel⟩ (fun vs H Q E ⟨F, x, pl, p, xs, d, _, _, _, _, e, _⟩ => by rw [e]; rfl) (fun _ _ _ _ _ _ us hl => match us, hl with | [_], _ => rfl) ?_
  rintro f cdv A outer s H0 vs Q E hr ⟨F0, x, pl, p, xs, d, sF, hT, ea, hp, rfl, r, k⟩
  exact b_ret (T := T) (ed_call c hr (ea_cons (ed_kept nk F.cls ea (F0 := F0) (H0 := H0) (ev_var (i := 0) rfl)) ea_nil) r) sF k
theorem ok_edrc (F : CM K CE "races" "Editor.races" (inClass (top 59) 15)) (nk : NoAttr K CE "kept") (c : Cl P w K mg base 7 "races_races" ["pair"] (spD T Rraces)) : Met P w K mg base 8 CE "races" ["self"] (spEd T CE fun p _ d => Rraces [prD p] d) := by
  refine met_of (N := ["self"]) F ⟨rfl, rfl, rfl, by decide +kernel, rfl, by decide +kernel, by decide +kernel⟩ (fun vs H Q E ⟨F, x, pl, p, xs, d, _, _, _, _, e, _⟩ => by rw [e]; rfl) (fun _ _ _ _ _ _ us hl => match us, hl with | [_], _ => rfl) ?_
  rintro f cdv A outer s H0 vs Q E hr ⟨F0, x, pl, p, xs, d, sF, hT, ea, hp, rfl, r, k⟩
  exact b_ret (T := T) (ed_call c hr (ea_cons (ed_kept nk F.cls ea (F0 := F0) (H0 := H0) (ev_var (i := 0) rfl)) ea_nil) r) sF k
end
end Tw
namespace Tw
open PySem PySem.Spec PyProof.Rows L2 LamX
/-! ### try with several clauses, some of which name the exception -/
-- a clause: its class, the slot of its name (if it has one), what its suite does
structure Clause where
  cls : Value
  at_ : Option Nat
  does : Addr → Value → Option Addr → TS
-- the ends of a named suite: the name goes
def endsN (i : Nat) (D : Ends) : Ends where
  nx := fun σ H => D.nx (σ.set i none) H
  rt := D.rt
  bk := fun σ H => D.bk (σ.set i none) H
  ct := fun σ H => D.ct (σ.set i none) H
def Clause.run (k : Clause) (a : Addr) (cls : Value) (d : Option Addr) (D : Ends) (σ : L2.St) (H : Hp) : Prop :=
  match k.at_ with
  | none => k.does a cls d D σ H
  | some i => k.does a cls d (endsN i D) (σ.set i (some (.ref a))) H
def wClauses (K : PySem.W.Frag) (Wo : WX) (D : Ends) : List Clause → WX
  | [] => Wo
  | k :: ks => fun cls d σ H => ∃ b, PySem.W.exmOne K cls k.cls = some b ∧ (b = true → ∀ a, H a = none → k.run a cls d D σ H) ∧ (b = false → wClauses K Wo D ks cls d σ H)
inductive ClausesOk (X : Cx) : List ExceptHandler → List Clause → Prop
  | nil : ClausesOk X [] []
  | bare {x : Str} {k : Clause} {st : Stmt} {sts : List Stmt} {p1 p2 : Pos} {hds : List ExceptHandler} {ks : List Clause} (names : Names X x k.cls) (no : k.at_ = none)
      (suite : ∀ (a : Addr) (oe : Obj) (cls : Value) (d : Option Addr) (pn : List (Addr × Obj)), Zc cls d oe → (∃ vs, oe.data = .fields vs) → PSs (X.suite a ((a, oe) :: pn)) (st :: sts) (k.does a cls d)) (r : ClausesOk X hds ks) : ClausesOk X (.ExceptHandler (some (.Name x p1)) none (st :: sts) p2 :: hds) (k :: ks)
  | named {x n : Str} {i : Nat} {k : Clause} {st : Stmt} {sts : List Stmt} {p1 p2 : Pos} {hds : List ExceptHandler} {ks : List Clause} (names : Names X x k.cls) (slot : k.at_ = some i) (hN : X.N.Nodup) (hi : X.N[i]? = some n) (hl : X.env.kindOf n = some .local)
      (suite : ∀ (a : Addr) (oe : Obj) (cls : Value) (d : Option Addr) (pn : List (Addr × Obj)), Zc cls d oe → (∃ vs, oe.data = .fields vs) → PSs (X.suite a ((a, oe) :: pn)) (st :: sts) (k.does a cls d)) (r : ClausesOk X hds ks) : ClausesOk X (.ExceptHandler (some (.Name x p1)) (some n) (st :: sts) p2 :: hds) (k :: ks)
section
variable {X : Cx} {body : List Stmt} {hd : ExceptHandler} {hds : List ExceptHandler} {ks : List Clause} {pos : Pos} {tb : WX → TS} {Wo : WX}
theorem ps_clauses (hs : X.stack = X.env :: X.outer) (hf : X.env.frame = some X.env.locals) (tk : Takes X Wo)
    (hb : ∀ (W : WX) (pn : List (Addr × Obj)) (xe : Value → Shared → Prop), Takes (X.tr pn xe) W → PassesOwn (model X.prog X.w) X.A X.env xe → PSs (X.tr pn xe) body (tb W))
    (ok : ClausesOk X (hd :: hds) ks) : PS X (.Try body (hd :: hds) [] [] pos) (fun D σ H => tb (wClauses X.K Wo D ks) D σ H) := by
  constructor
  intro pins s σ H D I want
  have iok := I.ok
  have fr : X.A.frames = some (X.env :: X.outer) := iok.frames.trans (congrArg some hs)
  let look : Value → Shared → Prop := fun e s1 => wpAny (model X.prog X.w) X.A (noteFrame e X.env) (fun _ s2 => wpAny (model X.prog X.w) X.A (setFlight e none) (fun _ s3 => wpAny (model X.prog X.w) X.A (handleBy e X.env (hd :: hds)) (SP X pins D) X.xe s3) X.xe s2) X.xe s1
  refine wpAny_Try_except (wpAny_mono ((hb (wClauses X.K Wo D ks) (X.pn ++ pins) look (fun u s' got => ?_) PassesOwn.looking).run [] s σ H D (I.toTry _) want) (fun fl s1 sp => ?_) fun _ _ z => z)
  · obtain ⟨a, B, sI, pins', σ', H', cls, d, rfl, J', nb, up, sky, na, os, ag, w0⟩ := got
    have J : Inv X pins σ' H' sI := J'.ofTry iok
    refine Sky.land Zc.steady fr hf (by rw [← hs]; exact sky) fun g3 fly3 up3 => ?_
    have J3 : Inv X pins σ' H' { s' with heap := g3 } := J.landed nb fly3.1 (up.trans up3) os ag
    obtain ⟨o3, v3, get3, zc3, dat3⟩ := fly3.there
    have out : a ∉ frs (X.env :: X.outer) := fun hm => by
      obtain ⟨_, o', get', not'⟩ := fly3.2.2.1.mem hm
      rw [get3] at get'
      cases get'
      exact not' _ dat3
    have offL : a ≠ X.env.locals := fun z => out (List.mem_filterMap.mpr ⟨X.env, List.mem_cons_self, by rw [hf, z]⟩)
    have offF : a ∉ X.fs := fun hm => by
      obtain ⟨e1, he1, q1⟩ := List.mem_filterMap.mp hm
      exact out (List.mem_filterMap.mpr ⟨e1, List.mem_cons_of_mem _ he1, q1⟩)
    have S3 := J3.suite get3 dat3 na offL offF
    have test : ∀ {x : Str} {c : Value} {np : Pos} {Q E : Value → Shared → Prop}, Names X x c → Q c { s' with heap := g3 } → wpAny (model X.prog X.w) (X.A.mark (some (.ref a))) (eval (.Name x np) X.env) Q E { s' with heap := g3 } := fun {x c np Q E} nm q => by
      obtain ⟨hg, hdb, hm | ⟨hm, hv, hn⟩⟩ := nm
      · exact ld_glob (X := X.suite a ((a, o3) :: (X.pn ++ pins))) S3 hg hm q hdb
      · exact ld_blt (X := X.suite a ((a, o3) :: (X.pn ++ pins))) S3 hg hm hv q hn hdb
    have ty : PySem.W.Looks (model X.prog X.w) g3 (typeOf (.ref a)) cls := fun A Q E s k q => wpAny_typeOf_ref (k _ _ get3) (by rw [zc3.1]; exact q)
    suffices go : ∀ {l : List ExceptHandler} {m : List Clause}, ClausesOk X l m → wClauses X.K Wo D m cls d σ' H' → wpAny (model X.prog X.w) X.A (handleBy (.ref a) X.env l) (SP X pins D) X.xe { s' with heap := g3 } from go ok w0
    intro l m ck
    induction ck with
    | nil =>
      intro w1
      refine wpAny_handleBy_nil ?_
      obtain ⟨k1, k2, k3, oe, vs, T, oT, ts', he, hz, hd5, h1, hr⟩ := id fly3
      unfold PySem.passOn
      refine wpAny_bind (wpAny_field he hd5 h1 ?_)
      rw [if_neg (show ¬ ((Value.ref T == Value.none) = true) from by simp)]
      have last : wpAny (model X.prog X.w) X.A (setFlight (.ref a) X.env.frame) (fun _ s4 => wpAny (model X.prog X.w) X.A (throw (.ref a) : Sem Flow) (SP X pins D) X.xe s4) X.xe { s' with heap := g3 } := by
        rw [hf]
        exact HandSPX.setFlight_upZ fly3 fun g4 fly4 up4 => wpAny_throw (tk _ _ ⟨a, B, sI, pins, σ', H', cls, d, rfl, J, nb, (up.trans up3).trans up4, .inr (.inr (by rw [hs]; exact fly4)), na, os, ag, w1⟩)
      first
        | exact wpAny_bind (wpAny_pure (wpAny_bind last))
        | exact wpAny_bind last
    | bare names no suite r ih =>
      rintro ⟨b, eb, yes, no2⟩
      refine wpAny_handleBy_cons (codeAny_handlers_test ?_) (by intro q; cases q)
      refine test names ((PySem.W.exm_one (M := model X.prog X.w) J3.kIn ty eb).here ?_)
      cases b with
      | false => exact ih (no2 rfl)
      | true =>
        refine codeAny_handlers_suite (HandSPX.lands_againZ fly3 fun g4 fly4 up4 => ?_)
        have J4 : Inv X pins σ' H' { s' with heap := g4 } := J.landed nb fly4.1 ((up.trans up3).trans up4) os ag
        obtain ⟨o4, v4, get4, zc4, dat4⟩ := fly4.there
        have go := yes rfl a na
        unfold Clause.run at go
        rw [no] at go
        refine wpAny_mono ((suite a o4 cls d (X.pn ++ pins) zc4 ⟨_, dat4⟩).run [] _ _ H' _ (J4.suite get4 dat4 na offL offF) go) (fun fl s6 sp => ?_) fun _ _ z => z.elim
        cases fl with
        | ret u =>
          obtain ⟨v6, σ6, H6, S6, r6, q6⟩ := sp
          exact ⟨v6, σ6, H6, S6.unsuite iok, r6, q6⟩
        | _ =>
          obtain ⟨σ6, H6, S6, q6⟩ := sp
          exact ⟨σ6, H6, S6.unsuite iok, q6⟩
    | @named x n i k st sts p1 p2 hds2 ks2 names slot hN hi hl suite r ih =>
      rintro ⟨b, eb, yes, no2⟩
      refine wpAny_handleBy_cons (codeAny_handlers_test ?_) (by intro q; cases q)
      refine test names ((PySem.W.exm_one (M := model X.prog X.w) J3.kIn ty eb).here ?_)
      cases b with
      | false => exact ih (no2 rfl)
      | true =>
        refine codeAny_handlers_suite_as (HandSPX.lands_againZ fly3 fun g4 fly4 up4 => ?_)
        have J4 : Inv X pins σ' H' { s' with heap := g4 } := J.landed nb fly4.1 ((up.trans up3).trans up4) os ag
        obtain ⟨o4, v4, get4, zc4, dat4⟩ := fly4.there
        have go := yes rfl a na
        unfold Clause.run at go
        rw [slot] at go
        refine store_ok (X := X.suite a ((a, o4) :: (X.pn ++ pins))) (v := .ref a) (J4.suite get4 dat4 na offL offF) hN hi (.inl hl) rfl (fun s5 S5 => ?_) (.inr hl)
        refine wpAny_mono ((suite a o4 cls d (X.pn ++ pins) zc4 ⟨_, dat4⟩).run [] s5 _ H' _ S5 go) (fun fl s6 sp => ?_) fun _ _ z => z.elim
        have gone : ∀ {σ6 : L2.St} {H6 : Hp} {Q : Shared → Prop}, Inv (X.suite a ((a, o4) :: (X.pn ++ pins))) [] σ6 H6 s6 → (∀ s7, Inv X pins (σ6.set i none) H6 s7 → Q s7) → wpAny (model X.prog X.w) X.A (do bindName X.env n .none; unbindBehindTheSuite X.env n p2) (fun _ s7 => Q s7) X.xe s6 := fun S6 hq => gone_ok (S6.unsuite iok) hN hi hl hq
        cases fl with
        | ret u =>
          obtain ⟨v6, σ6, H6, S6, r6, q6⟩ := sp
          exact gone S6 fun s7 J7 => ⟨v6, _, _, J7, r6, q6⟩
        | _ =>
          obtain ⟨σ6, H6, S6, q6⟩ := sp
          exact gone S6 fun s7 J7 => ⟨_, _, J7, q6⟩
  · cases fl with
    | next =>
      obtain ⟨σ', H', J', q⟩ := sp
      exact wpAny_execs_nil ⟨σ', H', J'.ofTry iok, q⟩
    | ret u =>
      obtain ⟨v, σ', H', J', r, q⟩ := sp
      exact ⟨v, σ', H', J'.ofTry iok, r, q⟩
    | _ =>
      obtain ⟨σ', H', J', q⟩ := sp
      exact ⟨σ', H', J'.ofTry iok, q⟩
end
end Tw
namespace Tw
open PySem PySem.Spec PyProof.Rows L2 LamX
/-! ### the program's exceptions -/
structure TErr (K : PySem.W.Frag) (mg : Str → Option Value) (C : Addr) : Prop where
  gl : mg "ThreadError" = some (.ref C)
  rd : PySem.W.readsIn K C (.type "type") = true
  sp : PySem.W.specialIn K (.ref C) "__getattribute__" = some (some (.builtin "type.__getattribute__"))
  fi : PySem.W.findCls K (.ref C) (.type "type") "__init__" = some (.val (.builtin "ValueError.__init__"))
section
variable {X : Cx} {o e : Expr} {es : List Expr} {to te : TE} {ta : TA} {f : Str} {p p' p1 p2 pos : Pos} {C : Addr}
-- ThreadError.__init__(self, ..): what the base has
theorem pe_teinit {pl : Sem Bool} (t : TErr X.K X.mg C) (ha : PA X (e :: es) ta) (hg : Gl X "ThreadError" := by rfl)
    (hc : eval (.Call (.Attribute (.Name "ThreadError" p1) "__init__" p2) (e :: es) [] pos) X.env = (do
      let ov ← eval (.Name "ThreadError" p1) X.env
      standAt p2.atName
      let (g, first) ← holding [ov] (getMethod ov "__init__" pl)
      callWith pos g first (backTo pos (starEach (e :: es) X.env)) (backToKw pos (keywordEach [] X.env))) := by rfl)
    (he : starEach (e :: es) X.env = (false, eval e X.env) :: starEach es X.env := by rfl) (hpl : (backTo pos (starEach es X.env)).any (·.1) = false := by rfl) :
    PE X (.Call (.Attribute (.Name "ThreadError" p1) "__init__" p2) (e :: es) [] pos) (tVeI X.K ta) := by
  constructor
  intro pins s σ H Q I h
  refine PySem.W.methodCall_KW (ld_glob I hg t.gl (PySem.W.method_cls I.kIn t.sp (PySem.W.cls_value I.kIn t.rd t.fi (by decide +kernel) ?_)) (by decide)) hc
  show wpAny _ _ (callWith pos (Value.builtin "ValueError.__init__") [] (backTo pos (starEach (e :: es) X.env)) []) _ _ _
  refine PyProof.Rows.callWith_method1 (thn (ha.run pos pins _ σ H _ (I.tok _) h) fun us s1 ⟨vs, H1, I1, r1, a, C1, ws, ev, hl, TT, ea, q⟩ => ?_) he hpl
  subst ev
  cases r1 with
  | @cons _ u0 _ ur ra rw' =>
    obtain rfl : u0 = Value.ref a := ra
    exact oinit_ok TT I1 ea (by rw [← Paired.length rw']; exact Nat.le_trans hl (by decide)) fun s' J => ⟨.non, H1, J, rfl, q⟩
end
end Tw
namespace Tw
open PySem PySem.Spec PyProof.Rows L2 LamX
-- an exception class of the program, its __init__
structure XC (K : PySem.W.Frag) (mg : Str → Option Value) (x qual : Str) (C : Addr) (st : Stmt) : Prop where
  gl : mg x = some (.ref C)
  oex : OexC K C
  ex : ∃ f fd, FunD K "__init__" qual (defArgs st) (defBody st) (defScope st) [] [] f fd ∧ PySem.W.findIn K (.ref C) "__init__" = some (some (.ref f)) ∧ PySem.W.typeIn K (.ref f) = some (.type "function")
structure XMak (P : Program) (w : World) (K : PySem.W.Frag) (mg : Str → Option Value) (base : Heap) (k : Nat) (x : Str) (C : Addr) (ps : List Str) (sp : Sp) : Prop where
  gl : mg x = some (.ref C)
  oex : OexC K C
  ex : ∃ f fd, PySem.W.findIn K (.ref C) "__init__" = some (some (.ref f)) ∧ PySem.W.typeIn K (.ref f) = some (.type "function") ∧ FnOk P w K mg base L2.CX0 k f fd ps sp ∧ Binds K fd ps []
section
variable {P : Program} {w : World} {K : PySem.W.Frag} {mg : Str → Option Value} {base : Heap} {C CT : Addr}
theorem xmak_of {x qual : Str} {st : Stmt} {N ps : List Str} {k : Nat} {sp : Sp} (h : XC K mg x qual C st) (S : FnScope N ps (defScope st)) (len : ∀ vs H Q E, sp vs H Q E → vs.length = ps.length)
    (hbd : ∀ (kV doc pm : Value) (an : Option Addr) (cdv ct : Value) (us : List Value), us.length = ps.length → bindArgs (PySem.W.fnOf "__init__" qual (defArgs st) (defBody st) (defScope st) .none kV doc pm an cdv ct) ⟨us, []⟩ = pure (ps.zip us))
    (hbody : ∀ (f : Addr) (cdv : Value) (A : Around) (outer : List Env) (s : Shared) (H : Hp) (vs : List V) (Q : VK) (E : XK), Room k (A.deeper (envOfC qual (defScope st) s.heap.objs.size f cdv)) → sp vs H Q E →
      rB (cxOf L2.CX0 P w K mg base N qual (defScope st) f cdv A outer s H E).nox (defBody st) { nx := fun _ H' => Q .non H', rt := Q } (start N vs) H) : XMak P w K mg base (k + 1) x C ps sp := by
  obtain ⟨f, fd, F, h1, h2⟩ := h.ex
  exact ⟨h.gl, h.oex, f, fd, h1, h2, F.ok S len fun cdv A outer s H vs Q E hr h => ⟨_, PSs.nox pss_r, hbody f cdv A outer s H vs Q E hr h⟩, binds_of F hbd⟩
def spBad (C : Addr) : Sp := fun vs H Q _ => ∃ a v, vs = [.ref a, v] ∧ H a = some (exo a C none) ∧ ∀ dx, H dx = none → dx ≠ a → Q .non (upd (upd H dx (exd dx [("value", v)])) a (exo a C (some dx)))
theorem ok_badpair (F : XC K mg "BadPair" "BadPair.__init__" C (inClass (top 3) 0)) (t : TErr K mg CT) (nv : PySem.W.findIn K (.ref C) "value" = some none) : XMak P w K mg base 1 "BadPair" C ["self", "value"] (spBad C) := by
  refine xmak_of (N := ["self", "value"]) F ⟨rfl, rfl, rfl, by decide +kernel, rfl, by decide +kernel, by decide +kernel⟩ (fun vs H Q E ⟨a, v, e, _⟩ => by rw [e]; rfl) (fun _ _ _ _ _ _ us hl => match us, hl with | [_, _], _ => rfl) ?_
  rintro f cdv A outer s H0 vs Q E hr ⟨a, v, rfl, ha, k⟩
  refine b_exprR (goE (pe_teinit t (pa_cons (pe_var (i := 0) rfl (.inl rfl)) (pa_cons pe_str pa_nil))) ⟨.ref a, rfl, a, C, [.str "not a pair"], rfl, by decide, F.oex, ha, ?_⟩)
  refine goC (ps_ost (pe_var (i := 0) rfl (.inl rfl)) (pe_var (i := 1) rfl (.inl rfl))) ⟨v, rfl, .ref a, rfl, a, C, rfl, F.oex, nv, .inl ⟨ha, fun dx h1 h2 => rB_nil (k dx h1 h2)⟩⟩
def spNone (C : Addr) : Sp := fun vs H Q _ => ∃ a, vs = [.ref a] ∧ H a = some (exo a C none) ∧ Q .non H
theorem ok_nothing (F : XC K mg "NothingToUndo" "NothingToUndo.__init__" C (inClass (top 7) 0)) (t : TErr K mg CT) : XMak P w K mg base 1 "NothingToUndo" C ["self"] (spNone C) := by
  refine xmak_of (N := ["self"]) F ⟨rfl, rfl, rfl, by decide +kernel, rfl, by decide +kernel, by decide +kernel⟩ (fun vs H Q E ⟨a, e, _⟩ => by rw [e]; rfl) (fun _ _ _ _ _ _ us hl => match us, hl with | [_], _ => rfl) ?_
  rintro f cdv A outer s H0 vs Q E hr ⟨a, rfl, ha, k⟩
  exact b_exprR (goE (pe_teinit t (pa_cons (pe_var (i := 0) rfl (.inl rfl)) (pa_cons pe_str pa_nil))) ⟨.ref a, rfl, a, C, [.str "nothing to undo"], rfl, by decide, F.oex, ha, rB_nil k⟩)
end
end Tw
namespace Tw
open PySem PySem.Spec PyProof.Rows L2 LamX
/-! ### C(), an exception whose instance keeps no dict -/
section
variable {X : Cx} {pins : List (Addr × Obj)} {σ : L2.St} {H1 H2 : Hp} {s1 s2 : Shared} {g : Heap} {a C : Addr}
theorem bare_end (I : Inv X pins σ H1 s1) (big : s1.heap.objs.size ≤ a) (kk : ∀ b o, s1.heap.get? b = some o → g.get? b = some o) (un : Un (frs X.stack) [] (upd H1 a (exo a C none)) H2 g s2.heap) (ok : HOk X.prog X.w H2 s2.heap) (os : s2.os = s1.os) (br : AllBare s2.gens)
    (at2 : H2 a = some (exo a C none)) {Q : XK} (T : Raises X (.ref C)) (q : Q (.ref C) none (del H2 a)) : MkP X pins σ Q (.ref a) s2 := by
  obtain ⟨t0, obj⟩ := exo_at ok at2
  have new : H1 a = none := I.hok.fresh big
  obtain ⟨G, G1, G2⟩ := restrict s2.heap fun b => !decide (b = a)
  have same : ∀ b, b ≠ a → G.get? b = s2.heap.get? b := fun b hb => G1 b (by simp [hb])
  have lost : G.get? a = none := G2 a (by simp)
  have old : ∀ {b : Addr} {o : Obj}, s1.heap.get? b = some o → b ≠ a := fun z e => absurd (Nat.lt_of_lt_of_le (Heap.lt_size z) big) (by rw [e]; exact Nat.lt_irrefl _)
  have off : ∀ {b : Addr}, b ≠ a → H1 b = none → upd H1 a (exo a C none) b = none := fun hb n => (upd_ne hb).trans n
  have dif : ∀ {b : Addr} {u : HO}, H1 b = some u → b ≠ a := fun z => ne_of_none z new
  have U : Un (frs X.stack) [] H1 (del H2 a) s1.heap G := ⟨fun b o z n hf hx => (same b (old z)).trans (un.keep b o (kk b o z) (off (old z) n) hf hx),
    fun b o z n hf hx => by obtain ⟨sl, e⟩ := un.slot b o (kk b o z) (off (old z) n) hf hx; exact ⟨sl, (same b (old z)).trans e⟩,
    fun b o z n hx => (del_ne (old z)).trans (un.free b o (kk b o z) (off (old z) n) hx),
    fun b o z hx => by obtain ⟨o', e⟩ := un.there b o (kk b o z) hx; exact ⟨o', (same b (old z)).trans e⟩,
    fun b xs z => (del_ne (dif z)).trans (un.tups b xs ((upd_ne (dif z)).trans z)), fun b o v z => (del_ne (dif z)).trans (un.frzs b o v ((upd_ne (dif z)).trans z)),
    fun b ps z => by obtain ⟨more, e⟩ := un.tbls b ps ((upd_ne (dif z)).trans z); exact ⟨more, (del_ne (dif z)).trans e⟩⟩
  have ok3 : HOk X.prog X.w (del H2 a) G := fun b o z => by
    have nb : b ≠ a := fun e => by rw [e, del_same] at z; cases z
    rw [del_ne nb] at z
    have noa : ∀ {c : Addr}, H2 c = some (.own b) → c ≠ a := fun hc => at_ne at2 hc exo_own
    refine (ok b o z).stay (fun c v hc y => (same c ?_).trans y) (fun c hc => (del_ne (noa hc)).trans hc) fun c xs hc => (del_ne (at_ne at2 hc exo_tup)).trans hc
    rcases hc with hc | hc
    · rw [hc]; exact nb
    · exact noa hc
  obtain ⟨h2, g2, d2, t2, o2⟩ := s2
  have J : Inv X pins σ (del H2 a) ⟨G, g2, d2, t2, o2⟩ := I.call' (ch := []) os U ok3 br fun b z => absurd z (by simp)
  refine ⟨a, _, _, ⟨G, g2, d2, t2, o2⟩, _, .ref C, none, rfl, J, fun b o z => ?_, lost, obj, ⟨rfl, rfl⟩, rfl, rfl, del_same, rfl, br, T, q⟩
  by_cases e : b = a
  · rw [e, lost] at z; cases z
  · exact (same b e).symm.trans z
theorem pmk_bare {x : Str} {k n : Nat} {p pos : Pos} {ps : List Str} {sp : Sp} (c : XMak X.prog X.w X.K X.mg X.base k x C ps sp) (hr : Room n X.A) (hk : k + 1 ≤ n) (hg : Gl X x) (hdb : (x == ("__debug__" : Str)) = false := by decide) :
    PMk X (.Call (.Name x p) [] [] pos) (fun _ H1 Q => ∀ a, H1 a = none → sp [.ref a] (upd H1 a (exo a C none)) (fun v H2 => v = .non ∧ H2 a = some (exo a C none) ∧ Q (.ref C) none (del H2 a)) (fun _ _ _ => False)) := by
  intro pins s σ H Q I h
  obtain ⟨fI, fd, iC, tI, F1, hb⟩ := c.ex
  have T := c.oex
  obtain ⟨nm, q, N, bs, bm, sn, sub, ab, col, dd, k0, k1, k2, k3, k5, hC, hbm⟩ := T.cls
  refine wpAny_Call_Name_kw (ld_glob I hg c.gl (PySem.W.callWith_K0 I.kIn T.kC ?_) hdb)
  show wpAny _ _ (call (.ref C) []) _ _ _
  obtain ⟨hp, gs, dr, tk, os⟩ := s
  have big : hp.objs.size ≤ hp.objs.size + 1 := Nat.le_succ _
  have want := h (hp.objs.size + 1) (I.hok.fresh big)
  have kk : ∀ b o, hp.get? b = some o → ((hp.push (PySem.W.kdv_tup [])).push (PySem.HandSPX.excO C hp.objs.size)).get? b = some o := fun b o e => Heap.get?_push_of_some _ (Heap.get?_push_of_some _ e)
  have made : ((hp.push (PySem.W.kdv_tup [])).push (PySem.HandSPX.excO C hp.objs.size)).get? (hp.objs.size + 1) = some (PySem.HandSPX.excO C hp.objs.size) := by heap_get
  have I2 : Inv X pins σ (upd H (hp.objs.size + 1) (exo (hp.objs.size + 1) C none)) ⟨(hp.push (PySem.W.kdv_tup [])).push (PySem.HandSPX.excO C hp.objs.size), gs, dr, tk, os⟩ := I.laid (t' := tk) kk big (exo_ok made)
  have r2 : Vals [V.ref (hp.objs.size + 1)] [Value.ref (hp.objs.size + 1)] := .cons rfl .nil
  have hl : [Value.ref (hp.objs.size + 1)].length = ps.length := by
    have e := r2.length
    rw [F1.len _ _ _ _ want] at e
    exact e.symm
  have room := hr.mono hk
  refine wpAny_call (PySem.HandSPX.call_own F.excBase_ValueError (fun Y => PySem.HandSPX.refsVE_contains Y bm hbm) (I.kIn _ _ hC) (PySem.W.looks_findIn I.kIn iC) (fun self => PySem.W.bind_fn I.kIn self tI) (Nat.zero_le _)
    (codeAny_mono (F1.run _ X.stack _ _ ⟨[Value.ref (hp.objs.size + 1)], []⟩ [Value.ref (hp.objs.size + 1)] _ _ (fun _ _ _ => False) (room.make C [] []) (I2.env0.make C [] []) (by simpa using hb _ [Value.ref (hp.objs.size + 1)] I2.kIn (by simpa using hl)) r2 want) fun r s' got => ?_))
  cases r with
  | error er => exact got.elim
  | ok fl =>
    cases fl with
    | ret u =>
      obtain ⟨v, H2, os2, bare2, un2, hok2, rv, ev, at2, q2⟩ := got
      subst ev
      exact ⟨rv, bare_end I big kk un2 hok2 os2 bare2 at2 (raises_own T.exC T.tyC) q2⟩
    | _ => exact False.elim got
end
end Tw
namespace Tw
open PySem PySem.Spec PyProof.Rows L2 LamX
/-! ### what a run may do that writes to the objects at L -/
structure AdvM (T : List (Addr × Str)) (L : List Addr) (F H F' H' : Hp) : Prop where
  ff : Ext F F'
  sub : Sub F' H'
  hh : ∀ a o, H a = some o → NotTbl o → a ∉ L → H' a = some o
  sep : ∀ a o, F' a = some o → F a = some o ∨ (∀ u, H a = some u → ∃ ps, u = .tbl ps) ∨ ∃ xs, o = .tup xs ∧ H a = some (.tup xs)
  tab : Tabs T H → Tabs T H'
  -- what is written stays beside the standing part
  out : ∀ a, a ∈ L → F a = none → (∃ o, H a = some o ∧ NotTbl o ∧ ∀ xs, o ≠ .tup xs) → F' a = none ∧ ∃ o, H' a = some o ∧ NotTbl o ∧ ∀ xs, o ≠ .tup xs
variable {T : List (Addr × Str)} {L L' : List Addr} {F H F' H' F1 H1 F2 H2 : Hp}
theorem AdvM.of (a : Adv T F H F' H') : AdvM T L F H F' H' := ⟨a.ff, a.sub, fun x o e n _ => a.hh x o e n, a.sep, a.tab, fun x _ f ⟨o, e, n, nt⟩ => ⟨(a.off f e n nt).1, o, (a.off f e n nt).2, n, nt⟩⟩
theorem AdvM.refl (s : Sub F H) : AdvM T L F H F H := .of (.refl s)
theorem AdvM.off (a : AdvM T L F H F' H') {l : Addr} {o : HO} (hF : F l = none) (hl : H l = some o) (n : NotTbl o) (hL : l ∉ L) (nt : ∀ xs, o ≠ .tup xs := by exact fun _ z => nomatch z) : F' l = none ∧ H' l = some o := by
  refine ⟨?_, a.hh l o hl n hL⟩
  cases q : F' l with
  | none => rfl
  | some u =>
    rcases a.sep l u q with z | z | ⟨xs, z1, z2⟩
    · rw [hF] at z; cases z
    · obtain ⟨ps, e⟩ := z o hl
      exact absurd e (n ps)
    · rw [hl] at z2
      exact absurd (Option.some.inj z2) (nt xs)
theorem AdvM.trans (a : AdvM T L F H F1 H1) (b : AdvM T L F1 H1 F2 H2) (hL : ∀ l ∈ L, F l = none ∧ ∃ o, H l = some o ∧ NotTbl o ∧ ∀ xs, o ≠ .tup xs) : AdvM T L F H F2 H2 where
  ff := a.ff.trans b.ff
  sub := b.sub
  hh := fun x o e n h => b.hh x o (a.hh x o e n h) n h
  tab := fun h => b.tab (a.tab h)
  out := fun x hx f e => by
    obtain ⟨f1, e1⟩ := a.out x hx f e
    exact b.out x hx f1 e1
  sep := fun x o h => by
    rcases b.sep x o h with q | q | ⟨xs, q1, q2⟩
    · exact a.sep x o q
    · refine .inr (.inl fun u hu => ?_)
      by_cases n : ∃ ps, u = .tbl ps
      · exact n
      · have nt : NotTbl u := fun ps e => n ⟨ps, e⟩
        by_cases hx : x ∈ L
        · obtain ⟨f0, o0, e0, n0, t0⟩ := hL x hx
          obtain ⟨_, o1, e1, n1, t1⟩ := a.out x hx f0 ⟨o0, e0, n0, t0⟩
          obtain ⟨ps, z⟩ := q o1 e1
          exact absurd z (n1 ps)
        · exact absurd (q u (a.hh x u hu nt hx)) n
    · by_cases hx : x ∈ L
      · obtain ⟨f0, o0, e0, n0, t0⟩ := hL x hx
        obtain ⟨_, o1, e1, n1, t1⟩ := a.out x hx f0 ⟨o0, e0, n0, t0⟩
        rw [e1] at q2
        exact absurd (Option.some.inj q2) (t1 xs)
      · cases hu : H x with
        | none => exact .inr (.inl fun u e => by cases e)
        | some u =>
          by_cases n : ∃ ps, u = .tbl ps
          · exact .inr (.inl fun u' e => by cases e; exact n)
          · have := a.hh x u hu (fun ps e => n ⟨ps, e⟩) hx
            rw [q2] at this
            exact .inr (.inr ⟨xs, q1, this.symm⟩)
-- an object of L is written
theorem AdvM.write {l : Addr} {o o' : HO} (a : AdvM T L F H F' H') (hl : l ∈ L) (hF : F' l = none) (h : H' l = some o) (m : Mut o) (m' : NotTbl o' := by exact fun _ z => nomatch z) (nt : ∀ xs, o' ≠ .tup xs := by exact fun _ z => nomatch z) : AdvM T L F H F' (upd H' l o') where
  ff := a.ff
  sub := a.sub.updO hF
  hh := fun x u hx nu hL => by
    rw [upd_ne fun z => hL (by rw [z]; exact hl)]
    exact a.hh x u hx nu hL
  sep := a.sep
  tab := fun t => tabs_upd h m (a.tab t)
  out := fun x hx f e => by
    obtain ⟨f1, o1, e1⟩ := a.out x hx f e
    refine ⟨f1, ?_⟩
    by_cases z : x = l
    · subst z
      exact ⟨o', upd_same, m', nt⟩
    · rw [upd_ne z]
      exact ⟨o1, e1⟩
-- a new object is written
theorem AdvM.mut {l : Addr} {o o' : HO} (a : AdvM T L F H F' H') (hn : Nw H l) (hF : F' l = none) (h : H' l = some o) (m : Mut o) (hL : l ∉ L) : AdvM T L F H F' (upd H' l o') where
  ff := a.ff
  sub := a.sub.updO hF
  hh := fun x u hx nu hL => by
    rw [upd_ne fun z => hn.ne hx nu z]
    exact a.hh x u hx nu hL
  sep := a.sep
  tab := fun t => tabs_upd h m (a.tab t)
  out := fun x hx f e => by
    obtain ⟨f1, o1, e1⟩ := a.out x hx f e
    refine ⟨f1, ?_⟩
    rw [upd_ne fun z => hL (by rw [← z]; exact hx)]
    exact ⟨o1, e1⟩
theorem Nw.backM {p : Addr} (a : AdvM T L F H F' H') (hL : ∀ l ∈ L, F l = none ∧ ∃ o, H l = some o ∧ NotTbl o ∧ ∀ xs, o ≠ .tup xs) (h : Nw H' p) : Nw H p := fun u e => by
  by_cases n : ∃ ps, u = .tbl ps
  · exact n
  · by_cases hp : p ∈ L
    · obtain ⟨f0, o0, e0, n0, t0⟩ := hL p hp
      obtain ⟨_, o1, e1, n1, t1⟩ := a.out p hp f0 ⟨o0, e0, n0, t0⟩
      obtain ⟨ps, z⟩ := h o1 e1
      exact absurd z (n1 ps)
    · exact h u (a.hh p u e (fun ps e => n ⟨ps, e⟩) hp)
-- the same with more addresses that may be written
theorem AdvM.more (a : AdvM T L F H F' H') (h : ∀ l ∈ L, l ∈ L') : AdvM T L' F H F' H' := ⟨a.ff, a.sub, fun x o e n hx => a.hh x o e n fun z => hx (h x z), a.sep, a.tab, fun x hx f ⟨o, e, n, nt⟩ => by
  by_cases z : x ∈ L
  · exact a.out x z f ⟨o, e, n, nt⟩
  · exact ⟨(a.off f e n z nt).1, o, (a.off f e n z nt).2, n, nt⟩⟩
end Tw
namespace Tw
open PySem PySem.Spec PyProof.Rows L2 LamX
-- the law's source of draws, beside the standing part: at most n draws of its second kind
structure SrcAt (l n : Nat) (F H : Hp) : Prop where
  fl : F l = none
  ex : ∃ a b c : Int, H l = some (.lst [.int a, .int b, .int c]) ∧ 0 ≤ a ∧ 0 ≤ b ∧ b < 2 ^ 62 ∧ 0 ≤ c ∧ c ≤ n
theorem SrcAt.mono {l n m : Nat} {F H : Hp} (s : SrcAt l n F H) (h : n ≤ m) : SrcAt l m F H := by
  obtain ⟨a, b, c, h1, h2, h3, h4, h5, h6⟩ := s.ex
  exact ⟨s.fl, a, b, c, h1, h2, h3, h4, h5, by omega⟩
theorem SrcAt.step {T : List (Addr × Str)} {l n : Nat} {F H F' H' : Hp} (s : SrcAt l n F H) (a : Adv T F H F' H') : SrcAt l n F' H' := by
  obtain ⟨x, b, c, h1, h2⟩ := s.ex
  exact ⟨(a.off s.fl h1 notTbl_lst).1, x, b, c, (a.off s.fl h1 notTbl_lst).2, h2⟩
theorem SrcAt.stepM {T : List (Addr × Str)} {L : List Addr} {l n : Nat} {F H F' H' : Hp} (s : SrcAt l n F H) (a : AdvM T L F H F' H') (hL : l ∉ L) : SrcAt l n F' H' := by
  obtain ⟨x, b, c, h1, h2⟩ := s.ex
  exact ⟨(a.off s.fl h1 notTbl_lst hL).1, x, b, c, (a.off s.fl h1 notTbl_lst hL).2, h2⟩
theorem SrcAt.ok {l n : Nat} {F H : Hp} (s : SrcAt l n F H) : ∀ x ∈ [l], F x = none ∧ ∃ o, H x = some o ∧ NotTbl o ∧ ∀ xs, o ≠ .tup xs := fun x hx => by
  rw [List.mem_singleton.mp hx]
  obtain ⟨a, b, c, h1, _⟩ := s.ex
  exact ⟨s.fl, _, h1, notTbl_lst, fun _ z => nomatch z⟩
def spDraw (T : List (Addr × Str)) : Sp := fun vs H Q _ => ∃ F l n, ∃ m : Int, Sub F H ∧ SrcAt l n F H ∧ n ≤ 100000 ∧ 0 < m ∧ m < 1000000 ∧ vs = [.ref l, .int m] ∧ ∀ (v : Int) F' H', AdvM T [l] F H F' H' → SrcAt l (n + 1) F' H' → 0 ≤ v → v < m → Q (.int v) H'
theorem prime_at (q : Int) (h0 : 0 ≤ q) (h1 : q < 7) : ∃ p : Int, atI [PyData.int 2147483647, .int 2147483629, .int 2147483587, .int 2147483579, .int 2147483563, .int 2147483549, .int 2147483543] q = some (.int p) ∧ 0 < p ∧ p < 2 ^ 31 := by
  have : q = 0 ∨ q = 1 ∨ q = 2 ∨ q = 3 ∨ q = 4 ∨ q = 5 ∨ q = 6 := by omega
  rcases this with h | h | h | h | h | h | h <;> subst h <;> exact ⟨_, rfl, by decide, by decide⟩
section
variable {P : Program} {w : World} {K : PySem.W.Frag} {mg : Str → Option Value} {base : Heap} {T : List (Addr × Str)}
theorem ok_draw (F : DfN K mg "_law_draw" 62) : Cl P w K mg base 1 "_law_draw" ["_law_source", "_law_limit"] (spDraw T) := by
  refine cl_of (N := ["_law_source", "_law_limit", "_law_digit", "_law_prime", "_law_mixed"]) F ⟨rfl, rfl, rfl, by decide +kernel, rfl, by decide +kernel, by decide +kernel⟩ (fun vs H Q E ⟨F, l, n, m, _, _, _, _, _, e, _⟩ => by rw [e]; rfl) (fun _ _ _ _ _ _ us hl => match us, hl with | [_, _], _ => rfl) ?_
  rintro f cdv A outer s H0 vs Q E hr ⟨F0, l, n, m, sF, src, hn, m0, m1, rfl, k⟩
  have nd : (["_law_source", "_law_limit", "_law_digit", "_law_prime", "_law_mixed"] : List Str).Nodup := by decide +kernel
  obtain ⟨a, b, c, hl, ha, hb, hb2, hc, hc2⟩ := src.ex
  have at0 : ∀ (x y z : Int), atI [PyData.int x, .int y, .int z] 0 = some (.int x) := fun _ _ _ => rfl
  have at1 : ∀ (x y z : Int), atI [PyData.int x, .int y, .int z] 1 = some (.int y) := fun _ _ _ => rfl
  have at2 : ∀ (x y z : Int), atI [PyData.int x, .int y, .int z] 2 = some (.int z) := fun _ _ _ => rfl
  have im3 : ∀ (F : Hp) (x y z : Int), ImL F [PyData.int x, .int y, .int z] [V.int x, .int y, .int z] := fun _ _ _ _ => ⟨_, _, rfl, rfl, _, _, rfl, rfl, _, _, rfl, rfl, rfl⟩
  refine b_when (T := T) (et_gt (ed_ixm (ev_var (i := 0) rfl) hl (im3 _ a b c) ed_int (at0 _ _ _)) ed_int) sF (fun _ F1 H1 a1 => ?_) (fun hz F1 H1 a1 => ?_)
  · obtain ⟨f1, h1⟩ := a1.off src.fl hl notTbl_lst
    refine b_asg (T := T) (i := 2) (ed_mod (ed_ixm (ev_var (i := 0) rfl) h1 (im3 _ a b c) ed_int (at0 _ _ _)) (ed_var (d := .int m) (i := 1) rfl rfl) m0) a1.sub (fun v F2 H2 a2 ev => ?_) nd
    obtain rfl : v = .int (a % m) := ev
    obtain ⟨f2, h2⟩ := a2.off f1 h1 notTbl_lst
    refine b_lset (T := T) (n := 0) a2.sub (ed_div (ed_ixm (ev_var (i := 0) rfl) h2 (im3 _ a b c) ed_int (at0 _ _ _)) (ed_var (d := .int m) (i := 1) rfl rfl) ⟨m0, by omega⟩) (ev_var (i := 0) rfl) ed_int f2 h2 rfl fun v F3 H3 a3 f3 h3 ev s3 => ?_
    obtain ⟨_, _, ev⟩ := ev
    obtain rfl : v = .int (a / m) := ev
    have A3 : AdvM T [l] F0 H0 F3 (upd H3 l (.lst [.int (a / m), .int b, .int c])) := (AdvM.of ((a1.trans a2).trans a3)).write (List.mem_singleton.mpr rfl) f3 h3 mut_lst
    refine b_ret (T := T) (P := imP (.int (a % m))) (ed_var (i := 2) rfl rfl) A3.sub fun v F4 H4 a4 ev => ?_
    obtain rfl : v = .int (a % m) := ev
    have S3 : SrcAt l (n + 1) F3 (upd H3 l (.lst [.int (a / m), .int b, .int c])) := ⟨f3, _, _, _, upd_same, Int.ediv_nonneg ha (by omega), hb, hb2, hc, by omega⟩
    exact k _ F4 H4 (A3.trans (AdvM.of a4) src.ok) (S3.step a4) (Int.emod_nonneg _ (by omega)) (Int.emod_lt_of_pos _ m0)
  · obtain ⟨f1, h1⟩ := a1.off src.fl hl notTbl_lst
    refine b_lset (T := T) (n := 2) a1.sub (ed_add (ed_ixm (ev_var (i := 0) rfl) h1 (im3 _ a b c) ed_int (at2 _ _ _)) ed_int) (ev_var (i := 0) rfl) ed_int f1 h1 rfl fun v F2 H2 a2 f2 h2 ev s2 => ?_
    obtain ⟨_, _, ev⟩ := ev
    obtain rfl : v = .int (c + 1) := ev
    show rB _ _ _ _ (upd H2 l (.lst [.int a, .int b, .int (c + 1)]))
    have A2 : AdvM T [l] F0 H0 F2 (upd H2 l (.lst [.int a, .int b, .int (c + 1)])) := (AdvM.of (a1.trans a2)).write (List.mem_singleton.mpr rfl) f2 h2 mut_lst
    have S2 : SrcAt l (n + 1) F2 (upd H2 l (.lst [.int a, .int b, .int (c + 1)])) := ⟨f2, _, _, _, upd_same, ha, hb, hb2, by omega, by omega⟩
    have g2 : (upd H2 l (.lst [.int a, .int b, .int (c + 1)])) l = some (.lst [.int a, .int b, .int (c + 1)]) := upd_same
    generalize upd H2 l (.lst [.int a, .int b, .int (c + 1)]) = H2' at A2 S2 g2 ⊢
    generalize hd : c + 1 = d at *
    have d0 : 0 ≤ d := by omega
    have d1 : d ≤ 100001 := by omega
    obtain ⟨pr, ep, p0, p1⟩ := prime_at (d % 7) (Int.emod_nonneg _ (by decide)) (Int.emod_lt_of_pos _ (by decide))
    refine b_asg (T := T) (i := 3) (ed_ixl (EF.ed (ef_lst (ea_cons ed_int (ea_cons ed_int (ea_cons ed_int (ea_cons ed_int (ea_cons ed_int (ea_cons ed_int (ea_cons ed_int ea_nil))))))))) (ed_mod (ed_ixm (ev_var (i := 0) rfl) g2 (im3 _ a b d) ed_int (at2 _ _ _)) ed_int (by decide)) ep) A2.sub (fun v F3 H3 a3 ev => ?_) nd
    obtain rfl : v = .int pr := ev
    obtain ⟨f3, h3⟩ := a3.off S2.fl g2 notTbl_lst
    have dd : d * d ≤ 100001 * 100001 := Int.mul_le_mul d1 d1 d0 (by decide)
    have dd0 : 0 ≤ d * d := Int.mul_nonneg d0 d0
    have e1 : (6700417 : Int) * d * d = 6700417 * (d * d) := Int.mul_assoc ..
    generalize hx : b + 6700417 * d * d + 19 = x
    have x0 : 0 ≤ x := by rw [← hx, e1]; omega
    have x1 : x < 2 ^ 64 := by rw [← hx, e1]; omega
    refine b_asg (T := T) (i := 4) (P := imP (.int (x ^ 3 % pr))) (ED.to (ed_mod (ed_pow (i := x) (j := 3) (ED.to (ed_add (ed_add (ed_ixm (ev_var (i := 0) rfl) h3 (im3 _ a b d) ed_int (at1 _ _ _)) (ed_mul (ed_mul ed_int (ed_ixm (ev_var (i := 0) rfl) h3 (im3 _ a b d) ed_int (at2 _ _ _)) (.inl (by decide))) (ed_ixm (ev_var (i := 0) rfl) h3 (im3 _ a b d) ed_int (at2 _ _ _)) (.inr ⟨by omega, by omega⟩))) ed_int) (by rw [hx])) ed_int ⟨by decide, by decide, by omega⟩) (ed_var (d := .int pr) (i := 3) rfl rfl) p0) rfl) a3.sub (fun v F4 H4 a4 ev => ?_) nd
    obtain rfl : v = .int (x ^ 3 % pr) := ev
    have y0 := Int.emod_nonneg (x ^ 3) (b := pr) (by omega)
    have y1 := Int.emod_lt_of_pos (x ^ 3) p0
    generalize x ^ 3 % pr = y at *
    obtain ⟨f4, h4⟩ := a4.off f3 h3 notTbl_lst
    generalize hz : y * (y % 10007 + 89 * d) % 2305843009213693921 / 89 % m = z
    refine b_ret (T := T) (P := imP (.int z)) (ED.to (ed_mod (ed_div (ed_mod (ed_mul (ed_var (d := .int y) (i := 4) rfl rfl) (ed_add (ed_mod (ed_var (d := .int y) (i := 4) rfl rfl) ed_int (by decide)) (ed_mul ed_int (ed_ixm (ev_var (i := 0) rfl) h4 (im3 _ a b d) ed_int (at2 _ _ _)) (.inl (by decide)))) (.inl ⟨by omega, by omega⟩)) ed_int (by decide)) ed_int ⟨by decide, by decide⟩) (ed_var (d := .int m) (i := 1) rfl rfl) m0) (by rw [hz])) a4.sub fun v F5 H5 a5 ev => ?_
    obtain rfl : v = .int z := ev
    exact k _ F5 H5 (A2.trans (AdvM.of ((a3.trans a4).trans a5)) src.ok) (((S2.step a3).step a4).step a5) (by rw [← hz]; exact Int.emod_nonneg _ (by omega)) (by rw [← hz]; exact Int.emod_lt_of_pos _ m0)
end
end Tw
namespace Tw
open PySem PySem.Spec PyProof.Rows L2 LamX
def spChoice (T : List (Addr × Str)) : Sp := fun vs H Q _ => ∃ F l n la xs ds, Sub F H ∧ SrcAt l n F H ∧ n ≤ 100000 ∧ H la = some (.lst xs) ∧ la ≠ l ∧ ImL F ds xs ∧ ds ≠ [] ∧ ds.length < 1000000 ∧ vs = [.ref l, .ref la] ∧
  ∀ v d F' H', AdvM T [l] F H F' H' → SrcAt l (n + 1) F' H' → d ∈ ds → Im F' d v → Q v H'
section
variable {P : Program} {w : World} {K : PySem.W.Frag} {mg : Str → Option Value} {base : Heap} {T : List (Addr × Str)}
theorem ok_choice (F : DfN K mg "_law_choice" 63) (g : G K mg) (c : Cl P w K mg base 1 "_law_draw" ["_law_source", "_law_limit"] (spDraw T)) : Cl P w K mg base 2 "_law_choice" ["_law_source", "_law_items"] (spChoice T) := by
  refine cl_of (N := ["_law_source", "_law_items"]) F ⟨rfl, rfl, rfl, by decide +kernel, rfl, by decide +kernel, by decide +kernel⟩ (fun vs H Q E ⟨F, l, n, la, xs, ds, _, _, _, _, _, _, _, _, e, _⟩ => by rw [e]; rfl) (fun _ _ _ _ _ _ us hl => match us, hl with | [_, _], _ => rfl) ?_
  rintro f cdv A outer s H0 vs Q E hr ⟨F0, l, n, la, xs, ds, sF, src, hn, hla, hne, hds, h0, h1, rfl, k⟩
  refine b_retR (goE (pe_ix ix_list pe_r pe_r fun _ _ => rfl) (EX.go (T := T) (ev_var (i := 1) rfl) (.refl sF) fun u F1 H1 a1 eu => ?_))
  have hla1 := a1.hh _ _ hla notTbl_lst
  refine rx_call c hr (EA.go (T := T) (eg_cons (ev_var (i := 0) rfl) (eg_cons (ed_lenm (b_len g) (ev_var (i := 1) rfl) hla1) eg_nil mono_im) mono_eq) (.refl a1.sub) fun vs F2 H2 a2 hv => ?_)
  obtain ⟨v1, _, rfl, rfl, v2, _, rfl, e2, rfl⟩ := hv
  obtain rfl : v2 = .int (xs.length : Nat) := e2
  have len := hds.length
  have pos : 0 < ds.length := List.length_pos_iff.mpr h0
  refine ⟨F2, l, n, (xs.length : Nat), a2.sub, (src.step a1).step a2, hn, by omega, by omega, rfl, fun v F3 H3 a3 src3 z0 z1 => ?_⟩
  have hla3 := a3.hh _ _ (a2.hh _ _ hla1 notTbl_lst) notTbl_lst (by simp [hne])
  have A3 := ((AdvM.of (T := T) (L := [l]) (a1.trans a2)).trans a3 src.ok)
  have hi : v.toNat < ds.length := by omega
  obtain ⟨w, ew, iw⟩ := hds.at (i := v.toNat) (d := ds[v.toNat]) (List.getElem?_eq_getElem hi)
  have hv : v = (v.toNat : Nat) := by omega
  refine ⟨la, xs, v, w, eu, rfl, SqL.of hla3, ?_, k w _ F3 H3 A3 src3 (List.getElem_mem hi) (iw.up A3.ff)⟩
  rw [hv]
  exact atI_nat ew
end
end Tw
namespace Tw
open PySem PySem.Spec PyProof.Rows L2 LamX
def stems : List Str := ["", "m", "lock", "zzzzzzz", "v"]
theorem stem_ok {x : Str} (h : x ∈ stems) : x.length ≤ 7 ∧ ∀ c ∈ x.cps.toList, c ∈ letters.cps.toList := by
  have : ∀ x ∈ stems, x.length ≤ 7 ∧ ∀ c ∈ x.cps.toList, c ∈ letters.cps.toList := by decide +kernel
  exact this x h
theorem letter_at (q : Int) (h0 : 0 ≤ q) (h1 : q < 26) : ∃ c, atI letters.cps.toList q = some c ∧ c ∈ letters.cps.toList := by
  have hl : letters.cps.toList.length = 26 := by decide +kernel
  have hi : q.toNat < letters.cps.toList.length := by omega
  refine ⟨letters.cps.toList[q.toNat], ?_, List.getElem_mem hi⟩
  have e : q = (q.toNat : Nat) := by omega
  have := atI_nat (xs := letters.cps.toList) (i := q.toNat) (List.getElem?_eq_getElem hi)
  rw [← e] at this
  exact this
theorem okN_name {x : Str} {c : Nat} (h : x ∈ stems) (hc : c ∈ letters.cps.toList) : okN (x ++ ⟨#[c]⟩) := by
  obtain ⟨h1, h2⟩ := stem_ok h
  have e : (x ++ ⟨#[c]⟩ : Str).cps = x.cps ++ #[c] := rfl
  have el : (x ++ ⟨#[c]⟩ : Str).length = x.length + 1 := by
    show (x.cps ++ #[c]).size = x.cps.size + 1
    rw [Array.size_append]; rfl
  refine ⟨by omega, by omega, fun d hd => ?_⟩
  rw [e, Array.toList_append] at hd
  rcases List.mem_append.mp hd with q | q
  · exact h2 d q
  · have : d = c := by simpa using q
    rw [this]; exact hc
def spNames (T : List (Addr × Str)) : Sp := fun vs H Q _ => ∃ F l n, ∃ m : Int, Sub F H ∧ SrcAt l n F H ∧ n ≤ 90000 ∧ 1 ≤ m ∧ m ≤ 10 ∧ vs = [.ref l, .int m] ∧
  ∀ v (ns : List Str) F' H', AdvM T [l] F H F' H' → SrcAt l (n + 2) F' H' → ns.length = m.toNat → (∀ x ∈ ns, okN x) → Im F' (.list (ns.map .str)) v → Q v H'
section
variable {P : Program} {w : World} {K : PySem.W.Frag} {mg : Str → Option Value} {base : Heap} {T : List (Addr × Str)}
theorem ok_names (F : DfN K mg "_law_names" 64) (g : G K mg) (c : Cl P w K mg base 1 "_law_draw" ["_law_source", "_law_limit"] (spDraw T)) (c2 : Cl P w K mg base 2 "_law_choice" ["_law_source", "_law_items"] (spChoice T)) : Cl P w K mg base 3 "_law_names" ["_law_source", "_law_count"] (spNames T) := by
  refine cl_of (N := ["_law_source", "_law_count", "_law_stem", "_law_first", "_law_at"]) F ⟨rfl, rfl, rfl, by decide +kernel, rfl, by decide +kernel, by decide +kernel⟩ (fun vs H Q E ⟨F, l, n, m, _, _, _, _, _, e, _⟩ => by rw [e]; rfl) (fun _ _ _ _ _ _ us hl => match us, hl with | [_, _], _ => rfl) ?_
  rintro f cdv A outer s H0 vs Q E hr ⟨F0, l, n, m, sF, src, hn, m0, m1, rfl, k⟩
  have nd : (["_law_source", "_law_count", "_law_stem", "_law_first", "_law_at"] : List Str).Nodup := by decide +kernel
  have ok0 := src.ok
  refine b_par2 (m := 2) (n := 3) rfl nd (rx_call c2 hr (EA.go (T := T) (eg_cons (ev_var (i := 0) rfl) (eg_cons (EF.ed (ef_lst (ea_cons ed_str (ea_cons ed_str (ea_cons ed_str (ea_cons ed_str (ea_cons ed_str ea_nil))))))) eg_nil mono_im) mono_eq) (.refl sF) fun vs F1 H1 a1 hv => ?_))
  obtain ⟨v1, _, rfl, rfl, v2, _, rfl, ⟨la, xs, rfl, hla, dla⟩, rfl⟩ := hv
  have src1 := src.step a1
  refine ⟨F1, l, n, la, xs, stems.map .str, a1.sub, src1, by omega, a1.sub.at hla, (fun z => by rw [z, src1.fl] at hla; cases hla), dla, by decide, by decide, rfl, fun v d F2 H2 a2 src2 hd iv => ?_⟩
  obtain ⟨x, hx, rfl⟩ := List.mem_map.mp hd
  refine rx_call c hr (EA.go (T := T) (eg_cons (ev_var (i := 0) rfl) (eg_cons (ed_int (i := 26)) eg_nil mono_im) mono_eq) (.refl a2.sub) fun vs F3 H3 a3 hv => ?_)
  obtain ⟨w1, _, rfl, rfl, w2, _, rfl, e2, rfl⟩ := hv
  obtain rfl : w2 = .int 26 := e2
  refine ⟨F3, l, n + 1, 26, a3.sub, src2.step a3, by omega, by decide, by decide, rfl, fun z F4 H4 a4 src4 z0 z1 q hq => ?_⟩
  have lay : Adv T F4 H4 F4 (upd H4 q (.tup [v, .int z])) := Adv.lay a4.sub hq
  have A : AdvM T [l] F0 H0 F4 (upd H4 q (.tup [v, .int z])) := ((((AdvM.of a1).trans a2 ok0).trans (AdvM.of a3) ok0).trans a4 ok0).trans (AdvM.of lay) ok0
  have iv4 : Im F4 (.str x) v := (iv.up a3.ff).up a4.ff
  have src5 := src4.step lay
  generalize upd H4 q (.tup [v, .int z]) = H5 at A src5 ⊢
  have hletter : ∀ i : Nat, ∃ c, atI letters.cps.toList ((z + 7 * (i : Int)) % 26) = some c ∧ c ∈ letters.cps.toList := fun i => letter_at _ (Int.emod_nonneg _ (by decide)) (Int.emod_lt_of_pos _ (by decide))
  let nm : Nat → Str := fun i => x ++ ⟨#[(hletter i).choose]⟩
  have hnm : ∀ i, okN (nm i) := fun i => okN_name hx (hletter i).choose_spec.2
  have hxl := (stem_ok hx).1
  refine b_ret (T := T) (P := imP (.list ((((List.range m.toNat).map nm).mergeSort (PySem.W.dataLe false PyData.str)).map .str))) (EF.ed (EF.to (ef_sorted hr.units (b_sorted g) (EF.ed (EF.to (ef_lc0 (enc := fun i : Nat => PyData.int (0 + (i : Nat))) (xs := List.range m.toNat) (bs := fun i => [(4, .int (0 + (i : Nat)))]) (own := [("_law_at", 4)]) rfl nd (by kernel_rfl)
    (wk_range1 (b_range g) (ed_var (d := .int m) (i := 1) rfl rfl) (by omega) (by omega)) (fun _ _ i hi => hi) (fun i => .str (nm i)) (fun s3 Hb C2 cl fp i hi => ⟨gt_name nd, fun F6 H6 a6 us hus => ?_⟩) (by rw [List.length_range]; exact Nat.le_trans (by omega : m.toNat ≤ 10) (by decide))) (List.map_map (f := nm) (g := PyData.str) (l := List.range m.toNat)).symm)) ?_) (by rw [sortD_mapE]))) A.sub fun v' F6 H6 a6 iv' => ?_
  · obtain ⟨u1, _, rfl, m1, rfl⟩ := hus
    exact ed_adds (ed_var (i := 2) rfl (iv4.up a6.ff)) (ed_ixs ed_str (ed_mod (ed_add (ed_var (d := .int z) (i := 3) rfl rfl) (ed_mul ed_int (ED.to (ed_var (i := 4) rfl m1) (by rw [Int.zero_add])) (.inl (by decide)))) ed_int (by decide)) (by decide +kernel) (hletter i).choose_spec.1) (Nat.le_trans (Nat.add_le_add_right hxl 1) (by decide))
  · refine ⟨?_, PySem.W.AllAlike.of fun a b => rfl, .inr fun d hd => ?_, fun d hd => ?_⟩
    · have gen : ∀ l : List Str, PyData.hasDictAll (l.map PyData.str) = false := fun l => by
        induction l with
        | nil => rfl
        | cons y l ih => rw [List.map_cons, PyData.hasDictAll, ih]; rfl
      exact gen _
    · obtain ⟨y, _, rfl⟩ := List.mem_map.mp hd
      exact ⟨(fun z => nomatch z), fun xs z => nomatch z⟩
    · obtain ⟨y, _, rfl⟩ := List.mem_map.mp hd
      simp [PyData.depth]
  · refine k v' _ F6 H6 (A.trans (AdvM.of a6) ok0) (src5.step a6) (by rw [List.length_mergeSort, List.length_map, List.length_range]) (fun y hy => ?_) iv'
    obtain ⟨i, _, rfl⟩ := List.mem_map.mp (List.mem_mergeSort.mp hy)
    exact hnm i
end
end Tw
namespace Tw
open PySem PySem.Spec PyProof.Rows L2 LamX
section
variable {T : List (Addr × Str)} {X : Cx} {a : Expr} {σ : L2.St} {H : Hp} {pos p p1 p2 : Pos} {body rest : List Stmt} {D : Ends} {x : Str} {k : Nat}
-- for x in range(a): a may write
theorem b_forr (hm : X.mg "range" = none) (hc : X.calm = true) (hp : PassesOwn (model X.prog X.w) X.A X.env X.xe) (hN : X.N.Nodup)
    (h : rE X a σ H fun v H1 => ∃ (n : Nat) (F1 : Hp), v = .int (n : Nat) ∧ (n : Int) < 2 ^ 62 ∧ Sub F1 H1 ∧ ∃ J : Nat → L2.St → Hp → Hp → Prop, J 0 σ F1 H1 ∧
      (∀ i σ1 F2 H2, i < n → Sub F2 H2 → Ext F1 F2 → J i σ1 F2 H2 → ∀ N : L2.St → Hp → Prop, (∀ σ' F' H', Sub F' H' → Ext F2 F' → J (i + 1) σ' F' H' → N σ' H') → rB X body { D with nx := N, ct := N, bk := rB X rest D } (σ1.set k (some (.int (i : Nat)))) H2) ∧
      ∀ σ1 F2 H2, Sub F2 H2 → Ext F1 F2 → J n σ1 F2 H2 → rB X rest D σ1 H2)
    (hi : X.N[k]? = some x := by rfl) (hx : Loc X.env.scope x := by first | exact .inl rfl | exact .inr rfl) (hf : X.fn x = true ∨ X.env.scope.names.lookup x = some .local := by first | exact .inl rfl | exact .inr rfl | assumption)
    (hg : Gl X "range" := by rfl) (hs : starEach [a] X.env = [(false, eval a X.env)] := by rfl) (hs2 : starEach [a] X.env = (false, eval a X.env) :: starEach [] X.env := by rfl)
    (hfold : ∀ y, foldedSetIterable (.Call (.Name "range" p) [a] [] p2) X.env y = pure y := by intro _; rfl) : rB X (.For (.Name x p1) (.Call (.Name "range" p) [a] [] p2) body [] pos :: rest) D σ H := by
  refine goC (ps_for hp hc (pi_range1 hg hm (pa_cons pe_r pa_nil hs2) hs) (pg_name hN hi hx hf) pss_r hfold) ?_
  refine fun pins s I => wpAny_mono (h pins s I) (fun u s' ⟨v, H1, I1, r, n, F1, ev, hn, sF, J, j0, step, after⟩ => ⟨v, H1, I1, r, ?_⟩) fun _ _ z => z
  subst ev
  refine ⟨(n : Nat), rfl, by omega, hn, ?_⟩
  rw [show ((n : Nat) : Int).toNat = n by omega]
  refine for_it walk_range (fun i σ H => ∃ F', Ext F1 F' ∧ Sub F' H ∧ J i σ F' H) ⟨F1, Ext.rfl, sF, j0⟩ (fun _ _ _ _ _ => True.intro) (fun i x1 σ1 H2 H' hlt ⟨F', x2, x3, j⟩ y => ?_) fun σ1 H2 ⟨F', x1, x2, j⟩ => after σ1 F' H2 x2 x1 j
  obtain ⟨q1, q2⟩ := y
  subst q1 q2
  have e : (0 : Int) + ((i : Nat) : Int) = (i : Nat) := by omega
  dsimp only
  rw [e]
  exact step i σ1 F' _ hlt x3 x2 j _ fun σ' F3 H3 y2 y1 y3 => ⟨F3, x2.trans y1, y2, y3⟩
-- l.append(e): e may write
theorem b_appR {e : Expr} {l : Addr} {xs0 : List V} (ha : σ[k]? = some (some (.ref l))) (hl : H l = some (.lst xs0)) (he : rE X e σ H fun v H2 => ∃ xs, H2 l = some (.lst xs) ∧ xs.length < sizeLine ∧ rB X rest D σ (upd H2 l (.lst (xs ++ [v]))))
    (hN : X.N[k]? = some x := by rfl) (hv : Vis X.env.scope x := by first | exact .inl rfl | exact .inr (.inl rfl) | exact .inr (.inr rfl)) (hd : (x == ("__debug__" : Str)) = false := by decide) (hcd : (x == ("__classdict__" : Str)) = false := by decide)
    (hs : swapsWith (.Call (.Attribute (.Name x p1) "append" p) [e] [] p2) none pos.line X.env = pure false := by rfl)
    (hB : PE X (.Call (.Attribute (.Name x p1) "append" p) [e] [] p2) (tBM X.K "list" rAppend (tVar k) (tCons (rE X e) tNil)) := by exact pe_bm PySem.F.plainAttrs_list PySem.F.slot_list_append PySem.F.type_list_append mt_append (pe_var rfl (by first | exact .inl rfl | exact .inr (.inl rfl) | exact .inr (.inr rfl))) (pa_cons pe_r pa_nil)) :
    rB X (.Expr (.Call (.Attribute (.Name x p1) "append" p) [e] [] p2) pos :: rest) D σ H := by
  refine b_exprR (goE hB ⟨.ref l, ha, .inl ⟨rfl, xs0, SqL.of hl⟩, ?_⟩) hs
  exact fun pins s I => wpAny_mono (he pins s I) (fun u s' ⟨v, H1, I1, r, xs, h1, h2, h3⟩ => ⟨v, H1, I1, r, l, xs, v, rfl, rfl, h1, h2, h3⟩) fun _ _ z => z
end
end Tw
namespace Tw
open PySem PySem.Spec PyProof.Rows L2 LamX
def freeS (n : Str) : Step := ("free", n)
-- a thread in the making: the steps found, the locks kept
structure ThOk (t : Thr) (ks : List Str) (m : Nat) : Prop where
  kp : keepT [] t = some ks
  ok : okT t
  nm : ∀ k ∈ ks, okN k
  le : t.length + ks.length ≤ m
theorem okT_snoc {t : Thr} {s : Step} (h : okT t) (hs : okS s) : okT (t ++ [s]) := fun x hx => by
  rcases List.mem_append.mp hx with q | q
  · exact h x q
  · rw [List.mem_singleton.mp q]; exact hs
theorem ThOk.lock {t : Thr} {ks : List Str} {m : Nat} {w n : Str} (h : ThOk t ks m) (hw : w ∈ (["lock", "share"] : List Str)) (hn : n ∉ ks) (ho : okN n) (hl : t.length + ks.length + 2 ≤ m) : ThOk (t ++ [(w, n)]) (ks ++ [n]) m := by
  refine ⟨?_, okT_snoc h.ok ⟨?_, ho⟩, fun k hk => ?_, by simp only [List.length_append, List.length_singleton]; omega⟩
  · rw [keepT_snoc, h.kp]
    show keepS ks (w, n) = _
    unfold keepS
    rw [if_pos hw, if_neg hn]
  · have : ∀ w ∈ (["lock", "share"] : List Str), w ∈ wordsL := by decide
    exact this w hw
  · rcases List.mem_append.mp hk with q | q
    · exact h.nm k q
    · rw [List.mem_singleton.mp q]; exact ho
theorem ThOk.free {t : Thr} {ks : List Str} {m : Nat} {n : Str} (h : ThOk t ks m) (hn : n ∈ ks) : ThOk (t ++ [freeS n]) (ks.erase n) m := by
  have hp : 0 < ks.length := List.length_pos_of_mem hn
  refine ⟨?_, okT_snoc h.ok ⟨(by decide : ("free" : Str) ∈ wordsL), h.nm n hn⟩, fun k hk => h.nm k (List.mem_of_mem_erase hk), by
    have := h.le
    rw [List.length_append, List.length_singleton, List.length_erase_of_mem hn]; omega⟩
  rw [keepT_snoc, h.kp]
  show keepS ks (freeS n) = _
  unfold keepS freeS
  rw [if_neg (show ¬ ("free" : Str) ∈ (["lock", "share"] : List Str) by decide), if_pos rfl, if_pos hn]
theorem ThOk.use {t : Thr} {ks : List Str} {m : Nat} {w n : Str} (h : ThOk t ks m) (hw : w ∈ (["read", "write", "work"] : List Str)) (ho : okN n) (hl : t.length + ks.length + 1 ≤ m) : ThOk (t ++ [(w, n)]) ks m := by
  have hx : ∀ w ∈ (["read", "write", "work"] : List Str), w ∈ wordsL ∧ w ∉ (["lock", "share"] : List Str) ∧ w ≠ "free" := by decide
  obtain ⟨h1, h2, h3⟩ := hx w hw
  refine ⟨?_, okT_snoc h.ok ⟨h1, ho⟩, h.nm, by rw [List.length_append, List.length_singleton]; omega⟩
  rw [keepT_snoc, h.kp]
  show keepS ks (w, n) = _
  unfold keepS
  rw [if_neg h2, if_neg h3]
theorem ThOk.done : ∀ {ks : List Str} {t : Thr} {m : Nat}, ThOk t ks m → ThOk (t ++ ks.map freeS) [] m := by
  intro ks
  induction ks with
  | nil => intro t m h; simpa using h
  | cons k ks ih =>
    intro t m h
    have h1 := h.free (List.mem_cons_self ..)
    rw [List.erase_cons_head] at h1
    have h2 := ih h1
    rw [List.append_assoc] at h2
    exact h2
theorem ThOk.thr {t : Thr} {m : Nat} (h : ThOk t [] m) (hm : m ≤ 40) : isThr t = true ∧ okT t ∧ t.length ≤ m := by
  have hl := h.le
  simp only [List.length_nil, Nat.add_zero] at hl
  refine ⟨?_, h.ok, hl⟩
  unfold isThr
  rw [h.kp, decide_eq_true (by omega : t.length ≤ 40)]
  decide
-- .. as it stands in the heap
structure ThAt (T : List (Addr × Str)) (l lf lk n : Nat) (F0 H0 : Hp) (t : Thr) (ks : List Str) (F H : Hp) : Prop where
  adv : AdvM T [l] F0 H0 F H
  src : SrcAt l n F H
  ff : F lf = none
  hf : ∃ xs, H lf = some (.lst xs) ∧ ImL F (t.map stD) xs
  fk : F lk = none
  hk : H lk = some (.lst (ks.map V.str))
  n1 : lf ≠ lk
  n2 : lf ≠ l
  n3 : lk ≠ l
variable {T : List (Addr × Str)} {l lf lk n : Nat} {F0 H0 F H F' H' : Hp} {t : Thr} {ks : List Str}
theorem ThAt.step {k : Nat} (a : ThAt T l lf lk n F0 H0 t ks F H) (b : Adv T F H F' H') (s0 : SrcAt l k F0 H0) : ThAt T l lf lk n F0 H0 t ks F' H' := by
  obtain ⟨xs, h1, h2⟩ := a.hf
  have q1 := b.off a.ff h1 notTbl_lst
  have q2 := b.off a.fk a.hk notTbl_lst
  exact ⟨a.adv.trans (.of b) s0.ok, a.src.step b, q1.1, ⟨xs, q1.2, h2.up b.ff⟩, q2.1, q2.2, a.n1, a.n2, a.n3⟩
theorem ThAt.draw {n' k : Nat} (a : ThAt T l lf lk n F0 H0 t ks F H) (b : AdvM T [l] F H F' H') (s : SrcAt l n' F' H') (s0 : SrcAt l k F0 H0) : ThAt T l lf lk n' F0 H0 t ks F' H' := by
  obtain ⟨xs, h1, h2⟩ := a.hf
  have q1 := b.off a.ff h1 notTbl_lst (by simp [a.n2])
  have q2 := b.off a.fk a.hk notTbl_lst (by simp [a.n3])
  exact ⟨a.adv.trans b s0.ok, s, q1.1, ⟨xs, q1.2, h2.up b.ff⟩, q2.1, q2.2, a.n1, a.n2, a.n3⟩
theorem ThAt.addF {xs : List V} {v : V} {s : Step} (a : ThAt T l lf lk n F0 H0 t ks F H) (nw : Nw H0 lf) (hf : H lf = some (.lst xs)) (hd : ImL F (t.map stD) xs) (iv : Im F (stD s) v) : ThAt T l lf lk n F0 H0 (t ++ [s]) ks F (upd H lf (.lst (xs ++ [v]))) := by
  refine ⟨a.adv.mut nw a.ff hf mut_lst (by simp [a.n2]), ?_, a.ff, ⟨_, upd_same, by rw [List.map_append]; exact hd.snoc iv⟩, a.fk, by rw [upd_ne a.n1.symm]; exact a.hk, a.n1, a.n2, a.n3⟩
  obtain ⟨x, b, c, h1, h2⟩ := a.src.ex
  exact ⟨a.src.fl, x, b, c, by rw [upd_ne a.n2.symm]; exact h1, h2⟩
theorem ThAt.setK {ks' : List Str} (a : ThAt T l lf lk n F0 H0 t ks F H) (nw : Nw H0 lk) : ThAt T l lf lk n F0 H0 t ks' F (upd H lk (.lst (ks'.map V.str))) := by
  obtain ⟨xs, e1, e2⟩ := a.hf
  refine ⟨a.adv.mut nw a.fk a.hk mut_lst (by simp [a.n3]), ?_, a.ff, ⟨xs, by rw [upd_ne a.n1]; exact e1, e2⟩, a.fk, upd_same, a.n1, a.n2, a.n3⟩
  obtain ⟨x, b, c, h1, h2⟩ := a.src.ex
  exact ⟨a.src.fl, x, b, c, by rw [upd_ne a.n3.symm]; exact h1, h2⟩
-- an object comes to stand
theorem AdvM.set {L : List Addr} {p : Addr} {o : HO} (a : AdvM T L F H F' H') (hp : Nw H p) (hF : F' p = none) (hp' : H' p = some o) (n : NotTbl o) (hL : p ∉ L) : AdvM T L F H (upd F' p o) H' ∧ Ext F' (upd F' p o) := by
  have keep : ∀ x u, F' x = some u → upd F' p o x = some u := fun x u h => by rw [upd_ne fun z => by rw [z, hF] at h; cases h]; exact h
  refine ⟨⟨fun x u h => keep x u (a.ff x u h), fun x u h => ?_, a.hh, fun x u h => ?_, a.tab, fun x hx f e => ?_⟩, keep⟩
  · by_cases e : x = p
    · subst e; rw [upd_same] at h; cases h; exact ⟨n, .inl hp'⟩
    · rw [upd_ne e] at h; exact a.sub x u h
  · by_cases e : x = p
    · subst e; exact .inr (.inl hp)
    · rw [upd_ne e] at h; exact a.sep x u h
  · rw [upd_ne fun z => hL (by rw [← z]; exact hx)]
    exact a.out x hx f e
theorem ThAt.more {n' : Nat} (a : ThAt T l lf lk n F0 H0 t ks F H) (h : n ≤ n') : ThAt T l lf lk n' F0 H0 t ks F H := ⟨a.adv, a.src.mono h, a.ff, a.hf, a.fk, a.hk, a.n1, a.n2, a.n3⟩
end Tw
namespace Tw
open PySem PySem.Spec PyProof.Rows L2 LamX
def spThread (T : List (Addr × Str)) : Sp := fun vs H Q _ => ∃ F l n m vl vv, ∃ (ls us : List Str), Sub F H ∧ SrcAt l n F H ∧ n ≤ 80000 ∧ m ≤ 8 ∧ Im F (.list (ls.map .str)) vl ∧ Im F (.list (us.map .str)) vv ∧ (∀ x ∈ ls, okN x) ∧ ls.length ≤ 10 ∧ (∀ x ∈ us, okN x) ∧ us ≠ [] ∧ us.length ≤ 10 ∧ vs = [.ref l, vl, vv, .int (m : Nat)] ∧
  ∀ v t F' H', AdvM T [l] F H F' H' → SrcAt l (n + 40) F' H' → isThr t = true → okT t → t.length ≤ m → Im F' (thD t) v → Q v H'
section
variable {P : Program} {w : World} {K : PySem.W.Frag} {mg : Str → Option Value} {base : Heap} {T : List (Addr × Str)}
theorem ok_thread (F : DfN K mg "_law_thread" 65) (g : G K mg) (c : Cl P w K mg base 1 "_law_draw" ["_law_source", "_law_limit"] (spDraw T)) (c2 : Cl P w K mg base 2 "_law_choice" ["_law_source", "_law_items"] (spChoice T)) : Cl P w K mg base 3 "_law_thread" ["_law_source", "_law_locks", "_law_variables", "_law_most"] (spThread T) := by
  refine cl_of (N := ["_law_source", "_law_locks", "_law_variables", "_law_most", "_law_found", "_law_kept", "_law_turn", "_law_way", "_law_free", "_law_name", "_law_word"]) F ⟨rfl, rfl, rfl, by decide +kernel, rfl, by decide +kernel, by decide +kernel⟩ (fun vs H Q E ⟨F, l, n, m, vl, vv, ls, us, _, _, _, _, _, _, _, _, _, _, _, e, _⟩ => by rw [e]; rfl) (fun _ _ _ _ _ _ us hl => match us, hl with | [_, _, _, _], _ => rfl) ?_
  rintro f cdv A outer s H0 vs Q E hr ⟨F0, l, n, m, vl, vv, ls, us, sF, src, hn, hm, il, iv, hls, hll, hus, hu0, hul, rfl, k⟩
  have nd : (["_law_source", "_law_locks", "_law_variables", "_law_most", "_law_found", "_law_kept", "_law_turn", "_law_way", "_law_free", "_law_name", "_law_word"] : List Str).Nodup := by decide +kernel
  have ok0 := src.ok
  refine b_par2 (m := 4) (n := 5) rfl nd (EF.go (T := T) (ef_lst ea_nil (Nat.zero_le _)) (.refl sF) fun lf xs F1 H1 a1 nf ff hf df => EF.go (T := T) (ef_lst ea_nil (Nat.zero_le _)) (.refl a1.sub) fun lk ys F2 H2 a2 nk fk hk dk q hq => ?_)
  obtain rfl : xs = [] := df
  obtain rfl : ys = [] := dk
  have lay : Adv T F2 H2 F2 (upd H2 q (.tup [.ref lf, .ref lk])) := Adv.lay a2.sub hq
  obtain ⟨f2, h2⟩ := a2.off ff hf notTbl_lst
  obtain ⟨a0, b0, c0, hl0, _⟩ := src.ex
  have nwf : Nw H0 lf := nf
  have nwk : Nw H0 lk := Nw.back a1 nk
  have B0 : ThAt T l lf lk n F0 H0 [] [] F2 H2 := ⟨.of (a1.trans a2), (src.step a1).step a2, f2, ⟨[], h2, rfl⟩, fk, hk, nk.ne hf notTbl_lst, fun z => nwf.ne hl0 notTbl_lst z.symm, fun z => nwk.ne hl0 notTbl_lst z.symm⟩
  have B := B0.step lay src
  generalize upd H2 q (.tup [.ref lf, .ref lk]) = H3 at B lay ⊢
  refine b_forr (k := 6) (b_range g) rfl .never nd (rx_call c hr (EA.go (T := T) (eg_cons (ev_var (i := 0) rfl) (eg_cons (ed_add (ed_var (d := .int (m : Nat)) (i := 3) rfl rfl) ed_int) eg_nil mono_im) mono_eq) (.refl B.adv.sub) fun vs F4 H4 a4 hv => ?_))
  obtain ⟨w1, _, rfl, rfl, w2, _, rfl, e2, rfl⟩ := hv
  obtain rfl : w2 = .int ((m : Nat) + 1) := e2
  have B4 := B.step a4 src
  refine ⟨F4, l, n, (m : Nat) + 1, B4.adv.sub, B4.src, by omega, by omega, by omega, rfl, fun z F5 H5 a5 src5 z0 z1 => ⟨z.toNat, F5, by rw [Int.toNat_of_nonneg z0], by omega, a5.sub, ?_⟩⟩
  have B5 := B4.draw a5 src5 src
  have len8 : z.toNat ≤ m := by omega
  refine ⟨fun i σ F' H' => ∃ t ks x6 x7 x8 x9 x10, σ = [some (.ref l), some vl, some vv, some (.int (m : Nat)), some (.ref lf), some (.ref lk), x6, x7, x8, x9, x10] ∧ ThAt T l lf lk (n + 1 + 3 * i) F0 H0 t ks F' H' ∧ ThOk t ks m, ?_, ?_, ?_⟩
  · exact ⟨[], [], none, none, none, none, none, rfl, B5, ⟨rfl, (fun s hs => by cases hs), (fun k hk => by cases hk), Nat.zero_le _⟩⟩
  · rintro i σ1 F6 H6 hi s6 x6 ⟨t, ks, y6, y7, y8, y9, y10, rfl, B6, O⟩ N hN
    have hle := O.le
    have hn6 : n + 1 + 3 * i ≤ 90000 := by omega
    show rB _ _ _ [some (.ref l), some vl, some vv, some (.int (m : Nat)), some (.ref lf), some (.ref lk), some (.int (i : Nat)), y7, y8, y9, y10] H6
    refine b_parR (m := 7) (n := 8) rfl nd (rx_call c hr (EA.go (T := T) (eg_cons (ev_var (i := 0) rfl) (eg_cons (ed_int (i := 8)) eg_nil mono_im) mono_eq) (.refl s6) fun vs F7 H7 a7 hv => ?_))
    obtain ⟨w1, _, rfl, rfl, w2, _, rfl, e2, rfl⟩ := hv
    obtain rfl : w2 = .int 8 := e2
    have B7 := B6.step a7 src
    refine ⟨F7, l, n + 1 + 3 * i, 8, a7.sub, B7.src, by omega, by decide, by decide, rfl, fun wy F8 H8 a8 src8 wy0 wy1 => ?_⟩
    have B8 := B7.draw a8 src8 src
    have il8 : Im F8 (.list (ls.map .str)) vl := il.up B8.adv.ff
    have iv8 : Im F8 (.list (us.map .str)) vv := iv.up B8.adv.ff
    refine EX.go (T := T) (P := imP (.list ((ls.filter fun x => !decide (x ∈ ks)).map PyData.str))) (EF.ed (ef_lc1 (enc := PyData.str) (xs := ls) (bs := fun x => [(9, .str x)]) (own := [("_law_name", 9)]) rfl nd (by kernel_rfl) (wk_list (ed_var (i := 1) rfl il8)) (fun _ _ i hi => hi) (fun x => !decide (x ∈ ks)) (fun x => .str x) (fun s3 Hb C2 cl fp x hx => ⟨gt_name nd, fun F9 H9 a9 us2 hus2 => ?_⟩) (Nat.le_trans hll (by decide)))) (.refl B8.adv.sub) fun fv F9 H9 a9 ifv => ?_
    · obtain ⟨u1, _, rfl, m1, rfl⟩ := hus2
      have hk9 := (B8.step a9 src).hk
      exact ⟨et_niSm (ed_var (i := 9) rfl m1) (ev_var (i := 5) rfl) hk9, fun _ => ed_var (i := 9) rfl m1⟩
    have B9 := B8.step a9 src
    generalize hfr : ls.filter (fun x => !decide (x ∈ ks)) = fr at ifv
    show rB _ _ _ [some (.ref l), some vl, some vv, some (.int (m : Nat)), some (.ref lf), some (.ref lk), some (.int (i : Nat)), some (.int wy), some fv, y9, y10] H9
    have hfro : ∀ x ∈ fr, okN x ∧ x ∉ ks := fun x hx => by
      rw [← hfr] at hx
      obtain ⟨h1, h2⟩ := List.mem_filter.mp hx
      exact ⟨hls x h1, by simpa using h2⟩
    have hfrl : fr.length ≤ 10 := by rw [← hfr]; exact Nat.le_trans (List.length_filter_le _ _) hll
    obtain ⟨la, xs9, efv, hla9, dla9⟩ := id ifv
    subst efv
    obtain ⟨zf, hzf, dzf⟩ := B9.hf
    have lzf := dzf.length
    rw [List.length_map] at lzf
    have tail : ∀ {F' H' t' ks' y9' y10'}, Ext F9 F' → ThAt T l lf lk (n + 1 + 3 * (i + 1)) F0 H0 t' ks' F' H' → ThOk t' ks' m → N [some (.ref l), some vl, some vv, some (.int (m : Nat)), some (.ref lf), some (.ref lk), some (.int (i : Nat)), some (.int wy), some (.ref la), y9', y10'] H' := fun {F' H' t' ks' y9' y10'} x B O => hN _ F' H' B.adv.sub ((a7.ff.trans a8.ff).trans (a9.ff.trans x)) ⟨t', ks', _, _, _, _, _, rfl, B, O⟩
    refine b_if (T := T) (et_w (ew_and (et_lt (ed_var (d := .int wy) (i := 7) rfl rfl) ed_int) fun _ => ew_and (et_nonil hr.units (ev_var (i := 8) rfl) (a9.sub.at hla9) dla9 (lay_strs fr fun x hx => (hfro x hx).1).2.2 (sh_strs fr fun x hx => (hfro x hx).1)) fun _ => ew_and1 (et_le (ed_add (ed_add (ed_lenm (b_len g) (ev_var (i := 4) rfl) hzf) (ed_lenm (b_len g) (ev_var (i := 5) rfl) B9.hk)) ed_int) (ed_var (d := .int (m : Nat)) (i := 3) rfl rfl)))) a9.sub (fun c1 F10 H10 a10 => ?_) (fun c1 F10 H10 a10 => ?_)
    · have B10 := B9.step a10 src
      rw [Bool.and_eq_true, Bool.and_eq_true] at c1
      obtain ⟨_, c2', c3⟩ := c1
      have hne : fr ≠ [] := fun z => by rw [z] at c2'; simp at c2'
      have c3 := of_decide_eq_true c3
      rw [List.length_map] at c3
      have hla10 := a10.hh _ _ (a9.sub.at hla9) notTbl_lst
      have lal : la ≠ l := fun z => by rw [z, B9.src.fl] at hla9; cases hla9
      refine b_appR (k := 5) rfl B10.hk (rx_call c2 hr (EA.go (T := T) (eg_cons (ev_var (i := 0) rfl) (eg_cons (ev_var (i := 8) rfl) eg_nil mono_eq) mono_eq) (.refl a10.sub) fun vs F11 H11 a11 hv => ?_))
      obtain ⟨w1, _, rfl, rfl, w2, _, rfl, rfl, rfl⟩ := hv
      have B11 := B10.step a11 src
      refine ⟨F11, l, n + 1 + 3 * i + 1, la, xs9, fr.map .str, a11.sub, B11.src, by omega, a11.hh _ _ hla10 notTbl_lst, lal, (dla9.up a10.ff).up a11.ff, by simpa using hne, by rw [List.length_map]; omega, rfl, fun v d F12 H12 a12 src12 hd iv => ?_⟩
      obtain ⟨x, hx, rfl⟩ := List.mem_map.mp hd
      obtain rfl : v = .str x := iv
      have B12 := B11.draw a12 src12 src
      refine ⟨_, B12.hk, by rw [List.length_map]; exact Nat.lt_of_le_of_lt (by omega : ks.length ≤ 8) (by decide), ?_⟩
      have e1 : ks.map V.str ++ [V.str x] = (ks ++ [x]).map V.str := by rw [List.map_append]; rfl
      rw [e1]
      have B13 := B12.setK (ks' := ks ++ [x]) nwk
      generalize upd H12 lk (.lst ((ks ++ [x]).map V.str)) = H13 at B13 ⊢
      obtain ⟨z13, hz13, dz13⟩ := B13.hf
      have lz13 := dz13.length
      rw [List.length_map] at lz13
      refine b_appR (k := 4) rfl hz13 (goE (pe_tup (pa_cons pe_r (pa_cons pe_r pa_nil))) (rx_call c2 hr (EA.go (T := T) (eg_cons (ev_var (i := 0) rfl) (eg_cons (EF.ed (ef_lst (ea_cons ed_str (ea_cons ed_str (ea_cons ed_str (ea_cons ed_str ea_nil)))))) eg_nil mono_im) mono_eq) (.refl B13.adv.sub) fun vs F14 H14 a14 hv => ?_)))
      obtain ⟨w1, _, rfl, rfl, w2, _, rfl, ⟨lb, ys, rfl, hlb, dlb⟩, rfl⟩ := hv
      have B14 := B13.step a14 src
      refine ⟨F14, l, n + 1 + 3 * i + 1 + 1, lb, ys, (["lock", "lock", "lock", "share"] : List Str).map .str, a14.sub, B14.src, by omega, a14.sub.at hlb, (fun z => by rw [z, B14.src.fl] at hlb; cases hlb), dlb, by decide, by decide, rfl, fun v d F15 H15 a15 src15 hd iv => ?_⟩
      obtain ⟨wd, hwd, rfl⟩ := List.mem_map.mp hd
      obtain rfl : v = .str wd := iv
      have B15 := B14.draw a15 src15 src
      have hlast : atI ((ks ++ [x]).map PyData.str) (-1) = some (.str x) := by
        unfold atI ixN
        rw [if_neg (by decide), if_pos (by rw [List.length_map, List.length_append, List.length_singleton]; omega), List.length_map, List.length_append, List.length_singleton]
        show ((ks ++ [x]).map PyData.str)[(-1 + ((ks.length + 1 : Nat) : Int)).toNat]? = _
        rw [show (-1 + ((ks.length + 1 : Nat) : Int)).toNat = ks.length by omega, List.getElem?_map, List.getElem?_append_right (Nat.le_refl _), Nat.sub_self]
        rfl
      refine EX.go (T := T) (ed_ixm (ev_var (i := 5) rfl) B15.hk (ImL.strs.mpr rfl) (ed_neg ed_int) hlast) (.refl B15.adv.sub) fun u F16 H16 a16 eu => ?_
      obtain rfl : u = .str x := eu
      have B16 := B15.step a16 src
      refine ⟨Nat.le_of_ble_eq_true rfl, fun r hrr => ?_⟩
      have ad : Adv T F16 H16 (upd F16 r (.tup [.str wd, .str x])) (upd H16 r (.tup [.str wd, .str x])) := Adv.new B16.adv.sub hrr notTbl_tup
      have B17 := B16.step ad src
      obtain ⟨z17, hz17, dz17⟩ := B17.hf
      have lz17 := dz17.length
      rw [List.length_map] at lz17
      refine ⟨z17, hz17, Nat.lt_of_le_of_lt (by omega : z17.length ≤ 8) (by decide), ?_⟩
      have B18 := B17.addF (s := (wd, x)) nwf hz17 dz17 ⟨r, _, rfl, upd_same, _, _, rfl, rfl, _, _, rfl, rfl, rfl⟩
      have hwd2 : wd ∈ (["lock", "share"] : List Str) := by
        have : ∀ w ∈ (["lock", "lock", "lock", "share"] : List Str), w ∈ (["lock", "share"] : List Str) := by decide
        exact this wd hwd
      refine rB_nil (rB_nil (tail ((((((a10.ff.trans a11.ff).trans a12.ff).trans a14.ff).trans a15.ff).trans a16.ff).trans ad.ff) (B18.more (by omega)) (O.lock hwd2 (hfro x hx).2 (hfro x hx).1 (by omega))))
    · have B10 := B9.step a10 src
      obtain ⟨z10, hz10, dz10⟩ := B10.hf
      have lz10 := dz10.length
      rw [List.length_map] at lz10
      refine b_if (T := T) (et_w (ew_and (et_lt (ed_var (d := .int wy) (i := 7) rfl rfl) ed_int) fun _ => ew_and1 (et_nonil hr.units (ev_var (i := 5) rfl) B10.hk (ImL.strs.mpr rfl) (lay_strs ks O.nm).2.2 (sh_strs ks O.nm)))) a10.sub (fun c2' F11 H11 a11 => ?_) (fun c2' F11 H11 a11 => ?_)
      · rw [Bool.and_eq_true] at c2'
        have hne : ks ≠ [] := fun z => by rw [z] at c2'; simp at c2'
        have B11 := B10.step a11 src
        refine b_asgR (i := 9) (rx_call c2 hr (EA.go (T := T) (eg_cons (ev_var (i := 0) rfl) (eg_cons (ev_var (i := 5) rfl) eg_nil mono_eq) mono_eq) (.refl a11.sub) fun vs F12 H12 a12 hv => ?_)) nd
        obtain ⟨w1, _, rfl, rfl, w2, _, rfl, rfl, rfl⟩ := hv
        have B12 := B11.step a12 src
        refine ⟨F12, l, n + 1 + 3 * i + 1, lk, _, ks.map .str, a12.sub, B12.src, by omega, B12.hk, B12.n3, ImL.strs.mpr rfl, by simpa using hne, by rw [List.length_map]; omega, rfl, fun v d F13 H13 a13 src13 hd iv => ?_⟩
        obtain ⟨x, hx, rfl⟩ := List.mem_map.mp hd
        obtain rfl : v = .str x := iv
        have B13 := B12.draw a13 src13 src
        show rB _ _ _ [some (.ref l), some vl, some vv, some (.int (m : Nat)), some (.ref lf), some (.ref lk), some (.int (i : Nat)), some (.int wy), some (.ref la), some (.str x), y10] H13
        refine b_remS (T := T) (x := x) (zs := ks) B13.adv.sub (ev_var (i := 5) rfl) (ed_var (i := 9) rfl rfl) B13.fk B13.hk hx fun F14 H14 a14 _ hk14 s14 => ?_
        have B14 := (B13.step a14 src).setK (ks' := ks.erase x) nwk
        generalize upd H14 lk (.lst ((ks.erase x).map V.str)) = H15 at B14 ⊢
        obtain ⟨z15, hz15, dz15⟩ := B14.hf
        have lz15 := dz15.length
        rw [List.length_map] at lz15
        refine b_appR (k := 4) rfl hz15 (EX.go (T := T) (ed_tup (ea_cons ed_str (ea_cons (ed_var (d := .str x) (i := 9) rfl rfl) ea_nil))) (.refl B14.adv.sub) fun u F16 H16 a16 iu => ?_)
        have B16 := B14.step a16 src
        obtain ⟨z16, hz16, dz16⟩ := B16.hf
        have lz16 := dz16.length
        rw [List.length_map] at lz16
        refine ⟨z16, hz16, Nat.lt_of_le_of_lt (by omega : z16.length ≤ 8) (by decide), ?_⟩
        have B17 := B16.addF (s := freeS x) nwf hz16 dz16 iu
        exact rB_nil (rB_nil (rB_nil (tail (((((a10.ff.trans a11.ff).trans a12.ff).trans a13.ff).trans a14.ff).trans a16.ff) (B17.more (by omega)) (O.free hx))))
      · have B11 := B10.step a11 src
        obtain ⟨z11, hz11, dz11⟩ := B11.hf
        have lz11 := dz11.length
        rw [List.length_map] at lz11
        refine b_when (T := T) (et_le (ed_add (ed_add (ed_lenm (b_len g) (ev_var (i := 4) rfl) hz11) (ed_lenm (b_len g) (ev_var (i := 5) rfl) B11.hk)) ed_int) (ed_var (d := .int (m : Nat)) (i := 3) rfl rfl)) a11.sub (fun c3' F12 H12 a12 => ?_) (fun _ F12 H12 a12 => rB_nil (rB_nil (rB_nil (tail ((a10.ff.trans a11.ff).trans a12.ff) ((B11.step a12 src).more (by omega)) O))))
        have c3' := of_decide_eq_true c3'
        rw [List.length_map] at c3'
        have B12 := B11.step a12 src
        refine b_asgR (i := 10) (rx_call c2 hr (EA.go (T := T) (eg_cons (ev_var (i := 0) rfl) (eg_cons (EF.ed (ef_lst (ea_cons ed_str (ea_cons ed_str (ea_cons ed_str (ea_cons ed_str ea_nil)))))) eg_nil mono_im) mono_eq) (.refl B12.adv.sub) fun vs F13 H13 a13 hv => ?_)) nd
        obtain ⟨w1, _, rfl, rfl, w2, _, rfl, ⟨lb, ys, rfl, hlb, dlb⟩, rfl⟩ := hv
        have B13 := B12.step a13 src
        refine ⟨F13, l, n + 1 + 3 * i + 1, lb, ys, (["read", "write", "write", "work"] : List Str).map .str, a13.sub, B13.src, by omega, a13.sub.at hlb, (fun z => by rw [z, B13.src.fl] at hlb; cases hlb), dlb, by decide, by decide, rfl, fun v d F14 H14 a14 src14 hd iv14 => ?_⟩
        obtain ⟨wd, hwd, rfl⟩ := List.mem_map.mp hd
        obtain rfl : v = .str wd := iv14
        have B14 := B13.draw a14 src14 src
        show rB _ _ _ [some (.ref l), some vl, some vv, some (.int (m : Nat)), some (.ref lf), some (.ref lk), some (.int (i : Nat)), some (.int wy), some (.ref la), y9, some (.str wd)] H14
        obtain ⟨z14, hz14, dz14⟩ := B14.hf
        refine b_appR (k := 4) rfl hz14 (goE (pe_tup (pa_cons pe_r (pa_cons pe_r pa_nil))) (EX.go (T := T) (ed_var (d := .str wd) (i := 10) rfl rfl) (.refl B14.adv.sub) fun u F15 H15 a15 eu => rx_call c2 hr (EA.go (T := T) (eg_cons (ev_var (i := 0) rfl) (eg_cons (ed_var (i := 2) rfl (iv.up (B14.step a15 src).adv.ff)) eg_nil mono_im) mono_eq) (.refl a15.sub) fun vs F16 H16 a16 hv => ?_)))
        obtain rfl : u = .str wd := eu
        obtain ⟨w1, _, rfl, rfl, w2, _, rfl, ⟨lc, zs, rfl, hlc, dlc⟩, rfl⟩ := hv
        have B16 := (B14.step a15 src).step a16 src
        refine ⟨F16, l, n + 1 + 3 * i + 1 + 1, lc, zs, us.map .str, a16.sub, B16.src, by omega, a16.sub.at hlc, (fun z => by rw [z, B16.src.fl] at hlc; cases hlc), dlc, by simpa using hu0, by rw [List.length_map]; omega, rfl, fun v d F17 H17 a17 src17 hd iv17 => ?_⟩
        obtain ⟨x, hx, rfl⟩ := List.mem_map.mp hd
        obtain rfl : v = .str x := iv17
        have B17 := B16.draw a17 src17 src
        refine ⟨Nat.le_of_ble_eq_true rfl, fun r hrr => ?_⟩
        have ad : Adv T F17 H17 (upd F17 r (.tup [.str wd, .str x])) (upd H17 r (.tup [.str wd, .str x])) := Adv.new B17.adv.sub hrr notTbl_tup
        have B18 := B17.step ad src
        obtain ⟨z18, hz18, dz18⟩ := B18.hf
        have lz18 := dz18.length
        rw [List.length_map] at lz18
        refine ⟨z18, hz18, Nat.lt_of_le_of_lt (by omega : z18.length ≤ 8) (by decide), ?_⟩
        have B19 := B18.addF (s := (wd, x)) nwf hz18 dz18 ⟨r, _, rfl, upd_same, _, _, rfl, rfl, _, _, rfl, rfl, rfl⟩
        have hwd2 : wd ∈ (["read", "write", "work"] : List Str) := by
          have : ∀ w ∈ (["read", "write", "write", "work"] : List Str), w ∈ (["read", "write", "work"] : List Str) := by decide
          exact this wd hwd
        exact rB_nil (rB_nil (rB_nil (rB_nil (tail ((((((((a10.ff.trans a11.ff).trans a12.ff).trans a13.ff).trans a14.ff).trans a15.ff).trans a16.ff).trans a17.ff).trans ad.ff) (B19.more (by omega)) (O.use hwd2 (hus x hx) (by omega))))))
  · rintro σ1 F6 H6 s6 x6 ⟨t, ks, y6, y7, y8, y9, y10, rfl, B6, O⟩
    obtain ⟨xs, hf6, df6⟩ := B6.hf
    obtain ⟨A7, x7⟩ := B6.adv.set nwf B6.ff hf6 notTbl_lst (by simp [B6.n2])
    have k7 : upd F6 lf (.lst xs) lk = none := by rw [upd_ne B6.n1.symm]; exact B6.fk
    obtain ⟨A8, x8⟩ := A7.set nwk k7 B6.hk notTbl_lst (by simp [B6.n3])
    have if8 : Im (upd (upd F6 lf (.lst xs)) lk (.lst (ks.map V.str))) (.list (t.map stD)) (.ref lf) := ⟨lf, xs, rfl, x8 _ _ upd_same, (df6.up x7).up x8⟩
    have ik8 : Im (upd (upd F6 lf (.lst xs)) lk (.lst (ks.map V.str))) (.list (ks.map .str)) (.ref lk) := ⟨lk, _, rfl, upd_same, ImL.strs.mpr rfl⟩
    have S8 : SrcAt l (n + 1 + 3 * z.toNat) (upd (upd F6 lf (.lst xs)) lk (.lst (ks.map V.str))) H6 := ⟨by rw [upd_ne B6.n3.symm, upd_ne B6.n2.symm]; exact B6.src.fl, B6.src.ex⟩
    generalize upd (upd F6 lf (.lst xs)) lk (.lst (ks.map V.str)) = F8 at A8 if8 ik8 S8
    have O2 := O.done
    have hle := O.le
    obtain ⟨r1, r2, r3⟩ := O2.thr (by omega)
    refine b_ret (T := T) (P := imP (thD (t ++ ks.map freeS))) (ED.to (ed_addt (ed_tupl (b_tuple g) (ed_var (i := 4) rfl if8)) (ed_tupl (b_tuple g) (EF.ed (ef_lc0 (enc := PyData.str) (xs := ks) (bs := fun x => [(9, .str x)]) (own := [("_law_name", 9)]) rfl nd (by kernel_rfl) (wk_list (ed_var (i := 5) rfl ik8)) (fun _ _ i hi => hi) (fun x => stD (freeS x)) (fun s3 Hb C2 cl fp x hx => ⟨gt_name nd, fun F9 H9 a9 us hus => ?_⟩) (Nat.le_trans (by omega : ks.length ≤ 8) (by decide))))) (by rw [List.length_map, List.length_map]; exact Nat.le_trans (by omega : t.length + ks.length ≤ 8) (by decide))) (by unfold thD; rw [List.map_append, List.map_map]; rfl)) A8.sub fun v F9 H9 a9 q => ?_
    · obtain ⟨u1, _, rfl, m1, rfl⟩ := hus
      exact ed_tup (ea_cons ed_str (ea_cons (ed_var (i := 9) rfl m1) ea_nil))
    · exact k v _ F9 H9 (A8.trans (.of a9) ok0) ((S8.step a9).mono (by omega)) r1 r2 r3 q
end
end Tw
namespace Tw
open PySem PySem.Spec PyProof.Rows L2 LamX
section
variable {P : Program} {w : World} {K : PySem.W.Frag} {mg : Str → Option Value} {base : Heap} {T : List (Addr × Str)}
theorem ok_lforces (F : DfN K mg "_law_forces" 68) : Cl P w K mg base 1 "_law_forces" ["_law_one", "_law_other"] (spD T Rforces) := by
  refine cl_of (N := ["_law_one", "_law_other"]) F ⟨rfl, rfl, rfl, by decide +kernel, rfl, by decide +kernel, by decide +kernel⟩ (len_spD fun ds d ⟨a, b, e, _⟩ => by rw [e]; rfl) (fun _ _ _ _ _ _ us hl => match us, hl with | [_, _], _ => rfl) ?_
  intro f cdv A outer s H vs Q E hr ⟨F, ds, d, sF, hv, ⟨a, b, e1, e2⟩, k⟩
  subst e1
  obtain ⟨v1, _, rfl, i1, v2, _, rfl, i2, rfl⟩ := hv
  refine b_ret (P := imP d) ?_ sF k
  subst e2
  refine ED.to (ed_and (k1 := decide ((b.ab : Int) ≤ a.ae)) (k2 := decide ((a.bb : Int) ≤ b.be)) (ed_le (ed_ixt (ed_var (i := 1) rfl i2) ed_int rfl) (ed_ixt (ed_var (i := 0) rfl i1) ed_int rfl)) fun _ =>
    ed_one (ed_le (ed_ixt (ed_var (i := 0) rfl i1) ed_int rfl) (ed_ixt (ed_var (i := 1) rfl i2) ed_int rfl))) ?_
  unfold forcesC
  simp only [Int.ofNat_le]
def Rwith (ds : List PyData) (d : PyData) : Prop := ∃ (a b t : PyData) (x : Str), ds = [.tuple [a, b], .str x, t] ∧ d = if x = "a" then .tuple [t, b] else .tuple [a, t]
theorem ok_with (F : DfN K mg "_law_with" 74) : Cl P w K mg base 1 "_law_with" ["_law_duo", "_law_letter", "_law_steps"] (spD T Rwith) := by
  refine cl_of (N := ["_law_duo", "_law_letter", "_law_steps"]) F ⟨rfl, rfl, rfl, by decide +kernel, rfl, by decide +kernel, by decide +kernel⟩ (len_spD fun ds d ⟨a, b, t, x, e, _⟩ => by rw [e]; rfl) (fun _ _ _ _ _ _ us hl => match us, hl with | [_, _, _], _ => rfl) ?_
  intro f cdv A outer s H vs Q E hr ⟨F, ds, d, sF, hv, ⟨a, b, t, x, e1, e2⟩, k⟩
  subst e1
  obtain ⟨v1, _, rfl, i1, v2, _, rfl, i2, v3, _, rfl, i3, rfl⟩ := hv
  refine b_ret (P := imP d) (ex_if (k1 := decide (x = "a")) (et_eqS (ed_var (i := 1) rfl i2) ed_str) (fun c => ?_) fun c => ?_) sF k
  · rw [e2, if_pos (of_decide_eq_true c)]
    exact ed_tup (ea_cons (ed_var (i := 2) rfl i3) (ea_cons (ed_ixt (ed_var (i := 0) rfl i1) ed_int rfl) ea_nil))
  · rw [e2, if_neg (of_decide_eq_false c)]
    exact ed_tup (ea_cons (ed_ixt (ed_var (i := 0) rfl i1) ed_int rfl) (ea_cons (ed_var (i := 2) rfl i3) ea_nil))
end
end Tw
namespace Tw
open PySem PySem.Spec PyProof.Rows L2 LamX
-- the ends of a lock kept from b on
def endsL (t : Thr) (b : Nat) (n : Str) : List Nat := ((List.range (t.length - b)).map fun j => b + j).filter fun e => decide (t[e]? = some (freeS n))
def partOf (t : Thr) (q : Step × Nat) : List Sec := if q.1.1 ∈ (["lock", "share"] : List Str) then [⟨q.2, (endsL t q.2 q.1.2).headD 0, q.1.1, q.1.2⟩] else []
def partsL (t : Thr) : List Sec := t.zipIdx.flatMap (partOf t)
def LocksEnd (t : Thr) : Prop := ∀ (i : Nat) (s : Step), t[i]? = some s → s.1 ∈ (["lock", "share"] : List Str) → endsL t i s.2 ≠ []
theorem partsL_len (t : Thr) : (partsL t).length ≤ t.length := by
  have gen : ∀ l : List (Step × Nat), (l.flatMap (partOf t)).length ≤ l.length := by
    intro l
    induction l with
    | nil => exact Nat.le_refl _
    | cons q l ih =>
      rw [List.flatMap_cons, List.length_append, List.length_cons]
      have : (partOf t q).length ≤ 1 := by
        unfold partOf
        split
        · exact Nat.le_refl _
        · exact Nat.zero_le _
      omega
  have := gen t.zipIdx
  rwa [List.length_zipIdx] at this
theorem eqv_step (a b : Step) : PyData.eqv (stD a) (stD b) = decide (a = b) := by
  obtain ⟨x, y⟩ := a
  obtain ⟨z, w⟩ := b
  rw [Bool.eq_iff_iff, decide_eq_true_eq]
  simp [stD, PyData.eqv, PyData.eqvAll, Prod.ext_iff]
theorem okD_step {s : Step} (h : okS s) : okD (stD s) = true := by
  have h1 : PyData.strOk s.1 = true := by
    have : ∀ w ∈ wordsL, PyData.strOk w = true := by decide +kernel
    exact this _ h.1
  simp [okD, stD, PyData.hasDict, PyData.hasDictAll, SeqAt.shaped, PyData.canLay0, PyData.canLayAll0, PyData.depth, PyData.depthAll, h1, ok_str h.2]
section
variable {P : Program} {w : World} {K : PySem.W.Frag} {mg : Str → Option Value} {base : Heap} {T : List (Addr × Str)}
def Rparts (ds : List PyData) (d : PyData) : Prop := ∃ t : Thr, okT t ∧ LocksEnd t ∧ t.length ≤ 100 ∧ ds = [thD t] ∧ d = .list ((partsL t).map secD)
theorem ok_parts (F : DfN K mg "_law_parts" 66) (g : G K mg) : Cl P w K mg base 1 "_law_parts" ["_law_thread_here"] (spD T Rparts) := by
  refine cl_of (N := ["_law_thread_here", "_law_found", "_law_begin", "_law_word", "_law_name", "_law_ends", "_law_end"]) F ⟨rfl, rfl, rfl, by decide +kernel, rfl, by decide +kernel, by decide +kernel⟩ (len_spD fun ds d ⟨n, _, _, _, e, _⟩ => by rw [e]; rfl) (fun _ _ _ _ _ _ us hl => match us, hl with | [_], _ => rfl) ?_
  rintro f cdv A outer s H0 vs Q E hr ⟨F0, ds, d, sF, hv, ⟨t, ht, hle, h100, e1, e2⟩, k⟩
  subst e1 e2
  obtain ⟨v1, _, rfl, i1, rfl⟩ := hv
  have nd : (["_law_thread_here", "_law_found", "_law_begin", "_law_word", "_law_name", "_law_ends", "_law_end"] : List Str).Nodup := by decide +kernel
  have hz : 200 ≤ sizeLine := by decide
  refine b_asgF (T := T) (i := 1) (ef_lst ea_nil (Nat.zero_le _)) sF (fun l xs F1 H1 a1 hn hF hl hd => ?_) nd
  obtain rfl : xs = [] := hd
  have A0 : App T F0 H0 l (fun σ => ∃ x2 x3 x4 x5, σ = [some v1, some (.ref l), x2, x3, x4, x5, none]) [] _ F1 H1 := ⟨⟨none, none, none, none, rfl⟩, a1, hF, [], hl, rfl⟩
  have plen : (partsL t).length ≤ 100 := Nat.le_trans (partsL_len t) h100
  refine b_forapp (T := T) (enc := nsD) (xs := t.zipIdx) (bs := fun q => [(2, .int (q.2 : Nat)), (3, .str q.1.1), (4, .str q.1.2)]) rfl .never (Wk.to (wk_enumt (b_enum g) (ed_var (i := 0) rfl (i1.up a1.ff))) (enum_steps t)) (fun x _ => gt_tup rfl (gts_cons (gt_name nd) (gts_cons (gt_tup rfl (gts_cons (gt_name nd) (gts_cons (gt_name nd) gts_nil))) gts_nil)))
    (fun q => (partOf t q).map secD) A0 (by rw [← List.map_flatMap, List.length_map, List.length_nil, Nat.zero_add]; exact Nat.le_trans plen (by decide)) ?_ ?_
  · rintro ⟨⟨wd, nm⟩, i⟩ hq ds' σ1 F2 H2 hz2 s2 x2 A2 us F3 H3 a3 ⟨u0, _, rfl, m0, u1, _, rfl, m1, u2, _, rfl, m2, rfl⟩ N hN
    obtain rfl : u0 = .int (i : Nat) := m0
    obtain rfl : u1 = .str wd := m1
    obtain rfl : u2 = .str nm := m2
    obtain ⟨y2, y3, y4, y5, rfl⟩ := A2.is
    have hti : t[i]? = some (wd, nm) := by
      obtain ⟨j, hj⟩ := List.getElem?_of_mem hq
      rw [List.getElem?_zipIdx] at hj
      cases e : t[j]? with
      | none => rw [e] at hj; cases hj
      | some s5 =>
        rw [e] at hj
        simp at hj
        obtain ⟨h1, h2⟩ := hj
        rw [← h2, e, h1]
    have hil : i < t.length := (List.getElem?_eq_some_iff.mp hti).1
    have A3 := A2.step a3 (σ' := [some v1, some (.ref l), some (.int (i : Nat)), some (.str wd), some (.str nm), y5, none]) ⟨_, _, _, _, rfl⟩
    show rB _ _ _ [some v1, some (.ref l), some (.int (i : Nat)), some (.str wd), some (.str nm), y5, none] H3
    refine b_when (T := T) (k0 := decide (wd ∈ (["lock", "share"] : List Str))) (et_inSt (zs := ["lock", "share"]) (ed_var (i := 3) rfl rfl) (ed_tup (ea_cons ed_str (ea_cons ed_str ea_nil)))) a3.sub (fun c F4 H4 a4 => ?_) (fun c F4 H4 a4 => ?_)
    · have hw := of_decide_eq_true c
      have A4 := A3.step a4 A3.is
      have it4 : Im F4 (thD t) v1 := i1.up ((a1.ff.trans x2).trans (a3.ff.trans a4.ff))
      have hne := hle i (wd, nm) hti hw
      refine b_setLc1 (T := T) (i := 5) (enc := fun j : Nat => PyData.int ((i : Nat) + (j : Nat))) (xs := List.range (t.length - i)) (bs := fun j => [(6, .int ((i : Nat) + (j : Nat)))]) (own := [("_law_end", 6)]) rfl nd (by kernel_rfl) (Wk.to (wk_range2 (b_range g) (ed_var (d := .int (i : Nat)) (i := 2) rfl rfl) (ed_lent (b_len g) (ed_var (i := 0) rfl it4)) ⟨by omega, by omega, by omega, by rw [List.length_map]; omega⟩) (by rw [List.length_map]; unfold rangeD; rw [show ((t.length : Int) - (i : Int)).toNat = t.length - i by omega])) (fun _ _ i hi => hi)
        (fun j => decide (t[i + j]? = some (freeS nm))) (fun j => .int ((i + j : Nat) : Int)) (fun s3 Hb C2 cl fp j hj => ⟨gt_name nd, fun F5 H5 a5 us hus => ?_⟩) (by rw [List.length_range]; omega) a4.sub fun ve F5 H5 a5 ie => ?_
      · obtain ⟨u1, _, rfl, m1, rfl⟩ := hus
        have hj' : i + j < t.length := by have := List.mem_range.mp hj; omega
        have e : t[i + j]? = some t[i + j] := List.getElem?_eq_getElem hj'
        have ej : ((i : Nat) : Int) + (j : Nat) = ((i + j : Nat) : Int) := by omega
        have ix : atI (t.map stD) ((i + j : Nat) : Int) = some (stD t[i + j]) := atI_nat (by rw [List.getElem?_map, e]; rfl)
        have hnm : okS (freeS nm) := ⟨by show ("free" : Str) ∈ wordsL; decide, (ht _ (List.mem_of_getElem? hti)).2⟩
        refine ⟨ET.to (et_eqD hr.units (ed_ixt (ed_var (i := 0) rfl (it4.up a5.ff)) (ED.to (ed_var (i := 6) rfl m1) (by rw [ej])) ix) (ed_tup (ds := [.str "free", .str nm]) (ea_cons ed_str (ea_cons (ed_var (d := .str nm) (i := 4) rfl rfl) ea_nil))) (okD_step (ht _ (List.getElem_mem hj'))) (okD_step hnm)) ?_, fun _ => ED.to (ed_var (i := 6) rfl m1) (by rw [ej])⟩
        rw [e]
        show PyData.eqv (stD t[i + j]) (stD (freeS nm)) = _
        rw [eqv_step]
        simp
      · have ee : ((List.range (t.length - i)).filter fun j => decide (t[i + j]? = some (freeS nm))).map (fun j => PyData.int ((i + j : Nat) : Int)) = (endsL t i nm).map fun e => PyData.int (e : Nat) := by
          unfold endsL
          rw [List.filter_map, List.map_map]
          rfl
        rw [ee] at ie
        have A5 := A4.step a5 (σ' := [some v1, some (.ref l), some (.int (i : Nat)), some (.str wd), some (.str nm), some (.ref ve), none]) ⟨_, _, _, _, rfl⟩
        have h0 : ((endsL t i nm).map fun e => PyData.int (e : Nat))[0]? = some (.int ((endsL t i nm).headD 0 : Nat)) := by
          cases q : endsL t i nm with
          | nil => exact absurd q hne
          | cons x r => rfl
        have ep : partOf t ((wd, nm), i) = [⟨i, (endsL t i nm).headD 0, wd, nm⟩] := by unfold partOf; rw [if_pos hw]
        rw [ep] at hz2
        simp only [List.map_cons, List.map_nil, List.length_singleton] at hz2
        refine b_appA (T := T) A5 hn (ev_var (i := 1) rfl) (ed_tup (ea_cons (ed_var (d := .int (i : Nat)) (i := 2) rfl rfl) (ea_cons (ed_ixl (ed_var (i := 5) rfl ie) ed_int (atI_nat (i := 0) h0)) (ea_cons (ed_var (d := .str wd) (i := 3) rfl rfl) (ea_cons (ed_var (d := .str nm) (i := 4) rfl rfl) ea_nil))))) (by omega) fun F6 H6 s6 x6 A6 => ?_
        refine rB_nil (rB_nil (hN _ _ _ s6 (((a3.ff.trans a4.ff).trans a5.ff).trans x6) (A6.to ?_)))
        rw [ep]
        rfl
    · refine rB_nil (hN _ _ _ a4.sub (a3.ff.trans a4.ff) ((A3.step a4 A3.is).to ?_))
      unfold partOf
      rw [if_neg (of_decide_eq_false c)]
      simp
  · rintro σ1 F2 H2 s2 x2 A2
    obtain ⟨x2, x3, x4, x5, rfl⟩ := A2.is
    obtain ⟨F5, a5, m5, _⟩ := A2.out hn
    refine b_ret (T := T) (ED.to (ed_var (i := 1) rfl m5) (by unfold partsL; rw [List.map_flatMap]; rfl)) a5.sub fun v F6 H6 a6 q => k v F6 H6 (a5.trans a6) q
end
end Tw
set_option maxHeartbeats 2000000
namespace Tw
open PySem PySem.Spec PyProof.Rows L2 LamX
def shareP : Step := (("share" : Str), ("share" : Str))
def lLockOne (a b : Sec) : List Con := if (decide (a.name = b.name) && !decide (((a.how, b.how) : Step) = shareP)) = true then [⟨a.b, a.e, b.b, b.e, "lock", a.name⟩] else []
def lDataOne (a b : Step × Nat) : List Con := if (decide (a.1.2 = b.1.2) && (decide (("write" : Str) ∈ [a.1.1, b.1.1]) && (decide (a.1.1 ∈ (["read", "write"] : List Str)) && decide (b.1.1 ∈ (["read", "write"] : List Str))))) = true then [⟨a.2, a.2, b.2, b.2, "data", a.1.2⟩] else []
def lLockCs (p : Pr) : List Con := (partsL p.1).flatMap fun a => (partsL p.2).flatMap (lLockOne a)
def lDataCs (p : Pr) : List Con := p.1.zipIdx.flatMap fun a => p.2.zipIdx.flatMap (lDataOne a)
def lconts (p : Pr) : List Con := (lLockCs p ++ lDataCs p).mergeSort (PySem.W.dataLe false Con.d)
structure okL (p : Pr) : Prop where
  t1 : okT p.1
  t2 : okT p.2
  e1 : LocksEnd p.1
  e2 : LocksEnd p.2
  l1 : p.1.length ≤ 40
  l2 : p.2.length ≤ 40
theorem lLockCs_len {p : Pr} (h : okL p) : (lLockCs p).length ≤ 1600 := by
  have h1 := partsL_len p.1
  have h2 := partsL_len p.2
  have h3 := h.l1
  have h4 := h.l2
  refine Nat.le_trans (flat_len (k := 40) fun a _ => Nat.le_trans (flat_len (k := 1) fun b _ => ?_) (by omega)) (by omega)
  unfold lLockOne
  split <;> simp
theorem lDataCs_len {p : Pr} (h : okL p) : (lDataCs p).length ≤ 1600 := by
  have h3 := h.l1
  have h4 := h.l2
  refine Nat.le_trans (flat_len (k := 40) fun a _ => Nat.le_trans (flat_len (k := 1) fun b _ => ?_) (by rw [List.length_zipIdx]; omega)) (by rw [List.length_zipIdx]; omega)
  unfold lDataOne
  split <;> simp

theorem okD_two {x y : Str} (h1 : PyData.strOk x = true) (h2 : PyData.strOk y = true) : okD (.tuple [.str x, .str y]) = true := by
  simp [okD, PyData.hasDict, PyData.hasDictAll, SeqAt.shaped, PyData.canLay0, PyData.canLayAll0, PyData.depth, PyData.depthAll, h1, h2]
theorem part_ok {t : Thr} {s : Sec} (ht : okT t) (h : s ∈ partsL t) : s.how ∈ (["lock", "share"] : List Str) ∧ okN s.name := by
  obtain ⟨q, hq, hs⟩ := List.mem_flatMap.mp h
  unfold partOf at hs
  split at hs
  · rename_i hw
    have e := List.mem_singleton.mp hs
    subst e
    have hm : q.1 ∈ t := by
      have := List.mem_zipIdx hq
      have e := this.2.2
      rw [e]
      exact List.getElem_mem _
    exact ⟨hw, (ht _ hm).2⟩
  · cases hs
theorem how_ok {x : Str} (h : x ∈ (["lock", "share"] : List Str)) : PyData.strOk x = true := by
  have : ∀ w ∈ (["lock", "share"] : List Str), PyData.strOk w = true := by decide +kernel
  exact this x h
section
variable {P : Program} {w : World} {K : PySem.W.Frag} {mg : Str → Option Value} {base : Heap} {T : List (Addr × Str)}
def Rlconts (ds : List PyData) (d : PyData) : Prop := ∃ p : Pr, okL p ∧ ds = [prD p] ∧ d = .list ((lconts p).map Con.d)
theorem ok_lcontests (F : DfN K mg "_law_contests" 67) (g : G K mg) (c : Cl P w K mg base 1 "_law_parts" ["_law_thread_here"] (spD T Rparts)) : Cl P w K mg base 2 "_law_contests" ["_law_duo"] (spD T Rlconts) := by
  refine cl_of (N := ["_law_duo", "_law_found", "_law_begin", "_law_end", "_law_word", "_law_name", "_law_first", "_law_last", "_law_other", "_law_same", "_law_at", "_law_there"]) F ⟨rfl, rfl, rfl, by decide +kernel, rfl, by decide +kernel, by decide +kernel⟩ (len_spD fun ds d ⟨n, _, e, _⟩ => by rw [e]; rfl) (fun _ _ _ _ _ _ us hl => match us, hl with | [_], _ => rfl) ?_
  rintro f cdv A outer s H0 vs Q E hr ⟨F0, ds, d, sF, hv, ⟨p, hp, e1, e2⟩, k⟩
  subst e1 e2
  obtain ⟨v1, _, rfl, i1, rfl⟩ := hv
  have nd : (["_law_duo", "_law_found", "_law_begin", "_law_end", "_law_word", "_law_name", "_law_first", "_law_last", "_law_other", "_law_same", "_law_at", "_law_there"] : List Str).Nodup := by decide +kernel
  have hll := lLockCs_len hp
  have hdl := lDataCs_len hp
  have hzz : 3200 ≤ sizeLine := by decide
  have l1 := hp.l1
  have l2 := hp.l2
  refine b_asgF (T := T) (i := 1) (ef_lst ea_nil) sF (fun l xs F1 H1 a1 hn hF hl hd => ?_) nd
  obtain rfl : xs = [] := hd
  have nw : Nw H0 l := hn
  let Iσ : L2.St → Prop := fun σ => ∃ x1 x2 x3 x4 x5 x6 x7 x8 x9 x10, σ = [some v1, some (.ref l), x1, x2, x3, x4, x5, x6, x7, x8, x9, x10]
  have A0 : App T F0 H0 l Iσ [] _ F1 H1 := ⟨⟨none, none, none, none, none, none, none, none, none, none, rfl⟩, a1, hF, [], hl, rfl⟩
  have i1' := i1.up a1.ff
  have gt4 : ∀ {X : Cx} {i1 i2 i3 i4 : Nat} {x1 x2 x3 x4 : Str} {p1 p2 p3 p4 p5 : Pos} {kk : Nat} (s : Sec), X.calm = true → GT X (.Name x1 p1) (.int s.b) [(i1, .int s.b)] → GT X (.Name x2 p2) (.int s.e) [(i2, .int s.e)] → GT X (.Name x3 p3) (.str s.how) [(i3, .str s.how)] → GT X (.Name x4 p4) (.str s.name) [(i4, .str s.name)] →
      GT X (.Tuple [.Name x1 p1, .Name x2 p2, .Name x3 p3, .Name x4 p4] kk p5) (secD s) [(i1, .int s.b), (i2, .int s.e), (i3, .str s.how), (i4, .str s.name)] := fun s hc h1 h2 h3 h4 => gt_tup hc (gts_cons h1 (gts_cons h2 (gts_cons h3 (gts_cons h4 gts_nil))))
  refine b_forapp (T := T) (enc := secD) (xs := partsL p.1) (bs := fun s => [(2, .int s.b), (3, .int s.e), (4, .str s.how), (5, .str s.name)]) rfl .never (wk_list (ed_call c hr (ea_cons (ed_ixt (ed_var (i := 0) rfl i1') ed_int rfl) ea_nil) ⟨p.1, hp.t1, hp.e1, by omega, rfl, rfl⟩)) (fun s _ => gt4 s rfl (gt_name nd) (gt_name nd) (gt_name nd) (gt_name nd))
    (fun a => ((partsL p.2).flatMap (lLockOne a)).map Con.d) A0 ?_ ?_ ?_
  · rw [← map_flat, List.length_map]
    show 0 + (lLockCs p).length ≤ _
    omega
  · rintro sa hsa ds' σ1 F2 H2 hz s2 x2 A2 us F3 H3 a3 ⟨u0, _, rfl, m0, u1, _, rfl, m1, u2, _, rfl, m2, u3, _, rfl, m3, rfl⟩ N hN
    obtain ⟨⟨x1, x2', x3, x4, x5, x6, x7, x8, x9, x10, rfl⟩, _⟩ := id A2
    have A3 : App T F0 H0 l (fun σ => ∃ x5 x6 x7 x8 x9 x10, σ = [some v1, some (.ref l), some u0, some u1, some u2, some u3, x5, x6, x7, x8, x9, x10]) ds' [some v1, some (.ref l), some u0, some u1, some u2, some u3, x5, x6, x7, x8, x9, x10] F3 H3 := by
      obtain ⟨b1, b2, b3, b4⟩ := A2.step a3 ⟨x1, x2', x3, x4, x5, x6, x7, x8, x9, x10, rfl⟩
      exact ⟨⟨_, _, _, _, _, _, rfl⟩, b2, b3, b4⟩
    have i3 := i1'.up (x2.trans a3.ff)
    have oka := part_ok hp.t1 hsa
    show rB _ _ _ [some v1, some (.ref l), some u0, some u1, some u2, some u3, x5, x6, x7, x8, x9, x10] H3
    refine b_forapp (T := T) (enc := secD) (xs := partsL p.2) (bs := fun s => [(6, .int s.b), (7, .int s.e), (8, .str s.how), (9, .str s.name)]) rfl .never (wk_list (ed_call c hr (ea_cons (ed_ixt (ed_var (i := 0) rfl i3) ed_int rfl) ea_nil) ⟨p.2, hp.t2, hp.e2, by omega, rfl, rfl⟩)) (fun s _ => gt4 s rfl (gt_name nd) (gt_name nd) (gt_name nd) (gt_name nd))
      (fun b => (lLockOne sa b).map Con.d) A3 ?_ ?_ ?_
    · rw [← map_flat]; exact hz
    · rintro sb hsb ds2 σ4 F4 H4 hz4 s4 x4' A4 us F5 H5 a5 ⟨w0, _, rfl, n0, w1, _, rfl, n1, w2, _, rfl, n2, w3, _, rfl, n3, rfl⟩ N' hN'
      obtain ⟨⟨y5, y6, y7, y8, y9, y10, rfl⟩, _⟩ := id A4
      have A5 := A4.step a5 (σ' := [some v1, some (.ref l), some u0, some u1, some u2, some u3, some w0, some w1, some w2, some w3, y9, y10]) ⟨_, _, _, _, _, _, rfl⟩
      have okb := part_ok hp.t2 hsb
      show rB _ _ _ [some v1, some (.ref l), some u0, some u1, some u2, some u3, some w0, some w1, some w2, some w3, y9, y10] H5
      have q0 := m0.up (x4'.trans a5.ff)
      have q1 := m1.up (x4'.trans a5.ff)
      have q2 := m2.up (x4'.trans a5.ff)
      have q3 := m3.up (x4'.trans a5.ff)
      refine b_when (T := T) (k0 := decide (sa.name = sb.name) && !decide (((sa.how, sb.how) : Step) = shareP)) (et_w (ew_and (et_eqS (ed_var (i := 5) rfl q3) (ed_var (i := 9) rfl n3)) fun _ => ew_and1 ((et_neD hr.units (ed_tup (ds := [.str sa.how, .str sb.how]) (ea_cons (ed_var (i := 4) rfl q2) (ea_cons (ed_var (i := 8) rfl n2) ea_nil))) (ed_tup (ds := [.str "share", .str "share"]) (ea_cons ed_str (ea_cons ed_str ea_nil))) (okD_two (how_ok oka.1) (how_ok okb.1)) (okD_two (by decide +kernel) (by decide +kernel))).to (by
          show (!PyData.eqv (stD (sa.how, sb.how)) (stD shareP)) = _
          rw [eqv_step])))) a5.sub (fun z F6 H6 a6 => ?_) fun z F6 H6 a6 => ?_
      · have e : lLockOne sa sb = [⟨sa.b, sa.e, sb.b, sb.e, "lock", sa.name⟩] := by
          unfold lLockOne
          rw [if_pos z]
        rw [e] at hN' hz4
        refine b_appA (T := T) (A5.step a6 ⟨_, _, _, _, _, _, rfl⟩) nw (ev_var (i := 1) rfl) (ed_tup (ea_cons (ed_var (i := 2) rfl (q0.up a6.ff)) (ea_cons (ed_var (i := 3) rfl (q1.up a6.ff)) (ea_cons (ed_var (i := 6) rfl (n0.up a6.ff)) (ea_cons (ed_var (i := 7) rfl (n1.up a6.ff)) (ea_cons ed_str (ea_cons (ed_var (i := 5) rfl (q3.up a6.ff)) ea_nil))))))) (Nat.lt_of_succ_le hz4) fun F7 H7 s7 x7 A7 => ?_
        exact rB_nil (rB_nil (hN' _ _ _ s7 (a5.ff.trans (a6.ff.trans x7)) A7))
      · have e : lLockOne sa sb = [] := by
          unfold lLockOne
          rw [if_neg (by rw [z]; exact Bool.false_ne_true)]
        rw [e] at hN'
        exact rB_nil (hN' _ _ _ a6.sub (a5.ff.trans a6.ff) ((A5.step a6 ⟨_, _, _, _, _, _, rfl⟩).to (by simp)))
    · rintro σ4 F4 H4 s4 x4' A4
      obtain ⟨⟨y5, y6, y7, y8, y9, y10, rfl⟩, b2, b3, b4⟩ := A4
      exact rB_nil (hN _ _ _ s4 (a3.ff.trans x4') ⟨⟨_, _, _, _, _, _, _, _, _, _, rfl⟩, b2, b3, by rw [map_flat]; exact b4⟩)
  rintro σ1 F2 H2 s2 x2 A2
  have A2 := A2.to (ds' := (lLockCs p).map Con.d) (by rw [← map_flat]; rfl)
  obtain ⟨x1, x2', x3, x4, x5, x6, x7, x8, x9, x10, rfl⟩ := A2.is
  have A3 : App T F0 H0 l (fun σ => ∃ x1 x2 x3 x4 x5 x6 x7 x8 x9 x10, σ = [some v1, some (.ref l), x1, x2, x3, x4, x5, x6, x7, x8, x9, x10]) _ _ _ _ := A2
  have i2 := i1'.up x2
  have gt3 : ∀ {X : Cx} {i1 i2 i3 : Nat} {x1 x2 x3 : Str} {p1 p2 p3 p4 p5 : Pos} {kk k2 : Nat} (s : Step × Nat), X.calm = true → GT X (.Name x1 p1) (.int (s.2 : Nat)) [(i1, .int (s.2 : Nat))] → GT X (.Name x2 p2) (.str s.1.1) [(i2, .str s.1.1)] → GT X (.Name x3 p3) (.str s.1.2) [(i3, .str s.1.2)] →
      GT X (.Tuple [.Name x1 p1, .Tuple [.Name x2 p2, .Name x3 p3] k2 p4] kk p5) (nsD s) [(i1, .int (s.2 : Nat)), (i2, .str s.1.1), (i3, .str s.1.2)] := fun s hc h1 h2 h3 => gt_tup hc (gts_cons h1 (gts_cons (gt_tup hc (gts_cons h2 (gts_cons h3 gts_nil))) gts_nil))
  refine b_forapp (T := T) (enc := nsD) (xs := p.1.zipIdx) (bs := fun s => [(10, .int (s.2 : Nat)), (4, .str s.1.1), (5, .str s.1.2)]) rfl .never (Wk.to (wk_enumt (b_enum g) (ed_ixt (ed_var (i := 0) rfl i2) ed_int rfl)) (enum_steps p.1)) (fun s _ => gt3 s rfl (gt_name nd) (gt_name nd) (gt_name nd))
    (fun a => (p.2.zipIdx.flatMap (lDataOne a)).map Con.d) A3 ?_ ?_ ?_
  · rw [← map_flat, List.length_map, List.length_map]
    show _ + (lDataCs p).length ≤ _
    omega
  · rintro sa hsa ds' σ1 F2 H2 hz s2 x2 A2 us F3 H3 a3 ⟨u0, _, rfl, m0, u1, _, rfl, m1, u2, _, rfl, m2, rfl⟩ N hN
    obtain ⟨⟨x1, x2', x3, x4, x5, x6, x7, x8, x9, x10, rfl⟩, _⟩ := id A2
    have A3 : App T F0 H0 l (fun σ => ∃ x1 x2 x6 x7 x8 x9 x10, σ = [some v1, some (.ref l), x1, x2, some u1, some u2, x6, x7, x8, x9, some u0, x10]) ds' [some v1, some (.ref l), x1, x2', some u1, some u2, x5, x6, x7, x8, some u0, x10] F3 H3 := by
      obtain ⟨b1, b2, b3, b4⟩ := A2.step a3 ⟨x1, x2', x3, x4, x5, x6, x7, x8, x9, x10, rfl⟩
      exact ⟨⟨_, _, _, _, _, _, _, rfl⟩, b2, b3, b4⟩
    have i3 := i2.up (x2.trans a3.ff)
    show rB _ _ _ [some v1, some (.ref l), x1, x2', some u1, some u2, x5, x6, x7, x8, some u0, x10] H3
    refine b_forapp (T := T) (enc := nsD) (xs := p.2.zipIdx) (bs := fun s => [(11, .int (s.2 : Nat)), (8, .str s.1.1), (9, .str s.1.2)]) rfl .never (Wk.to (wk_enumt (b_enum g) (ed_ixt (ed_var (i := 0) rfl i3) ed_int rfl)) (enum_steps p.2)) (fun s _ => gt3 s rfl (gt_name nd) (gt_name nd) (gt_name nd))
      (fun b => (lDataOne sa b).map Con.d) A3 ?_ ?_ ?_
    · rw [← map_flat]; exact hz
    · rintro sb hsb ds2 σ4 F4 H4 hz4 s4 x4' A4 us F5 H5 a5 ⟨w0, _, rfl, n0, w1, _, rfl, n1, w2, _, rfl, n2, rfl⟩ N' hN'
      obtain ⟨⟨y1, y2, y6, y7, y8, y9, y10, rfl⟩, _⟩ := id A4
      have A5 := A4.step a5 (σ' := [some v1, some (.ref l), y1, y2, some u1, some u2, y6, y7, some w1, some w2, some u0, some w0]) ⟨_, _, _, _, _, _, _, rfl⟩
      show rB _ _ _ [some v1, some (.ref l), y1, y2, some u1, some u2, y6, y7, some w1, some w2, some u0, some w0] H5
      have q0 := m0.up (x4'.trans a5.ff)
      have q1 := m1.up (x4'.trans a5.ff)
      have q2 := m2.up (x4'.trans a5.ff)
      refine b_when (T := T) (k0 := decide (sa.1.2 = sb.1.2) && (decide (("write" : Str) ∈ [sa.1.1, sb.1.1]) && (decide (sa.1.1 ∈ (["read", "write"] : List Str)) && decide (sb.1.1 ∈ (["read", "write"] : List Str))))) (et_w (ew_and (et_eqS (ed_var (i := 5) rfl q2) (ed_var (i := 9) rfl n2)) fun _ => ew_and (et_inSt (zs := [sa.1.1, sb.1.1]) ed_str (ed_tup (ea_cons (ed_var (i := 4) rfl q1) (ea_cons (ed_var (i := 8) rfl n1) ea_nil)))) fun _ => ew_and (et_inSt (zs := ["read", "write"]) (ed_var (i := 4) rfl q1) (ed_tup (ea_cons ed_str (ea_cons ed_str ea_nil)))) fun _ => ew_and1 (et_inSt (zs := ["read", "write"]) (ed_var (i := 8) rfl n1) (ed_tup (ea_cons ed_str (ea_cons ed_str ea_nil)))))) a5.sub (fun z F6 H6 a6 => ?_) fun z F6 H6 a6 => ?_
      · have e : lDataOne sa sb = [⟨sa.2, sa.2, sb.2, sb.2, "data", sa.1.2⟩] := by
          unfold lDataOne
          rw [if_pos z]
        rw [e] at hN' hz4
        refine b_appA (T := T) (A5.step a6 ⟨_, _, _, _, _, _, _, rfl⟩) nw (ev_var (i := 1) rfl) (ed_tup (ea_cons (ed_var (i := 10) rfl (q0.up a6.ff)) (ea_cons (ed_var (i := 10) rfl (q0.up a6.ff)) (ea_cons (ed_var (i := 11) rfl (n0.up a6.ff)) (ea_cons (ed_var (i := 11) rfl (n0.up a6.ff)) (ea_cons ed_str (ea_cons (ed_var (i := 5) rfl (q2.up a6.ff)) ea_nil))))))) (Nat.lt_of_succ_le hz4) fun F7 H7 s7 x7 A7 => ?_
        exact rB_nil (rB_nil (hN' _ _ _ s7 (a5.ff.trans (a6.ff.trans x7)) A7))
      · have e : lDataOne sa sb = [] := by
          unfold lDataOne
          rw [if_neg (by rw [z]; exact Bool.false_ne_true)]
        rw [e] at hN'
        exact rB_nil (hN' _ _ _ a6.sub (a5.ff.trans a6.ff) ((A5.step a6 ⟨_, _, _, _, _, _, _, rfl⟩).to (by simp)))
    · rintro σ4 F4 H4 s4 x4' A4
      obtain ⟨⟨y1, y2, y6, y7, y8, y9, y10, rfl⟩, b2, b3, b4⟩ := A4
      exact rB_nil (hN _ _ _ s4 (a3.ff.trans x4') ⟨⟨_, _, _, _, _, _, _, _, _, _, rfl⟩, b2, b3, by rw [map_flat]; exact b4⟩)
  · rintro σ4 F4 H4 s4 x4' A4
    obtain ⟨y1, y2, y3, y4, y5, y6, y7, y8, y9, y10, rfl⟩ := A4.is
    obtain ⟨F5, a5, m5, _⟩ := (A4.to (ds' := (lLockCs p ++ lDataCs p).map Con.d) (by rw [← map_flat, List.map_append]; rfl)).out nw
    exact b_ret (T := T) (EF.ed (EF.to (ef_sorted hr.units (b_sorted g) (ed_var (i := 1) rfl m5) (ord_cons _)) (by rw [sortD_map]; rfl))) a5.sub fun v F6 H6 a6 q => k v F6 H6 (a5.trans a6) q
end
end Tw
namespace Tw
open PySem PySem.Spec PyProof.Rows L2 LamX
-- a promise of one of several answers
def spDM (T : List (Addr × Str)) (pre : List PyData → Prop) (R : List PyData → PyData → Prop) : Sp := fun vs H Q _ => ∃ F ds, Sub F H ∧ ImL F ds vs ∧ pre ds ∧ ∀ v d F' H', Adv T F H F' H' → R ds d → Im F' d v → Q v H'
theorem len_spDM {T : List (Addr × Str)} {pre : List PyData → Prop} {R : List PyData → PyData → Prop} {n : Nat} (h : ∀ ds, pre ds → ds.length = n) : ∀ vs H Q E, spDM T pre R vs H Q E → vs.length = n := fun vs H Q E ⟨F, ds, s, hv, r, k⟩ => by rw [hv.length, h ds r]
def okR (R : List PyData → PyData → Prop) (ds : List PyData) : V → Hp → Prop := fun v F => ∃ d, R ds d ∧ Im F d v
theorem mono_okR {R : List PyData → PyData → Prop} {ds : List PyData} : Mono (okR R ds) := fun _ _ _ e ⟨d, r, h⟩ => ⟨d, r, h.up e⟩
theorem ex_callM {T : List (Addr × Str)} {X : Cx} {e : Expr} {es : List Expr} {σ : L2.St} {F H : Hp} {p pos : Pos} {ds : List PyData} {k j : Nat} {x : Str} {ps : List Str} {pre : List PyData → Prop} {R : List PyData → PyData → Prop} (c : Cl X.prog X.w X.K X.mg X.base k x ps (spDM T pre R)) (hr : Room j X.A) (ha : EDs T X (e :: es) σ F H ds) (r : pre ds)
    (hk : k ≤ j := by decide) (hg : Gl X x := by rfl) (hdb : (x == ("__debug__" : Str)) = false := by decide) (he : starEach (e :: es) X.env = (false, eval e X.env) :: starEach es X.env := by rfl) (hpl : (backTo pos (starEach es X.env)).any (·.1) = false := by rfl) : EX T X (.Call (.Name x p) (e :: es) [] pos) σ F H (okR R ds) :=
  ex_call c hr ha (fun vs F1 H1 a1 p Q q => ⟨F1, ds, a1.sub, p, r, fun v d F2 H2 a2 rr im => q v F2 H2 a2 ⟨d, rr, im⟩⟩) hk hg hdb he hpl
-- the rows of the law's own search
def LedRow (l : List Con) (i : Nat) (r : List Nat) : Prop := r.Nodup ∧ ∀ j, j ∈ r ↔ j < l.length ∧ Lead l i j
def LedRows (l : List Con) (rows : List (List Nat)) : Prop := rows.length = l.length ∧ ∀ i r, rows[i]? = some r → LedRow l i r
def wfCs (l : List Con) : Prop := ∀ c ∈ l, c.ab ≤ c.ae ∧ c.bb ≤ c.be
structure DS (l : List Con) (a : Nat) (rs ws : List Nat) : Prop where
  nd : rs.Nodup
  at_ : a ∈ rs
  sub : ∀ j ∈ ws, j ∈ rs
  lead : ∀ j ∈ rs, j < l.length ∧ Lead l a j
  cl : ∀ j ∈ rs, j ∉ ws → ∀ k, eC l j k = true → k ∈ rs
-- .. while h is looked at, up to t
structure DT (l : List Con) (a h t : Nat) (rs ws : List Nat) : Prop where
  nd : rs.Nodup
  at_ : a ∈ rs
  sub : ∀ j ∈ ws, j ∈ rs
  lead : ∀ j ∈ rs, j < l.length ∧ Lead l a j
  hin : h ∈ rs
  cl : ∀ j ∈ rs, j ∉ ws → j ≠ h → ∀ k, eC l j k = true → k ∈ rs
  up : ∀ k, k < t → eC l h k = true → k ∈ rs
theorem DS.len {l : List Con} {a : Nat} {rs ws : List Nat} (d : DS l a rs ws) : rs.length ≤ l.length := nat_pigeon _ _ d.nd fun x hx => (d.lead x hx).1
theorem DT.len {l : List Con} {a h t : Nat} {rs ws : List Nat} (d : DT l a h t rs ws) : rs.length ≤ l.length := nat_pigeon _ _ d.nd fun x hx => (d.lead x hx).1
theorem DS.pop {l : List Con} {a h : Nat} {rs ws : List Nat} (d : DS l a rs (ws ++ [h])) : DT l a h 0 rs ws where
  nd := d.nd
  at_ := d.at_
  sub := fun j hj => d.sub j (List.mem_append_left _ hj)
  lead := d.lead
  hin := d.sub h (by simp)
  cl := fun j hj hw hh => d.cl j hj fun z => by
    rcases List.mem_append.mp z with z | z
    · exact hw z
    · exact hh (List.mem_singleton.mp z)
  up := fun k hk => absurd hk (Nat.not_lt_zero k)
theorem DT.fin {l : List Con} {a h : Nat} {rs ws : List Nat} (d : DT l a h l.length rs ws) : DS l a rs ws where
  nd := d.nd
  at_ := d.at_
  sub := d.sub
  lead := d.lead
  cl := fun j hj hw k hk => by
    by_cases z : j = h
    · subst z
      exact d.up k (eC_lt hk).2 hk
    · exact d.cl j hj hw z k hk
theorem DT.skip {l : List Con} {a h t : Nat} {rs ws : List Nat} (d : DT l a h t rs ws) (hs : t ∈ rs ∨ eC l h t = false) : DT l a h (t + 1) rs ws := { d with
  up := fun k hk e => by
    by_cases z : k = t
    · subst z
      rcases hs with q | q
      · exact q
      · rw [q] at e; cases e
    · exact d.up k (by omega) e }
theorem DT.add {l : List Con} {a h t : Nat} {rs ws : List Nat} (d : DT l a h t rs ws) (hn : t ∉ rs) (e : eC l h t = true) : DT l a h (t + 1) (rs ++ [t]) (ws ++ [t]) where
  nd := List.nodup_append.mpr ⟨d.nd, by simp, fun x hx y hy z => by
    rw [List.mem_singleton.mp hy] at z
    rw [z] at hx
    exact hn hx⟩
  at_ := List.mem_append_left _ d.at_
  sub := fun j hj => by
    rcases List.mem_append.mp hj with q | q
    · exact List.mem_append_left _ (d.sub j q)
    · exact List.mem_append_right _ q
  lead := fun j hj => by
    rcases List.mem_append.mp hj with q | q
    · exact d.lead j q
    · rw [List.mem_singleton.mp q]
      exact ⟨(eC_lt e).2, lead_step (d.lead h d.hin).2 e⟩
  hin := List.mem_append_left _ d.hin
  cl := fun j hj hw hh k hk => by
    have hjw : j ∉ ws := fun z => hw (List.mem_append_left _ z)
    rcases List.mem_append.mp hj with q | q
    · exact List.mem_append_left _ (d.cl j q hjw hh k hk)
    · exact absurd (List.mem_append_right _ q) hw
  up := fun k hk e2 => by
    by_cases z : k = t
    · rw [z]; exact List.mem_append_right _ (List.mem_singleton.mpr rfl)
    · exact List.mem_append_left _ (d.up k (by omega) e2)
theorem DS.row {l : List Con} {a : Nat} {rs : List Nat} (d : DS l a rs []) : LedRow l a rs := ⟨d.nd, fun j => ⟨d.lead j, fun ⟨_, p⟩ => lead_in (fun i hi j e => d.cl i hi (by simp) j e) p d.at_⟩⟩
theorem DS.one {l : List Con} {a : Nat} (hz : wfCs l) (ha : a < l.length) : DS l a [a] [a] where
  nd := by simp
  at_ := by simp
  sub := fun j hj => hj
  lead := fun j hj => by rw [List.mem_singleton.mp hj]; exact ⟨ha, lead_refl hz ha⟩
  cl := fun j hj hw => absurd hj hw
theorem rowT_put {rs : List Nat} {t : Nat} (hn : t ∉ rs) : putD (rowT rs) (.inl (t : Int)) (.bool true) = rowT (rs ++ [t]) := by
  rw [putD_new]
  · unfold rowT
    rw [List.map_append]
    rfl
  · have := rowT_mem (r := rs) (i := t)
    rw [decide_eq_false hn] at this
    simpa using this
theorem eC_at {l : List Con} {i j : Nat} {a b : Con} (h1 : l[i]? = some a) (h2 : l[j]? = some b) : eC l i j = forcesC a b := by
  unfold eC
  rw [h1, h2]
theorem int_at {l : List Nat} {i : Nat} {x : Nat} (h : l[i]? = some x) : (l.map fun i : Nat => V.int (i : Int))[i]? = some (.int (x : Nat)) := by
  rw [List.getElem?_map, h]; rfl
theorem imI {F : Hp} {l : List Nat} : ImL F (l.map fun i : Nat => PyData.int (i : Int)) (l.map fun i : Nat => V.int (i : Int)) := by
  have := (ImL.ints (F := F) (ns := l.map fun i : Nat => (i : Int)) (vs := (l.map fun i : Nat => (i : Int)).map V.int)).mpr rfl
  rw [List.map_map, List.map_map] at this
  exact this
theorem nd_I (l : List Nat) : PyData.hasDictAll (l.map fun i : Nat => PyData.int (i : Int)) = false := by
  induction l with
  | nil => rfl
  | cons x l ih => rw [List.map_cons, PyData.hasDictAll, ih]; rfl
theorem sh_I (l : List Nat) : SeqAt.shaped (.list (l.map fun i : Nat => PyData.int (i : Int))) = true := by
  have h : ∀ l : List Nat, PyData.canLayAll0 (l.map fun i : Nat => PyData.int (i : Int)) = true ∧ PyData.depthAll (l.map fun i : Nat => PyData.int (i : Int)) = 0 := by
    intro l
    induction l with
    | nil => exact ⟨rfl, rfl⟩
    | cons x l ih => exact ⟨by rw [List.map_cons, PyData.canLayAll0, ih.1]; rfl, by rw [List.map_cons, PyData.depthAll, ih.2]; rfl⟩
  unfold SeqAt.shaped
  rw [PyData.canLay0, (h l).1, PyData.depth, (h l).2]
  rfl
section
variable {P : Program} {w : World} {K : PySem.W.Frag} {mg : Str → Option Value} {base : Heap} {T : List (Addr × Str)}
def spLed (T : List (Addr × Str)) : Sp := fun vs H Q _ => ∃ F l v0, Sub F H ∧ Im F (.list (l.map Con.d)) v0 ∧ l.length ≤ 120 ∧ wfCs l ∧ vs = [v0] ∧ ∀ v rows F' H', Adv T F H F' H' → LedRows l rows → Im F' (.list (rows.map fun r => dOf (rowT r))) v → Q v H'
theorem ok_led (F : DfN K mg "_law_led" 69) (g : G K mg) (c : Cl P w K mg base 1 "_law_forces" ["_law_one", "_law_other"] (spD T Rforces)) : Cl P w K mg base 2 "_law_led" ["_law_known"] (spLed T) := by
  refine cl_of (N := ["_law_known", "_law_found", "_law_at", "_law_reached", "_law_waiting", "_law_here", "_law_there"]) F ⟨rfl, rfl, rfl, by decide +kernel, rfl, by decide +kernel, by decide +kernel⟩ (fun vs H Q E ⟨F, l, v0, _, _, _, _, e, _⟩ => by rw [e]; rfl) (fun _ _ _ _ _ _ us hl => match us, hl with | [_], _ => rfl) ?_
  rintro f cdv A outer s H0 vs Q E hr ⟨F0, kn, v1, sF, i1, h120, hwf, rfl, k⟩
  have nd : (["_law_known", "_law_found", "_law_at", "_law_reached", "_law_waiting", "_law_here", "_law_there"] : List Str).Nodup := by decide +kernel
  have hz : 2000 < sizeLine := by decide
  refine b_asgF (T := T) (i := 1) (ef_lst ea_nil (Nat.zero_le _)) sF (fun lf xs F1 H1 a1 hn hF hl hd => ?_) nd
  obtain rfl : xs = [] := hd
  have nw : Nw H0 lf := hn
  let Iσ : L2.St → Prop := fun σ => ∃ x2 x3 x4 x5 x6, σ = [some v1, some (.ref lf), x2, x3, x4, x5, x6]
  have A0 : App T F0 H0 lf Iσ [] _ F1 H1 := ⟨⟨none, none, none, none, none, rfl⟩, a1, hF, [], hl, rfl⟩
  refine b_for (T := T) (enc := fun i : Nat => PyData.int (i : Nat)) (xs := List.range kn.length) (bs := fun i => [(2, .int (i : Nat))]) rfl .never (Wk.to (wk_range1 (b_range g) (ed_lenl (b_len g) (ed_var (i := 0) rfl (i1.up a1.ff))) (by omega) (by rw [List.length_map]; omega)) (by rw [List.length_map, show ((kn.length : Nat) : Int).toNat = kn.length by omega, range0])) a1.sub (fun i _ => gt_name nd)
    (fun i σ F' H' => ∃ rows : List (List Nat), rows.length = i ∧ (∀ j r, rows[j]? = some r → LedRow kn j r) ∧ App T F0 H0 lf Iσ (rows.map fun r => dOf (rowT r)) σ F' H')
    (fun F2 H2 a2 => ⟨[], rfl, (fun j r h => by simp at h), A0.step a2 A0.is⟩) ?_ ?_
  · rintro i q σ1 F2 H2 hq s2 x2 ⟨rows, hrl, hrows, A2⟩ us F3 H3 a3 ⟨u0, _, rfl, m0, rfl⟩ N hN
    have hi : i < kn.length ∧ q = i := by
      have h1 := (List.getElem?_eq_some_iff.mp hq).1
      rw [List.length_range] at h1
      rw [List.getElem?_range h1] at hq
      exact ⟨h1, (Option.some.inj hq).symm⟩
    obtain ⟨hi, rfl⟩ := hi
    obtain rfl : u0 = .int (q : Nat) := m0
    obtain ⟨y2, y3, y4, y5, y6, rfl⟩ := A2.is
    have A3 := A2.step a3 (σ' := [some v1, some (.ref lf), some (.int (q : Nat)), y3, y4, y5, y6]) ⟨_, _, _, _, _, rfl⟩
    have i3 : Im F3 (.list (kn.map Con.d)) v1 := i1.up ((a1.ff.trans x2).trans a3.ff)
    show rB _ _ _ [some v1, some (.ref lf), some (.int (q : Nat)), y3, y4, y5, y6] H3
    -- reached, waiting
    refine b_parR (m := 3) (n := 4) rfl nd (goE (pe_disp (pps_cons pe_r pe_r pps_nil) rfl rfl (by simp) (by decide)) fun d hd => ?_)
    have lay0 : Adv T F3 H3 F3 (upd H3 d (.dK [])) := Adv.lay a3.sub hd
    refine EX.go (T := T) (ed_var (d := .int (q : Nat)) (i := 2) rfl rfl) lay0 fun x F4 H4 a4 e4 => EX.go (T := T) (ed_bool (x := true)) (.refl a4.sub) fun y F5 H5 a5 e5 => ?_
    obtain rfl : x = .int (q : Nat) := e4
    obtain rfl : y = .bl true := e5
    obtain ⟨fd5, hd5⟩ := (a4.trans a5).off (a3.sub.offN hd) upd_same notTbl_dK
    refine ⟨hd5, [(.inl (q : Int), .bl true)], rfl, Nat.le_of_ble_eq_true rfl, ?_⟩
    have nwd : Nw H3 d := .of hd
    have A5 := (lay0.trans (a4.trans a5)).mut nwd fd5 hd5 mut_dK (o' := .dK [(.inl (q : Int), .bl true)])
    show rE _ _ _ (upd H5 d (.dK [(.inl (q : Int), .bl true)])) _
    refine EF.go (T := T) (ef_lst (ds := [.int (q : Nat)]) (ea_cons (ed_var (i := 2) rfl rfl) ea_nil)) (.refl A5.sub) fun l ys F6 H6 a6 hnl hFl hll hdl => ?_
    obtain ⟨fd6, hd6⟩ := a6.off fd5 upd_same notTbl_dK
    have nwl : Nw H3 l := Nw.back A5 hnl
    have A6 := A5.trans a6
    show rB _ _ _ [some v1, some (.ref lf), some (.int (q : Nat)), some (.ref d), some (.ref l), y5, y6] H6
    have d_l : d ≠ l := hnl.ne upd_same notTbl_dK
    let St : List Nat → List Nat → Hp → Hp → Prop := fun rs ws F' H' => Adv T F3 H3 F' H' ∧ F' d = none ∧ F' l = none ∧ (∃ kvs, H' d = some (.dK kvs) ∧ DL F' (rowT rs) kvs) ∧ ∃ xs, H' l = some (.lst xs) ∧ ImL F' (ws.map fun i : Nat => PyData.int (i : Int)) xs
    have St_step : ∀ {rs ws F' H' F'' H''}, St rs ws F' H' → Adv T F' H' F'' H'' → St rs ws F'' H'' := fun {rs ws F' H' F'' H''} ⟨b1, b2, b3, ⟨kvt, b4, b5⟩, xs, b6, b7⟩ a => by
      obtain ⟨c1, c2⟩ := a.off b2 b4 notTbl_dK
      obtain ⟨c3, c4⟩ := a.off b3 b6 notTbl_lst
      exact ⟨b1.trans a, c1, c3, ⟨kvt, c2, b5.up a.ff⟩, xs, c4, b7.up a.ff⟩
    refine b_while (T := T) .never (fun m σ F' H' => ∃ x y rs ws, σ = [some v1, some (.ref lf), some (.int (q : Nat)), some (.ref d), some (.ref l), x, y] ∧ St rs ws F' H' ∧ DS kn q rs ws ∧ 2 * (kn.length - rs.length) + ws.length ≤ m ∧ m ≤ 1000) A6.sub ⟨1000, y5, y6, [q], [q], rfl, ⟨A6, fd6, hFl, ⟨_, hd6, .bl true, [], rfl, rfl, rfl⟩, ys, hll, hdl⟩, .one hwf hi, (by show 2 * (kn.length - 1) + 1 ≤ 1000; omega), Nat.le_refl _⟩ ?_
    rintro m σ1 F7 H7 s7 x7 ⟨x, y, rs, ws, rfl, S7, D7, hm, hm6⟩
    obtain ⟨b1, b2, b3, ⟨kvt, b4, b5⟩, xs, b6, b7⟩ := id S7
    refine ⟨!(ws.map fun i : Nat => PyData.int (i : Int)).isEmpty, et_nonil hr.units (ev_var (i := 4) rfl) b6 b7 (nd_I _) (sh_I _), fun hne F8 H8 a8 N2 hN2 => ?_, fun he F8 H8 a8 => ?_⟩
    · have hne2 : ws ≠ [] := fun z => by rw [z] at hne; cases hne
      have S8 := St_step S7 a8
      obtain ⟨b1, b2, b3, ⟨kvt, b4, b5⟩, xs, b6, b7⟩ := id S8
      obtain ⟨h, e1, e2, e3⟩ := last_of hne2
      have hwl : xs.length = ws.length := by rw [b7.length, List.length_map]
      have hpos : 0 < ws.length := List.length_pos_iff.mpr hne2
      have hlast : (ws.map fun i : Nat => PyData.int (i : Int))[xs.length - 1]? = some (.int (h : Nat)) := by
        rw [List.getElem?_map, hwl, ← List.getLast?_eq_getElem?, e1]
        rfl
      obtain ⟨vh, hv1, hv2⟩ := b7.at hlast
      obtain rfl : vh = .int (h : Nat) := hv2
      have bdl : ImL F8 (ws.dropLast.map fun i : Nat => PyData.int (i : Int)) xs.dropLast := by
        rw [show xs.dropLast = xs.take (ws.length - 1) by rw [List.dropLast_eq_take, hwl], List.dropLast_eq_take, List.map_take]
        exact b7.take _
      refine b_asgR (i := 5) (e_pop (T := T) a8.sub (ev_var (i := 4) rfl) b3 b6 hv1 fun F9 H9 a9 f9 h9 s9 => ?_) nd
      have S9 := St_step S8 a9
      obtain ⟨c1, c2, c3, ⟨kvt9, c4, c5⟩, xs9, c6, c7⟩ := id S9
      have S10 : St rs ws.dropLast F9 (upd H9 l (.lst xs.dropLast)) := ⟨c1.mut nwl f9 h9 mut_lst, c2, f9, ⟨kvt9, by rw [upd_ne d_l]; exact c4, c5⟩, _, upd_same, bdl.up a9.ff⟩
      have x39 : Ext F3 F9 := c1.ff
      generalize upd H9 l (.lst xs.dropLast) = H10 at S10 s9
      show rB _ _ _ [some v1, some (.ref lf), some (.int (q : Nat)), some (.ref d), some (.ref l), some (.int (h : Nat)), y] H10
      have Dp0 : DT kn q h 0 rs ws.dropLast := DS.pop (by rw [← e2]; exact D7)
      have i9 := i3.up x39
      have hhl : h < kn.length := (D7.lead h (D7.sub h e3)).1
      have ms0 : 2 * (kn.length - rs.length) + ws.dropLast.length < m := by
        rw [List.length_dropLast]; omega
      refine b_for (T := T) (enc := fun i : Nat => PyData.int (i : Nat)) (xs := List.range kn.length) (bs := fun i => [(6, .int (i : Nat))]) rfl .never (Wk.to (wk_range1 (b_range g) (ed_lenl (b_len g) (ed_var (i := 0) rfl i9)) (by omega) (by rw [List.length_map]; omega)) (by rw [List.length_map, show ((kn.length : Nat) : Int).toNat = kn.length by omega, range0])) s9 (fun i _ => gt_name nd)
        (fun t σ F' H' => ∃ y rs' ws', σ = [some v1, some (.ref lf), some (.int (q : Nat)), some (.ref d), some (.ref l), some (.int (h : Nat)), y] ∧ St rs' ws' F' H' ∧ DT kn q h t rs' ws' ∧ 2 * (kn.length - rs'.length) + ws'.length < m) (fun F11 H11 a11 => ⟨y, rs, ws.dropLast, rfl, St_step S10 a11, Dp0, ms0⟩) ?_ ?_
      · rintro t q2 σ2 F11 H11 ht s11 x11 ⟨y2, rs', ws', rfl, S11, D11, ms11⟩ us F12 H12 a12 ⟨w0, _, rfl, n0, rfl⟩ N3 hN3
        have htl : t < kn.length ∧ q2 = t := by
          have h1 := (List.getElem?_eq_some_iff.mp ht).1
          rw [List.length_range] at h1
          rw [List.getElem?_range h1] at ht
          exact ⟨h1, (Option.some.inj ht).symm⟩
        obtain ⟨htl, rfl⟩ := htl
        obtain rfl : w0 = .int (q2 : Nat) := n0
        have S12 := St_step S11 a12
        obtain ⟨b1, b2, b3, ⟨kvt, b4, b5⟩, xs, b6, b7⟩ := id S12
        have i12 := i9.up (x11.trans a12.ff)
        have rl := D11.len
        show rB _ _ _ [some v1, some (.ref lf), some (.int (q : Nat)), some (.ref d), some (.ref l), some (.int (h : Nat)), some (.int (q2 : Nat))] H12
        have kat : ∀ {j : Nat}, (hj : j < kn.length) → atI (kn.map Con.d) (j : Int) = some (kn[j]).d := fun {j} hj => atI_nat (by rw [List.getElem?_map, List.getElem?_eq_getElem hj]; rfl)
        refine b_when (T := T) (et_w (ew_and ((et_dnim (k := .inl (q2 : Int)) (room_u1 hr) (ed_var (i := 6) rfl rfl) (ev_var (i := 3) rfl) b4 b5).to (by rw [rowT_mem])) fun _ => ew_and1 ((et_val (ed_call c hr (ea_cons (ed_ixl (ed_var (i := 0) rfl i12) (ed_var (d := .int (h : Nat)) (i := 5) rfl rfl) (kat hhl)) (ea_cons (ed_ixl (ed_var (i := 0) rfl i12) (ed_var (d := .int (q2 : Nat)) (i := 6) rfl rfl) (kat htl)) ea_nil)) ⟨kn[h], kn[q2], rfl, rfl⟩)).to (eC_at (List.getElem?_eq_getElem hhl) (List.getElem?_eq_getElem htl)).symm))) a12.sub (fun zz F13 H13 a13 => ?_) fun zz F13 H13 a13 => ?_
        · rw [Bool.and_eq_true] at zz
          obtain ⟨z1, z2⟩ := zz
          have hnin : q2 ∉ rs' := by simpa using z1
          have S13 := St_step S12 a13
          obtain ⟨b1, b2, b3, ⟨kvt, b4, b5⟩, xs, b6, b7⟩ := id S13
          refine b_dput (T := T) (k := .inl (q2 : Int)) (d := .bool true) (room_u1 hr) a13.sub ed_bool (ev_var (i := 3) rfl) (ed_var (i := 6) rfl rfl) b2 b4 b5 (by rw [b5.length]; unfold rowT; rw [List.length_map]; omega) fun kvt' F14 H14 a14 f14 h14 dl14 s14 => ?_
          have S14 := St_step S13 a14
          obtain ⟨c1, c2, c3, ⟨kvt14, c4, c5⟩, xs14, c6, c7⟩ := id S14
          rw [rowT_put hnin] at dl14
          have c6' : (upd H14 d (.dK kvt')) l = some (.lst xs14) := by rw [upd_ne d_l.symm]; exact c6
          have A14 := c1.mut nwd f14 h14 mut_dK (o' := .dK kvt')
          have wl : ws'.length ≤ 1000 := by omega
          refine b_app (T := T) (P := imP (.int (q2 : Nat))) (ev_var (i := 4) rfl) c6' c3 (ed_var (i := 6) rfl rfl) s14 (by rw [c7.length, List.length_map]; omega) fun v F15 H15 a15 iv f15 h15 s15 => ?_
          obtain ⟨fd15, hd15⟩ := a15.off f14 upd_same notTbl_dK
          have D15 := D11.add hnin z2
          have rl15 := D15.len
          rw [List.length_append, List.length_singleton] at rl15
          refine rB_nil (rB_nil (hN3 _ _ _ s15 (a12.ff.trans (a13.ff.trans (a14.ff.trans a15.ff))) ⟨_, rs' ++ [q2], ws' ++ [q2], rfl, ⟨(A14.trans a15).mut nwl f15 h15 mut_lst, fd15, f15, ⟨kvt', by rw [upd_ne d_l]; exact hd15, dl14.up a15.ff⟩, _, upd_same, ?_⟩, D15, by simp only [List.length_append, List.length_singleton]; omega⟩))
          rw [List.map_append]
          exact (c7.up a15.ff).snoc iv
        · have S13 := St_step S12 a13
          refine rB_nil (hN3 _ _ _ a13.sub (a12.ff.trans a13.ff) ⟨_, rs', ws', rfl, S13, D11.skip ?_, ms11⟩)
          by_cases hin : q2 ∈ rs'
          · exact .inl hin
          · right
            rw [Bool.and_eq_false_iff] at zz
            rcases zz with z | z
            · simp [hin] at z
            · exact z
      · rintro σ2 F11 H11 s11 x11 ⟨y2, rs', ws', rfl, S11, D11, ms11⟩
        rw [List.length_range] at D11
        exact rB_nil (hN2 _ _ _ _ ms11 s11 (a8.ff.trans (a9.ff.trans x11)) ⟨_, _, rs', ws', rfl, S11, D11.fin, Nat.le_refl _, by omega⟩)
    · have he2 : ws = [] := by
        cases hq : ws with
        | nil => rfl
        | cons a r => rw [hq] at he; cases he
      subst he2
      have S8 := St_step S7 a8
      obtain ⟨b1, b2, b3, ⟨kvt, b4, b5⟩, xs, b6, b7⟩ := id S8
      obtain ⟨F9, B9, m9, x9, o9⟩ := stand_dK b1 nwd b2 b4 b5
      have A9 := A3.step B9 (σ' := [some v1, some (.ref lf), some (.int (q : Nat)), some (.ref d), some (.ref l), x, y]) ⟨_, _, _, _, _, rfl⟩
      have rl := rows.length
      refine b_appA (T := T) A9 nw (ev_var (i := 1) rfl) (ed_var (i := 3) rfl m9) (by rw [List.length_map]; omega) fun F10 H10 s10 x10 A10 => ?_
      refine rB_nil (hN _ _ _ s10 (a3.ff.trans (B9.ff.trans x10)) ⟨rows ++ [rs], by rw [List.length_append, hrl]; rfl, fun j r hj => ?_, A10.to (by rw [List.map_append]; rfl)⟩)
      by_cases hjl : j < rows.length
      · rw [List.getElem?_append_left hjl] at hj
        exact hrows j r hj
      · have hj2 : j = rows.length := by
          have := (List.getElem?_eq_some_iff.mp hj).1
          rw [List.length_append, List.length_singleton] at this
          omega
        subst hj2
        rw [List.getElem?_append_right (Nat.le_refl _), Nat.sub_self] at hj
        have := Option.some.inj hj
        rw [← this, hrl]
        exact D7.row
  · rintro σ1 F2 H2 s2 x2 ⟨rows, hrl, hrows, A2⟩
    obtain ⟨y2, y3, y4, y5, y6, rfl⟩ := A2.is
    obtain ⟨F3, a3, m3, _⟩ := A2.out nw
    rw [List.length_range] at hrl
    exact b_ret (T := T) (ed_var (i := 1) rfl m3) a3.sub fun v F4 H4 a4 q => k v rows F4 H4 (a3.trans a4) ⟨hrl, hrows⟩ q
end
end Tw
set_option maxHeartbeats 1000000
namespace Tw
open PySem PySem.Spec PyProof.Rows L2 LamX
/-! ### sorted(t), t a tuple of ints -/
def rSrtI (K : PySem.W.Frag) : List V → Hp → VK → Prop := fun vs H Q => ∃ (a : Addr) (ns : List Int), vs = [.ref a] ∧ SqT K H a (ns.map V.int) ∧
  ∀ p, H p = none → Q (.ref p) (upd H p (.lst ((ns.mergeSort (PySem.W.dataLe false PyData.int)).map V.int)))
theorem each_int : ∀ {ns : List Int} {us : List Value}, Vals (ns.map V.int) us → PySem.W.EachIs (fun v (n : Int) => ∃ t, v = Value.int n t) us ns
  | [], _, h => by cases h; exact .nil
  | n :: ns, _, h => by
    cases h with
    | cons r t => exact .cons r (each_int t)
theorem each_vals : ∀ {ns : List Int} {us : List Value}, PySem.W.EachIs (fun v (n : Int) => ∃ t, v = Value.int n t) us ns → Vals (ns.map V.int) us
  | _, _, .nil => .nil
  | _, _, .cons h t => .cons h (each_vals t)
theorem each_reads (h : Heap) (a : Addr) : ∀ {ns : List Int} {us : List Value}, PySem.W.EachIs (fun v (n : Int) => ∃ t, v = Value.int n t) us ns → PySem.W.EachIs (fun v (n : Int) => ∃ as, Reads h v (.int n) as ∧ a ∉ as) us ns
  | _, _, .nil => .nil
  | _, _, .cons ⟨t, e⟩ r => .cons ⟨[], by rw [e]; exact .int _ _, by simp⟩ (each_reads h a r)
theorem cr_srtI {X : Cx} (hu : X.A.units + 64 < cLine) : CallR X (.builtin "sorted") (rSrtI X.K) := by
  intro pins s σ H vs us Q I r h
  obtain ⟨a, ns, rfl, hs, q⟩ := h
  obtain ⟨its, rv, ⟨o, ho, hcl, n, hd⟩, hz⟩ := I.tuple hs
  rw [List.length_map] at hz
  have hl := rv.length
  rw [List.length_map] at hl
  rw [Vals.ref1 r]
  refine Calls.call_function_entry PyProof.Rows.kind_sorted PyProof.Rows.plain_sorted PyProof.Rows.entry_sorted (PyProof.Rows.args_sorted1 _) ?_
  unfold Builtin.«sorted»
  refine wpAny_bind (m := checkCount "sorted" 1 1 _) (wpAny_pure ?_)
  refine wpAny_bind (wpAny_collect_seq (A := X.A.in1) a (.inr rfl) ho hcl hd (fun g hk => ?_) (by rw [List.size_toArray]; omega))
  rw [List.toList_toArray]
  have I1 : Inv X pins σ H { s with heap := g } := I.kept (t' := s.toks) hk
  refine wpAny_bind (wpAny_newList ?_ (by omega))
  have made : (g.push (seqObj "list" its.toArray 0)).get? g.objs.size = some (seqObj "list" its.toArray 0) := Heap.get?_push_size _ rfl
  show wpAny _ _ _ _ _ { s with heap := g.push (seqObj "list" its.toArray 0) }
  refine wpAny_bind (wpAny_holding (PySem.W.list_sort_data (s := { s with heap := g.push (seqObj "list" its.toArray 0) }) (enc := PyData.int) (bs := ns) (R := fun v n => ∃ t, v = Value.int n t) made (each_int rv) (each_reads _ _ (each_int rv)) (PySem.W.AllAlike.of fun a b => rfl) (.inr fun d hd => ?_) (by omega) (fun b hb => ?_) fun out h1 h2 => ?_))
  · obtain ⟨y, _, rfl⟩ := List.mem_map.mp hd
    exact ⟨(fun z => nomatch z), fun xs z => nomatch z⟩
  · have : X.A.in1.units = X.A.units + 1 := rfl
    simp [PyData.depth]
    omega
  · obtain ⟨e', he'⟩ := PyProof.Rows.sortedHeap_at (vs := its) (out := out.toArray) made
    have hn := I1.hok.fresh (Nat.le_refl g.objs.size)
    refine wpAny_pure ⟨_, rfl, .ref g.objs.size, _, I1.laid (t' := s.toks) (o := .lst ((ns.mergeSort (PySem.W.dataLe false PyData.int)).map V.int)) (fun b u e => ?_) (Nat.le_refl _) ⟨?_, out, e', each_vals h2, he'⟩, rfl, q _ hn⟩
    · have hb : b < g.objs.size := Heap.lt_size e
      rw [PyProof.Rows.sortedHeap_old (Nat.ne_of_lt hb) (by rw [size_push']; exact Nat.lt_succ_of_lt hb)]
      exact Heap.get?_push_of_some _ e
    · rw [List.length_map, List.length_mergeSort]; exact hz
section
variable {T : List (Addr × Str)} {X : Cx} {e : Expr} {σ : L2.St} {F H : Hp} {pos p : Pos} {ns : List Int}
theorem ef_sortedI (hu : X.A.units + 64 < cLine) (hm : X.mg "sorted" = none) (h : ED T X e σ F H (.tuple (ns.map .int))) (hg : Gl X "sorted" := by rfl) (hs : starEach [e] X.env = (false, eval e X.env) :: starEach [] X.env := by rfl) : EF T X (.Call (.Name "sorted" p) [e] [] pos) σ F H ((ns.mergeSort (PySem.W.dataLe false PyData.int)).map .int) :=
  ef_cb (pe_callB (cr_srtI hu) hg hm boot_sortedb pa_r (by decide) (by decide) hs (by rfl)) (ea1 h mono_im hs) fun vs F1 H1 a1 ⟨v, e1, r, xs, e2, h1, d1⟩ Q k => by
    rw [e1, e2]
    exact ⟨r, ns, rfl, SqT.of (a1.sub.at (by rw [← ImL.ints.mp d1]; exact h1)), fun p hp => k p _ F1 _ (Adv.lay a1.sub hp) (.of hp) (a1.sub.offN hp) upd_same (ImL.ints.mpr rfl)⟩
end
end Tw
set_option maxHeartbeats 2000000
namespace Tw
open PySem PySem.Spec PyProof.Rows L2 LamX
def lpF (rows : List (List Nat)) (i : Nat) : List Nat := (rows.getD i []).filter fun t => decide (i ∈ rows.getD t [])
theorem rows_at {l : List Con} {rows : List (List Nat)} (R : LedRows l rows) {i : Nat} (hi : i < l.length) : rows[i]? = some (rows.getD i []) ∧ LedRow l i (rows.getD i []) := by
  have e : rows[i]? = some (rows[i]'(by rw [R.1]; exact hi)) := List.getElem?_eq_getElem _
  have e2 : rows.getD i [] = rows[i]'(by rw [R.1]; exact hi) := by rw [List.getD_eq_getElem?_getD, e]; rfl
  rw [e2]
  exact ⟨e, R.2 i _ e⟩
theorem whole_at {l : List Con} {i : Nat} (hi : i < l.length) : ∃ r, (wholeF l)[i]? = some r ∧ r.Pairwise (· < ·) ∧ ∀ j, j ∈ r ↔ j < l.length ∧ Lead l i j ∧ Lead l j i := by
  have hi2 : i < (ledF l).length := by rw [ledF_len]; exact hi
  obtain ⟨r, er, mr⟩ := ledF_at l hi
  have pr : r.Pairwise (· < ·) := by
    unfold ledF at er
    rw [List.getElem?_map, List.getElem?_range hi] at er
    rw [← Option.some.inj er]
    exact List.Pairwise.filter _ List.pairwise_lt_range
  refine ⟨r.filter fun at_ => decide (i ∈ (ledF l).getD at_ []), ?_, pr.filter _, fun j => ?_⟩
  · unfold wholeF
    rw [List.getElem?_map, List.getElem?_zipIdx, er]
    simp
  · rw [List.mem_filter, mr, decide_eq_true_eq]
    constructor
    · rintro ⟨⟨h1, h2⟩, h3⟩
      obtain ⟨r2, e2, m2⟩ := ledF_at l h1
      rw [List.getD_eq_getElem?_getD, e2] at h3
      exact ⟨h1, h2, ((m2 i).mp h3).2⟩
    · rintro ⟨h1, h2, h3⟩
      obtain ⟨r2, e2, m2⟩ := ledF_at l h1
      refine ⟨⟨h1, h2⟩, ?_⟩
      rw [List.getD_eq_getElem?_getD, e2]
      exact (m2 i).mpr ⟨hi, h3⟩
theorem lp_sort {l : List Con} {rows : List (List Nat)} (R : LedRows l rows) {i : Nat} (hi : i < l.length) : ((lpF rows i).map fun i : Nat => (i : Int)).mergeSort (PySem.W.dataLe false PyData.int) = ((wholeF l).getD i []).map fun i : Nat => (i : Int) := by
  obtain ⟨r, e, p, m⟩ := whole_at hi
  obtain ⟨_, n1, m1⟩ := rows_at R hi
  rw [List.getD_eq_getElem?_getD (l := wholeF l), e]
  refine sort_row (n1.filter _) p fun j => ?_
  show j ∈ lpF rows i ↔ j ∈ r
  unfold lpF
  rw [List.mem_filter, m1, m, decide_eq_true_eq]
  constructor
  · rintro ⟨⟨h1, h2⟩, h3⟩
    exact ⟨h1, h2, (((rows_at R h1).2.2 i).mp h3).2⟩
  · rintro ⟨h1, h2, h3⟩
    exact ⟨⟨h1, h2⟩, ((rows_at R h1).2.2 i).mpr ⟨hi, h3⟩⟩
theorem map_range_getD {α β : Type} (f : α → β) (d : α) : ∀ (l : List α), (List.range l.length).map (fun i => f (l.getD i d)) = l.map f := fun l => by
  apply List.ext_getElem?
  intro j
  rw [List.getElem?_map, List.getElem?_map]
  by_cases h : j < l.length
  · rw [List.getElem?_range h, List.getElem?_eq_getElem h]
    simp [h]
  · rw [List.getElem?_eq_none (by rw [List.length_range]; omega), List.getElem?_eq_none (by omega)]
    rfl
section
variable {P : Program} {w : World} {K : PySem.W.Frag} {mg : Str → Option Value} {base : Heap} {T : List (Addr × Str)}
def Rlpieces (ds : List PyData) (d : PyData) : Prop := ∃ l : List Con, l.length ≤ 120 ∧ wfCs l ∧ ds = [.list (l.map Con.d)] ∧ d = .list ((partsF l).map tupD)
theorem ok_lpieces (F : DfN K mg "_law_pieces" 70) (g : G K mg) (c : Cl P w K mg base 2 "_law_led" ["_law_known"] (spLed T)) : Cl P w K mg base 3 "_law_pieces" ["_law_known"] (spD T Rlpieces) := by
  refine cl_of (N := ["_law_known", "_law_led_here", "_law_found", "_law_there", "_law_at", "_law_piece"]) F ⟨rfl, rfl, rfl, by decide +kernel, rfl, by decide +kernel, by decide +kernel⟩ (len_spD fun ds d ⟨n, _, _, e, _⟩ => by rw [e]; rfl) (fun _ _ _ _ _ _ us hl => match us, hl with | [_], _ => rfl) ?_
  rintro f cdv A outer s H0 vs Q E hr ⟨F0, ds, d, sF, hv, ⟨l, hl120, hwf, e1, e2⟩, k⟩
  subst e1 e2
  obtain ⟨v1, _, rfl, i1, rfl⟩ := hv
  have nd : (["_law_known", "_law_led_here", "_law_found", "_law_there", "_law_at", "_law_piece"] : List Str).Nodup := by decide +kernel
  have hz : l.length ≤ sizeLine := Nat.le_trans hl120 (by decide)
  refine b_asgR (i := 1) (rx_call c hr (EA.go (T := T) (ea_cons (ed_var (i := 0) rfl i1) ea_nil) (.refl sF) fun vs F1 H1 a1 hv => ?_)) nd
  obtain ⟨w1, _, rfl, j1, rfl⟩ := hv
  refine ⟨F1, l, w1, a1.sub, j1, hl120, hwf, rfl, fun vr rows F2 H2 a2 R ir => ?_⟩
  have A2 := a1.trans a2
  have i2 := i1.up A2.ff
  show rB _ _ _ [some v1, some vr, none, none, none, none] H2
  have rowd : ∀ {i : Nat}, i < l.length → (rows.map fun r => dOf (rowT r))[i]? = some (dOf (rowT (rows.getD i []))) := fun {i} hi => by
    rw [List.getElem?_map, (rows_at R hi).1]; rfl
  refine b_setLc0 (T := T) (i := 2) (enc := fun i : Nat => PyData.int (i : Nat)) (xs := List.range l.length) (bs := fun i => [(4, .int (i : Nat))]) (own := [("_law_at", 4)]) rfl nd (by kernel_rfl) (Wk.to (wk_range1 (b_range g) (ed_lenl (b_len g) (ed_var (i := 0) rfl i2)) (by omega) (by rw [List.length_map]; omega)) (by rw [List.length_map, show ((l.length : Nat) : Int).toNat = l.length by omega, range0])) (fun _ _ i hi => hi)
    (fun i => tupD (lpF rows i)) (fun s3 Hb C2 cl fp i hi => ⟨gt_name nd, fun F3 H3 a3 us hus => ?_⟩) (by rw [List.length_range]; exact hz) a2.sub fun vf F3 H3 a3 iff => ?_
  · obtain ⟨u1, _, rfl, m1, rfl⟩ := hus
    have hil : i < l.length := List.mem_range.mp hi
    have i3 : Im F3 (.list (rows.map fun r => dOf (rowT r))) vr := ir.up a3.ff
    obtain ⟨lr, xs, elr, hlr, dlr⟩ := id i3
    obtain ⟨vq, eq, iq⟩ := dlr.at (rowd hil)
    obtain ⟨qa, ks, eqa, e2, e3⟩ := im_dOf.mp iq
    subst eqa elr
    obtain ⟨_, rn, rm⟩ := rows_at R hil
    have rlen : (rows.getD i []).length ≤ l.length := nat_pigeon _ _ rn fun x hx => ((rm x).mp hx).1
    refine ED.to (ed_tupl (b_tuple g) (EF.ed (ef_lock e2 fun F4 H4 a4 F5 H5 ob lk => ef_lc1 (enc := fun i : Nat => PyData.int (i : Nat)) (xs := rows.getD i []) (bs := fun i => [(3, .int (i : Nat))]) (own := [("_law_there", 3)]) rfl nd (by kernel_rfl) (Wk.to (wk_keys (dk := rowT (rows.getD i [])) (ev_ixl (ev_var (i := 1) rfl) (lk.ed.oth _ _ (fun z => z) (fun _ _ z => nomatch z) (a4.ff _ _ hlr)) (ed_var (i := 4) rfl ((m1.up a4.ff).ext lk.ed)) (atI_nat eq)) lk.at_ ((e3.up a4.ff).ext lk.ed)) (by unfold rowT; rw [List.map_map]; rfl)) (fun _ _ i hi => hi)
      (fun t => decide (i ∈ rows.getD t [])) (fun t => PyData.int (t : Nat)) (fun s4 Hb4 C4 cl4 fp4 t ht => ⟨gt_name nd, fun F6 H6 a6 vs6 hvs6 => ?_⟩) (Nat.le_trans rlen hz)))) rfl
    obtain ⟨u2, _, rfl, m2, rfl⟩ := hvs6
    have i6 : Im F6 (.list (rows.map fun r => dOf (rowT r))) (.ref lr) := ((i3.up a4.ff).ext lk.ed).up a6.ff
    have i5 : Im F6 (kE (.inl (i : Int))) u1 := ((m1.up a4.ff).ext lk.ed).up a6.ff
    have htl : t < l.length := ((rm t).mp ht).1
    exact ⟨(et_din (k := .inl (i : Int)) (room_u1 hr) (ed_var (i := 4) rfl i5) (ed_ixl (ed_var (i := 1) rfl i6) (ed_var (i := 3) rfl m2) (atI_nat (rowd htl)))).to rowT_mem, fun _ => ed_var (i := 3) rfl m2⟩
  · refine b_ret (T := T) (P := imP (.list ((partsF l).map tupD))) (EF.ed (ef_sset rfl hr.units (b_sorted g) (b_set g) (ls := wholeF l) (EF.ed (EF.to (ef_lc0 (enc := fun i : Nat => tupD (lpF rows i)) (xs := List.range l.length) (bs := fun i => [(5, tupD (lpF rows i))]) (own := [("_law_piece", 5)]) rfl nd (by kernel_rfl) (wk_list (ed_var (i := 2) rfl iff)) (fun _ _ i hi => hi)
      (fun i => tupD ((wholeF l).getD i [])) (fun s3 Hb C2 cl fp i hi => ⟨gt_name nd, fun F4 H4 a4 us hus => ?_⟩) (by rw [List.length_range]; exact hz)) ?_)) (by rw [wholeF_len]; exact hl120) (whole_ne _ hwf))) a3.sub fun v F4 H4 a4 q => k v F4 H4 (A2.trans (a3.trans a4)) q
    · obtain ⟨u1, _, rfl, m1, rfl⟩ := hus
      have hil : i < l.length := List.mem_range.mp hi
      refine ED.to (ed_tupl (b_tuple g) (EF.ed (ef_sortedI (ns := (lpF rows i).map fun i : Nat => (i : Int)) hr.units (b_sorted g) (ED.to (ed_var (i := 5) rfl m1) (by unfold tupD; rw [List.map_map]; rfl))))) ?_
      rw [lp_sort R hil]
      unfold tupD
      rw [List.map_map]
      rfl
    · rw [← wholeF_len l]
      exact map_range_getD tupD [] (wholeF l)
end
end Tw
set_option maxHeartbeats 1000000
namespace Tw
open PySem
/-! the law's contests are the program's (plain) -/
abbrev LS : List Str := ["lock", "share"]
theorem free_nls : ("free" : Str) ∉ LS := by decide
-- what a step does to the locks kept
theorem keep_lock {ks ks' : List Str} {s : Step} (h : keepS ks s = some ks') (hs : s.1 ∈ LS) : s.2 ∉ ks ∧ ks' = ks ++ [s.2] := by
  unfold keepS at h
  rw [if_pos hs] at h
  split at h
  · cases h
  · rename_i n
    exact ⟨n, (Option.some.inj h).symm⟩
theorem keep_stay {ks ks' : List Str} {s : Step} {n : Str} (h : keepS ks s = some ks') (hn : n ∈ ks) (hf : s ≠ freeS n) : n ∈ ks' := by
  unfold keepS at h
  split at h
  · split at h
    · cases h
    · rw [← Option.some.inj h]
      exact List.mem_append_left _ hn
  · split at h
    · rename_i hw
      split at h
      · rw [← Option.some.inj h]
        refine (List.mem_erase_of_ne fun z => hf ?_).mpr hn
        show s = freeS n
        unfold freeS
        rw [← hw, z]
      · cases h
    · rw [← Option.some.inj h]
      exact hn
theorem keep_free {ks ks' : List Str} {n : Str} (h : keepS ks (freeS n) = some ks') : n ∈ ks ∧ ks' = ks.erase n := by
  unfold keepS freeS at h
  rw [if_neg free_nls, if_pos rfl] at h
  split at h
  · rename_i hm
    exact ⟨hm, (Option.some.inj h).symm⟩
  · cases h
theorem keep_old {ks ks' : List Str} {s : Step} {n : Str} (h : keepS ks s = some ks') (hn : n ∈ ks') (hl : ¬ (s.1 ∈ LS ∧ s.2 = n)) : n ∈ ks := by
  unfold keepS at h
  split at h
  · rename_i hw
    split at h
    · cases h
    · rw [← Option.some.inj h] at hn
      rcases List.mem_append.mp hn with q | q
      · exact q
      · exact absurd ⟨hw, (List.mem_singleton.mp q).symm⟩ hl
  · split at h
    · split at h
      · rw [← Option.some.inj h] at hn
        exact List.mem_of_mem_erase hn
      · cases h
    · rw [← Option.some.inj h] at hn
      exact hn
-- the locks after i steps
structure Kt (t : Thr) (i : Nat) (ks : List Str) : Prop where
  eq : keepT [] (t.take i) = some ks
theorem kt_next {t : Thr} {i : Nat} {ks ks' : List Str} {s : Step} (k : Kt t i ks) (k' : Kt t (i + 1) ks') (h : t[i]? = some s) : keepS ks s = some ks' := by
  have := k'.eq
  rw [keepT_take h, k.eq] at this
  exact this
theorem kt_nodup {t : Thr} (h : keepT [] t = some []) : ∀ (i : Nat) {ks : List Str}, Kt t i ks → ks.Nodup
  | 0, ks, k => by
    have : ([] : List Str) = ks := by simpa [keepT] using k.eq
    rw [← this]; exact List.nodup_nil
  | i + 1, ks, k => by
    obtain ⟨k0, e0⟩ := keep_pre h i
    have ih := kt_nodup h i ⟨e0⟩
    cases hx : t[i]? with
    | none =>
      have hle := List.getElem?_eq_none_iff.mp hx
      have e : t.take (i + 1) = t.take i := by rw [List.take_of_length_le hle, List.take_of_length_le (by omega)]
      have := k.eq
      rw [e, e0] at this
      rw [← Option.some.inj this]; exact ih
    | some s =>
      have st := kt_next ⟨e0⟩ k hx
      unfold keepS at st
      split at st
      · split at st
        · cases st
        · rename_i n
          rw [← Option.some.inj st]
          exact List.nodup_append.mpr ⟨ih, by simp, fun a ha b hb z => by
            rw [List.mem_singleton.mp hb] at z
            rw [z] at ha
            exact n ha⟩
      · split at st
        · split at st
          · rw [← Option.some.inj st]; exact ih.erase _
          · cases st
        · rw [← Option.some.inj st]; exact ih
-- no step frees n from b on up to i
def NoFree (t : Thr) (b i : Nat) (n : Str) : Prop := ∀ j, b < j → j < i → t[j]? ≠ some (freeS n)
-- held from its taking on
theorem held_on {t : Thr} (h : keepT [] t = some []) {b : Nat} {s : Step} (hb : t[b]? = some s) (hs : s.1 ∈ LS) : ∀ (i : Nat), b < i → i ≤ t.length → NoFree t b i s.2 → ∀ {ks : List Str}, Kt t i ks → s.2 ∈ ks := by
  intro i
  induction i with
  | zero => exact fun z => absurd z (Nat.not_lt_zero b)
  | succ i ih =>
    intro hlt hle nf ks k
    obtain ⟨k0, e0⟩ := keep_pre h i
    have hx : t[i]? = some t[i] := List.getElem?_eq_getElem (by omega)
    have st := kt_next ⟨e0⟩ k hx
    by_cases z : b = i
    · subst z
      rw [hb] at hx
      rw [← Option.some.inj hx] at st
      rw [(keep_lock st hs).2]
      exact List.mem_append_right _ (List.mem_singleton.mpr rfl)
    · have hm := ih (by omega) (by omega) (fun j h1 h2 => nf j h1 (by omega)) ⟨e0⟩
      refine keep_stay st hm fun e => nf i (by omega) (by omega) ?_
      rw [hx, e]
theorem locks_end {t : Thr} (ht : isThr t = true) : LocksEnd t := by
  intro i s hi hs he
  obtain ⟨_, h⟩ := isThr_keep ht
  have hil := (List.getElem?_eq_some_iff.mp hi).1
  have nf : NoFree t i t.length s.2 := fun j h1 h2 e => by
    have hm : j ∈ endsL t i s.2 := by
      unfold endsL
      exact List.mem_filter.mpr ⟨List.mem_map.mpr ⟨j - i, List.mem_range.mpr (by omega), by omega⟩, decide_eq_true e⟩
    rw [he] at hm
    cases hm
  have := held_on h hi hs t.length hil (Nat.le_refl _) nf (ks := []) ⟨by rw [List.take_length]; exact h⟩
  cases this
-- a section
structure IsSec (t : Thr) (s : Sec) : Prop where
  bg : t[s.b]? = some (s.how, s.name)
  hw : s.how ∈ LS
  lt : s.b < s.e
  en : t[s.e]? = some (freeS s.name)
  nf : NoFree t s.b s.e s.name
theorem one_lock {t : Thr} (h : keepT [] t = some []) {b b' i : Nat} {s s' : Step} (h1 : t[b]? = some s) (h2 : t[b']? = some s') (w1 : s.1 ∈ LS) (w2 : s'.1 ∈ LS) (en : s.2 = s'.2) (l1 : b < i) (l2 : b' < i) (hi : i ≤ t.length) (n1 : NoFree t b i s.2) (n2 : NoFree t b' i s.2) : b = b' := by
  have go : ∀ {b b' : Nat} {s s' : Step}, t[b]? = some s → t[b']? = some s' → s.1 ∈ LS → s'.1 ∈ LS → s.2 = s'.2 → b < b' → b' < i → NoFree t b i s.2 → False := fun {b b' s s'} h1 h2 w1 w2 en lt l2 n1 => by
    obtain ⟨k0, e0⟩ := keep_pre h b'
    obtain ⟨k1, e1⟩ := keep_pre h (b' + 1)
    have hm := held_on h h1 w1 b' lt (by omega) (fun j q1 q2 => n1 j q1 (by omega)) ⟨e0⟩
    rw [en] at hm
    exact (keep_lock (kt_next ⟨e0⟩ ⟨e1⟩ h2) w2).1 hm
  rcases Nat.lt_trichotomy b b' with q | q | q
  · exact (go h1 h2 w1 w2 en q l2 n1).elim
  · exact q
  · exact (go h2 h1 w2 w1 en.symm q l1 (by rw [← en]; exact n2)).elim
-- what stands begun
def BegOk (t : Thr) (i : Nat) (ks : List Str) (bg : Beg) : Prop := ∀ n ∈ ks, ∃ b w, bg n = some (b, w) ∧ t[b]? = some (w, n) ∧ w ∈ LS ∧ b < i ∧ NoFree t b i n
theorem sec_inv {t : Thr} (h : keepT [] t = some []) : ∀ i, i ≤ t.length → ∀ {ks : List Str}, Kt t i ks → BegOk t i ks (secRun t i).2 ∧ (∀ s, s ∈ (secRun t i).1 ↔ IsSec t s ∧ s.e < i) ∧ (secRun t i).1.Pairwise (fun a b => a.e < b.e)
  | 0, _, ks, k => by
    have : ([] : List Str) = ks := by simpa [keepT] using k.eq
    subst this
    exact ⟨fun n hn => by simp at hn, fun s => by simp [secRun], by simp [secRun]⟩
  | i + 1, hi, ks, k => by
    obtain ⟨k0, e0⟩ := keep_pre h i
    obtain ⟨B, M, Pw⟩ := sec_inv h i (by omega) (ks := k0) ⟨e0⟩
    have hx : t[i]? = some t[i] := List.getElem?_eq_getElem (by omega)
    have st := kt_next ⟨e0⟩ k hx
    have nd := kt_nodup h i ⟨e0⟩
    rw [secRun_succ hx]
    generalize t[i] = s at hx st
    obtain ⟨w, n⟩ := s
    unfold secStep
    by_cases hw : w ∈ LS
    · rw [if_pos hw]
      obtain ⟨k1, k2⟩ := keep_lock st hw
      refine ⟨fun m hm => ?_, fun s => ?_, Pw⟩
      · show ∃ b w', (if m = n then some (i, w) else (secRun t i).2 m) = some (b, w') ∧ _
        by_cases z : m = n
        · subst z
          exact ⟨i, w, if_pos rfl, hx, hw, Nat.lt_succ_self i, fun j h1 h2 => by omega⟩
        · rw [if_neg z]
          rw [k2] at hm
          have hm : m ∈ k0 := by
            rcases List.mem_append.mp hm with q | q
            · exact q
            · exact absurd (List.mem_singleton.mp q) z
          obtain ⟨b, w', b1, b2, b3, b4, b5⟩ := B m hm
          refine ⟨b, w', b1, b2, b3, by omega, fun j h1 h2 => ?_⟩
          by_cases zj : j = i
          · subst zj
            rw [hx]
            intro e
            have e := congrArg Prod.fst (Option.some.inj e)
            have e : w = "free" := e
            rw [e] at hw
            exact free_nls hw
          · exact b5 j h1 (by omega)
      · rw [M]
        constructor
        · rintro ⟨q1, q2⟩; exact ⟨q1, by omega⟩
        · rintro ⟨q1, q2⟩
          refine ⟨q1, ?_⟩
          by_cases z : s.e = i
          · have := q1.en
            rw [z, hx] at this
            have e := congrArg Prod.fst (Option.some.inj this)
            have e : w = "free" := e
            rw [e] at hw
            exact absurd hw free_nls
          · omega
    · rw [if_neg hw]
      by_cases hf : w = "free"
      · subst hf
        rw [if_pos rfl]
        obtain ⟨k1, k2⟩ := keep_free st
        obtain ⟨b, w', b1, b2, b3, b4, b5⟩ := B n k1
        dsimp only
        rw [b1]
        have news : IsSec t ⟨b, i, w', n⟩ := ⟨b2, b3, b4, hx, b5⟩
        refine ⟨fun m hm => ?_, fun s => ?_, ?_⟩
        · rw [k2] at hm
          have hmn : m ≠ n := fun z => by
            rw [z] at hm
            exact nd.not_mem_erase hm
          obtain ⟨c, u, c1, c2, c3, c4, c5⟩ := B m (List.mem_of_mem_erase hm)
          refine ⟨c, u, c1, c2, c3, by omega, fun j h1 h2 => ?_⟩
          by_cases zj : j = i
          · subst zj
            rw [hx]
            intro e
            have e := congrArg Prod.snd (Option.some.inj e)
            exact hmn e.symm
          · exact c5 j h1 (by omega)
        · rw [List.mem_append, M, List.mem_singleton]
          constructor
          · rintro (⟨q1, q2⟩ | q)
            · exact ⟨q1, by omega⟩
            · rw [q]; exact ⟨news, Nat.lt_succ_self i⟩
          · rintro ⟨q1, q2⟩
            by_cases z : s.e = i
            · right
              obtain ⟨sb, se, sh, sn⟩ := s
              obtain rfl : se = i := z
              have en := q1.en
              rw [hx] at en
              have e : n = sn := congrArg Prod.snd (Option.some.inj en)
              subst e
              have eb : sb = b := one_lock h q1.bg b2 q1.hw b3 rfl q1.lt b4 (by omega) q1.nf b5
              subst eb
              have := q1.bg
              have e2 : some (sh, n) = some (w', n) := this.symm.trans b2
              have e3 : sh = w' := congrArg Prod.fst (Option.some.inj e2)
              rw [e3]
            · exact .inl ⟨q1, by omega⟩
        · refine List.pairwise_append.mpr ⟨Pw, by simp, fun a ha b hb => ?_⟩
          rw [List.mem_singleton.mp hb]
          exact ((M a).mp ha).2
      · rw [if_neg hf]
        have ks0 : k0 = ks := by
          unfold keepS at st
          rw [if_neg hw, if_neg hf] at st
          exact Option.some.inj st
        subst ks0
        refine ⟨fun m hm => ?_, fun s => ?_, Pw⟩
        · obtain ⟨c, u, c1, c2, c3, c4, c5⟩ := B m hm
          refine ⟨c, u, c1, c2, c3, by omega, fun j h1 h2 => ?_⟩
          by_cases zj : j = i
          · subst zj
            rw [hx]
            intro e
            exact hf (congrArg Prod.fst (Option.some.inj e))
          · exact c5 j h1 (by omega)
        · rw [M]
          constructor
          · rintro ⟨q1, q2⟩; exact ⟨q1, by omega⟩
          · rintro ⟨q1, q2⟩
            refine ⟨q1, ?_⟩
            by_cases z : s.e = i
            · have := q1.en
              rw [z, hx] at this
              exact absurd (congrArg Prod.fst (Option.some.inj this)) hf
            · omega
-- the law's parts are the sections, by their begins
theorem ends_mem {t : Thr} {b e : Nat} {n : Str} : e ∈ endsL t b n ↔ b ≤ e ∧ t[e]? = some (freeS n) := by
  unfold endsL
  rw [List.mem_filter, decide_eq_true_eq, List.mem_map]
  constructor
  · rintro ⟨⟨j, _, rfl⟩, h⟩
    exact ⟨Nat.le_add_right _ _, h⟩
  · rintro ⟨h1, h2⟩
    have := (List.getElem?_eq_some_iff.mp h2).1
    exact ⟨⟨e - b, List.mem_range.mpr (by omega), by omega⟩, h2⟩
theorem ends_up (t : Thr) (b : Nat) (n : Str) : (endsL t b n).Pairwise (· < ·) := by
  unfold endsL
  exact List.Pairwise.filter _ (List.pairwise_map.mpr (List.pairwise_lt_range.imp fun h => by omega))
theorem ends_head {t : Thr} {b e : Nat} {n : Str} (hm : e ∈ endsL t b n) (hl : ∀ j, b ≤ j → j < e → t[j]? ≠ some (freeS n)) : (endsL t b n).headD 0 = e := by
  have up := ends_up t b n
  cases q : endsL t b n with
  | nil => rw [q] at hm; cases hm
  | cons x r =>
    rw [q] at hm up
    show x = e
    rcases List.mem_cons.mp hm with z | z
    · exact z.symm
    · have hx := (List.pairwise_cons.mp up).1 e z
      have hm2 : x ∈ endsL t b n := by rw [q]; exact List.mem_cons_self ..
      obtain ⟨h1, h2⟩ := ends_mem.mp hm2
      exact absurd h2 (hl x h1 hx)
theorem head_mem {t : Thr} {b : Nat} {n : Str} (h : endsL t b n ≠ []) : (endsL t b n).headD 0 ∈ endsL t b n ∧ ∀ j, b ≤ j → j < (endsL t b n).headD 0 → t[j]? ≠ some (freeS n) := by
  have up := ends_up t b n
  cases q : endsL t b n with
  | nil => exact absurd q h
  | cons x r =>
    rw [q] at up
    refine ⟨List.mem_cons_self .., fun j h1 h2 e => ?_⟩
    have hm : j ∈ endsL t b n := ends_mem.mpr ⟨h1, e⟩
    rw [q] at hm
    have h2 : j < x := h2
    rcases List.mem_cons.mp hm with z | z
    · omega
    · have := (List.pairwise_cons.mp up).1 j z
      omega
theorem zip_mem {t : Thr} {q : Step × Nat} : q ∈ t.zipIdx ↔ t[q.2]? = some q.1 := by
  obtain ⟨s, i⟩ := q
  rw [List.mem_iff_getElem?]
  constructor
  · rintro ⟨j, hj⟩
    rw [List.getElem?_zipIdx] at hj
    cases e : t[j]? with
    | none => rw [e] at hj; cases hj
    | some s5 =>
      rw [e] at hj
      simp at hj
      obtain ⟨h1, h2⟩ := hj
      show t[i]? = some s
      rw [← h2, e, h1]
  · intro h
    have h : t[i]? = some s := h
    exact ⟨i, by rw [List.getElem?_zipIdx, h]; simp⟩
theorem parts_mem {t : Thr} (ht : isThr t = true) (s : Sec) : s ∈ partsL t ↔ IsSec t s := by
  have le := locks_end ht
  unfold partsL
  rw [List.mem_flatMap]
  constructor
  · rintro ⟨⟨⟨w, n⟩, i⟩, hq, hs⟩
    have hq := zip_mem.mp hq
    have hq : t[i]? = some (w, n) := hq
    unfold partOf at hs
    split at hs
    · rename_i hw
      have e := List.mem_singleton.mp hs
      subst e
      obtain ⟨h1, h2⟩ := head_mem (le i (w, n) hq hw)
      obtain ⟨h3, h4⟩ := ends_mem.mp h1
      have hne : i ≠ (endsL t i n).headD 0 := fun z => by
        have h4 : t[(endsL t i n).headD 0]? = some (freeS n) := h4
        rw [← z, hq] at h4
        have e : w = "free" := congrArg Prod.fst (Option.some.inj h4)
        rw [e] at hw
        exact free_nls hw
      exact ⟨hq, hw, by show i < (endsL t i n).headD 0; have h3 : i ≤ (endsL t i n).headD 0 := h3; omega, h4, fun j q1 q2 => h2 j (Nat.le_of_lt q1) q2⟩
    · cases hs
  · intro S
    obtain ⟨b, e, w, n⟩ := s
    have b1 : t[b]? = some (w, n) := S.bg
    refine ⟨((w, n), b), zip_mem.mpr b1, ?_⟩
    unfold partOf
    have hw : w ∈ (["lock", "share"] : List Str) := S.hw
    rw [if_pos hw]
    have eh : (endsL t b n).headD 0 = e := ends_head (ends_mem.mpr ⟨Nat.le_of_lt S.lt, S.en⟩) fun j h1 h2 z => by
      by_cases q : j = b
      · subst q
        rw [b1] at z
        have e : w = "free" := congrArg Prod.fst (Option.some.inj z)
        rw [e] at hw
        exact free_nls hw
      · exact S.nf j (by show b < j; omega) h2 z
    rw [List.mem_singleton]
    show (⟨b, e, w, n⟩ : Sec) = ⟨b, (endsL t b n).headD 0, w, n⟩
    rw [eh]
theorem parts_nd (t : Thr) : (partsL t).Nodup := by
  have up : ∀ (l : List (Step × Nat)), (l.map (·.2)).Pairwise (· < ·) → (l.flatMap (partOf t)).Pairwise (fun a b => a.b < b.b) ∧ ∀ s ∈ l.flatMap (partOf t), s.b ∈ l.map (·.2) := by
    intro l
    induction l with
    | nil => exact fun _ => ⟨by simp, fun s hs => by simp at hs⟩
    | cons q l ih =>
      intro h
      rw [List.map_cons, List.pairwise_cons] at h
      obtain ⟨i1, i2⟩ := ih h.2
      have hb : ∀ s ∈ partOf t q, s.b = q.2 := fun s hs => by
        unfold partOf at hs
        split at hs
        · rw [List.mem_singleton.mp hs]
        · cases hs
      rw [List.flatMap_cons]
      refine ⟨List.pairwise_append.mpr ⟨?_, i1, fun a ha b hb2 => ?_⟩, fun s hs => ?_⟩
      · unfold partOf
        split <;> simp
      · rw [hb a ha]
        exact h.1 _ (i2 b hb2)
      · rcases List.mem_append.mp hs with z | z
        · rw [hb s z]; exact List.mem_cons_self ..
        · exact List.mem_cons_of_mem _ (i2 s z)
  have h0 : (t.zipIdx.map (·.2)).Pairwise (· < ·) := by
    rw [List.zipIdx_map_snd]
    exact List.pairwise_lt_range'
  exact ((up t.zipIdx h0).1).imp fun h z => by rw [z] at h; exact Nat.lt_irrefl _ h
theorem secs_perm {t : Thr} (ht : isThr t = true) : (secs t).Perm (partsL t) := by
  obtain ⟨_, h⟩ := isThr_keep ht
  obtain ⟨_, M, Pw⟩ := sec_inv h t.length (Nat.le_refl _) (ks := []) ⟨by rw [List.take_length]; exact h⟩
  refine (List.mergeSort_perm _ _).trans ((List.perm_ext_iff_of_nodup (Pw.imp fun h z => by rw [z] at h; exact Nat.lt_irrefl _ h) (parts_nd t)).mpr fun s => ?_)
  rw [parts_mem ht]
  exact (M s).trans ⟨fun q => q.1, fun q => ⟨q, (List.getElem?_eq_some_iff.mp q.en).1⟩⟩
theorem lock_one (a b : Sec) : lockOne a b = lLockOne a b := by
  unfold lockOne lLockOne shareP
  have e : (decide (a.how = b.how) && decide (b.how = "share")) = decide (((a.how, b.how) : Step) = ((("share" : Str), ("share" : Str)) : Step)) := by
    rw [Bool.eq_iff_iff, Bool.and_eq_true, decide_eq_true_eq, decide_eq_true_eq, decide_eq_true_eq, Prod.mk.injEq]
    constructor
    · rintro ⟨h1, h2⟩; exact ⟨h1.trans h2, h2⟩
    · rintro ⟨h1, h2⟩; exact ⟨h1.trans h2.symm, h2⟩
  rw [e]
theorem flat_filter {α β γ : Type} (p : α → Bool) (f : α → β) (g : β → List γ) : ∀ l : List α, ((l.filter p).map f).flatMap g = l.flatMap fun x => if p x = true then g (f x) else []
  | [] => rfl
  | x :: l => by
    rw [List.filter_cons, List.flatMap_cons, ← flat_filter p f g l]
    cases p x
    · rfl
    · rfl
theorem flat_none {α β : Type} : ∀ l : List α, (l.flatMap fun _ => ([] : List β)) = []
  | [] => rfl
  | _ :: l => by rw [List.flatMap_cons, flat_none l]; rfl
theorem data_cs (p : Pr) : dataCs p = lDataCs p := by
  unfold dataCs lDataCs accs
  rw [flat_filter]
  congr 1
  funext a
  rw [flat_filter]
  by_cases ha : a.1.1 ∈ (["read", "write"] : List Str)
  · rw [if_pos (decide_eq_true ha)]
    congr 1
    funext b
    by_cases hb : b.1.1 ∈ (["read", "write"] : List Str)
    · rw [if_pos (decide_eq_true hb)]
      unfold dataOne lDataOne
      have e : (!(decide (a.1.1 = b.1.1) && decide (b.1.1 = "read"))) = (decide (("write" : Str) ∈ [a.1.1, b.1.1]) && (decide (a.1.1 ∈ (["read", "write"] : List Str)) && decide (b.1.1 ∈ (["read", "write"] : List Str)))) := by
        rw [decide_eq_true ha, decide_eq_true hb, Bool.and_true, Bool.and_true]
        have h1 : a.1.1 = "read" ∨ a.1.1 = "write" := by simpa using ha
        have h2 : b.1.1 = "read" ∨ b.1.1 = "write" := by simpa using hb
        rcases h1 with h1 | h1 <;> rcases h2 with h2 | h2 <;> rw [h1, h2] <;> decide
      dsimp only
      rw [e]
    · rw [if_neg (by rw [decide_eq_false hb]; exact Bool.false_ne_true)]
      unfold lDataOne
      rw [if_neg (by rw [decide_eq_false hb]; simp)]
  · rw [if_neg (by rw [decide_eq_false ha]; exact Bool.false_ne_true)]
    have e : lDataOne a = fun _ => [] := by
      funext b
      unfold lDataOne
      rw [if_neg (by rw [decide_eq_false ha]; simp)]
    rw [e, flat_none]
theorem flat_perm {α β : Type} {f g : α → List β} : ∀ {l : List α}, (∀ a ∈ l, (f a).Perm (g a)) → (l.flatMap f).Perm (l.flatMap g)
  | [], _ => .refl _
  | a :: l, h => by
    rw [List.flatMap_cons, List.flatMap_cons]
    exact (h a (List.mem_cons_self ..)).append (flat_perm fun b hb => h b (List.mem_cons_of_mem _ hb))
theorem lconts_eq {p : Pr} (h : okP p) : lconts p = conts p := by
  unfold lconts conts
  refine sort_perm con_inj (List.Perm.append ?_ (by rw [data_cs]))
  unfold lLockCs lockCs
  refine ((List.Perm.flatMap_right _ (secs_perm h.2.2.1)).trans (flat_perm fun a _ => ?_)).symm
  have e : lockOne a = lLockOne a := by funext b; exact lock_one a b
  rw [e]
  exact List.Perm.flatMap_right _ (secs_perm h.2.2.2)
theorem okL_of {p : Pr} (h : okP p) : okL p := ⟨h.1, h.2.1, locks_end h.2.2.1, locks_end h.2.2.2, (isThr_keep h.2.2.1).1, (isThr_keep h.2.2.2).1⟩
end Tw
set_option maxHeartbeats 2000000
namespace Tw
open PySem PySem.Spec PyProof.Rows L2 LamX
-- the locks taken, as a dict
def tkT (ks : List Str) : Tb Key := ks.map fun n => ((.inr n : Key), PyData.bool true)
theorem tk_mem {ks : List Str} {n : Str} : (valD (tkT ks) (.inr n)).isSome = decide (n ∈ ks) := by
  rw [Bool.eq_iff_iff, decide_eq_true_eq, valD_mem]
  unfold tkT
  rw [List.map_map]
  constructor
  · intro h
    obtain ⟨j, hj, e⟩ := List.mem_map.mp h
    have : j = n := Sum.inr.inj e
    rw [← this]; exact hj
  · exact fun h => List.mem_map.mpr ⟨n, h, rfl⟩
theorem tk_put {ks : List Str} {n : Str} (h : n ∉ ks) : putD (tkT ks) (.inr n) (.bool true) = tkT (ks ++ [n]) := by
  rw [putD_new]
  · unfold tkT
    rw [List.map_append]
    rfl
  · have := tk_mem (ks := ks) (n := n)
    rw [decide_eq_false h] at this
    simpa using this
theorem tk_drop {ks : List Str} {n : Str} (h : ks.Nodup) : dropD (tkT ks) (.inr n) = tkT (ks.erase n) := by
  unfold dropD tkT
  rw [List.filter_map, h.erase_eq_filter]
  congr 1
  refine List.filter_congr fun x _ => ?_
  show decide ((Sum.inr x : Key) ≠ Sum.inr n) = (x != n)
  rw [Bool.eq_iff_iff, decide_eq_true_eq, bne_iff_ne]
  exact ⟨fun q z => q (by rw [z]), fun q z => q (Sum.inr.inj z)⟩
def wordsT : List Str := ["lock", "share", "free", "read", "write", "work"]
section
variable {P : Program} {w : World} {K : PySem.W.Frag} {mg : Str → Option Value} {base : Heap} {T : List (Addr × Str)}
theorem ok_lis_step (F : DfN K mg "_law_is_step" 71) (g : G K mg) : Cl P w K mg base 1 "_law_is_step" ["_law_thing"] (spD T Ris_step) := by
  refine cl_of (N := ["_law_thing", "_law_sign"]) F ⟨rfl, rfl, rfl, by decide +kernel, rfl, by decide +kernel, by decide +kernel⟩ (len_spD fun ds d ⟨n, _, e, _⟩ => by rw [e]; rfl) (fun _ _ _ _ _ _ us hl => match us, hl with | [_], _ => rfl) ?_
  rintro f cdv A outer s H vs Q E hr ⟨F, ds, d, sF, hv, ⟨n, ⟨n1, n2⟩, e1, e2⟩, k⟩
  subst e1 e2
  obtain ⟨v1, _, rfl, i1, rfl⟩ := hv
  have nd : (["_law_thing", "_law_sign"] : List Str).Nodup := by decide +kernel
  obtain ⟨q1, q2, q3⟩ := n2
  have hz : n.2.length ≤ sizeLine := Nat.le_trans q2 (by decide)
  refine b_when (T := T) (k0 := false) ((et_w (ew_or (k1 := false) (et_not (k1 := true) (et_val (ed_isi (b_isi g) (ed_var (i := 0) rfl i1) (ev_gty (b_tuple g) boot_tupleb) rfl rfl))) fun _ =>
    ew_or (k1 := false) (et_neI (ed_lent (b_len g) (ed_var (i := 0) rfl i1)) ed_int) fun _ => ew_or1 (et_not (k1 := true) (et_val (ed_isi (b_isi g) (ed_ixt (ed_var (i := 0) rfl i1) ed_int rfl) (ev_gty (b_str g) boot_strb) rfl rfl)))))) sF (fun z => by cases z) fun _ F1 H1 a1 => ?_
  have i2 := i1.up a1.ff
  refine b_when (T := T) (k0 := false) ((et_w (ew_or (k1 := false) ((et_niSt (zs := wordsT) (ed_ixt (ed_var (i := 0) rfl i2) ed_int rfl) (ed_tup (ea_cons ed_str (ea_cons ed_str (ea_cons ed_str (ea_cons ed_str (ea_cons ed_str (ea_cons ed_str ea_nil)))))))).to (by
      have : n.1 ∈ wordsT := n1
      rw [decide_eq_true this]; rfl)) fun _ => ew_or1 (et_not (k1 := true) (et_val (ed_isi (b_isi g) (ed_ixt (ed_var (i := 0) rfl i2) ed_int rfl) (ev_gty (b_str g) boot_strb) rfl rfl)))))) a1.sub (fun z => by cases z) fun _ F2 H2 a2 => ?_
  have i3 := i2.up a2.ff
  refine b_ret (T := T) (P := imP (.bool true)) (ED.to (ed_and (k1 := decide ((1 : Int) ≤ n.2.length) && decide ((n.2.length : Int) ≤ 8)) (k2 := true) (ed_lele ed_int (ed_lens (b_len g) (ed_ixt (ed_var (i := 0) rfl i3) ed_int rfl) hz) ed_int) fun _ => ed_one (ED.to (ed_all (bs := n.2.cps.toList.map fun _ => true) rfl (b_all g) (EF.ed (EF.to (ef_lc0 (enc := fun c : Nat => PyData.str ⟨#[c]⟩) (xs := n.2.cps.toList) (bs := fun c => [(1, PyData.str ⟨#[c]⟩)]) (own := [("_law_sign", 1)]) rfl nd (by kernel_rfl) (wk_str (ed_ixt (ed_var (i := 0) rfl i3) ed_int rfl)) (fun _ _ i hi => hi)
    (fun _ => .bool true) (fun s Hb C cl fp c hc => ⟨gt_name nd, fun F2 H2 a2 vs hvs => ?_⟩) (by rw [Array.length_toList]; exact hz)) ?_))) ?_)) ?_) a2.sub fun v F4 H4 a4 q => k v F4 H4 ((a1.trans a2).trans a4) q
  · obtain ⟨u, _, rfl, m2, rfl⟩ := hvs
    exact ED.to (ed_sign (ed_var (i := 1) rfl m2) ed_str) (by have : c ∈ letters.cps.toList := q3 c hc; rw [PyData.bool.injEq]; exact decide_eq_true this)
  · rw [List.map_map]; rfl
  · congr 1; simp
  · congr 1
    rw [Bool.and_true, Bool.and_eq_true, decide_eq_true_eq, decide_eq_true_eq]
    omega
theorem ok_lis_thread (F : DfN K mg "_law_is_thread" 72) (g : G K mg) (c : Cl P w K mg base 1 "_law_is_step" ["_law_thing"] (spD T Ris_step)) : Cl P w K mg base 2 "_law_is_thread" ["_law_thing"] (spD T Ris_thread) := by
  refine cl_of (N := ["_law_thing", "_law_step", "_law_taken", "_law_word", "_law_name"]) F ⟨rfl, rfl, rfl, by decide +kernel, rfl, by decide +kernel, by decide +kernel⟩ (len_spD fun ds d ⟨n, _, _, e, _⟩ => by rw [e]; rfl) (fun _ _ _ _ _ _ us hl => match us, hl with | [_], _ => rfl) ?_
  rintro f cdv A outer s H0 vs Q E hr ⟨F0, ds, d, sF, hv, ⟨t, ht, hlen, e1, e2⟩, k⟩
  subst e1 e2
  obtain ⟨v1, _, rfl, i1, rfl⟩ := hv
  have nd : (["_law_thing", "_law_step", "_law_taken", "_law_word", "_law_name"] : List Str).Nodup := by decide +kernel
  have hz : t.length ≤ sizeLine := Nat.le_trans hlen (by decide)
  have hz2 : 2000 < sizeLine := by decide
  have c1 : ET T (cxOf L2.CX0 P w K mg base ["_law_thing", "_law_step", "_law_taken", "_law_word", "_law_name"] "_law_is_thread" (defScope (top 72)) f cdv A outer s H0 E).nox (match defBody (top 72) with | .If c _ _ _ :: _ => c | _ => .Constant .none 0 ⟨0, 0, 0, 0⟩) [some v1, none, none, none, none] F0 H0 (!decide (t.length ≤ 40)) := by
    refine ET.to (et_w (ew_or (k1 := false) (et_not (k1 := true) (et_val (ed_isi (b_isi g) (ed_var (i := 0) rfl i1) (ev_gty (b_tuple g) boot_tupleb) rfl rfl))) fun _ => ew_or (k1 := decide ((40 : Int) < t.length)) (k2 := !true) ((et_gt (ed_lent (b_len g) (ed_var (i := 0) rfl i1)) ed_int).to (by rw [List.length_map])) fun _ => ew_or1 (et_not (k1 := true) (et_val (ED.to (ed_all (bs := t.map fun _ => true) rfl (b_all g) (EF.ed (EF.to (ef_lc0 (enc := stD) (xs := t) (bs := fun c => [(1, stD c)]) (own := [("_law_step", 1)]) rfl nd (by kernel_rfl) (wk_tup (ed_var (i := 0) rfl i1)) (fun _ _ i hi => hi)
      (fun _ => .bool true) (fun s Hb C cl fp c2 hc => ⟨gt_name nd, fun F2 H2 a2 vs hvs => ?_⟩) hz) ?_))) ?_))))) ?_
    · obtain ⟨u, _, rfl, m2, rfl⟩ := hvs
      exact ed_call c hr (ea_cons (ed_var (i := 1) rfl m2) ea_nil) ⟨c2, ht c2 hc, rfl, rfl⟩
    · rw [List.map_map]; rfl
    · congr 1; simp
    · rw [Bool.false_or, Bool.not_true, Bool.or_false, ← decide_not]
      congr 1
      apply propext
      omega
  refine b_when (T := T) c1 sF (fun z F1 H1 a1 => ?_) fun z F1 H1 a1 => ?_
  · exact b_ret (T := T) (P := imP (.bool false)) ed_bool a1.sub fun v F2 H2 a2 q => k v F2 H2 (a1.trans a2) (by rw [isThr, show decide (t.length ≤ 40) = false by simpa using z]; exact q)
  have hl40 : decide (t.length ≤ 40) = true := by simpa using z
  have kF : ∀ {F' H'}, Adv T F0 H0 F' H' → keepT [] t = none → ∀ v, Im F' (.bool false) v → Q v H' := fun a e v q => k v _ _ a (by rw [isThr, e, hl40]; exact q)
  refine b_asgN (T := T) (i := 2) en_nil a1.sub (fun d o F2 H2 a2 hn hF hl hc => ?_) nd
  obtain ⟨kvs, rfl, hd⟩ := hc
  have i2 := i1.up (a1.trans a2).ff
  have nw : Nw H0 d := Nw.back a1 hn
  show rB _ _ _ [some v1, none, some (.ref d), none, none] H2
  refine b_for (T := T) (enc := stD) (xs := t) (bs := fun s => [(3, .str s.1), (4, .str s.2)]) rfl .never (wk_tup (ed_var (i := 0) rfl i2)) a2.sub (fun x _ => gt_tup rfl (gts_cons (gt_name nd) (gts_cons (gt_name nd) gts_nil)))
    (fun i σ F' H' => ∃ x y ks, σ = [some v1, none, some (.ref d), x, y] ∧ Adv T F0 H0 F' H' ∧ F' d = none ∧ (∃ kvs, H' d = some (.dK kvs) ∧ DL F' (tkT ks) kvs) ∧ ks.length ≤ i ∧ ks.Nodup ∧ keepT [] (t.take i) = some ks)
    (fun F3 H3 a3 => ?_) ?_ ?_
  · obtain ⟨o1, o2⟩ := a3.off hF hl notTbl_dK
    exact ⟨none, none, [], rfl, (a1.trans a2).trans a3, o1, ⟨kvs, o2, hd.up a3.ff⟩, Nat.le_refl _, List.nodup_nil, rfl⟩
  · rintro i ⟨wd, nm⟩ σ1 F3 H3 hx s3 ext3 ⟨x, y, ks, rfl, a3, f3, ⟨kvs, h3, dl⟩, hk, hnd, ek⟩ us F4 H4 a4 ⟨u1, _, rfl, m1, u2, _, rfl, m2, rfl⟩ N hN
    have hil := (List.getElem?_eq_some_iff.mp hx).1
    obtain ⟨f4, h4⟩ := a4.off f3 h3 notTbl_dK
    have dl4 := dl.up a4.ff
    have step := keepT_take hx []
    rw [ek] at step
    have step : keepT [] (t.take (i + 1)) = keepS ks (wd, nm) := step
    have m1 : u1 = .str wd := m1
    have m2 : u2 = .str nm := m2
    subst m1 m2
    show rB _ _ _ [some v1, none, some (.ref d), some (.str wd), some (.str nm)] H4
    refine b_when (T := T) (k0 := (decide (wd ∈ (["lock", "share"] : List Str)) && decide (nm ∈ ks)) || (decide (wd = "free") && !decide (nm ∈ ks))) (et_w (ew_or (et_w (ew_and (et_inSt (zs := ["lock", "share"]) (ed_var (i := 3) rfl rfl) (ed_tup (ea_cons ed_str (ea_cons ed_str ea_nil)))) fun _ => ew_and1 ((et_dinm (k := .inr nm) (room_u1 hr) (ed_var (i := 4) rfl rfl) (ev_var (i := 2) rfl) h4 dl4).to tk_mem))) fun _ => ew_or1 (et_w (ew_and (et_eqS (ed_var (i := 3) rfl rfl) ed_str) fun _ => ew_and1 ((et_dnim (k := .inr nm) (room_u1 hr) (ed_var (i := 4) rfl rfl) (ev_var (i := 2) rfl) h4 dl4).to (by rw [tk_mem])))))) a4.sub (fun zz F5 H5 a5 => ?_) fun zz F5 H5 a5 => ?_
    · refine b_ret (T := T) (P := imP (.bool false)) ed_bool a5.sub fun v F6 H6 a6 q => kF ((a3.trans a4).trans (a5.trans a6)) (keepT_none (i := i + 1) ?_) v q
      rw [step]
      rw [Bool.or_eq_true, Bool.and_eq_true, Bool.and_eq_true] at zz
      unfold keepS
      rcases zz with ⟨z1, z2⟩ | ⟨z1, z2⟩
      · have z1 : wd ∈ (["lock", "share"] : List Str) := of_decide_eq_true z1
        rw [if_pos z1, if_pos (of_decide_eq_true z2)]
      · have z1 : wd = "free" := of_decide_eq_true z1
        subst z1
        rw [if_neg free_nls, if_pos rfl, if_neg (by simpa using z2)]
    · obtain ⟨f5, h5⟩ := a5.off f4 h4 notTbl_dK
      have dl5 := dl4.up a5.ff
      rw [Bool.or_eq_false_iff] at zz
      obtain ⟨z1, z2⟩ := zz
      have hz3 : kvs.length < sizeLine := by
        rw [dl.length]
        unfold tkT
        rw [List.length_map]
        omega
      refine b_whenJ (T := T) (k0 := decide (wd ∈ (["lock", "share"] : List Str))) (fun σ F' H' => σ = [some v1, none, some (.ref d), some (.str wd), some (.str nm)] ∧ Adv T F0 H0 F' H' ∧ F' d = none ∧ ∃ kvs, H' d = some (.dK kvs) ∧ DL F' (tkT (if wd ∈ (["lock", "share"] : List Str) then ks ++ [nm] else ks)) kvs)
        (et_inSt (zs := ["lock", "share"]) (ed_var (i := 3) rfl rfl) (ed_tup (ea_cons ed_str (ea_cons ed_str ea_nil)))) a5.sub (fun zz F6 H6 a6 N' hN' => ?_) (fun zz F6 H6 a6 => ?_) ?_
      · have zw : wd ∈ (["lock", "share"] : List Str) := of_decide_eq_true zz
        have hnm : nm ∉ ks := by
          rw [decide_eq_true zw] at z1
          simpa using z1
        obtain ⟨f6, h6⟩ := a6.off f5 h5 notTbl_dK
        refine b_dput (T := T) (k := .inr nm) (d := .bool true) (room_u1 hr) a6.sub ed_bool (ev_var (i := 2) rfl) (ed_var (i := 4) rfl rfl) f6 h6 (dl5.up a6.ff) hz3 fun kvs' F7 H7 a7 f7 h7 dl7 s7 => ?_
        rw [tk_put hnm] at dl7
        refine rB_nil (hN' _ _ _ s7 (a6.trans a7).ff ⟨rfl, (((a3.trans a4).trans (a5.trans (a6.trans a7)))).mut nw f7 h7 mut_dK, f7, kvs', upd_same, ?_⟩)
        rw [if_pos zw]
        exact dl7
      · have zw : wd ∉ (["lock", "share"] : List Str) := of_decide_eq_false zz
        obtain ⟨f6, h6⟩ := a6.off f5 h5 notTbl_dK
        refine ⟨rfl, (a3.trans a4).trans (a5.trans a6), f6, kvs, h6, ?_⟩
        rw [if_neg zw]
        exact dl5.up a6.ff
      · rintro σ6 F6 H6 s6 x6 ⟨rfl, a6, f6, kvs6, h6, dl6⟩
        refine b_when (T := T) (k0 := decide (wd = "free")) (et_eqS (ed_var (i := 3) rfl rfl) ed_str) s6 (fun zz F7 H7 a7 => ?_) fun zz F7 H7 a7 => ?_
        · have zf : wd = "free" := of_decide_eq_true zz
          subst zf
          rw [if_neg free_nls] at dl6
          have hnm : nm ∈ ks := by
            rw [decide_eq_true rfl, Bool.true_and] at z2
            simpa using z2
          obtain ⟨f7, h7⟩ := a7.off f6 h6 notTbl_dK
          refine b_dpop (T := T) (k := .inr nm) a7.sub (ev_var (i := 2) rfl) (ed_var (i := 4) rfl rfl) f7 h7 (dl6.up a7.ff) (by rw [tk_mem]; exact decide_eq_true hnm) fun kvs' F8 H8 a8 f8 h8 dl8 s8 => ?_
          rw [tk_drop hnd] at dl8
          refine rB_nil (rB_nil (hN _ _ _ s8 (a4.ff.trans (a5.ff.trans (x6.trans (a7.trans a8).ff))) ⟨_, _, ks.erase nm, rfl, (a6.trans (a7.trans a8)).mut nw f8 h8 mut_dK, f8, ⟨kvs', upd_same, dl8⟩, ?_, hnd.erase _, ?_⟩))
          · have := List.length_erase_of_mem hnm
            omega
          · rw [step]
            unfold keepS
            rw [if_neg free_nls, if_pos rfl, if_pos hnm]
        · have zf : wd ≠ "free" := of_decide_eq_false zz
          obtain ⟨f7, h7⟩ := a7.off f6 h6 notTbl_dK
          refine rB_nil (hN _ _ _ a7.sub (a4.ff.trans (a5.ff.trans (x6.trans a7.ff))) ⟨_, _, if wd ∈ (["lock", "share"] : List Str) then ks ++ [nm] else ks, rfl, a6.trans a7, f7, ⟨kvs6, h7, dl6.up a7.ff⟩, ?_, ?_, ?_⟩)
          · split
            · rw [List.length_append, List.length_singleton]; omega
            · omega
          · split
            · rename_i zw
              have hnm : nm ∉ ks := by
                rw [decide_eq_true zw] at z1
                simpa using z1
              exact List.nodup_append.mpr ⟨hnd, by simp, fun a ha b hb e => by
                rw [List.mem_singleton.mp hb] at e
                rw [e] at ha
                exact hnm ha⟩
            · exact hnd
          · rw [step]
            unfold keepS
            by_cases zw : wd ∈ (["lock", "share"] : List Str)
            · have hnm : nm ∉ ks := by
                rw [decide_eq_true zw] at z1
                simpa using z1
              rw [if_pos zw, if_pos zw, if_neg hnm]
            · rw [if_neg zw, if_neg zw, if_neg zf]
  · rintro σ1 F3 H3 s3 ext3 ⟨x, y, ks, rfl, a3, f3, ⟨kvs, h3, dl⟩, hk, hnd, ek⟩
    rw [List.take_length] at ek
    refine b_ret (T := T) (P := imP (.bool (tkT ks).isEmpty)) (ed_isnilM hr.units (ev_var (i := 2) rfl) h3 dl.length) s3 fun v F4 H4 a4 q => k v F4 H4 (a3.trans a4) ?_
    have : isThr t = (tkT ks).isEmpty := by
      unfold isThr
      rw [ek, hl40]
      cases ks <;> rfl
    rw [this]
    exact q
theorem ok_lis_pair (F : DfN K mg "_law_is_pair" 73) (g : G K mg) (c : Cl P w K mg base 2 "_law_is_thread" ["_law_thing"] (spD T Ris_thread)) (c2 : Cl P w K mg base 2 "_law_contests" ["_law_duo"] (spD T Rlconts)) : Cl P w K mg base 3 "_law_is_pair" ["_law_thing"] (spD T Ris_pair) := by
  refine cl_of (N := ["_law_thing", "_law_one"]) F ⟨rfl, rfl, rfl, by decide +kernel, rfl, by decide +kernel, by decide +kernel⟩ (len_spD fun ds d ⟨n, _, _, _, _, e, _⟩ => by rw [e]; rfl) (fun _ _ _ _ _ _ us hl => match us, hl with | [_], _ => rfl) ?_
  rintro f cdv A outer s H0 vs Q E hr ⟨F0, ds, d, sF, hv, ⟨p, hp1, hp2, hl1, hl2, e1, e2⟩, k⟩
  subst e1 e2
  obtain ⟨v1, _, rfl, i1, rfl⟩ := hv
  have nd : (["_law_thing", "_law_one"] : List Str).Nodup := by decide +kernel
  refine b_when (T := T) (k0 := !(isThr p.1 && isThr p.2)) (ET.to (et_w (ew_or (k1 := false) (et_not (k1 := true) (et_val (ed_isi (b_isi g) (ed_var (i := 0) rfl i1) (ev_gty (b_tuple g) boot_tupleb) rfl rfl))) fun _ => ew_or (k1 := false) (et_neI (ed_lent (b_len g) (ed_var (i := 0) rfl i1)) ed_int) fun _ => ew_or1 (et_not (et_val (ed_all (bs := [isThr p.1, isThr p.2]) rfl (b_all g) (EF.ed (EF.to (ef_lc0 (enc := thD) (xs := [p.1, p.2]) (bs := fun c => [(1, thD c)]) (own := [("_law_one", 1)]) rfl nd (by kernel_rfl) (wk_tup (ed_var (i := 0) rfl i1)) (fun _ _ i hi => hi)
    (fun t => .bool (isThr t)) (fun s Hb C cl fp t hc => ⟨gt_name nd, fun F2 H2 a2 vs hvs => ?_⟩) (by show 2 ≤ sizeLine; decide)) rfl))))))) (by simp)) sF (fun z F1 H1 a1 => ?_) fun z F1 H1 a1 => ?_
  · obtain ⟨u, _, rfl, m2, rfl⟩ := hvs
    have : okT t ∧ t.length ≤ 1000 := by
      rcases List.mem_cons.mp hc with e | hc
      · rw [e]; exact ⟨hp1, hl1⟩
      · rw [List.mem_singleton.mp hc]; exact ⟨hp2, hl2⟩
    exact ed_call c hr (ea_cons (ed_var (i := 1) rfl m2) ea_nil) ⟨t, this.1, this.2, rfl, rfl⟩
  · refine b_ret (T := T) (P := imP (.bool false)) ed_bool a1.sub fun v F2 H2 a2 q => k v F2 H2 (a1.trans a2) ?_
    rw [isPr, show (isThr p.1 && isThr p.2) = false from (Bool.not_eq_true' _).mp z]
    exact q
  · have hz : (isThr p.1 && isThr p.2) = true := by simpa using z
    rw [Bool.and_eq_true] at hz
    have hp : okP p := ⟨hp1, hp2, hz.1, hz.2⟩
    refine b_ret (T := T) (P := imP (.bool (isPr p))) (ED.to (ed_lt (ed_lenl (b_len g) (ed_call c2 hr (ea_cons (ed_var (i := 0) rfl (i1.up a1.ff)) ea_nil) ⟨p, okL_of hp, rfl, rfl⟩)) ed_int) ?_) a1.sub fun v F2 H2 a2 q => k v F2 H2 (a1.trans a2) q
    rw [List.length_map, lconts_eq hp, isPr, hz.1, hz.2]
    congr 1
    rw [Bool.true_and, Bool.true_and]
    congr 1
    apply propext
    omega
end
end Tw
set_option maxHeartbeats 1000000
namespace Tw
open PySem PySem.Spec PyProof.Rows L2 LamX
/-! ### defs that may let an exception out -/
structure ClX (P : Program) (w : World) (K : PySem.W.Frag) (mg : Str → Option Value) (base : Heap) (k : Nat) (x : Str) (ps : List Str) (sp : Sp) : Prop where
  ex : ∃ (f : Addr) (fd : FuncData), FnOk P w K mg base (L2.CX P w) k f fd ps sp ∧ mg x = some (.ref f) ∧ PySem.W.keepIn K (.ref f) = true ∧ Binds K fd ps []
structure MetX (P : Program) (w : World) (K : PySem.W.Frag) (mg : Str → Option Value) (base : Heap) (k : Nat) (C : Addr) (m : Str) (ps : List Str) (sp : Sp) : Prop where
  ex : ∃ f fd, Cls K C ∧ Meth K C m f ∧ FnOk P w K mg base (L2.CX P w) k f fd ps sp ∧ Binds K fd ps []
abbrev cxE (P : Program) (w : World) (K : PySem.W.Frag) (mg : Str → Option Value) (base : Heap) (N : List Str) (qual : Str) (scope : Scope) (f : Addr) (cd : Value) (A : Around) (outer : List Env) (s : Shared) (H : Hp) (E : XK) : Cx := cxOf (L2.CX P w) P w K mg base N qual scope f cd A outer s H E
section
variable {P : Program} {w : World} {K : PySem.W.Frag} {mg : Str → Option Value} {base : Heap}
theorem clx_of {x nm : Str} {st : Stmt} {N ps : List Str} {k : Nat} {sp : Sp} (h : Df K mg x nm st) (S : FnScope N ps (defScope st)) (len : ∀ vs H Q E, sp vs H Q E → vs.length = ps.length)
    (hbd : ∀ (kV doc pm : Value) (an : Option Addr) (cdv ct : Value) (us : List Value), us.length = ps.length → bindArgs (PySem.W.fnOf nm nm (defArgs st) (defBody st) (defScope st) .none kV doc pm an cdv ct) ⟨us, []⟩ = pure (ps.zip us))
    (hbody : ∀ (f : Addr) (cdv : Value) (A : Around) (outer : List Env) (s : Shared) (H : Hp) (vs : List V) (Q : VK) (E : XK), Room k (A.deeper (envOfC nm (defScope st) s.heap.objs.size f cdv)) → sp vs H Q E →
      rB (cxE P w K mg base N nm (defScope st) f cdv A outer s H E) (defBody st) { nx := fun _ H' => Q .non H', rt := Q } (start N vs) H) : ClX P w K mg base (k + 1) x ps sp := by
  obtain ⟨f, fd, F, hm⟩ := h.ex
  exact ⟨f, fd, F.ok S len fun cdv A outer s H vs Q E hr h => ⟨_, pss_r, hbody f cdv A outer s H vs Q E hr h⟩, hm, F.kp, binds_of F hbd⟩
theorem metx_of {m qual : Str} {C : Addr} {st : Stmt} {N ps : List Str} {k : Nat} {sp : Sp} (h : CM K C m qual st) (S : FnScope N ps (defScope st)) (len : ∀ vs H Q E, sp vs H Q E → vs.length = ps.length)
    (hbd : ∀ (kV doc pm : Value) (an : Option Addr) (cdv ct : Value) (us : List Value), us.length = ps.length → bindArgs (PySem.W.fnOf m qual (defArgs st) (defBody st) (defScope st) .none kV doc pm an cdv ct) ⟨us, []⟩ = pure (ps.zip us))
    (hbody : ∀ (f : Addr) (cdv : Value) (A : Around) (outer : List Env) (s : Shared) (H : Hp) (vs : List V) (Q : VK) (E : XK), Room k (A.deeper (envOfC qual (defScope st) s.heap.objs.size f cdv)) → sp vs H Q E →
      rB (cxE P w K mg base N qual (defScope st) f cdv A outer s H E) (defBody st) { nx := fun _ H' => Q .non H', rt := Q } (start N vs) H) : MetX P w K mg base (k + 1) C m ps sp := by
  obtain ⟨f, fd, F, M⟩ := h.ex
  exact ⟨f, fd, h.cls, M, F.ok S len fun cdv A outer s H vs Q E hr h => ⟨_, pss_r, hbody f cdv A outer s H vs Q E hr h⟩, binds_of F hbd⟩
theorem takesE {N : List Str} {qual : Str} {scope : Scope} {f : Addr} {cd : Value} {A : Around} {outer : List Env} {s : Shared} {H : Hp} {E : XK} : Takes (cxE P w K mg base N qual scope f cd A outer s H E) (fun cls d _ H => E cls d H) := takes_of rfl rfl rfl rfl
theorem passesE {N : List Str} {qual : Str} {scope : Scope} {f : Addr} {cd : Value} {A : Around} {outer : List Env} {s : Shared} {H : Hp} {E : XK} : PassesOwn (model P w) (cxE P w K mg base N qual scope f cd A outer s H E).A (cxE P w K mg base N qual scope f cd A outer s H E).env (cxE P w K mg base N qual scope f cd A outer s H E).xe := passes_of (K := fun e s'' => L2.CX P w outer H s E e s'') rfl
end
section
variable {T : List (Addr × Str)} {X : Cx} {e a : Expr} {es : List Expr} {σ : L2.St} {H : Hp} {pos p : Pos} {W : WX} {E : XK} {sp : Sp} {ps : List Str} {k n : Nat} {x m : Str} {C : Addr} {rest : List Stmt} {D : Ends}
theorem rx_callX {Q : VK} (c : ClX X.prog X.w X.K X.mg X.base k x ps sp) (hr : Room n X.A) (tk : Takes X W) (hW : ∀ cls d σ H, E cls d H → W cls d σ H) (h : rA X (e :: es) σ H fun vs H1 => sp vs H1 Q E)
    (hk : k ≤ n := by decide) (hg : Gl X x := by rfl) (hdb : (x == ("__debug__" : Str)) = false := by decide) (he : starEach (e :: es) X.env = (false, eval e X.env) :: starEach es X.env := by rfl) (hpl : (backTo pos (starEach es X.env)).any (·.1) = false := by rfl) : rE X (.Call (.Name x p) (e :: es) [] pos) σ H Q := by
  obtain ⟨f, fd, F, hm, kp, b⟩ := c.ex
  exact goE (pe_call F (hr.mono hk) hg hm kp b .nil (passes_call tk hW) pa_r hdb he hpl) (by simpa only [tCall, List.append_nil] using h)
theorem rx_methX {Q : VK} {pl : Sem Bool} (c : MetX X.prog X.w X.K X.mg X.base k C m ps sp) (hr : Room n X.A) (tk : Takes X W) (hW : ∀ cls d σ H, E cls d H → W cls d σ H) (h : rE X a σ H fun u H1 => ∃ o dx fs, u = .ref o ∧ H1 o = some (.ins C dx fs) ∧ fs.lookup m = none ∧ rA X (e :: es) σ H1 fun vs H2 => sp (.ref o :: vs) H2 Q E) (hk : k ≤ n := by decide)
    (hst : starEach (e :: es) X.env = (false, eval e X.env) :: starEach es X.env := by rfl) (hpl : (backTo pos (starEach es X.env)).any (·.1) = false := by rfl)
    (ht : eval (.Call (.Attribute a m p) (e :: es) [] pos) X.env = (do
      let ov ← eval a X.env
      standAt p.atName
      let (f, first) ← holding [ov] (getMethod ov m pl)
      callWith pos f first (backTo pos (starEach (e :: es) X.env)) (backToKw pos (keywordEach [] X.env))) := by rfl) : rE X (.Call (.Attribute a m p) (e :: es) [] pos) σ H Q := by
  obtain ⟨f, fd, hc, hM, FO, b⟩ := c.ex
  refine goE (pe_meth (pl := pl) pe_r hc hM FO (hr.mono hk) b .nil (passes_call tk hW) pa_r hst hpl ht) ?_
  refine fun pins s I => wpAny_mono (h pins s I) (fun u s' ⟨v, H1, I1, r, o, dx, fs, e1, e2, e3, q⟩ => ⟨v, H1, I1, r, o, dx, fs, e1, e2, e3, ?_⟩) fun _ _ z => z
  subst e1
  simpa only [List.append_nil] using q
theorem rx_meth0X {Q : VK} {pl : Sem Bool} (c : MetX X.prog X.w X.K X.mg X.base k C m ps sp) (hr : Room n X.A) (tk : Takes X W) (hW : ∀ cls d σ H, E cls d H → W cls d σ H) (h : rE X a σ H fun u H1 => ∃ o dx fs, u = .ref o ∧ H1 o = some (.ins C dx fs) ∧ fs.lookup m = none ∧ sp [.ref o] H1 Q E) (hk : k ≤ n := by decide)
    (ht : eval (.Call (.Attribute a m p) [] [] pos) X.env = (do
      let ov ← eval a X.env
      standAt p.atName
      let (f, first) ← holding [ov] (getMethod ov m pl)
      callWith pos f first (backTo pos (starEach [] X.env)) (backToKw pos (keywordEach [] X.env))) := by rfl) : rE X (.Call (.Attribute a m p) [] [] pos) σ H Q := by
  obtain ⟨f, fd, hc, hM, FO, b⟩ := c.ex
  refine goE (pe_meth0 (pl := pl) pe_r hc hM FO (hr.mono hk) b .nil (passes_call tk hW) ht) ?_
  refine fun pins s I => wpAny_mono (h pins s I) (fun u s' ⟨v, H1, I1, r, o, dx, fs, e1, e2, e3, q⟩ => ⟨v, H1, I1, r, o, dx, fs, e1, e2, e3, ?_⟩) fun _ _ z => z
  subst e1
  exact q
-- raise BadPair(e)
theorem upd_back {H : Hp} {a dx : Addr} {o1 o2 o3 o4 : HO} (ha : H a = none) (hne : dx ≠ a) : upd (del (upd (upd (upd H a o1) dx o2) a o3) a) dx o4 = upd H dx o4 := by
  funext b
  by_cases hb : b = dx
  · subst hb; rw [upd_same, upd_same]
  · rw [upd_ne hb, upd_ne hb]
    by_cases h2 : b = a
    · subst h2; rw [del_same, ha]
    · rw [del_ne h2, upd_ne h2, upd_ne hb, upd_ne h2]
theorem b_raiseV {CB : Addr} {n : Nat} (c : XMak X.prog X.w X.K X.mg X.base k x CB ["self", "value"] (spBad CB)) (hr : Room n X.A) (hc : X.calm = true) (tk : Takes X W) (h : rA X [e] σ H fun vs H1 => ∃ v, vs = [v] ∧ ∀ dx, H1 dx = none → W (.ref CB) (some dx) σ (upd H1 dx (.xd [("value", v)])))
    (hk : k + 1 ≤ n := by decide) (hg : Gl X x := by rfl) (hdb : (x == ("__debug__" : Str)) = false := by decide) (he : starEach [e] X.env = (false, eval e X.env) :: starEach [] X.env := by rfl) (hpl : (backTo pos (starEach [] X.env)).any (·.1) = false := by rfl) {p1 : Pos} : rB X (.Raise (some (.Call (.Name x p) [e] [] pos)) none p1 :: rest) D σ H := by
  obtain ⟨f, fd, h1, h2, F, b⟩ := c.ex
  refine goC (ps_raise hc tk (pmk_oex c.oex h1 h2 F (hr.mono hk) b .nil L2.pass0 hg c.gl pa_r hdb he hpl)) ?_
  refine fun pos pins s I => wpAny_mono (h pos pins s I) (fun us s' ⟨vs, H1, I1, r, v, ev, q⟩ => ⟨vs, H1, I1, r, ?_⟩) fun _ _ z => z
  subst ev
  refine ⟨by show 1 ≤ 1000; decide, fun a ha => ?_⟩
  refine ⟨a, v, rfl, upd_same, fun dx hdx hne => ⟨rfl, dx, [("value", v)], upd_same, by rw [upd_ne hne, upd_same], ?_, ?_⟩⟩
  · rw [upd_ne hne] at hdx; exact hdx
  · rw [upd_back ha hne]
    rw [upd_ne hne] at hdx
    exact q dx hdx
-- raise C()
theorem b_raise0 {CB : Addr} {n : Nat} (c : XMak X.prog X.w X.K X.mg X.base k x CB ["self"] (spNone CB)) (hr : Room n X.A) (hc : X.calm = true) (tk : Takes X W) (h : W (.ref CB) none σ H)
    (hk : k + 1 ≤ n := by decide) (hg : Gl X x := by rfl) (hdb : (x == ("__debug__" : Str)) = false := by decide) {p1 : Pos} : rB X (.Raise (some (.Call (.Name x p) [] [] pos)) none p1 :: rest) D σ H := by
  refine goC (ps_raise hc tk (pmk_bare c hr hk hg hdb)) fun a ha => ⟨a, rfl, upd_same, rfl, upd_same, ?_⟩
  have e : del (upd H a (exo a CB none)) a = H := by
    funext b
    by_cases hb : b = a
    · subst hb; rw [del_same, ha]
    · rw [del_ne hb, upd_ne hb]
  rw [e]
  exact h
end
end Tw
set_option maxHeartbeats 2000000
namespace Tw
open PySem PySem.Spec PyProof.Rows L2 LamX
section
variable {P : Program} {w : World} {K : PySem.W.Frag} {mg : Str → Option Value} {base : Heap} {T : List (Addr × Str)}
def Ris_int (ds : List PyData) (d : PyData) : Prop := ∃ i : Int, ds = [.int i] ∧ d = .bool true
theorem ok_is_int (F : DfN K mg "is_integer" 19) (g : G K mg) : Cl P w K mg base 1 "is_integer" ["value"] (spD T Ris_int) := by
  refine cl_of (N := ["value"]) F ⟨rfl, rfl, rfl, by decide +kernel, rfl, by decide +kernel, by decide +kernel⟩ (len_spD fun ds d ⟨n, e, _⟩ => by rw [e]; rfl) (fun _ _ _ _ _ _ us hl => match us, hl with | [_], _ => rfl) ?_
  rintro f cdv A outer s H vs Q E hr ⟨F, ds, d, sF, hv, ⟨n, e1, e2⟩, k⟩
  subst e1 e2
  obtain ⟨v1, _, rfl, i1, rfl⟩ := hv
  exact b_ret (T := T) (P := imP (.bool true)) (ED.to (ed_and (k1 := true) (k2 := true) (ed_isi (b_isi g) (ed_var (i := 0) rfl i1) (ev_gty (b_int g) boot_intb) rfl rfl) fun _ => ed_one (ED.to (ed_not (k1 := false) (ed_isi (b_isi g) (ed_var (i := 0) rfl i1) (ev_gty (b_bool g) boot_boolb) rfl rfl)) rfl)) rfl) sF k
def letN (x : Str) : Nat := if x = "a" then 0 else 1
def Rindex_of (ds : List PyData) (d : PyData) : Prop := ∃ x : Str, x ∈ (["a", "b"] : List Str) ∧ ds = [.str x] ∧ d = .int (letN x : Nat)
structure ABd (K : PySem.W.Frag) (mg : Str → Option Value) : Prop where
  ex : ∃ ga o, mg "LETTERS_editor" = some (.ref ga) ∧ K.lookup ga = some o ∧ o.cls = .type "tuple" ∧ o.dict = none
theorem ok_index_of (F : DfN K mg "index_of" 57) (g : G K mg) (gd : ABd K mg) : Cl P w K mg base 1 "index_of" ["letter"] (spD T Rindex_of) := by
  refine cl_of (N := ["letter"]) F ⟨rfl, rfl, rfl, by decide +kernel, rfl, by decide +kernel, by decide +kernel⟩ (len_spD fun ds d ⟨n, _, e, _⟩ => by rw [e]; rfl) (fun _ _ _ _ _ _ us hl => match us, hl with | [_], _ => rfl) ?_
  rintro f cdv A outer s H vs Q E hr ⟨F, ds, d, sF, hv, ⟨x, hx, e1, e2⟩, k⟩
  subst e1 e2
  obtain ⟨v1, _, rfl, i1, rfl⟩ := hv
  obtain ⟨ga, hga, sga⟩ := g.ab
  obtain ⟨ga2, o, hga2, lo, oc, od⟩ := gd.ex
  obtain rfl : ga2 = ga := by
    rw [hga] at hga2
    injection hga2 with e
    injection e with e
    exact e.symm
  refine b_when (T := T) (k0 := false) ((et_w (ew_or (k1 := false) (et_not (k1 := true) (et_val (ed_isi (b_isi g) (ed_var (i := 0) rfl i1) (ev_gty (b_str g) boot_strb) rfl rfl))) fun _ => ew_or1 ((et_niSk sga (ed_var (i := 0) rfl i1) (ev_gref hga)).to (by rw [decide_eq_true hx]; rfl))))) sF (fun z => by cases z) fun _ F1 H1 a1 => ?_
  refine b_retR (goE (pe_bm PySem.F.plainAttrs_tuple PySem.F.slot_tuple_index PySem.F.type_tuple_index mt_tup_index pe_r pa_r) (EX.go (T := T) (ev_gref hga) (.refl a1.sub) fun u F2 H2 a2 eu => ?_))
  obtain rfl : u = .ref ga2 := eu
  have sq2 : SqT K H2 ga2 ((["a", "b"] : List Str).map V.str) := by
    rcases sga with q | q
    · rcases q with q | ⟨_, q⟩ <;> cases q
    · exact .inr q
  refine ⟨.inr (.inl ⟨rfl, o, lo, oc, od⟩), EA.go (T := T) (ea_cons (ed_var (i := 0) rfl (i1.up (a1.trans a2).ff)) ea_nil) (.refl a2.sub) fun vs F3 H3 a3 hv => ?_⟩
  obtain ⟨w1, _, rfl, e1, rfl⟩ := hv
  obtain rfl : w1 = .str x := e1
  have sq3 : SqT K H3 ga2 ((["a", "b"] : List Str).map V.str) := by
    rcases sga with q | q
    · rcases q with q | ⟨_, q⟩ <;> cases q
    · exact .inr q
  have hx2 : x = "a" ∨ x = "b" := by simpa using hx
  refine ⟨ga2, ["a", "b"], x, letN x, rfl, rfl, sq3, ?_, ?_, k _ F3 H3 ((a1.trans a2).trans a3) rfl⟩
  · rcases hx2 with e | e <;> subst e <;> rfl
  · rcases hx2 with e | e <;> subst e
    · exact fun m hm => absurd hm (Nat.not_lt_zero m)
    · intro m hm
      have : m = 0 := by
        have : letN "b" = 1 := rfl
        omega
      subst this
      exact fun z => absurd (Option.some.inj z) (by decide)
def Rcheck (ds : List PyData) (d : PyData) : Prop := ∃ i lo hi : Int, lo ≤ i ∧ i ≤ hi ∧ ds = [.int i, .int lo, .int hi] ∧ d = .none
theorem ok_check (F : DfN K mg "check_place" 58) (g : G K mg) (c : Cl P w K mg base 1 "is_integer" ["value"] (spD T Ris_int)) : Cl P w K mg base 2 "check_place" ["place", "least", "most"] (spD T Rcheck) := by
  refine cl_of (N := ["place", "least", "most"]) F ⟨rfl, rfl, rfl, by decide +kernel, rfl, by decide +kernel, by decide +kernel⟩ (len_spD fun ds d ⟨n, _, _, _, _, e, _⟩ => by rw [e]; rfl) (fun _ _ _ _ _ _ us hl => match us, hl with | [_, _, _], _ => rfl) ?_
  rintro f cdv A outer s H vs Q E hr ⟨F, ds, d, sF, hv, ⟨i, lo, hi, h1, h2, e1, e2⟩, k⟩
  subst e1 e2
  obtain ⟨v1, _, rfl, i1, v2, _, rfl, i2, v3, _, rfl, i3, rfl⟩ := hv
  refine b_when (T := T) (k0 := false) ((et_w (ew_or (k1 := false) (et_not (k1 := true) (et_val (ed_call c hr (ea_cons (ed_var (i := 0) rfl i1) ea_nil) ⟨i, rfl, rfl⟩))) fun _ => ew_or1 (et_not (k1 := true) ((et_lele (ed_var (i := 1) rfl i2) (ed_var (i := 0) rfl i1) (ed_var (i := 2) rfl i3)).to (by rw [decide_eq_true h1, decide_eq_true h2]; rfl)))))) sF (fun z => by cases z) fun _ F1 H1 a1 => rB_nil (k _ F1 H1 a1 rfl)
end
-- an editor and its past
structure EdS (C x pl : Addr) (p : Pr) (ps : List Pr) (F H : Hp) : Prop where
  ex : ∃ xs, EdAt C x pl p xs F H ∧ ImL F (ps.map prD) xs
variable {T : List (Addr × Str)} {C x pl : Addr} {p : Pr} {ps : List Pr} {F H F' H' : Hp} {L : List Addr}
theorem EdS.step (e : EdS C x pl p ps F H) (a : Adv T F H F' H') : EdS C x pl p ps F' H' := by
  obtain ⟨xs, h1, h2⟩ := e.ex
  exact ⟨xs, h1.step a, h2.up a.ff⟩
theorem EdS.stepM (e : EdS C x pl p ps F H) (a : AdvM T L F H F' H') (h1 : x ∉ L) (h2 : pl ∉ L) : EdS C x pl p ps F' H' := by
  obtain ⟨xs, e1, e2⟩ := e.ex
  obtain ⟨dx, kv, q1, q2⟩ := e1.ex
  have r1 := a.off e1.fx q1 notTbl_ins h1
  have r2 := a.off e1.fp e1.hp notTbl_lst h2
  exact ⟨xs, ⟨r1.1, ⟨dx, kv, r1.2, q2.up a.ff⟩, r2.1, r2.2⟩, e2.up a.ff⟩
theorem EdS.ok (e : EdS C x pl p ps F H) : ∀ l ∈ [x, pl], F l = none ∧ ∃ o, H l = some o ∧ NotTbl o ∧ ∀ xs, o ≠ .tup xs := fun l hl => by
  obtain ⟨xs, e1, e2⟩ := e.ex
  obtain ⟨dx, kv, q1, q2⟩ := e1.ex
  rcases List.mem_cons.mp hl with q | q
  · subst q
    exact ⟨e1.fx, _, q1, notTbl_ins, fun _ z => nomatch z⟩
  · rw [List.mem_singleton.mp q]
    exact ⟨e1.fp, _, e1.hp, notTbl_lst, fun _ z => nomatch z⟩
theorem EdS.ne (e : EdS C x pl p ps F H) : x ≠ pl := by
  obtain ⟨xs, e1, e2⟩ := e.ex
  obtain ⟨dx, kv, q1, q2⟩ := e1.ex
  exact ne_at q1 e1.hp (fun z => nomatch z)
end Tw
namespace Tw
open PySem PySem.Spec PyProof.Rows L2 LamX
def chg (p : Pr) (i : Nat) (t : Thr) : Pr := if i = 0 then (t, p.2) else (p.1, t)
theorem chg_ok {p : Pr} {i : Nat} {t : Thr} (h : okQ p) (ht : okT t) (hl : t.length ≤ 900) : okT (chg p i t).1 ∧ okT (chg p i t).2 ∧ (chg p i t).1.length ≤ 1000 ∧ (chg p i t).2.length ≤ 1000 := by
  have h1 := (isThr_keep h.1.2.2.1).1
  have h2 := (isThr_keep h.1.2.2.2).1
  unfold chg
  split
  · exact ⟨ht, h.1.2.1, by show t.length ≤ 1000; omega, by show p.2.length ≤ 1000; omega⟩
  · exact ⟨h.1.1, ht, by show p.1.length ≤ 1000; omega, by show t.length ≤ 1000; omega⟩
theorem okQ_isPr {p : Pr} (h : okQ p) : isPr p = true := by
  unfold isPr
  rw [h.1.2.2.1, h.1.2.2.2, decide_eq_true h.2]
  rfl
theorem isPr_okQ {p : Pr} (h : isPr p = true) (h1 : okT p.1) (h2 : okT p.2) : okQ p := by
  unfold isPr at h
  rw [Bool.and_eq_true, Bool.and_eq_true] at h
  exact ⟨⟨h1, h2, h.1.1, h.1.2⟩, of_decide_eq_true h.2⟩
theorem okQ_len {p : Pr} (h : okQ p) : p.1.length ≤ 40 ∧ p.2.length ≤ 40 := ⟨(isThr_keep h.1.2.2.1).1, (isThr_keep h.1.2.2.2).1⟩
section
variable {P : Program} {w : World} {K : PySem.W.Frag} {mg : Str → Option Value} {base : Heap} {T : List (Addr × Str)} {C CB CN : Addr}
theorem ed_kp {X : Cx} {σ : L2.St} {F H : Hp} {x pl : Addr} {p : Pr} {xs : List V} {a : Expr} {pos : Pos} (nk : NoAttr X.K C "kept") (hC : Cls X.K C) (e : EdAt C x pl p xs F H) (ha : EV T X a σ F H (.ref x)) (hb : attributeBase a "kept" X.env (eval a X.env) = eval a X.env := by rfl) : ED T X (.Attribute a "kept" pos) σ F H (prD p) := ed_kept (F0 := F) (H0 := H) nk hC e ha hb
-- Editor(pair), of a pair
def spEI (T : List (Addr × Str)) (C : Addr) : Sp := fun vs H Q _ => ∃ F Hc x dx p vp, vs = [.ref x, vp] ∧ Adv T F Hc F H ∧ Nw Hc x ∧ F x = none ∧ H x = some (.ins C dx []) ∧ okQ p ∧ Im F (prD p) vp ∧ ∀ F' H' pl, Adv T F Hc F' H' → Nw Hc pl → EdS C x pl p [] F' H' → Q .non H'
structure MakK (P : Program) (w : World) (K : PySem.W.Frag) (mg : Str → Option Value) (base : Heap) (k : Nat) (x : Str) (C : Addr) (ps ks : List Str) (sp : Sp) : Prop where
  ex : ∃ f fd, Mk K C f ∧ FnOk P w K mg base L2.CX0 k f fd ps sp ∧ mg x = some (.ref C) ∧ Binds K fd ps [] ∧ KBn K fd ps 1 ks (fun us ws => us ++ ws) (fun vs zs => vs ++ zs)
theorem MakK.mak {k : Nat} {x : Str} {ps ks : List Str} {sp : Sp} (c : MakK P w K mg base k x C ps ks sp) : Mak P w K mg base k x C ps sp := by
  obtain ⟨f, fd, h1, h2, h3, h4, _⟩ := c.ex
  exact ⟨f, fd, h1, h2, h3, h4⟩
theorem makk_of {x qual : Str} {st : Stmt} {N ps ks : List Str} {k : Nat} {sp : Sp} (h : CI K mg x C qual st) (S : FnScope N ps (defScope st)) (len : ∀ vs H Q E, sp vs H Q E → vs.length = ps.length)
    (hbd : ∀ (kV doc pm : Value) (an : Option Addr) (cdv ct : Value) (us : List Value), us.length = ps.length → bindArgs (PySem.W.fnOf "__init__" qual (defArgs st) (defBody st) (defScope st) .none kV doc pm an cdv ct) ⟨us, []⟩ = pure (ps.zip us))
    (hkb : ∀ (kV doc pm : Value) (an : Option Addr) (cdv ct : Value) (us ws : List Value), us.length = 1 → ws.length = ks.length → bindArgs (PySem.W.fnOf "__init__" qual (defArgs st) (defBody st) (defScope st) .none kV doc pm an cdv ct) ⟨us, ks.zip ws⟩ = pure (ps.zip (us ++ ws)))
    (hbody : ∀ (f : Addr) (cdv : Value) (A : Around) (outer : List Env) (s : Shared) (H : Hp) (vs : List V) (Q : VK) (E : XK), Room k (A.deeper (envOfC qual (defScope st) s.heap.objs.size f cdv)) → sp vs H Q E →
      rB (cxOf L2.CX0 P w K mg base N qual (defScope st) f cdv A outer s H E).nox (defBody st) { nx := fun _ H' => Q .non H', rt := Q } (start N vs) H) : MakK P w K mg base (k + 1) x C ps ks sp := by
  obtain ⟨f, fd, F, M⟩ := h.ex
  refine ⟨f, fd, M, F.ok S len fun cdv A outer s H vs Q E hr h => ⟨_, PSs.nox pss_r, hbody f cdv A outer s H vs Q E hr h⟩, h.gl, binds_of F hbd, ⟨fun s us ws _ l1 l2 => ?_, fun r1 r2 => Vals.append r1 r2⟩⟩
  obtain ⟨oc, od, dV, kV, doc, pm, an, cdv, ct, osl, rfl, lk, hcd, hD, _⟩ := F.ex
  obtain rfl : dV = .none := by
    rcases hD with z | z
    · exact z.2
    · exact absurd rfl z.1
  exact .of_eq (hkb kV doc pm an cdv ct us ws l1 l2)
theorem ok_edinit (F : CI K mg "Editor" C "Editor.__init__" (inClass (top 59) 0)) (g : G K mg) (nk : NoAttr K C "kept") (np : NoAttr K C "past") (c : Cl P w K mg base 5 "is_pair" ["value"] (spD T Ris_pair)) : MakK P w K mg base 6 "Editor" C ["self", "pair"] ["pair"] (spEI T C) := by
  refine makk_of (N := ["self", "pair"]) F ⟨rfl, rfl, rfl, by decide +kernel, rfl, by decide +kernel, by decide +kernel⟩ (fun vs H Q E ⟨F, Hc, x, dx, p, vp, e, _⟩ => by rw [e]; rfl) (fun _ _ _ _ _ _ us hl => match us, hl with | [_, _], _ => rfl) (fun _ _ _ _ _ _ us ws h1 h2 => match us, ws, h1, h2 with | [_], [_], _, _ => rfl) ?_
  rintro f cdv A outer s H0 vs Q E hr ⟨F0, Hc, x, dx, p, vp, rfl, a0, nw, hFx, hHx, hp, ip, k⟩
  obtain ⟨l1, l2⟩ := okQ_len hp
  refine b_when (T := T) (k0 := false) (et_not (k1 := true) (et_val (ED.to (ed_call c hr (ea_cons (ed_var (i := 1) rfl ip) ea_nil) ⟨p, hp.1.1, hp.1.2.1, by omega, by omega, rfl, rfl⟩) (by rw [okQ_isPr hp])))) a0.sub (fun z => by cases z) fun _ F1 H1 a1 => ?_
  obtain ⟨f1, h1⟩ := a1.off hFx hHx notTbl_ins
  refine b_fld (T := T) (ed_var (i := 1) rfl (ip.up a1.ff)) (ev_var (i := 0) rfl) h1 f1 F.cls nk (by decide) a1.sub (fun v F2 H2 a2 iv f2 h2 s2 => ?_) mono_im
  have A2 := (a0.trans (a1.trans a2)).mut nw f2 h2 mut_ins (o' := .ins C dx (putF "kept" v []))
  refine b_fldR (EF.go (T := T) (ef_lst ea_nil (Nat.zero_le _)) (.refl A2.sub) fun l xs F3 H3 a3 nl fl hl dl => EX.go (T := T) (ev_var (i := 0) rfl) (.refl a3.sub) fun u F4 H4 a4 eu => ?_)
  obtain rfl : xs = [] := dl
  obtain rfl : u = .ref x := eu
  have a34 := a3.trans a4
  obtain ⟨f4, h4⟩ := a34.off f2 upd_same notTbl_ins
  obtain ⟨fl4, hl4⟩ := a4.off fl hl notTbl_lst
  have xl : x ≠ l := nl.ne upd_same notTbl_ins
  refine ⟨x, C, dx, _, rfl, h4, F.cls, np, (by show 1 < 1000; decide), rB_nil (k F4 _ l ((A2.trans a34).mut nw f4 h4 mut_ins) (Nw.back A2 nl) ⟨[], ⟨f4, ⟨dx, v, upd_same, iv.up a34.ff⟩, fl4, by rw [upd_ne xl.symm]; exact hl4⟩, rfl⟩)⟩
-- a thread becomes another
def spChg (T : List (Addr × Str)) (C CB : Addr) : Sp := fun vs H Q E => ∃ F x pl p ps i t vt, Sub F H ∧ EdS C x pl p ps F H ∧ okQ p ∧ okT t ∧ t.length ≤ 900 ∧ ps.length ≤ 100 ∧ Im F (thD t) vt ∧ vs = [.ref x, .int (i : Nat), vt] ∧
  (isPr (chg p i t) = true → ∀ F' H', AdvM T [x, pl] F H F' H' → EdS C x pl (chg p i t) (ps ++ [p]) F' H' → Q .non H') ∧
  (isPr (chg p i t) = false → ∀ d v F' H', Adv T F H F' H' → F' d = none → H' d = some (.xd [("value", v)]) → Im F' (prD (chg p i t)) v → E (.ref CB) (some d) H')
theorem ok_change (F : CM K C "change" "Editor.change" (inClass (top 59) 3)) (g : G K mg) (nk : NoAttr K C "kept") (np : NoAttr K C "past") (c : Cl P w K mg base 5 "is_pair" ["value"] (spD T Ris_pair)) (cb : XMak P w K mg base 1 "BadPair" CB ["self", "value"] (spBad CB)) : MetX P w K mg base 6 C "change" ["self", "index", "thread"] (spChg T C CB) := by
  refine metx_of (N := ["self", "index", "thread", "changed"]) F ⟨rfl, rfl, rfl, by decide +kernel, rfl, by decide +kernel, by decide +kernel⟩ (fun vs H Q E ⟨F, x, pl, p, ps, i, t, vt, _, _, _, _, _, _, _, e, _⟩ => by rw [e]; rfl) (fun _ _ _ _ _ _ us hl => match us, hl with | [_, _, _], _ => rfl) ?_
  rintro f cdv A outer s H0 vs Q E hr ⟨F0, x, pl, p, ps, i, t, vt, sF, e0, hp, ht, hl, hps, it, rfl, k1, k2⟩
  have nd : (["self", "index", "thread", "changed"] : List Str).Nodup := by decide +kernel
  obtain ⟨xs, ea, ex⟩ := e0.ex
  have hx0 := e0.ne
  obtain ⟨o1, o2, o3, o4⟩ := chg_ok (i := i) hp ht hl
  refine b_asg (T := T) (i := 3) (P := imP (prD (chg p i t))) (ex_if (k1 := decide (((i : Nat) : Int) = 0)) (et_eqI (ed_var (d := .int (i : Nat)) (i := 1) rfl rfl) ed_int) (fun z => ?_) fun z => ?_) sF (fun vc F1 H1 a1 ic => ?_) nd
  · have zi : i = 0 := by have := of_decide_eq_true z; omega
    refine ED.to (ed_tup (ds := [thD t, thD p.2]) (ea_cons (ed_var (i := 2) rfl it) (ea_cons (ed_ixt (ed_kp nk F.cls ea (ev_var (i := 0) rfl)) ed_int rfl) ea_nil))) ?_
    unfold chg
    rw [if_pos zi]
    rfl
  · have zi : ¬ i = 0 := by have := of_decide_eq_false z; omega
    refine ED.to (ed_tup (ds := [thD p.1, thD t]) (ea_cons (ed_ixt (ed_kp nk F.cls ea (ev_var (i := 0) rfl)) ed_int rfl) (ea_cons (ed_var (i := 2) rfl it) ea_nil))) ?_
    unfold chg
    rw [if_neg zi]
    rfl
  · show rB _ _ _ [some (.ref x), some (.int (i : Nat)), some vt, some vc] H1
    refine b_when (T := T) (k0 := !isPr (chg p i t)) (et_not (et_val (ed_call c hr (ea_cons (ed_var (i := 3) rfl ic) ea_nil) ⟨chg p i t, o1, o2, o3, o4, rfl, rfl⟩))) a1.sub (fun z F2 H2 a2 => ?_) fun z F2 H2 a2 => ?_
    · have z : isPr (chg p i t) = false := by simpa using z
      refine b_raiseV cb hr rfl takesE (EA.go (T := T) (ea_cons (ed_var (i := 3) rfl (ic.up a2.ff)) ea_nil) (.refl a2.sub) fun vs F3 H3 a3 hv => ?_)
      obtain ⟨v, _, rfl, iv, rfl⟩ := hv
      exact ⟨v, rfl, fun dx hdx => k2 z dx v F3 _ (((a1.trans a2).trans a3).trans (Adv.lay a3.sub hdx)) (a3.sub.offN hdx) upd_same iv⟩
    · have z : isPr (chg p i t) = true := by simpa using z
      have e2 := e0.step (a1.trans a2)
      have ea2 := ea.step (a1.trans a2)
      obtain ⟨dx, kv, q1, q2⟩ := id ea2.ex
      have exl := ex.length
      rw [List.length_map] at exl
      refine b_app (T := T) (P := imP (prD p)) (ev_fld (ev_var (i := 0) rfl) q1 F.cls np rfl) ea2.hp ea2.fp (ed_kp nk F.cls ea2 (ev_var (i := 0) rfl)) a2.sub (Nat.lt_of_le_of_lt (by omega : xs.length ≤ 100) (by decide)) fun v F3 H3 a3 iv f3 h3 s3 => ?_
      have ea3 := ea2.step a3
      obtain ⟨dx3, kv3, q3, q4⟩ := ea3.ex
      have A3 : AdvM T [x, pl] F0 H0 F3 (upd H3 pl (.lst (xs ++ [v]))) := (AdvM.of ((a1.trans a2).trans a3)).write (List.mem_cons_of_mem _ (List.mem_cons_self ..)) f3 h3 mut_lst
      have q3' : upd H3 pl (.lst (xs ++ [v])) x = some (.ins C dx3 (edF kv3 pl)) := by rw [upd_ne hx0]; exact q3
      refine b_fld (T := T) (ed_var (i := 3) rfl (ic.up (a2.trans a3).ff)) (ev_var (i := 0) rfl) q3' ea3.fx F.cls nk (by show 2 < 1000; decide) s3 (fun v2 F4 H4 a4 iv2 f4 h4 s4 => ?_) mono_im
      have A4 : AdvM T [x, pl] F0 H0 F4 (upd H4 x (.ins C dx3 (putF "kept" v2 (edF kv3 pl)))) := (A3.trans (.of a4) e0.ok).write (List.mem_cons_self ..) f4 h4 mut_ins
      obtain ⟨f5, h5⟩ := a4.off f3 upd_same notTbl_lst
      refine rB_nil (k1 z F4 _ A4 ⟨xs ++ [v], ⟨f4, ⟨dx3, v2, upd_same, iv2⟩, f5, by rw [upd_ne hx0.symm]; exact h5⟩, ?_⟩)
      rw [List.map_append]
      exact (ex.up ((a1.trans a2).ff.trans (a3.ff.trans a4.ff))).snoc (iv.up a4.ff)
end
end Tw
namespace Tw
open PySem PySem.Spec PyProof.Rows L2 LamX
def thrAt (p : Pr) (i : Nat) : Thr := if i = 0 then p.1 else p.2
def insT (t : Thr) (n : Nat) (s : Thr) : Thr := t.take n ++ s ++ t.drop n
def remT (t : Thr) (m n : Nat) : Thr := t.take m ++ t.drop n
theorem thr_at (p : Pr) {x : Str} (h : x ∈ (["a", "b"] : List Str)) : atI [thD p.1, thD p.2] (letN x : Nat) = some (thD (thrAt p (letN x))) := by
  have hx2 : x = "a" ∨ x = "b" := by simpa using h
  rcases hx2 with e | e <;> subst e <;> rfl
theorem thrAt_ok {p : Pr} (h : okQ p) (i : Nat) : okT (thrAt p i) ∧ (thrAt p i).length ≤ 40 := by
  have := okQ_len h
  unfold thrAt
  split
  · exact ⟨h.1.1, this.1⟩
  · exact ⟨h.1.2.1, this.2⟩
section
variable {T : List (Addr × Str)} {X : Cx} {e a b : Expr} {σ : L2.St} {F H : Hp} {ds : List PyData} {pos p p2 : Pos} {n : Nat}
theorem ed_take (ha : ED T X a σ F H (.tuple ds)) (hb : ED T X b σ F H (.int (n : Nat))) (h : n ≤ ds.length) : ED T X (.Subscript a (.Slice none (some b) none p2) pos) σ F H (.tuple (ds.take n)) := by
  refine ED.to (ed_slt (l := none) (u := some (n : Int)) ha True.intro hb) ?_
  rw [sIx_bd _ _ _ h]
  rfl
theorem ed_drop (ha : ED T X a σ F H (.tuple ds)) (hb : ED T X b σ F H (.int (n : Nat))) (h : n ≤ ds.length) : ED T X (.Subscript a (.Slice (some b) none none p2) pos) σ F H (.tuple (ds.drop n)) := by
  refine ED.to (ed_slt (l := some (n : Int)) (u := none) ha hb True.intro) ?_
  rw [sIx_bd _ _ _ h]
  show PyData.tuple ((ds.drop n).take (ds.length - n)) = _
  rw [List.take_of_length_le (by rw [List.length_drop]; exact Nat.le_refl _)]
end
-- what is wanted behind a change
structure ChgK (T : List (Addr × Str)) (C CB x pl : Addr) (p : Pr) (ps : List Pr) (i : Nat) (t : Thr) (F H : Hp) (Q : VK) (E : XK) : Prop where
  yes : isPr (chg p i t) = true → ∀ F' H', AdvM T [x, pl] F H F' H' → EdS C x pl (chg p i t) (ps ++ [p]) F' H' → Q .non H'
  no : isPr (chg p i t) = false → ∀ d v F' H', Adv T F H F' H' → F' d = none → H' d = some (.xd [("value", v)]) → Im F' (prD (chg p i t)) v → E (.ref CB) (some d) H'
theorem ChgK.step {T : List (Addr × Str)} {C CB x pl : Addr} {p : Pr} {ps : List Pr} {i : Nat} {t : Thr} {F H F1 H1 : Hp} {Q Q' : VK} {E : XK} (k : ChgK T C CB x pl p ps i t F H Q E) (e : EdS C x pl p ps F H) (a : Adv T F H F1 H1) (h : ∀ H', Q .non H' → Q' .non H') : ChgK T C CB x pl p ps i t F1 H1 Q' E :=
  ⟨fun z F' H' b r => h H' (k.yes z F' H' ((AdvM.of a).trans b e.ok) r), fun z d v F' H' b => k.no z d v F' H' (a.trans b)⟩
section
variable {P : Program} {w : World} {K : PySem.W.Frag} {mg : Str → Option Value} {base : Heap} {T : List (Addr × Str)} {C CB CN : Addr}
-- the last step of insert, remove and replace
theorem rx_chg {X : Cx} {W : WX} {e1 e2 : Expr} {σ : L2.St} {F H : Hp} {pos p1 : Pos} {x pl : Addr} {p : Pr} {ps : List Pr} {i : Nat} {t : Thr} {Q : VK} {E : XK} {n : Nat} {y : Str} {pn : Pos} {pls : Sem Bool}
    (c : MetX X.prog X.w X.K X.mg X.base 6 C "change" ["self", "index", "thread"] (spChg T C CB)) (hr : Room n X.A) (hn : 6 ≤ n) (tk : Takes X W) (hW : ∀ cls d σ H, E cls d H → W cls d σ H) (s : Sub F H) (es : EdS C x pl p ps F H) (hp : okQ p) (ht : okT t) (hl : t.length ≤ 900) (hps : ps.length ≤ 100)
    (hv : EV T X (.Name y pn) σ F H (.ref x)) (h1 : ED T X e1 σ F H (.int (i : Nat))) (h2 : ED T X e2 σ F H (thD t)) (k : ChgK T C CB x pl p ps i t F H Q E)
    (hs1 : starEach [e1, e2] X.env = (false, eval e1 X.env) :: starEach [e2] X.env) (hs2 : starEach [e2] X.env = (false, eval e2 X.env) :: starEach [] X.env) (hpl : (backTo pos (starEach [e2] X.env)).any (·.1) = false)
    (hte : eval (.Call (.Attribute (.Name y pn) "change" p1) [e1, e2] [] pos) X.env = (do
      let ov ← eval (.Name y pn) X.env
      standAt p1.atName
      let (f, first) ← holding [ov] (getMethod ov "change" pls)
      callWith pos f first (backTo pos (starEach [e1, e2] X.env)) (backToKw pos (keywordEach [] X.env)))) : rE X (.Call (.Attribute (.Name y pn) "change" p1) [e1, e2] [] pos) σ H Q := by
  refine rx_methX (pl := pls) c hr tk hW (EX.go hv (.refl s) fun u F1 H1 a1 eu => ?_) hn hs1 hpl hte
  have es1 := es.step a1
  obtain ⟨xs, ea, _⟩ := es1.ex
  obtain ⟨dx, kv, q1, _⟩ := ea.ex
  refine ⟨x, dx, _, eu, q1, rfl, EA.go (T := T) (ea_cons h1 (ea_cons h2 ea_nil hs2) hs1) a1 fun vs F2 H2 a2 hv => ?_⟩
  obtain ⟨w1, _, rfl, ew, w2, _, rfl, iw, rfl⟩ := hv
  obtain rfl : w1 = .int (i : Nat) := ew
  have k2 := k.step (Q' := Q) es (a1.trans a2) fun _ z => z
  exact ⟨F2, x, pl, p, ps, i, t, w2, a2.sub, es1.step a2, hp, ht, hl, hps, iw, rfl, k2.yes, k2.no⟩
def spIns (T : List (Addr × Str)) (C CB : Addr) : Sp := fun vs H Q E => ∃ F x pl p ps y n st vst, Sub F H ∧ EdS C x pl p ps F H ∧ okQ p ∧ y ∈ (["a", "b"] : List Str) ∧ n ≤ (thrAt p (letN y)).length ∧ okT st ∧ st.length ≤ 100 ∧ ps.length ≤ 100 ∧ Im F (thD st) vst ∧ vs = [.ref x, .str y, .int (n : Nat), vst] ∧
  ChgK T C CB x pl p ps (letN y) (insT (thrAt p (letN y)) n st) F H Q E
theorem ok_insert (F : CM K C "insert" "Editor.insert" (inClass (top 59) 4)) (g : G K mg) (nk : NoAttr K C "kept") (ci : Cl P w K mg base 1 "index_of" ["letter"] (spD T Rindex_of)) (cc : Cl P w K mg base 2 "check_place" ["place", "least", "most"] (spD T Rcheck)) (cs : Cl P w K mg base 2 "is_step" ["value"] (spD T Ris_step))
    (ch : MetX P w K mg base 6 C "change" ["self", "index", "thread"] (spChg T C CB)) : MetX P w K mg base 7 C "insert" ["self", "letter", "place", "steps"] (spIns T C CB) := by
  refine metx_of (N := ["self", "letter", "place", "steps", "index", "thread", "step"]) F ⟨rfl, rfl, rfl, by decide +kernel, rfl, by decide +kernel, by decide +kernel⟩ (fun vs H Q E ⟨F, x, pl, p, ps, y, n, st, vst, _, _, _, _, _, _, _, _, _, e, _⟩ => by rw [e]; rfl) (fun _ _ _ _ _ _ us hl => match us, hl with | [_, _, _, _], _ => rfl) ?_
  rintro f cdv A outer s H0 vs Q E hr ⟨F0, x, pl, p, ps, y, n, st, vst, sF, e0, hp, hy, hn, hst, hsl, hps, ist, rfl, k⟩
  have nd : (["self", "letter", "place", "steps", "index", "thread", "step"] : List Str).Nodup := by decide +kernel
  obtain ⟨t1, t2⟩ := thrAt_ok hp (letN y)
  generalize hth : thrAt p (letN y) = th at *
  have hz : 2000 ≤ sizeLine := by decide
  refine b_asg (T := T) (i := 4) (P := imP (.int (letN y : Nat))) (ed_call ci hr (ea_cons (ed_var (d := .str y) (i := 1) rfl rfl) ea_nil) ⟨y, hy, rfl, rfl⟩) sF (fun v F1 H1 a1 ev => ?_) nd
  obtain rfl : v = .int (letN y : Nat) := ev
  have e1 := e0.step a1
  obtain ⟨xs1, ea1, _⟩ := e1.ex
  refine b_asg (T := T) (i := 5) (P := imP (thD th)) (ed_ixt (ed_kp nk F.cls ea1 (ev_var (i := 0) rfl)) (ed_var (d := .int (letN y : Nat)) (i := 4) rfl rfl) (by rw [← hth]; exact thr_at p hy)) a1.sub (fun vt F2 H2 a2 it => ?_) nd
  show rB _ _ _ [some (.ref x), some (.str y), some (.int (n : Nat)), some vst, some (.int (letN y : Nat)), some vt, none] H2
  refine b_exprR (EX.go (T := T) (P := imP .none) (ed_call cc hr (ea_cons (ed_var (d := .int (n : Nat)) (i := 2) rfl rfl) (ea_cons ed_int (ea_cons (ed_lent (b_len g) (ed_var (i := 5) rfl it)) ea_nil))) ⟨n, 0, (th.map stD).length, by omega, by rw [List.length_map]; omega, rfl, rfl⟩) (.refl a2.sub) fun _ F3 H3 a3 _ => ?_)
  have A3 := (a1.trans a2).trans a3
  refine b_when (T := T) (k0 := false) ((et_w (ew_or (k1 := false) (et_not (k1 := true) (et_val (ed_isi (b_isi g) (ed_var (i := 3) rfl (ist.up A3.ff)) (ev_gty (b_tuple g) boot_tupleb) rfl rfl))) fun _ => ew_or1 (et_not (k1 := true) (et_val (ED.to (ed_all (bs := st.map fun _ => true) rfl (b_all g) (EF.ed (EF.to (ef_lc0 (enc := stD) (xs := st) (bs := fun c => [(6, stD c)]) (own := [("step", 6)]) rfl nd (by kernel_rfl) (wk_tup (ed_var (i := 3) rfl (ist.up A3.ff))) (fun _ _ i hi => hi)
    (fun _ => .bool true) (fun s Hb C cl fp c hc => ⟨gt_name nd, fun F4 H4 a4 vs hvs => ?_⟩) (by omega)) ?_))) ?_)))))) a3.sub (fun z => by cases z) fun _ F4 H4 a4 => ?_
  · obtain ⟨u, _, rfl, m2, rfl⟩ := hvs
    exact ed_call cs hr (ea_cons (ed_var (i := 6) rfl m2) ea_nil) ⟨c, hst c hc, rfl, rfl⟩
  · rw [List.map_map]; rfl
  · congr 1; simp
  have A4 := A3.trans a4
  have it4 := it.up (a3.trans a4).ff
  refine b_exprR (rx_chg (T := T) (i := letN y) (t := insT th n st) ch hr (by decide) takesE (fun _ _ _ _ z => z) a4.sub (e0.step A4) hp (fun q hq => ?_) (by unfold insT; rw [List.length_append, List.length_append, List.length_take, List.length_drop]; omega) hps (ev_var (i := 0) rfl) (ed_var (i := 4) rfl rfl) (ED.to (ed_addt (ed_addt (ed_take (ed_var (i := 5) rfl it4) (ed_var (d := .int (n : Nat)) (i := 2) rfl rfl) (by rw [List.length_map]; exact hn)) (ed_var (i := 3) rfl (ist.up A4.ff)) (by simp only [List.length_take, List.length_map]; omega)) (ed_drop (ed_var (i := 5) rfl it4) (ed_var (d := .int (n : Nat)) (i := 2) rfl rfl) (by rw [List.length_map]; exact hn)) (by simp only [List.length_append, List.length_take, List.length_drop, List.length_map]; omega)) (by unfold insT thD; rw [List.map_append, List.map_append, List.map_take, List.map_drop])) (k.step e0 A4 fun H' q => rB_nil q) rfl rfl rfl rfl)
  · unfold insT at hq
    rcases List.mem_append.mp hq with hq | hq
    · rcases List.mem_append.mp hq with hq | hq
      · exact t1 q (List.mem_of_mem_take hq)
      · exact hst q hq
    · exact t1 q (List.mem_of_mem_drop hq)
def spRem (T : List (Addr × Str)) (C CB : Addr) : Sp := fun vs H Q E => ∃ F x pl p ps y m n, Sub F H ∧ EdS C x pl p ps F H ∧ okQ p ∧ y ∈ (["a", "b"] : List Str) ∧ m ≤ n ∧ n ≤ (thrAt p (letN y)).length ∧ ps.length ≤ 100 ∧ vs = [.ref x, .str y, .int (m : Nat), .int (n : Nat)] ∧
  ChgK T C CB x pl p ps (letN y) (remT (thrAt p (letN y)) m n) F H Q E
theorem ok_remove (F : CM K C "remove" "Editor.remove" (inClass (top 59) 5)) (g : G K mg) (nk : NoAttr K C "kept") (ci : Cl P w K mg base 1 "index_of" ["letter"] (spD T Rindex_of)) (cc : Cl P w K mg base 2 "check_place" ["place", "least", "most"] (spD T Rcheck))
    (ch : MetX P w K mg base 6 C "change" ["self", "index", "thread"] (spChg T C CB)) : MetX P w K mg base 7 C "remove" ["self", "letter", "begin", "end"] (spRem T C CB) := by
  refine metx_of (N := ["self", "letter", "begin", "end", "index", "thread"]) F ⟨rfl, rfl, rfl, by decide +kernel, rfl, by decide +kernel, by decide +kernel⟩ (fun vs H Q E ⟨F, x, pl, p, ps, y, m, n, _, _, _, _, _, _, _, e, _⟩ => by rw [e]; rfl) (fun _ _ _ _ _ _ us hl => match us, hl with | [_, _, _, _], _ => rfl) ?_
  rintro f cdv A outer s H0 vs Q E hr ⟨F0, x, pl, p, ps, y, m, n, sF, e0, hp, hy, hm, hn, hps, rfl, k⟩
  have nd : (["self", "letter", "begin", "end", "index", "thread"] : List Str).Nodup := by decide +kernel
  obtain ⟨t1, t2⟩ := thrAt_ok hp (letN y)
  generalize hth : thrAt p (letN y) = th at *
  have hz : 2000 ≤ sizeLine := by decide
  refine b_asg (T := T) (i := 4) (P := imP (.int (letN y : Nat))) (ed_call ci hr (ea_cons (ed_var (d := .str y) (i := 1) rfl rfl) ea_nil) ⟨y, hy, rfl, rfl⟩) sF (fun v F1 H1 a1 ev => ?_) nd
  obtain rfl : v = .int (letN y : Nat) := ev
  have e1 := e0.step a1
  obtain ⟨xs1, ea1, _⟩ := e1.ex
  refine b_asg (T := T) (i := 5) (P := imP (thD th)) (ed_ixt (ed_kp nk F.cls ea1 (ev_var (i := 0) rfl)) (ed_var (d := .int (letN y : Nat)) (i := 4) rfl rfl) (by rw [← hth]; exact thr_at p hy)) a1.sub (fun vt F2 H2 a2 it => ?_) nd
  show rB _ _ _ [some (.ref x), some (.str y), some (.int (m : Nat)), some (.int (n : Nat)), some (.int (letN y : Nat)), some vt] H2
  refine b_exprR (EX.go (T := T) (P := imP .none) (ed_call cc hr (ea_cons (ed_var (d := .int (m : Nat)) (i := 2) rfl rfl) (ea_cons ed_int (ea_cons (ed_lent (b_len g) (ed_var (i := 5) rfl it)) ea_nil))) ⟨m, 0, (th.map stD).length, by omega, by rw [List.length_map]; omega, rfl, rfl⟩) (.refl a2.sub) fun _ F3 H3 a3 _ => ?_)
  refine b_exprR (EX.go (T := T) (P := imP .none) (ed_call cc hr (ea_cons (ed_var (d := .int (n : Nat)) (i := 3) rfl rfl) (ea_cons (ed_var (d := .int (m : Nat)) (i := 2) rfl rfl) (ea_cons (ed_lent (b_len g) (ed_var (i := 5) rfl (it.up a3.ff))) ea_nil))) ⟨n, m, (th.map stD).length, by omega, by rw [List.length_map]; omega, rfl, rfl⟩) (.refl a3.sub) fun _ F4 H4 a4 _ => ?_)
  have A4 := ((a1.trans a2).trans a3).trans a4
  have it4 := it.up (a3.trans a4).ff
  refine b_exprR (rx_chg (T := T) (i := letN y) (t := remT th m n) ch hr (by decide) takesE (fun _ _ _ _ z => z) a4.sub (e0.step A4) hp (fun q hq => ?_) (by unfold remT; rw [List.length_append, List.length_take, List.length_drop]; omega) hps (ev_var (i := 0) rfl) (ed_var (i := 4) rfl rfl) (ED.to (ed_addt (ed_take (ed_var (i := 5) rfl it4) (ed_var (d := .int (m : Nat)) (i := 2) rfl rfl) (by rw [List.length_map]; omega)) (ed_drop (ed_var (i := 5) rfl it4) (ed_var (d := .int (n : Nat)) (i := 3) rfl rfl) (by rw [List.length_map]; exact hn)) (by simp only [List.length_take, List.length_drop, List.length_map]; omega)) (by unfold remT thD; rw [List.map_append, List.map_take, List.map_drop])) (k.step e0 A4 fun H' q => rB_nil q) rfl rfl rfl rfl)
  unfold remT at hq
  rcases List.mem_append.mp hq with hq | hq
  · exact t1 q (List.mem_of_mem_take hq)
  · exact t1 q (List.mem_of_mem_drop hq)
def spRep (T : List (Addr × Str)) (C CB : Addr) : Sp := fun vs H Q E => ∃ F x pl p ps y t vt, Sub F H ∧ EdS C x pl p ps F H ∧ okQ p ∧ y ∈ (["a", "b"] : List Str) ∧ okT t ∧ t.length ≤ 900 ∧ ps.length ≤ 100 ∧ Im F (thD t) vt ∧ vs = [.ref x, .str y, vt] ∧
  ChgK T C CB x pl p ps (letN y) t F H Q E
theorem ok_replace (F : CM K C "replace" "Editor.replace" (inClass (top 59) 6)) (ci : Cl P w K mg base 1 "index_of" ["letter"] (spD T Rindex_of))
    (ch : MetX P w K mg base 6 C "change" ["self", "index", "thread"] (spChg T C CB)) : MetX P w K mg base 7 C "replace" ["self", "letter", "thread"] (spRep T C CB) := by
  refine metx_of (N := ["self", "letter", "thread"]) F ⟨rfl, rfl, rfl, by decide +kernel, rfl, by decide +kernel, by decide +kernel⟩ (fun vs H Q E ⟨F, x, pl, p, ps, y, t, vt, _, _, _, _, _, _, _, _, e, _⟩ => by rw [e]; rfl) (fun _ _ _ _ _ _ us hl => match us, hl with | [_, _, _], _ => rfl) ?_
  rintro f cdv A outer s H0 vs Q E hr ⟨F0, x, pl, p, ps, y, t, vt, sF, e0, hp, hy, ht, hl, hps, it, rfl, k⟩
  exact b_exprR (rx_chg (T := T) (i := letN y) (t := t) ch hr (by decide) takesE (fun _ _ _ _ z => z) sF e0 hp ht hl hps (ev_var (i := 0) rfl) (ed_call ci hr (ea_cons (ed_var (d := .str y) (i := 1) rfl rfl) ea_nil) ⟨y, hy, rfl, rfl⟩) (ed_var (i := 2) rfl it) (k.step e0 (.refl sF) fun H' q => rB_nil q) rfl rfl rfl rfl)
end
end Tw
namespace Tw
open PySem PySem.Spec PyProof.Rows L2 LamX
theorem lay_steps : ∀ {t : Thr}, okT t → PyData.canLayAll0 (t.map stD) = true ∧ PyData.depthAll (t.map stD) ≤ 1 ∧ PyData.hasDictAll (t.map stD) = false
  | [], _ => ⟨rfl, by show 0 ≤ 1; omega, rfl⟩
  | s :: t, h => by
    obtain ⟨h1, h2, h3⟩ := lay_steps (t := t) fun x hx => h x (List.mem_cons_of_mem _ hx)
    have hs := okD_step (h s (List.mem_cons_self ..))
    unfold okD at hs
    rw [Bool.and_eq_true, Bool.not_eq_true'] at hs
    have hc := PySem.SeqAt.canLay_of_shaped hs.2
    refine ⟨?_, ?_, ?_⟩
    · rw [List.map_cons, PyData.canLayAll0, hc, h1]; rfl
    · have hd : (stD s).depth = 1 := by simp [stD, PyData.depth, PyData.depthAll]
      rw [List.map_cons, PyData.depthAll, hd]
      omega
    · rw [List.map_cons, PyData.hasDictAll, hs.1, h3]; rfl
theorem lay_thr {t : Thr} (h : okT t) : (thD t).canLay0 = true ∧ (thD t).depth ≤ 2 ∧ (thD t).hasDict = false := by
  obtain ⟨h1, h2, h3⟩ := lay_steps h
  unfold thD
  refine ⟨by rw [PyData.canLay0]; exact h1, by rw [PyData.depth]; omega, by rw [PyData.hasDict]; exact h3⟩
theorem lay_pr {p : Pr} (h1 : okT p.1) (h2 : okT p.2) : (prD p).canLay0 = true ∧ (prD p).depth ≤ 3 ∧ (prD p).hasDict = false := by
  obtain ⟨a1, a2, a3⟩ := lay_thr h1
  obtain ⟨b1, b2, b3⟩ := lay_thr h2
  unfold prD
  refine ⟨by simp [PyData.canLay0, PyData.canLayAll0, a1, b1], ?_, by simp [PyData.hasDict, PyData.hasDictAll, a3, b3]⟩
  simp only [PyData.depth, PyData.depthAll]
  omega
theorem lay_prs : ∀ {ps : List Pr}, (∀ p ∈ ps, okQ p) → PyData.canLayAll0 (ps.map prD) = true ∧ PyData.depthAll (ps.map prD) ≤ 3 ∧ PyData.hasDictAll (ps.map prD) = false
  | [], _ => ⟨rfl, by show 0 ≤ 3; omega, rfl⟩
  | p :: ps, h => by
    obtain ⟨h1, h2, h3⟩ := lay_prs (ps := ps) fun x hx => h x (List.mem_cons_of_mem _ hx)
    have hp := h p (List.mem_cons_self ..)
    obtain ⟨a1, a2, a3⟩ := lay_pr hp.1.1 hp.1.2.1
    refine ⟨?_, ?_, ?_⟩
    · rw [List.map_cons, PyData.canLayAll0, a1, h1]; rfl
    · rw [List.map_cons, PyData.depthAll]; omega
    · rw [List.map_cons, PyData.hasDictAll, a3, h3]; rfl
theorem sh_prs {ps : List Pr} (h : ∀ p ∈ ps, okQ p) : SeqAt.shaped (.list (ps.map prD)) = true := by
  obtain ⟨h1, h2, _⟩ := lay_prs h
  unfold SeqAt.shaped
  rw [PyData.canLay0, h1, PyData.depth]
  simp
  omega
structure UndK (T : List (Addr × Str)) (C CN x pl : Addr) (ps : List Pr) (F H : Hp) (Q : VK) (E : XK) : Prop where
  yes : ∀ qs q, ps = qs ++ [q] → ∀ F' H', AdvM T [x, pl] F H F' H' → EdS C x pl q qs F' H' → Q .non H'
  no : ps = [] → ∀ F' H', Adv T F H F' H' → E (.ref CN) none H'
theorem last_at {α : Type} {qs : List α} {q : α} {n : Nat} (h : n = (qs ++ [q]).length) : (qs ++ [q])[n - 1]? = some q := by
  rw [h, List.length_append, List.length_singleton, Nat.add_sub_cancel, List.getElem?_append_right (Nat.le_refl _), Nat.sub_self]
  rfl
theorem drop_last {α : Type} {qs : List α} {q : α} : (qs ++ [q]).dropLast = qs := by simp
section
variable {P : Program} {w : World} {K : PySem.W.Frag} {mg : Str → Option Value} {base : Heap} {T : List (Addr × Str)} {C CB CN : Addr}
def spUnd (T : List (Addr × Str)) (C CN : Addr) : Sp := fun vs H Q E => ∃ F x pl p ps, Sub F H ∧ EdS C x pl p ps F H ∧ (∀ q ∈ ps, okQ q) ∧ vs = [.ref x] ∧ UndK T C CN x pl ps F H Q E
theorem ok_undo (F : CM K C "undo" "Editor.undo" (inClass (top 59) 7)) (nk : NoAttr K C "kept") (np : NoAttr K C "past") (cn : XMak P w K mg base 1 "NothingToUndo" CN ["self"] (spNone CN)) : MetX P w K mg base 3 C "undo" ["self"] (spUnd T C CN) := by
  refine metx_of (N := ["self"]) F ⟨rfl, rfl, rfl, by decide +kernel, rfl, by decide +kernel, by decide +kernel⟩ (fun vs H Q E ⟨F, x, pl, p, ps, _, _, _, e, _⟩ => by rw [e]; rfl) (fun _ _ _ _ _ _ us hl => match us, hl with | [_], _ => rfl) ?_
  rintro f cdv A outer s H0 vs Q E hr ⟨F0, x, pl, p, ps, sF, e0, hps, rfl, k⟩
  obtain ⟨xs, ea, ex⟩ := e0.ex
  have hx0 := e0.ne
  obtain ⟨dx, kv, q1, q2⟩ := id ea.ex
  refine b_when (T := T) (et_isnil hr.units (ev_fld (ev_var (i := 0) rfl) q1 F.cls np rfl) ea.hp ex (lay_prs hps).2.2 (sh_prs hps)) sF (fun z F1 H1 a1 => ?_) fun z F1 H1 a1 => ?_
  · have hz : ps = [] := by
      cases ps with
      | nil => rfl
      | cons a r => cases z
    exact b_raise0 cn hr rfl takesE (k.no hz F1 H1 a1)
  · have hz : ps ≠ [] := fun e => by rw [e] at z; cases z
    obtain ⟨q, e1, e2, e3⟩ := last_of hz
    have ea1 := ea.step a1
    have ex1 := ex.up a1.ff
    obtain ⟨dx1, kv1, q3, q4⟩ := id ea1.ex
    have hlen := ex.length
    rw [List.length_map] at hlen
    have hla : (ps.map prD)[xs.length - 1]? = some (prD q) := by
      rw [List.getElem?_map, e2, last_at (by rw [hlen, ← e2])]
      rfl
    obtain ⟨vq, hv, iv⟩ := ex1.at hla
    have bdl : ImL F1 (ps.dropLast.map prD) xs.dropLast := by
      rw [List.dropLast_eq_take, List.dropLast_eq_take, List.map_take, ← hlen]
      exact ex1.take _
    refine b_fldR (e_pop (T := T) a1.sub (ev_fld (ev_var (i := 0) rfl) q3 F.cls np rfl) ea1.fp ea1.hp hv fun F2 H2 a2 f2 h2 s2 => EX.go (T := T) (ev_var (i := 0) rfl) (.refl s2) fun u F3 H3 a3 eu => ?_)
    obtain rfl : u = .ref x := eu
    have ea2 := ea1.step a2
    obtain ⟨dx2, kv2, q5, q6⟩ := id ea2.ex
    have A2 : AdvM T [x, pl] F0 H0 F2 (upd H2 pl (.lst xs.dropLast)) := (AdvM.of (a1.trans a2)).write (List.mem_cons_of_mem _ (List.mem_cons_self ..)) f2 h2 mut_lst
    have q5' : upd H2 pl (.lst xs.dropLast) x = some (.ins C dx2 (edF kv2 pl)) := by rw [upd_ne hx0]; exact q5
    obtain ⟨f3, h3⟩ := a3.off ea2.fx q5' notTbl_ins
    obtain ⟨f4, h4⟩ := a3.off f2 upd_same notTbl_lst
    have A3 := (A2.trans (.of a3) e0.ok).write (List.mem_cons_self ..) f3 h3 mut_ins (o' := .ins C dx2 (putF "kept" vq (edF kv2 pl)))
    refine ⟨x, C, dx2, _, rfl, h3, F.cls, nk, (by show 2 < 1000; decide), rB_nil (k.yes ps.dropLast q e2 F3 _ A3 ⟨xs.dropLast, ⟨f3, ⟨dx2, vq, upd_same, iv.up (a2.ff.trans a3.ff)⟩, f4, by rw [upd_ne hx0.symm]; exact h4⟩, bdl.up (a2.ff.trans a3.ff)⟩)⟩
end
end Tw
namespace Tw
open PySem PySem.Spec PyProof.Rows L2 LamX
-- few contests between short threads
theorem few_steps (t : Thr) : (partsL t).length + (accs t).length ≤ t.length := by
  have gen : ∀ l : List (Step × Nat), (l.flatMap (partOf t)).length + (l.filter fun q => decide (q.1.1 ∈ (["read", "write"] : List Str))).length ≤ l.length := by
    intro l
    induction l with
    | nil => exact Nat.le_refl _
    | cons q l ih =>
      rw [List.flatMap_cons, List.length_append, List.filter_cons, List.length_cons]
      by_cases h1 : q.1.1 ∈ (["lock", "share"] : List Str)
      · have h2 : q.1.1 ∉ (["read", "write"] : List Str) := by
          have : q.1.1 = "lock" ∨ q.1.1 = "share" := by simpa using h1
          rcases this with e | e <;> rw [e] <;> decide
        have e : (partOf t q).length = 1 := by unfold partOf; rw [if_pos h1]; rfl
        rw [e, decide_eq_false h2]
        simp only [Bool.false_eq_true, if_false]
        omega
      · have e : (partOf t q).length = 0 := by unfold partOf; rw [if_neg h1]; rfl
        rw [e]
        split
        · rw [List.length_cons]; omega
        · omega
  have := gen t.zipIdx
  rw [List.length_zipIdx] at this
  unfold partsL accs
  rw [List.length_map]
  exact this
theorem few_conts {p : Pr} (h : okP p) (h1 : p.1.length ≤ 8) (h2 : p.2.length ≤ 8) : okQ p := by
  refine ⟨h, ?_⟩
  have a1 := few_steps p.1
  have a2 := few_steps p.2
  have s1 := (secs_perm h.2.2.1).length_eq
  have s2 := (secs_perm h.2.2.2).length_eq
  have l1 : (lockCs p).length ≤ (secs p.1).length * 8 := by
    refine flat_len fun a _ => Nat.le_trans (flat_len (k := 1) fun b _ => ?_) (by omega)
    unfold lockOne
    split <;> simp
  have l2 : (dataCs p).length ≤ (accs p.1).length * 8 := by
    refine flat_len fun a _ => Nat.le_trans (flat_len (k := 1) fun b _ => ?_) (by omega)
    unfold dataOne
    split <;> simp
  unfold conts
  rw [List.length_mergeSort, List.length_append]
  omega
-- the law's own state of an editor
structure OwS (od opl : Addr) (p : Pr) (ps : List Pr) (F H : Hp) : Prop where
  fd : F od = none
  fl : F opl = none
  ex : ∃ kv xs, H od = some (.dK [(.inr "kept", kv), (.inr "past", .ref opl)]) ∧ Im F (prD p) kv ∧ H opl = some (.lst xs) ∧ ImL F (ps.map prD) xs
section
variable {T : List (Addr × Str)} {od opl : Addr} {p : Pr} {ps : List Pr} {F H F' H' : Hp} {L : List Addr}
theorem OwS.step (e : OwS od opl p ps F H) (a : Adv T F H F' H') : OwS od opl p ps F' H' := by
  obtain ⟨kv, xs, h1, h2, h3, h4⟩ := e.ex
  have r1 := a.off e.fd h1 notTbl_dK
  have r2 := a.off e.fl h3 notTbl_lst
  exact ⟨r1.1, r2.1, kv, xs, r1.2, h2.up a.ff, r2.2, h4.up a.ff⟩
theorem OwS.stepM (e : OwS od opl p ps F H) (a : AdvM T L F H F' H') (n1 : od ∉ L) (n2 : opl ∉ L) : OwS od opl p ps F' H' := by
  obtain ⟨kv, xs, h1, h2, h3, h4⟩ := e.ex
  have r1 := a.off e.fd h1 notTbl_dK n1
  have r2 := a.off e.fl h3 notTbl_lst n2
  exact ⟨r1.1, r2.1, kv, xs, r1.2, h2.up a.ff, r2.2, h4.up a.ff⟩
theorem OwS.ok (e : OwS od opl p ps F H) : ∀ l ∈ [od, opl], F l = none ∧ ∃ o, H l = some o ∧ NotTbl o ∧ ∀ xs, o ≠ .tup xs := fun l hl => by
  obtain ⟨kv, xs, h1, h2, h3, h4⟩ := e.ex
  rcases List.mem_cons.mp hl with q | q
  · subst q
    exact ⟨e.fd, _, h1, notTbl_dK, fun _ z => nomatch z⟩
  · rw [List.mem_singleton.mp q]
    exact ⟨e.fl, _, h3, notTbl_lst, fun _ z => nomatch z⟩
theorem OwS.ne (e : OwS od opl p ps F H) : od ≠ opl := by
  obtain ⟨kv, xs, h1, h2, h3, h4⟩ := e.ex
  exact ne_at h1 h3 (fun z => nomatch z)
end
section
variable {T : List (Addr × Str)} {X : Cx} {e a b : Expr} {σ : L2.St} {F H : Hp} {pos p : Pos} {P : V → Hp → Prop} {l : Addr} {kvs : List (Key × V)} {k : Key} {v : V} {rest : List Stmt} {D : Ends}
-- d[k], whatever stands there
theorem ex_dgetR (hu : X.A.units + 1 < cLine) (ha : EV T X a σ F H (.ref l)) (hl : H l = some (.dK kvs)) (hb : ED T X b σ F H (kE k)) (h : valV kvs k = some v) (hp : P v F) (m : Mono P) (hs : NoSl b := by exact fun _ _ => rfl) : EX T X (.Subscript a b pos) σ F H P :=
  fun F1 H1 a1 Q q => goE (pe_dget hu pe_r pe_r hs) (ha F1 H1 a1 _ fun x F2 H2 a2 p1 => hb F2 H2 (a1.trans a2) _ fun y F3 H3 a3 p2 => by
    have aa := (a1.trans a2).trans a3
    exact ⟨l, v, p1, .inl ⟨kvs, k, .inl (aa.hh _ _ hl notTbl_dK), im_key p2, h.symm⟩, q v F3 H3 (a2.trans a3) (m _ _ _ aa.ff hp)⟩)
-- d[k] = e
theorem b_dputR (hu : X.A.units + 1 < cLine) (s : Sub F H) (he : EX T X e σ F H P) (m : Mono P) (ha : EV T X a σ F H (.ref l)) (hb : ED T X b σ F H (kE k)) (hF : F l = none) (hl : H l = some (.dK kvs)) (hz : kvs.length < sizeLine)
    (q : ∀ v F1 H1, Adv T F H F1 H1 → F1 l = none → H1 l = some (.dK kvs) → P v F1 → Sub F1 (upd H1 l (.dK (putK kvs k v))) → rB X rest D σ (upd H1 l (.dK (putK kvs k v))))
    (hs : swapsWith e (some (.Subscript a b p)) pos.line X.env = pure false := by rfl) : rB X (.Assign [.Subscript a b p] e pos :: rest) D σ H :=
  goC (ps_dput hu pe_r pe_r pe_r hs) (he F H (.refl s) _ fun v F1 H1 a1 q1 => ha F1 H1 a1 _ fun x F2 H2 a2 q2 => hb F2 H2 (a1.trans a2) _ fun y F3 H3 a3 q3 => by
    have aa := (a1.trans a2).trans a3
    obtain ⟨o1, o2⟩ := aa.off hF hl notTbl_dK
    exact ⟨l, _, q2, .inl ⟨kvs, k, o2, im_key q3, hz, rfl⟩, q v _ H3 aa o1 o2 (m _ _ _ (a2.trans a3).ff q1) (a3.sub.updO o1)⟩)
end
section
variable {P : Program} {w : World} {K : PySem.W.Frag} {mg : Str → Option Value} {base : Heap} {T : List (Addr × Str)}
def spDesk (T : List (Addr × Str)) : Sp := fun vs H Q _ => ∃ F l n, Sub F H ∧ SrcAt l n F H ∧ n ≤ 70000 ∧ vs = [.ref l, .int 8] ∧
  ∀ r vl vv vb od opl (ls us : List Str) p F' H', AdvM T [l] F H F' H' → SrcAt l (n + 100) F' H' → H' r = some (.tup [vl, vv, vb, .ref od]) → Im F' (.list (ls.map .str)) vl → Im F' (.list (us.map .str)) vv → (∀ x ∈ ls, okN x) → ls ≠ [] → ls.length ≤ 10 → (∀ x ∈ us, okN x) → us.length = 2 →
    okQ p → Im F' (prD p) vb → OwS od opl p [] F' H' → Nw H od → Nw H opl → Q (.ref r) H'
theorem ok_desk (F : DfN K mg "_law_desk" 75) (c : Cl P w K mg base 1 "_law_draw" ["_law_source", "_law_limit"] (spDraw T)) (c3 : Cl P w K mg base 3 "_law_names" ["_law_source", "_law_count"] (spNames T)) (c4 : Cl P w K mg base 3 "_law_thread" ["_law_source", "_law_locks", "_law_variables", "_law_most"] (spThread T)) : Cl P w K mg base 4 "_law_desk" ["_law_source", "_law_most"] (spDesk T) := by
  refine cl_of (N := ["_law_source", "_law_most", "_law_locks", "_law_variables", "_law_both"]) F ⟨rfl, rfl, rfl, by decide +kernel, rfl, by decide +kernel, by decide +kernel⟩ (fun vs H Q E ⟨F, l, n, _, _, _, e, _⟩ => by rw [e]; rfl) (fun _ _ _ _ _ _ us hl => match us, hl with | [_, _], _ => rfl) ?_
  rintro f cdv A outer s H0 vs Q E hr ⟨F0, l, n, sF, src, hn, rfl, k⟩
  have nd : (["_law_source", "_law_most", "_law_locks", "_law_variables", "_law_both"] : List Str).Nodup := by decide +kernel
  have ok0 := src.ok
  -- locks, variables
  refine b_parR (m := 2) (n := 3) rfl nd (rx_call c3 hr (goA (pa_cons pe_r pa_r) (EX.go (T := T) (ev_var (i := 0) rfl) (.refl sF) fun u F1 H1 a1 eu => goA (pa_cons pe_r pa_r) ?_)))
  obtain rfl : u = .ref l := eu
  refine goE (pe_op op_add pe_r pe_r) (EX.go (T := T) (ed_int (i := 1)) (.refl a1.sub) fun u F2 H2 a2 eu => ?_)
  obtain rfl : u = .int 1 := eu
  refine rx_call c hr (EA.go (T := T) (eg_cons (ev_var (i := 0) rfl) (eg_cons (ed_int (i := 3)) eg_nil mono_im) mono_eq) (.refl a2.sub) fun vs F3 H3 a3 hv => ?_)
  obtain ⟨w1, _, rfl, rfl, w2, _, rfl, e2, rfl⟩ := hv
  obtain rfl : w2 = .int 3 := e2
  have A3 := (a1.trans a2).trans a3
  refine ⟨F3, l, n, 3, a3.sub, src.step A3, by omega, by decide, by decide, rfl, fun z F4 H4 a4 src4 z0 z1 => ?_⟩
  have A4 : AdvM T [l] F0 H0 F4 H4 := (AdvM.of A3).trans a4 ok0
  refine ⟨1, z, rfl, rfl, EA.go (T := T) eg_nil (.refl a4.sub) fun vs F5 H5 a5 ev => ?_⟩
  obtain rfl : vs = [] := ev
  have A5 := A4.trans (.of a5) ok0
  refine ⟨F5, l, n + 1, 1 + z, a5.sub, src4.step a5, by omega, by omega, by omega, rfl, fun vl ls F6 H6 a6 src6 hll hls il => ?_⟩
  have A6 := A5.trans a6 ok0
  refine rx_call c3 hr (EA.go (T := T) (eg_cons (ev_var (i := 0) rfl) (eg_cons (ed_int (i := 2)) eg_nil mono_im) mono_eq) (.refl a6.sub) fun vs F7 H7 a7 hv => ?_)
  obtain ⟨w1, _, rfl, rfl, w2, _, rfl, e2, rfl⟩ := hv
  obtain rfl : w2 = .int 2 := e2
  have A7 := A6.trans (.of a7) ok0
  refine ⟨F7, l, n + 1 + 2, 2, a7.sub, src6.step a7, by omega, by omega, by omega, rfl, fun vv us F8 H8 a8 src8 hul hus iv => ?_⟩
  have A8 := A7.trans a8 ok0
  have il8 := il.up (a7.ff.trans a8.ff)
  have hll10 : ls.length ≤ 10 := by omega
  have hl0 : ls ≠ [] := fun e => by rw [e] at hll; have hll : 0 = (1 + z).toNat := hll; omega
  have hul2 : us.length = 2 := hul
  have hu0 : us ≠ [] := fun e => by rw [e] at hul2; cases hul2
  show rB _ _ _ [some (.ref l), some (.int 8), some vl, some vv, none] H8
  -- both
  refine b_asgR (i := 4) (goE (pe_tup (pa_cons pe_r (pa_cons pe_r pa_nil))) (rx_call c4 hr (EA.go (T := T) (eg_cons (ev_var (i := 0) rfl) (eg_cons (P := eqP vl) (ev_var (i := 2) rfl) (eg_cons (P := eqP vv) (ev_var (i := 3) rfl) (eg_cons (P := eqP (.int 8)) (ev_var (i := 1) rfl) eg_nil mono_eq) mono_eq) mono_eq) mono_eq) (.refl a8.sub) fun vs F9 H9 a9 hv => ?_))) nd
  obtain ⟨w1, _, rfl, rfl, w2, _, rfl, e2, w3, _, rfl, e3, w4, _, rfl, e4, rfl⟩ := hv
  obtain rfl : vl = w2 := Eq.symm e2
  obtain rfl : vv = w3 := Eq.symm e3
  obtain rfl : w4 = .int 8 := e4
  refine ⟨F9, l, n + 1 + 2 + 2, 8, vl, vv, ls, us, a9.sub, src8.step a9, by omega, Nat.le_refl _, il8.up a9.ff, iv.up a9.ff, hls, hll10, hus, hu0, by omega, rfl, fun v1 t1 F10 H10 a10 src10 q1 q2 q3 it1 => ?_⟩
  have A10 := (A8.trans (.of a9) ok0).trans a10 ok0
  refine rx_call c4 hr (EA.go (T := T) (eg_cons (ev_var (i := 0) rfl) (eg_cons (P := eqP vl) (ev_var (i := 2) rfl) (eg_cons (P := eqP vv) (ev_var (i := 3) rfl) (eg_cons (P := eqP (.int 8)) (ev_var (i := 1) rfl) eg_nil mono_eq) mono_eq) mono_eq) mono_eq) (.refl a10.sub) fun vs F11 H11 a11 hv => ?_)
  obtain ⟨w1, _, rfl, rfl, w2, _, rfl, e2, w3, _, rfl, e3, w4, _, rfl, e4, rfl⟩ := hv
  obtain rfl : vl = w2 := Eq.symm e2
  obtain rfl : vv = w3 := Eq.symm e3
  obtain rfl : w4 = .int 8 := e4
  have x89 := a9.ff.trans (a10.ff.trans a11.ff)
  refine ⟨F11, l, n + 1 + 2 + 2 + 40, 8, vl, vv, ls, us, a11.sub, src10.step a11, by omega, Nat.le_refl _, il8.up x89, iv.up x89, hls, hll10, hus, hu0, by omega, rfl, fun v2 t2 F12 H12 a12 src12 q4 q5 q6 it2 => ?_⟩
  have A12 := (A10.trans (.of a11) ok0).trans a12 ok0
  refine ⟨Nat.le_of_ble_eq_true rfl, fun rb hrb => ?_⟩
  have ad : Adv T F12 H12 (upd F12 rb (.tup [v1, v2])) (upd H12 rb (.tup [v1, v2])) := Adv.new a12.sub hrb notTbl_tup
  have A13 := A12.trans (.of ad) ok0
  have ib : Im (upd F12 rb (.tup [v1, v2])) (prD (t1, t2)) (.ref rb) := ⟨rb, _, rfl, upd_same, v1, [v2], rfl, (it1.up (a11.ff.trans a12.ff)).up ad.ff, v2, [], rfl, it2.up ad.ff, rfl⟩
  have src13 := src12.step ad
  have il13 := (il8.up x89).up (a12.ff.trans ad.ff)
  have iv13 := (iv.up x89).up (a12.ff.trans ad.ff)
  generalize upd F12 rb (.tup [v1, v2]) = F13 at A13 ib src13 ad il13 iv13
  generalize upd H12 rb (.tup [v1, v2]) = H13 at A13 src13 ad ⊢
  show rB _ _ _ [some (.ref l), some (.int 8), some vl, some vv, some (.ref rb)] H13
  have hq : okQ (t1, t2) := few_conts ⟨q2, q5, q1, q4⟩ q3 q6
  -- the answer
  refine b_retR (goE (pe_tup (pa_cons pe_r (pa_cons pe_r (pa_cons pe_r (pa_cons pe_r pa_nil))))) (EX.go (T := T) (P := eqP vl) (ev_var (i := 2) rfl) (.refl A13.sub) fun u1 F14 H14 a14 e1 => EX.go (T := T) (P := eqP vv) (ev_var (i := 3) rfl) (.refl a14.sub) fun u2 F15 H15 a15 e2 => EX.go (T := T) (P := eqP (.ref rb)) (ev_var (i := 4) rfl) (.refl a15.sub) fun u3 F16 H16 a16 e3 => ?_))
  obtain rfl : vl = u1 := Eq.symm e1
  obtain rfl : vv = u2 := Eq.symm e2
  obtain rfl : u3 = .ref rb := e3
  refine goE (pe_disp (pps_cons pe_r pe_r (pps_cons pe_r pe_r pps_nil)) rfl rfl (by simp) (by decide)) fun d hd => ?_
  have lay0 : Adv T F16 H16 F16 (upd H16 d (.dK [])) := Adv.lay a16.sub hd
  refine EX.go (T := T) (ed_str (x := "kept")) lay0 fun x F17 H17 a17 e17 => EX.go (T := T) (P := eqP (.ref rb)) (ev_var (i := 4) rfl) (.refl a17.sub) fun y F18 H18 a18 e18 => EX.go (T := T) (ed_str (x := "past")) (.refl a18.sub) fun x2 F19 H19 a19 e19 => EF.go (T := T) (ef_lst ea_nil (Nat.zero_le _)) (.refl a19.sub) fun opl xs F20 H20 a20 hn20 hF20 hl20 hd20 => ?_
  obtain rfl : xs = [] := hd20
  obtain rfl : x = .str "kept" := e17
  obtain rfl : y = .ref rb := e18
  obtain rfl : x2 = .str "past" := e19
  have a1720 := (a17.trans a18).trans (a19.trans a20)
  obtain ⟨fd, hd1⟩ := a1720.off (a16.sub.offN hd) upd_same notTbl_dK
  have d_o : d ≠ opl := hn20.ne (((a17.trans a18).trans a19).off (a16.sub.offN hd) upd_same notTbl_dK).2 notTbl_dK
  refine ⟨hd1, [(.inr "kept", .ref rb), (.inr "past", .ref opl)], rfl, Nat.le_of_ble_eq_true rfl, ?_⟩
  have nwd : Nw H16 d := .of hd
  have B := (lay0.trans a1720).mut nwd fd hd1 mut_dK (o' := .dK (mergeK [] [(.inr "kept", .ref rb), (.inr "past", .ref opl)]))
  have em : mergeK [] [((.inr "kept" : Key), V.ref rb), (.inr "past", .ref opl)] = [(.inr "kept", .ref rb), (.inr "past", .ref opl)] := rfl
  rw [em] at B ⊢
  refine ⟨Nat.le_of_ble_eq_true rfl, fun r hr => ?_⟩
  have layr := Adv.lay (o := .tup [vl, vv, .ref rb, .ref d]) (T := T) B.sub hr
  have a1316 := (a14.trans a15).trans a16
  have AB := (((A13.trans (.of a1316) ok0).trans (.of B) ok0).trans (.of layr) ok0)
  have lay2 := (B.trans layr)
  have nwo : Nw H16 opl := Nw.back (((lay0.trans a17).trans a18).trans a19) hn20
  have own : OwS d opl (t1, t2) [] F20 (upd H20 d (.dK [(.inr "kept", .ref rb), (.inr "past", .ref opl)])) := ⟨fd, hF20, .ref rb, [], upd_same, ib.up ((a1316.ff).trans B.ff), by rw [upd_ne d_o.symm]; exact hl20, rfl⟩
  have A16 := A13.trans (.of a1316) ok0
  exact k r vl vv (.ref rb) d opl ls us (t1, t2) F20 _ AB (((src13.step a1316).step lay2).mono (by omega)) upd_same (il13.up (a1316.ff.trans B.ff)) (iv13.up (a1316.ff.trans B.ff)) hls hl0 hll10 hus hul2 hq (ib.up (a1316.ff.trans B.ff)) (own.step layr) (Nw.backM A16 ok0 nwd) (Nw.backM A16 ok0 nwo)
end
end Tw
namespace Tw
open PySem PySem.Spec PyProof.Rows L2 LamX
section
variable {P : Program} {w : World} {K : PySem.W.Frag} {mg : Str → Option Value} {base : Heap} {T : List (Addr × Str)}
theorem str_last {us : List Str} (h : us.length = 2) : ∃ a b, us = [a, b] := by
  match us, h with
  | [a, b], _ => exact ⟨a, b, rfl⟩
def spSmall (T : List (Addr × Str)) : Sp := fun vs H Q _ => ∃ F l n vl vv, ∃ (ls us : List Str), Sub F H ∧ SrcAt l n F H ∧ n ≤ 80000 ∧ Im F (.list (ls.map .str)) vl ∧ Im F (.list (us.map .str)) vv ∧ (∀ x ∈ ls, okN x) ∧ ls ≠ [] ∧ ls.length ≤ 10 ∧ (∀ x ∈ us, okN x) ∧ us.length = 2 ∧ vs = [.ref l, vl, vv] ∧
  ∀ v t F' H', AdvM T [l] F H F' H' → SrcAt l (n + 2) F' H' → okT t → t.length ≤ 3 → Im F' (thD t) v → Q v H'
theorem ok_small (F : DfN K mg "_law_small_steps" 76) (g : G K mg) (c2 : Cl P w K mg base 2 "_law_choice" ["_law_source", "_law_items"] (spChoice T)) : Cl P w K mg base 3 "_law_small_steps" ["_law_source", "_law_locks", "_law_variables"] (spSmall T) := by
  refine cl_of (N := ["_law_source", "_law_locks", "_law_variables", "_law_name", "_law_some"]) F ⟨rfl, rfl, rfl, by decide +kernel, rfl, by decide +kernel, by decide +kernel⟩ (fun vs H Q E ⟨F, l, n, vl, vv, ls, us, _, _, _, _, _, _, _, _, _, _, e, _⟩ => by rw [e]; rfl) (fun _ _ _ _ _ _ us hl => match us, hl with | [_, _, _], _ => rfl) ?_
  rintro f cdv A outer s H0 vs Q E hr ⟨F0, l, n, vl, vv, ls, us, sF, src, hn, il, iv, hls, hl0, hll, hus, hul, rfl, k⟩
  have nd : (["_law_source", "_law_locks", "_law_variables", "_law_name", "_law_some"] : List Str).Nodup := by decide +kernel
  have ok0 := src.ok
  obtain ⟨ua, ub, rfl⟩ := str_last hul
  have hua : okN ua := hus ua (by simp)
  have hub : okN ub := hus ub (by simp)
  obtain ⟨la, xs, rfl, hla, dla⟩ := id il
  refine b_asgR (i := 3) (rx_call c2 hr (EA.go (T := T) (eg_cons (ev_var (i := 0) rfl) (eg_cons (ev_var (i := 1) rfl) eg_nil mono_eq) mono_eq) (.refl sF) fun vs F1 H1 a1 hv => ?_)) nd
  obtain ⟨w1, _, rfl, rfl, w2, _, rfl, rfl, rfl⟩ := hv
  refine ⟨F1, l, n, la, xs, ls.map .str, a1.sub, src.step a1, by omega, a1.sub.at (a1.ff _ _ hla), (fun z => by rw [z, src.fl] at hla; cases hla), dla.up a1.ff, by simpa using hl0, by rw [List.length_map]; omega, rfl, fun v d F2 H2 a2 src2 hd ivn => ?_⟩
  obtain ⟨nm, hnm, rfl⟩ := List.mem_map.mp hd
  obtain rfl : v = .str nm := ivn
  have onm := hls nm hnm
  have A2 : AdvM T [l] F0 H0 F2 H2 := (AdvM.of a1).trans a2 ok0
  have iv2 : Im F2 (.list ([ua, ub].map .str)) vv := iv.up A2.ff
  show rB _ _ _ [some (.ref l), some (.ref la), some vv, some (.str nm), none] H2
  let S : List Thr := [[("lock", nm), ("free", nm)], [("write", ua)], [], [("lock", nm)], [("free", nm)]]
  let S6 : Thr := [("share", nm), ("read", ub), ("free", nm)]
  let S7 : Thr := [("work", "w"), ("write", ub)]
  refine b_asgF (T := T) (i := 4) (ef_lst (ds := S.map thD) (ea_cons (ed_tup (ds := [stD ("lock", nm), stD ("free", nm)]) (ea_cons (ed_tup (ea_cons ed_str (ea_cons (ed_var (i := 3) rfl rfl) ea_nil))) (ea_cons (ed_tup (ea_cons ed_str (ea_cons (ed_var (i := 3) rfl rfl) ea_nil))) ea_nil))) (ea_cons (ed_tup (ds := [stD ("write", ua)]) (ea_cons (ed_tup (ea_cons ed_str (ea_cons (ed_ixl (ed_var (i := 2) rfl iv2) ed_int rfl) ea_nil))) ea_nil)) (ea_cons (ed_tup (ds := []) ea_nil) (ea_cons (ed_tup (ds := [stD ("lock", nm)]) (ea_cons (ed_tup (ea_cons ed_str (ea_cons (ed_var (i := 3) rfl rfl) ea_nil))) ea_nil)) (ea_cons (ed_tup (ds := [stD ("free", nm)]) (ea_cons (ed_tup (ea_cons ed_str (ea_cons (ed_var (i := 3) rfl rfl) ea_nil))) ea_nil)) ea_nil)))))) a2.sub (fun lf ys F3 H3 a3 hn3 hF3 hl3 hd3 => ?_) nd
  have A0 : App T F2 H2 lf (fun σ => σ = [some (.ref l), some (.ref la), some vv, some (.str nm), some (.ref lf)]) (S.map thD) _ F3 H3 := ⟨rfl, a3, hF3, ys, hl3, hd3⟩
  have iv3 : Im F3 (.list ([ua, ub].map .str)) vv := iv2.up a3.ff
  have im1 : atI ([ua, ub].map PyData.str) (-1) = some (.str ub) := rfl
  refine b_appA (T := T) (d := thD S6) A0 hn3 (ev_var (i := 4) rfl) (ed_tup (ds := [stD ("share", nm), stD ("read", ub), stD ("free", nm)]) (ea_cons (ed_tup (ea_cons ed_str (ea_cons (ed_var (i := 3) rfl rfl) ea_nil))) (ea_cons (ed_tup (ea_cons ed_str (ea_cons (ed_ixl (ed_var (i := 2) rfl iv3) (ed_neg ed_int) im1) ea_nil))) (ea_cons (ed_tup (ea_cons ed_str (ea_cons (ed_var (i := 3) rfl rfl) ea_nil))) ea_nil)))) (by show 5 < sizeLine; decide) fun F4 H4 s4 x4 A4 => ?_
  obtain ⟨F5, a5, m5, x5⟩ := A4.out hn3
  have iv5 : Im F5 (.list ([ua, ub].map .str)) vv := iv2.up a5.ff
  show rB _ _ _ [some (.ref l), some (.ref la), some vv, some (.str nm), some (.ref lf)] H4
  refine b_retR (rx_call c2 hr (EA.go (T := T) (eg_cons (ev_var (i := 0) rfl) (eg_cons (EF.ed (ef_addl (ys := [thD S7]) (ed_var (i := 4) rfl m5) (EF.ed (ef_lst (ea_cons (ed_tup (ds := [stD ("work", "w"), stD ("write", ub)]) (ea_cons (ed_tup (ea_cons ed_str (ea_cons ed_str ea_nil))) (ea_cons (ed_tup (ea_cons ed_str (ea_cons (ed_ixl (ed_var (i := 2) rfl iv5) (ed_neg ed_int) im1) ea_nil))) ea_nil))) ea_nil))) (by show 6 + 1 ≤ sizeLine; decide))) eg_nil mono_im) mono_eq) (.refl a5.sub) fun vs F6 H6 a6 hv => ?_))
  obtain ⟨w1, _, rfl, rfl, w2, _, rfl, ⟨lb, zs, rfl, hlb, dlb⟩, rfl⟩ := hv
  have src6 := (src2.step a5).step a6
  refine ⟨F6, l, n + 1, lb, zs, _, a6.sub, src6, by omega, a6.sub.at hlb, (fun z => by rw [z, src6.fl] at hlb; cases hlb), dlb, (by intro z; cases z), (by show 7 < 1000000; decide), rfl, fun v d F7 H7 a7 src7 hd iv7 => ?_⟩
  have A7 := (A2.trans (.of (a5.trans a6)) ok0).trans a7 ok0
  have wk : ∀ {wd : Str} {m : Str}, wd ∈ wordsL → okN m → okS (wd, m) := fun h1 h2 => ⟨h1, h2⟩
  have ow : okN "w" := ⟨by decide, by decide, by decide⟩
  have w1 : ("lock" : Str) ∈ wordsL := by decide
  have w2 : ("free" : Str) ∈ wordsL := by decide
  have w3 : ("write" : Str) ∈ wordsL := by decide
  have w4 : ("share" : Str) ∈ wordsL := by decide
  have w5 : ("read" : Str) ∈ wordsL := by decide
  have w6 : ("work" : Str) ∈ wordsL := by decide
  have ex : ∃ t : Thr, d = thD t ∧ okT t ∧ t.length ≤ 3 := by
    have hd : d ∈ [thD [("lock", nm), ("free", nm)], thD [("write", ua)], thD [], thD [("lock", nm)], thD [("free", nm)], thD S6, thD S7] := hd
    simp only [List.mem_cons, List.mem_nil_iff, or_false] at hd
    rcases hd with e | e | e | e | e | e | e
    · refine ⟨_, e, fun s hs => ?_, by show 2 ≤ 3; decide⟩
      simp only [List.mem_cons, List.mem_nil_iff, or_false] at hs
      rcases hs with q | q <;> rw [q]
      · exact wk w1 onm
      · exact wk w2 onm
    · refine ⟨_, e, fun s hs => ?_, by show 1 ≤ 3; decide⟩
      rw [List.mem_singleton.mp hs]
      exact wk w3 hua
    · exact ⟨_, e, (fun s hs => by cases hs), by decide⟩
    · refine ⟨_, e, fun s hs => ?_, by show 1 ≤ 3; decide⟩
      rw [List.mem_singleton.mp hs]
      exact wk w1 onm
    · refine ⟨_, e, fun s hs => ?_, by show 1 ≤ 3; decide⟩
      rw [List.mem_singleton.mp hs]
      exact wk w2 onm
    · refine ⟨_, e, fun s hs => ?_, by show 3 ≤ 3; decide⟩
      have hs : s ∈ [(("share" : Str), nm), ("read", ub), ("free", nm)] := hs
      simp only [List.mem_cons, List.mem_nil_iff, or_false] at hs
      rcases hs with q | q | q <;> rw [q]
      · exact wk w4 onm
      · exact wk w5 hub
      · exact wk w2 onm
    · refine ⟨_, e, fun s hs => ?_, by show 2 ≤ 3; decide⟩
      have hs : s ∈ [(("work" : Str), ("w" : Str)), ("write", ub)] := hs
      simp only [List.mem_cons, List.mem_nil_iff, or_false] at hs
      rcases hs with q | q <;> rw [q]
      · exact wk w6 ow
      · exact wk w3 hub
  obtain ⟨t, rfl, ht, htl⟩ := ex
  exact k v t F7 H7 A7 (src7.mono (by omega)) ht htl iv7
end
end Tw
namespace Tw
open PySem PySem.Spec PyProof.Rows L2 LamX
-- a drawn change
inductive Ed
  | ins (y : Str) (n : Nat) (st : Thr)
  | rem (y : Str) (m n : Nat)
  | rep (y : Str) (t : Thr)
def Ed.word : Ed → Str
  | .ins .. => "insert"
  | .rem .. => "remove"
  | .rep .. => "replace"
def Ed.lt : Ed → Str
  | .ins y _ _ => y
  | .rem y _ _ => y
  | .rep y _ => y
def Ed.args : Ed → PyData
  | .ins y n st => .tuple [.str y, .int (n : Nat), thD st]
  | .rem y m n => .tuple [.str y, .int (m : Nat), .int (n : Nat)]
  | .rep y t => .tuple [.str y, thD t]
def Ed.thr (p : Pr) : Ed → Thr
  | .ins y n st => insT (thrAt p (letN y)) n st
  | .rem y m n => remT (thrAt p (letN y)) m n
  | .rep _ t => t
def Ed.new (p : Pr) (e : Ed) : Pr := chg p (letN e.lt) (e.thr p)
def Ed.ok (p : Pr) : Ed → Prop
  | .ins y n st => y ∈ (["a", "b"] : List Str) ∧ n ≤ (thrAt p (letN y)).length ∧ okT st ∧ st.length ≤ 3
  | .rem y m n => y ∈ (["a", "b"] : List Str) ∧ m ≤ n ∧ n ≤ (thrAt p (letN y)).length
  | .rep y t => y ∈ (["a", "b"] : List Str) ∧ okT t ∧ t.length ≤ 8
def Ed.d (p : Pr) (e : Ed) : PyData := .tuple [.str e.word, e.args, prD (e.new p)]
theorem with_chg {p : Pr} {y : Str} (h : y ∈ (["a", "b"] : List Str)) (t : Thr) : (if y = "a" then PyData.tuple [thD t, thD p.2] else .tuple [thD p.1, thD t]) = prD (chg p (letN y) t) := by
  have hx2 : y = "a" ∨ y = "b" := by simpa using h
  rcases hx2 with e | e <;> subst e <;> rfl
section
variable {T : List (Addr × Str)} {X : Cx} {a b e : Expr} {σ : L2.St} {F H : Hp} {pos p p2 : Pos}
-- "ab".index(e)
theorem occ_ab {x : Str} (h : x ∈ (["a", "b"] : List Str)) : ∃ r, Builtin.Str.occurrences "ab" x 0 ("ab" : Str).length 1 = letN x :: r := by
  have hx2 : x = "a" ∨ x = "b" := by simpa using h
  rcases hx2 with e | e <;> subst e
  · exact ⟨[], by decide +kernel⟩
  · exact ⟨[], by decide +kernel⟩
theorem ed_abidx {x : Str} (hx : x ∈ (["a", "b"] : List Str)) (hb : ED T X b σ F H (.str x)) {j : Nat} {pj : Pos}
    (hB : PE X (.Call (.Attribute (.Constant (.str "ab") j pj) "index" p) [b] [] p2) (tBM X.K "str" (fun x xs H Q => ∃ a b i rest, x = .str a ∧ xs = [.str b] ∧ Builtin.Str.occurrences a b 0 a.length 1 = i :: rest ∧ Q (.int (i : Nat)) H) (rE X (.Constant (.str "ab") j pj)) (rA X [b])) := by exact pe_bm PySem.F.plainAttrs_str PySem.F.slot_str_index PySem.F.type_str_index mt_sindex pe_r pa_r)
    (hs : starEach [b] X.env = (false, eval b X.env) :: starEach [] X.env := by rfl) : ED T X (.Call (.Attribute (.Constant (.str "ab") j pj) "index" p) [b] [] p2) σ F H (.int (letN x : Nat)) := fun F1 H1 a1 Q k =>
  goE hB (EX.go (T := T) (ed_str (x := "ab")) (.refl a1.sub) fun u F2 H2 a2 eu => by
    obtain rfl : u = .str "ab" := eu
    obtain ⟨r, hr⟩ := occ_ab hx
    refine ⟨rfl, EA.go (T := T) (ea_cons hb ea_nil hs) (a1.trans a2) fun vs F3 H3 a3 hv => ?_⟩
    obtain ⟨w1, _, rfl, e1, rfl⟩ := hv
    obtain rfl : w1 = .str x := e1
    exact ⟨"ab", x, letN x, r, rfl, rfl, hr, k _ F3 H3 (a2.trans a3) rfl⟩)
end
section
variable {P : Program} {w : World} {K : PySem.W.Frag} {mg : Str → Option Value} {base : Heap} {T : List (Addr × Str)}
def spEdit (T : List (Addr × Str)) : Sp := fun vs H Q _ => ∃ F l n vl vv od opl p ps, ∃ (ls us : List Str), Sub F H ∧ SrcAt l n F H ∧ n ≤ 75000 ∧ Im F (.list (ls.map .str)) vl ∧ Im F (.list (us.map .str)) vv ∧ (∀ x ∈ ls, okN x) ∧ ls ≠ [] ∧ ls.length ≤ 10 ∧ (∀ x ∈ us, okN x) ∧ us.length = 2 ∧ OwS od opl p ps F H ∧ okQ p ∧ od ≠ l ∧ opl ≠ l ∧ vs = [.ref l, vl, vv, .ref od] ∧
  ∀ v e F' H', AdvM T [l] F H F' H' → SrcAt l (n + 50) F' H' → Ed.ok p e → Im F' (e.d p) v → Q v H'
theorem ok_edit (F : DfN K mg "_law_edit" 77) (g : G K mg) (c : Cl P w K mg base 1 "_law_draw" ["_law_source", "_law_limit"] (spDraw T)) (c2 : Cl P w K mg base 2 "_law_choice" ["_law_source", "_law_items"] (spChoice T)) (c4 : Cl P w K mg base 3 "_law_thread" ["_law_source", "_law_locks", "_law_variables", "_law_most"] (spThread T)) (cw : Cl P w K mg base 1 "_law_with" ["_law_duo", "_law_letter", "_law_steps"] (spD T Rwith)) (cs : Cl P w K mg base 3 "_law_small_steps" ["_law_source", "_law_locks", "_law_variables"] (spSmall T)) : Cl P w K mg base 4 "_law_edit" ["_law_source", "_law_locks", "_law_variables", "_law_own"] (spEdit T) := by
  refine cl_of (N := ["_law_source", "_law_locks", "_law_variables", "_law_own", "_law_letter", "_law_way", "_law_steps", "_law_place", "_law_more", "_law_after", "_law_end", "_law_other_steps"]) F ⟨rfl, rfl, rfl, by decide +kernel, rfl, by decide +kernel, by decide +kernel⟩ (fun vs H Q E ⟨F, l, n, vl, vv, od, opl, p, ps, ls, us, _, _, _, _, _, _, _, _, _, _, _, _, _, _, e, _⟩ => by rw [e]; rfl) (fun _ _ _ _ _ _ us hl => match us, hl with | [_, _, _, _], _ => rfl) ?_
  rintro f cdv A outer s H0 vs Q E hr ⟨F0, l, n, vl, vv, od, opl, p, ps, ls, us, sF, src, hn, il, iv, hls, hl0, hll, hus, hul, own, hp, odl, opll, rfl, k⟩
  have nd : (["_law_source", "_law_locks", "_law_variables", "_law_own", "_law_letter", "_law_way", "_law_steps", "_law_place", "_law_more", "_law_after", "_law_end", "_law_other_steps"] : List Str).Nodup := by decide +kernel
  have ok0 := src.ok
  have hu0 : us ≠ [] := fun e => by rw [e] at hul; cases hul
  -- letter, way
  refine b_parR (m := 4) (n := 5) rfl nd (rx_call c2 hr (EA.go (T := T) (eg_cons (ev_var (i := 0) rfl) (eg_cons (EF.ed (ef_lst (ea_cons ed_str (ea_cons ed_str ea_nil)))) eg_nil mono_im) mono_eq) (.refl sF) fun vs F1 H1 a1 hv => ?_))
  obtain ⟨w1, _, rfl, rfl, w2, _, rfl, ⟨lb, zs, rfl, hlb, dlb⟩, rfl⟩ := hv
  have src1 := src.step a1
  refine ⟨F1, l, n, lb, zs, (["a", "b"] : List Str).map .str, a1.sub, src1, by omega, a1.sub.at hlb, (fun z => by rw [z, src1.fl] at hlb; cases hlb), dlb, by decide, by decide, rfl, fun v d F2 H2 a2 src2 hd ivy => ?_⟩
  obtain ⟨y, hy, rfl⟩ := List.mem_map.mp hd
  obtain rfl : v = .str y := ivy
  have A2 : AdvM T [l] F0 H0 F2 H2 := (AdvM.of a1).trans a2 ok0
  refine rx_call c hr (EA.go (T := T) (eg_cons (ev_var (i := 0) rfl) (eg_cons (ed_int (i := 6)) eg_nil mono_im) mono_eq) (.refl a2.sub) fun vs F3 H3 a3 hv => ?_)
  obtain ⟨w1, _, rfl, rfl, w2, _, rfl, e2, rfl⟩ := hv
  obtain rfl : w2 = .int 6 := e2
  refine ⟨F3, l, n + 1, 6, a3.sub, src2.step a3, by omega, by decide, by decide, rfl, fun wy F4 H4 a4 src4 wy0 wy1 => ?_⟩
  have A4 := (A2.trans (.of a3) ok0).trans a4 ok0
  have nl : od ∉ [l] ∧ opl ∉ [l] := ⟨by simpa using odl, by simpa using opll⟩
  have own4 := own.stepM A4 nl.1 nl.2
  obtain ⟨kv, xs, d1, d2, d3, d4⟩ := id own4.ex
  show rB _ _ _ [some (.ref l), some vl, some vv, some (.ref od), some (.str y), some (.int wy), none, none, none, none, none, none] H4
  -- steps
  obtain ⟨t1, t2⟩ := thrAt_ok hp (letN y)
  have hth := thr_at p hy
  have eP : Ed.new p = fun e => chg p (letN e.lt) (e.thr p) := rfl
  generalize hT : thrAt p (letN y) = th at t1 t2 hth
  refine b_asg (T := T) (i := 6) (P := imP (thD th)) (ed_ixt (ex_dgetR (k := .inr "kept") (P := imP (prD p)) (room_u1 hr) (ev_var (i := 3) rfl) d1 ed_str rfl d2 mono_im) (ed_abidx hy (ed_var (d := .str y) (i := 4) rfl rfl)) hth) a4.sub (fun vt F5 H5 a5 it => ?_) nd
  -- place
  have src5 := src4.step a5
  have A5 := A4.trans (.of a5) ok0
  refine b_asgR (i := 7) (rx_call c hr (EA.go (T := T) (eg_cons (ev_var (i := 0) rfl) (eg_cons (ed_add (ed_lent (b_len g) (ed_var (i := 6) rfl it)) ed_int) eg_nil mono_im) mono_eq) (.refl a5.sub) fun vs F6 H6 a6 hv => ?_)) nd
  obtain ⟨w1, _, rfl, rfl, w2, _, rfl, e2, rfl⟩ := hv
  obtain rfl : w2 = .int (((th.map stD).length : Nat) + 1) := e2
  have ethl : (th.map stD).length = th.length := List.length_map _
  refine ⟨F6, l, n + 1 + 1, (((th.map stD).length : Nat) : Int) + 1, a6.sub, src5.step a6, by omega, by omega, by omega, rfl, fun pv F7 H7 a7 src7 pv0 pv1 => ?_⟩
  have A7 := (A5.trans (.of a6) ok0).trans a7 ok0
  have hpl : pv.toNat ≤ th.length := by omega
  obtain ⟨pn, rfl⟩ : ∃ n : Nat, pv = (n : Int) := ⟨pv.toNat, by omega⟩
  have hpl : pn ≤ th.length := by omega
  have it7 := it.up (a6.ff.trans a7.ff)
  have own7 := own.stepM A7 nl.1 nl.2
  have il7 := il.up A7.ff
  have iv7 := iv.up A7.ff
  show rB _ _ _ [some (.ref l), some vl, some vv, some (.ref od), some (.str y), some (.int wy), some vt, some (.int (pn : Nat)), none, none, none, none] H7
  refine b_when (T := T) (et_lt (ed_var (d := .int wy) (i := 5) rfl rfl) ed_int) a7.sub (fun _ F8 H8 a8 => ?_) fun _ F8 H8 a8 => ?_
  · -- insert
    have A8 := A7.trans (.of a8) ok0
    refine b_asgR (i := 8) (rx_call cs hr (EA.go (T := T) (eg_cons (ev_var (i := 0) rfl) (eg_cons (P := eqP vl) (ev_var (i := 1) rfl) (eg_cons (P := eqP vv) (ev_var (i := 2) rfl) eg_nil mono_eq) mono_eq) mono_eq) (.refl a8.sub) fun vs F9 H9 a9 hv => ?_)) nd
    obtain ⟨w1, _, rfl, rfl, w2, _, rfl, e2, w3, _, rfl, e3, rfl⟩ := hv
    obtain rfl : vl = w2 := Eq.symm e2
    obtain rfl : vv = w3 := Eq.symm e3
    have x79 := a8.ff.trans a9.ff
    refine ⟨F9, l, n + 1 + 1 + 1, vl, vv, ls, us, a9.sub, (src7.step a8).step a9, by omega, il7.up x79, iv7.up x79, hls, hl0, hll, hus, hul, rfl, fun vm st F10 H10 a10 src10 hst hstl im => ?_⟩
    have A10 := (A8.trans (.of a9) ok0).trans a10 ok0
    have it10 := it7.up (x79.trans a10.ff)
    have hz : 100 ≤ sizeLine := by decide
    show rB _ _ _ [some (.ref l), some vl, some vv, some (.ref od), some (.str y), some (.int wy), some vt, some (.int (pn : Nat)), some vm, none, none, none] H10
    refine b_asg (T := T) (i := 9) (P := imP (thD (insT th pn st))) (ED.to (ed_addt (ed_addt (ed_take (ed_var (i := 6) rfl it10) (ed_var (d := .int (pn : Nat)) (i := 7) rfl rfl) (by rw [List.length_map]; exact hpl)) (ed_var (i := 8) rfl im) (by simp only [List.length_take, List.length_map]; omega)) (ed_drop (ed_var (i := 6) rfl it10) (ed_var (d := .int (pn : Nat)) (i := 7) rfl rfl) (by rw [List.length_map]; exact hpl)) (by simp only [List.length_append, List.length_take, List.length_drop, List.length_map]; omega)) (by unfold insT thD; rw [List.map_append, List.map_append, List.map_take, List.map_drop])) a10.sub (fun va F11 H11 a11 ia => ?_) nd
    have A11 := A10.trans (.of a11) ok0
    have own11 := own.stepM A11 nl.1 nl.2
    obtain ⟨kv2, xs2, d5, d6, d7, d8⟩ := id own11.ex
    refine b_ret (T := T) (P := imP ((Ed.ins y pn st).d p)) (ed_tup (ds := [.str "insert", (Ed.ins y pn st).args, prD ((Ed.ins y pn st).new p)]) (ea_cons ed_str (ea_cons (ed_tup (ds := [.str y, .int (pn : Nat), thD st]) (ea_cons (ed_var (d := .str y) (i := 4) rfl rfl) (ea_cons (ed_var (d := .int (pn : Nat)) (i := 7) rfl rfl) (ea_cons (ed_var (i := 8) rfl (im.up a11.ff)) ea_nil)))) (ea_cons (ed_call cw hr (ea_cons (ex_dgetR (k := .inr "kept") (P := imP (prD p)) (room_u1 hr) (ev_var (i := 3) rfl) d5 ed_str rfl d6 mono_im) (ea_cons (ed_var (d := .str y) (i := 4) rfl rfl) (ea_cons (ed_var (i := 9) rfl ia) ea_nil))) ⟨thD p.1, thD p.2, thD (insT th pn st), y, rfl, by rw [with_chg hy, ← hT]; rfl⟩) ea_nil)))) a11.sub fun v F12 H12 a12 q => k v (.ins y pn st) F12 H12 (A11.trans (.of a12) ok0) (((src10.step a11).step a12).mono (by omega)) ⟨hy, by rw [hT]; exact hpl, hst, hstl⟩ q
  · have A8 := A7.trans (.of a8) ok0
    have it8 := it7.up a8.ff
    refine b_when (T := T) (et_lt (ed_var (d := .int wy) (i := 5) rfl rfl) ed_int) a8.sub (fun _ F9 H9 a9 => ?_) fun _ F9 H9 a9 => ?_
    · -- remove
      have A9 := A8.trans (.of a9) ok0
      have it9 := it8.up a9.ff
      refine b_asgR (i := 10) (goE (pe_op op_add pe_r pe_r) (EX.go (T := T) (ed_var (d := .int (pn : Nat)) (i := 7) rfl rfl) (.refl a9.sub) fun u F10 H10 a10 eu => ?_)) nd
      obtain rfl : u = .int (pn : Nat) := eu
      have it10 := it9.up a10.ff
      refine rx_call c hr (EA.go (T := T) (eg_cons (ev_var (i := 0) rfl) (eg_cons (ed_min2 rfl (b_min g) (ed_int (i := 4)) (ed_add (ed_sub (ed_lent (b_len g) (ed_var (i := 6) rfl it10)) (ed_var (d := .int (pn : Nat)) (i := 7) rfl rfl)) ed_int)) eg_nil mono_im) mono_eq) (.refl a10.sub) fun vs F11 H11 a11 hv => ?_)
      obtain ⟨w1, _, rfl, rfl, w2, _, rfl, e2, rfl⟩ := hv
      generalize hlim : (if (((th.map stD).length : Nat) : Int) - (pn : Nat) + 1 < 4 then (((th.map stD).length : Nat) : Int) - (pn : Nat) + 1 else 4) = lim at e2
      obtain rfl : w2 = .int lim := e2
      have hlim1 : 0 < lim ∧ lim ≤ 4 ∧ lim ≤ ((th.length : Nat) : Int) - (pn : Nat) + 1 := by
        rw [ethl] at hlim
        split at hlim <;> omega
      have A11 := A9.trans (.of (a10.trans a11)) ok0
      refine ⟨F11, l, n + 1 + 1 + 1, lim, a11.sub, (((src7.step a8).step a9).step a10).step a11, by omega, hlim1.1, by omega, rfl, fun z F12 H12 a12 src12 z0 z1 => ?_⟩
      obtain ⟨zn, rfl⟩ : ∃ n : Nat, z = (n : Int) := ⟨z.toNat, by omega⟩
      refine ⟨(pn : Nat), (zn : Nat), rfl, rfl, ?_⟩
      have A12 := A11.trans a12 ok0
      have it12 := it10.up (a11.ff.trans a12.ff)
      have e3 : ((pn : Nat) : Int) + (zn : Nat) = ((pn + zn : Nat) : Int) := by omega
      dsimp only
      rw [e3]
      have hend : pn + zn ≤ th.length := by omega
      have own12 := own.stepM A12 nl.1 nl.2
      obtain ⟨kv2, xs2, d5, d6, d7, d8⟩ := id own12.ex
      have hz : 100 ≤ sizeLine := by decide
      show rB _ _ _ [some (.ref l), some vl, some vv, some (.ref od), some (.str y), some (.int wy), some vt, some (.int (pn : Nat)), none, none, some (.int ((pn + zn : Nat) : Int)), none] H12
      refine b_ret (T := T) (P := imP ((Ed.rem y pn (pn + zn)).d p)) (ed_tup (ds := [.str "remove", (Ed.rem y pn (pn + zn)).args, prD ((Ed.rem y pn (pn + zn)).new p)]) (ea_cons ed_str (ea_cons (ed_tup (ds := [.str y, .int (pn : Nat), .int ((pn + zn : Nat) : Int)]) (ea_cons (ed_var (d := .str y) (i := 4) rfl rfl) (ea_cons (ed_var (d := .int (pn : Nat)) (i := 7) rfl rfl) (ea_cons (ed_var (d := .int ((pn + zn : Nat) : Int)) (i := 10) rfl rfl) ea_nil)))) (ea_cons (ed_call cw hr (ea_cons (ex_dgetR (k := .inr "kept") (P := imP (prD p)) (room_u1 hr) (ev_var (i := 3) rfl) d5 ed_str rfl d6 mono_im) (ea_cons (ed_var (d := .str y) (i := 4) rfl rfl) (ea_cons (ED.to (d1 := thD (remT th pn (pn + zn))) (ed_addt (ed_take (ed_var (i := 6) rfl it12) (ed_var (d := .int (pn : Nat)) (i := 7) rfl rfl) (by rw [List.length_map]; exact hpl)) (ed_drop (ed_var (i := 6) rfl it12) (ed_var (d := .int ((pn + zn : Nat) : Int)) (i := 10) rfl rfl) (by rw [List.length_map]; exact hend)) (by simp only [List.length_take, List.length_drop, List.length_map]; omega)) (by unfold remT thD; rw [List.map_append, List.map_take, List.map_drop])) ea_nil))) ⟨thD p.1, thD p.2, thD (remT th pn (pn + zn)), y, rfl, by rw [with_chg hy, ← hT]; rfl⟩) ea_nil)))) a12.sub fun v F13 H13 a13 q => k v (.rem y pn (pn + zn)) F13 H13 (A12.trans (.of a13) ok0) ((src12.step a13).mono (by omega)) ⟨hy, by omega, by rw [hT]; exact hend⟩ q
    · -- replace
      have A9 := A8.trans (.of a9) ok0
      refine b_asgR (i := 11) (rx_call c4 hr (EA.go (T := T) (eg_cons (ev_var (i := 0) rfl) (eg_cons (P := eqP vl) (ev_var (i := 1) rfl) (eg_cons (P := eqP vv) (ev_var (i := 2) rfl) (eg_cons (ed_int (i := 8)) eg_nil mono_im) mono_eq) mono_eq) mono_eq) (.refl a9.sub) fun vs F10 H10 a10 hv => ?_)) nd
      obtain ⟨w1, _, rfl, rfl, w2, _, rfl, e2, w3, _, rfl, e3, w4, _, rfl, e4, rfl⟩ := hv
      obtain rfl : vl = w2 := Eq.symm e2
      obtain rfl : vv = w3 := Eq.symm e3
      obtain rfl : w4 = .int 8 := e4
      have x710 := (a8.ff.trans a9.ff).trans a10.ff
      refine ⟨F10, l, n + 1 + 1 + 1, 8, vl, vv, ls, us, a10.sub, ((src7.step a8).step a9).step a10, by omega, Nat.le_refl _, il7.up x710, iv7.up x710, hls, hll, hus, hu0, by omega, rfl, fun vt2 t2' F11 H11 a11 src11 q1 q2 q3 it11 => ?_⟩
      have A11 := (A9.trans (.of a10) ok0).trans a11 ok0
      have own11 := own.stepM A11 nl.1 nl.2
      obtain ⟨kv2, xs2, d5, d6, d7, d8⟩ := id own11.ex
      refine b_ret (T := T) (P := imP ((Ed.rep y t2').d p)) (ed_tup (ds := [.str "replace", (Ed.rep y t2').args, prD ((Ed.rep y t2').new p)]) (ea_cons ed_str (ea_cons (ed_tup (ds := [.str y, thD t2']) (ea_cons (ed_var (d := .str y) (i := 4) rfl rfl) (ea_cons (ed_var (i := 11) rfl it11) ea_nil))) (ea_cons (ed_call cw hr (ea_cons (ex_dgetR (k := .inr "kept") (P := imP (prD p)) (room_u1 hr) (ev_var (i := 3) rfl) d5 ed_str rfl d6 mono_im) (ea_cons (ed_var (d := .str y) (i := 4) rfl rfl) (ea_cons (ed_var (i := 11) rfl it11) ea_nil))) ⟨thD p.1, thD p.2, thD t2', y, rfl, by rw [with_chg hy]; rfl⟩) ea_nil)))) a11.sub fun v F12 H12 a12 q => k v (.rep y t2') F12 H12 (A11.trans (.of a12) ok0) ((src11.step a12).mono (by omega)) ⟨hy, q2, q3⟩ q
end
end Tw
namespace Tw
open PySem PySem.Spec PyProof.Rows L2 LamX
theorem w_ir : ¬ (("insert" : Str) = "remove") := by decide
theorem w_ri : ¬ (("remove" : Str) = "insert") := by decide
theorem w_pi : ¬ (("replace" : Str) = "insert") := by decide
theorem w_pr : ¬ (("replace" : Str) = "remove") := by decide
section
variable {P : Program} {w : World} {K : PySem.W.Frag} {mg : Str → Option Value} {base : Heap} {T : List (Addr × Str)} {C CB CN : Addr}
def spCalled (T : List (Addr × Str)) (C CB : Addr) : Sp := fun vs H Q E => ∃ F x pl p ps e va, Sub F H ∧ EdS C x pl p ps F H ∧ okQ p ∧ Ed.ok p e ∧ ps.length ≤ 100 ∧ Im F e.args va ∧ vs = [.ref x, .str e.word, va] ∧ ChgK T C CB x pl p ps (letN e.lt) (e.thr p) F H Q E
theorem EdS.at {x pl : Addr} {p : Pr} {ps : List Pr} {F H : Hp} (e : EdS C x pl p ps F H) : ∃ dx kv, H x = some (.ins C dx (edF kv pl)) := by
  obtain ⟨xs, ea, _⟩ := e.ex
  obtain ⟨dx, kv, q, _⟩ := ea.ex
  exact ⟨dx, kv, q⟩
theorem ok_called (F : DfN K mg "_law_called" 78) (ci : MetX P w K mg base 7 C "insert" ["self", "letter", "place", "steps"] (spIns T C CB)) (cr : MetX P w K mg base 7 C "remove" ["self", "letter", "begin", "end"] (spRem T C CB)) (cp : MetX P w K mg base 7 C "replace" ["self", "letter", "thread"] (spRep T C CB)) :
    ClX P w K mg base 8 "_law_called" ["_law_editor", "_law_word", "_law_parts_here"] (spCalled T C CB) := by
  refine clx_of (N := ["_law_editor", "_law_word", "_law_parts_here"]) F ⟨rfl, rfl, rfl, by decide +kernel, rfl, by decide +kernel, by decide +kernel⟩ (fun vs H Q E ⟨F, x, pl, p, ps, e, va, _, _, _, _, _, _, q, _⟩ => by rw [q]; rfl) (fun _ _ _ _ _ _ us hl => match us, hl with | [_, _, _], _ => rfl) ?_
  rintro f cdv A outer s H0 vs Q E hr ⟨F0, x, pl, p, ps, e, va, sF, e0, hp, ho, hps, ia, rfl, k⟩
  refine b_when (T := T) (et_eqS (ed_var (d := .str e.word) (i := 1) rfl rfl) ed_str) sF (fun z F1 H1 a1 => ?_) fun z F1 H1 a1 => ?_
  · cases e with
    | rem y m n => exact absurd (of_decide_eq_true z) w_ri
    | rep y t => exact absurd (of_decide_eq_true z) w_pi
    | ins y n st =>
      obtain ⟨h1, h2, h3, h4⟩ := ho
      have ia1 : Im F1 (.tuple [.str y, .int (n : Nat), thD st]) va := ia.up a1.ff
      have e1 := e0.step a1
      refine b_retR (rx_methX ci hr takesE (fun _ _ _ _ q => q) (EX.go (T := T) (ev_var (i := 0) rfl) (.refl a1.sub) fun u F2 H2 a2 eu => ?_))
      have e2 := e1.step a2
      obtain ⟨dx, kv, q⟩ := e2.at
      have ia2 := ia1.up a2.ff
      refine ⟨x, dx, _, eu, q, rfl, EA.go (T := T) (ea_cons (ed_ixt (ed_var (i := 2) rfl ia2) ed_int (atI_nat (i := 0) rfl)) (ea_cons (ed_ixt (ed_var (i := 2) rfl ia2) ed_int (atI_nat (i := 1) rfl)) (ea_cons (ed_ixt (ed_var (i := 2) rfl ia2) ed_int (atI_nat (i := 2) rfl)) ea_nil))) (.refl a2.sub) fun vs F3 H3 a3 hv => ?_⟩
      obtain ⟨w1, _, rfl, q1, w2, _, rfl, q2, w3, _, rfl, q3, rfl⟩ := hv
      obtain rfl : w1 = .str y := q1
      obtain rfl : w2 = .int (n : Nat) := q2
      exact ⟨F3, x, pl, p, ps, y, n, st, w3, a3.sub, e2.step a3, hp, h1, h2, h3, by omega, hps, q3, rfl, k.step e0 ((a1.trans a2).trans a3) fun _ z => z⟩
  · refine b_when (T := T) (et_eqS (ed_var (d := .str e.word) (i := 1) rfl rfl) ed_str) a1.sub (fun z2 F2 H2 a2 => ?_) fun z2 F2 H2 a2 => ?_
    · cases e with
      | ins y n st => exact absurd (of_decide_eq_true z2) w_ir
      | rep y t => exact absurd (of_decide_eq_true z2) w_pr
      | rem y m n =>
        obtain ⟨h1, h2, h3⟩ := ho
        have A2 := a1.trans a2
        have ia2 : Im F2 (.tuple [.str y, .int (m : Nat), .int (n : Nat)]) va := ia.up A2.ff
        have e2 := e0.step A2
        refine b_retR (rx_methX cr hr takesE (fun _ _ _ _ q => q) (EX.go (T := T) (ev_var (i := 0) rfl) (.refl a2.sub) fun u F3 H3 a3 eu => ?_))
        have e3 := e2.step a3
        obtain ⟨dx, kv, q⟩ := e3.at
        have ia3 := ia2.up a3.ff
        refine ⟨x, dx, _, eu, q, rfl, EA.go (T := T) (ea_cons (ed_ixt (ed_var (i := 2) rfl ia3) ed_int (atI_nat (i := 0) rfl)) (ea_cons (ed_ixt (ed_var (i := 2) rfl ia3) ed_int (atI_nat (i := 1) rfl)) (ea_cons (ed_ixt (ed_var (i := 2) rfl ia3) ed_int (atI_nat (i := 2) rfl)) ea_nil))) (.refl a3.sub) fun vs F4 H4 a4 hv => ?_⟩
        obtain ⟨w1, _, rfl, q1, w2, _, rfl, q2, w3, _, rfl, q3, rfl⟩ := hv
        obtain rfl : w1 = .str y := q1
        obtain rfl : w2 = .int (m : Nat) := q2
        obtain rfl : w3 = .int (n : Nat) := q3
        exact ⟨F4, x, pl, p, ps, y, m, n, a4.sub, e3.step a4, hp, h1, h2, h3, hps, rfl, k.step e0 ((A2.trans a3).trans a4) fun _ z => z⟩
    · cases e with
      | ins y n st => exact absurd rfl (of_decide_eq_false z)
      | rem y m n => exact absurd rfl (of_decide_eq_false z2)
      | rep y t =>
        obtain ⟨h1, h2, h3⟩ := ho
        have A2 := a1.trans a2
        have ia2 : Im F2 (.tuple [.str y, thD t]) va := ia.up A2.ff
        have e2 := e0.step A2
        refine b_retR (rx_methX cp hr takesE (fun _ _ _ _ q => q) (EX.go (T := T) (ev_var (i := 0) rfl) (.refl a2.sub) fun u F3 H3 a3 eu => ?_))
        have e3 := e2.step a3
        obtain ⟨dx, kv, q⟩ := e3.at
        have ia3 := ia2.up a3.ff
        refine ⟨x, dx, _, eu, q, rfl, EA.go (T := T) (ea_cons (ed_ixt (ed_var (i := 2) rfl ia3) ed_int (atI_nat (i := 0) rfl)) (ea_cons (ed_ixt (ed_var (i := 2) rfl ia3) ed_int (atI_nat (i := 1) rfl)) ea_nil)) (.refl a3.sub) fun vs F4 H4 a4 hv => ?_⟩
        obtain ⟨w1, _, rfl, q1, w2, _, rfl, q2, rfl⟩ := hv
        obtain rfl : w1 = .str y := q1
        exact ⟨F4, x, pl, p, ps, y, t, w2, a4.sub, e3.step a4, hp, h1, h2, by omega, hps, q2, rfl, k.step e0 ((A2.trans a3).trans a4) fun _ z => z⟩
end
end Tw
namespace Tw
open PySem PySem.Spec PyProof.Rows L2 LamX
/-! ### _law_met: what it makes of what it calls -/
-- what is known of the exceptions' classes
structure ExF (K : PySem.W.Frag) (mg : Str → Option Value) (CB CN CL CP CS CT : Addr) : Prop where
  gL : mg "BadLetter" = some (.ref CL)
  gP : mg "BadPlace" = some (.ref CP)
  gS : mg "BadSteps" = some (.ref CS)
  gB : mg "BadPair" = some (.ref CB)
  gN : mg "NothingToUndo" = some (.ref CN)
  gT : mg "ThreadError" = some (.ref CT)
  bL : PySem.W.exmOne K (.ref CB) (.ref CL) = some false
  bP : PySem.W.exmOne K (.ref CB) (.ref CP) = some false
  bS : PySem.W.exmOne K (.ref CB) (.ref CS) = some false
  bB : PySem.W.exmOne K (.ref CB) (.ref CB) = some true
  nL : PySem.W.exmOne K (.ref CN) (.ref CL) = some false
  nP : PySem.W.exmOne K (.ref CN) (.ref CP) = some false
  nS : PySem.W.exmOne K (.ref CN) (.ref CS) = some false
  nB : PySem.W.exmOne K (.ref CN) (.ref CB) = some false
  nN : PySem.W.exmOne K (.ref CN) (.ref CN) = some true
  xf : XfC K CB
  xv : PySem.W.findIn K (.ref CB) "value" = some none
-- the tuple (word, v) comes
def giveT (Q : VK) (word : Str) (v : V) (H : Hp) : Prop := ∀ r, H r = none → Q (.ref r) (upd H r (.tup [.str word, v]))
def metE (CB CN : Addr) (Q : VK) : XK := fun cls d H => (cls = .ref CB ∧ ∃ dd v, d = some dd ∧ H dd = some (.xd [("value", v)]) ∧ giveT Q "pair" v H) ∨ (cls = .ref CN ∧ giveT Q "undo" .non H)
def TMet (CB CN : Addr) : (XK → Hp → VK → Prop) → Hp → VK → Prop := fun tl H Q => ∀ (E' : XK) (Q' : VK), (∀ cls d H', metE CB CN Q cls d H' → E' cls d H') → (∀ v H', giveT Q "fine" v H' → Q' v H') → tl E' H Q'
theorem takes_len {X : Cx} {W : WX} (t : Takes X W) : Takes X (fun cls d σ H => σ.length = X.N.length → W cls d σ H) := fun u s' ⟨a, B, sI, pins, σ, H, cls, d, e, I, nb, up, sky, na, os, ag, w⟩ => t u s' ⟨a, B, sI, pins, σ, H, cls, d, e, I, nb, up, sky, na, os, ag, w I.len⟩
abbrev NMet : List Str := ["_law_call", "_law_found", "error"]
-- the clauses
def cFalse (C : Addr) (i : Option Nat) : Clause := ⟨.ref C, i, fun _ _ _ _ _ _ => False⟩
def cPair (CB : Addr) : Clause := ⟨.ref CB, some 2, fun a cls d D σ H => σ[2]? = some (some (.ref a)) ∧ cls = .ref CB ∧ ∃ dd v, d = some dd ∧ H dd = some (.xd [("value", v)]) ∧ ∀ r, H r = none → D.nx (σ.set 1 (some (.ref r))) (upd H r (.tup [.str "pair", v]))⟩
def cUndo (CN : Addr) : Clause := ⟨.ref CN, none, fun _ _ _ D σ H => ∀ r, H r = none → D.nx (σ.set 1 (some (.ref r))) (upd H r (.tup [.str "undo", .non]))⟩
theorem suite_false {X : Cx} {st : List Stmt} : PSs X st (fun _ _ _ => False) := ⟨fun _ _ _ _ _ _ h => h.elim⟩
abbrev metX (X : Cx) (g : Addr) (cdg : Value) (s : Shared) (H : Hp) : Cx := (cxOf C8.CX0 X.prog X.w X.K X.mg X.base NMet "_law_met" (defScope (top 79)) g cdg X.A X.stack s H C8.E0).nox
theorem met_gives {X : Cx} {CB CN CL CP CS CT : Addr} (x : ExF X.K X.mg CB CN CL CP CS CT) {g : Addr} {cdg : Value} {q : Str} : GivesTo X NMet "_law_met" (defScope (top 79)) g cdg (defBody (top 79)) "_law_call" q (TMet CB CN) := by
  intro f c' s H Q tl act hc h
  have nd : NMet.Nodup := by decide +kernel
  refine ⟨_, pss_r, ?_⟩
  show rB (cxOf C8.CX0 X.prog X.w X.K X.mg X.base NMet "_law_met" (defScope (top 79)) g cdg X.A X.stack s H C8.E0).nox (defBody (top 79)) _ (L2.start NMet [.ref f]) H
  refine b_asgR (i := 1) (goE pe_non ?_) nd
  show rB _ _ _ [some (.ref f), some .non, none] H
  refine goC (ps_clauses (X := (cxOf C8.CX0 X.prog X.w X.K X.mg X.base NMet "_law_met" (defScope (top 79)) g cdg X.A X.stack s H C8.E0).nox)
    (ks := [cFalse CL (some 2), cFalse CP (some 2), cFalse CS (some 2), cPair CB, cUndo CN, cFalse CT none])
    (tb := fun (W : WX) (D : Ends) (σ : L2.St) (H : Hp) => ∃ Ech : XK, (∀ (cls : Value) (d : Option Addr) (σ' : L2.St) (H' : Hp), Ech cls d H' → σ'.length = 3 → W cls d σ' H') ∧ σ[0]? = some (some (.ref f)) ∧ H c' = some (CodeO c' q) ∧ tl Ech H fun v H2 => [V.str "fine", v].length ≤ sizeLine ∧ ∀ p, H2 p = none → D.nx (σ.set 1 (some (.ref p))) (upd H2 p (.tup [.str "fine", v])))
    rfl rfl takes0 (fun W pn xe tk _ => ?_) ?_) ?_
  · refine ⟨fun pins s' σ H' D I h' => ?_⟩
    obtain ⟨Ech, hW, h1, h2, h3⟩ := h'
    have hp := fun p1 p2 => act _ pn xe Ech p1 p2 (takes_len tk) hW
    exact (pss_one (ps_set (X := (cxOf C8.CX0 X.prog X.w X.K X.mg X.base NMet "_law_met" (defScope (top 79)) g cdg X.A X.stack s H C8.E0).tr pn xe) (i := 1) nd rfl (.inl rfl) (pe_tup (pa_cons pe_str (pa_cons (hp _ _) pa_nil))))).run pins s' σ H' D I ⟨h1, h2, h3⟩
  · have nm : ∀ {x : Str} {c : Addr}, Gl (cxOf C8.CX0 X.prog X.w X.K X.mg X.base NMet "_law_met" (defScope (top 79)) g cdg X.A X.stack s H C8.E0).nox x → (x == ("__debug__" : Str)) = false → X.mg x = some (.ref c) → Names (cxOf C8.CX0 X.prog X.w X.K X.mg X.base NMet "_law_met" (defScope (top 79)) g cdg X.A X.stack s H C8.E0).nox x (.ref c) := fun h1 h2 h3 => ⟨h1, h2, .inl h3⟩
    refine .named (i := 2) (nm rfl (by decide) x.gL) rfl nd rfl rfl (fun a oe cls d pn _ _ => suite_false) (.named (i := 2) (nm rfl (by decide) x.gP) rfl nd rfl rfl (fun a oe cls d pn _ _ => suite_false) (.named (i := 2) (nm rfl (by decide) x.gS) rfl nd rfl rfl (fun a oe cls d pn _ _ => suite_false) (.named (i := 2) (nm rfl (by decide) x.gB) rfl nd rfl rfl (fun a oe cls d pn hz hf => ?_) (.bare (nm rfl (by decide) x.gN) rfl (fun a oe cls d pn _ _ => ?_) (.bare (nm rfl (by decide) x.gT) rfl (fun a oe cls d pn _ _ => suite_false) .nil)))))
    · refine ⟨fun pins s' σ H' D I h' => ?_⟩
      obtain ⟨h1, h2, dd, v, h3, h4, h5⟩ := h'
      exact (pss_one (ps_set (X := (metX X g cdg s H).suite a ((a, oe) :: pn)) (i := 1) nd rfl (.inl rfl) (pe_tup (pa_cons pe_str (pa_cons (pe_xf (X := metX X g cdg s H) (a := a) (oe := oe) (pn := pn) x.xf x.xv hz hf (pe_var (i := 2) rfl (.inl rfl))) pa_nil))))).run pins s' σ H' D I ⟨.ref a, h1, rfl, h2, dd, _, v, h3, h4, rfl, Nat.le_of_ble_eq_true rfl, h5⟩
    · refine ⟨fun pins s' σ H' D I h' => ?_⟩
      exact (pss_one (ps_set (X := (metX X g cdg s H).suite a ((a, oe) :: pn)) (i := 1) nd rfl (.inl rfl) (pe_tup (pa_cons pe_str (pa_cons pe_non pa_nil))))).run pins s' σ H' D I ⟨Nat.le_of_ble_eq_true rfl, h'⟩
  · refine ⟨fun cls d H' => metE CB CN Q cls d H', ?_, rfl, hc, h _ _ (fun _ _ _ z => z) fun v H' gt => ⟨Nat.le_of_ble_eq_true rfl, fun p hp => ?_⟩⟩
    · intro cls d σ' H' hm hlen
      obtain ⟨y0, y1, y2, rfl⟩ : ∃ y0 y1 y2, σ' = [y0, y1, y2] := by
        match σ', hlen with
        | [a, b, c], _ => exact ⟨a, b, c, rfl⟩
      have ret : ∀ {r : Addr} {y0 y2 : Option V} {H2 : Hp}, Q (.ref r) H2 → rB (metX X g cdg s H) [.Return (some (.Name "_law_found" ⟨447, 11, 447, 21⟩)) ⟨447, 4, 447, 21⟩] { nx := fun _ H' => Q .non H', rt := Q } [y0, some (.ref r), y2] H2 := fun {r y0 y2 H2} h => b_retR (goE (pe_var (i := 1) rfl (.inl rfl)) ⟨.ref r, rfl, h⟩)
      rcases hm with ⟨rfl, dd, v, rfl, h4, gt⟩ | ⟨rfl, gt⟩
      · exact ⟨false, x.bL, (fun z => by cases z), fun _ => ⟨false, x.bP, (fun z => by cases z), fun _ => ⟨false, x.bS, (fun z => by cases z), fun _ => ⟨true, x.bB, fun _ a ha => ⟨rfl, rfl, dd, v, rfl, h4, fun r hr => ret (gt r hr)⟩, (fun z => by cases z)⟩⟩⟩⟩
      · exact ⟨false, x.nL, (fun z => by cases z), fun _ => ⟨false, x.nP, (fun z => by cases z), fun _ => ⟨false, x.nS, (fun z => by cases z), fun _ => ⟨false, x.nB, (fun z => by cases z), fun _ => ⟨true, x.nN, fun _ a ha r hr => ret (gt r hr), (fun z => by cases z)⟩⟩⟩⟩⟩
    · exact b_retR (goE (pe_var (i := 1) rfl (.inl rfl)) ⟨.ref p, rfl, gt p hp⟩)
end Tw
set_option maxHeartbeats 1000000
namespace Tw
open PySem PySem.Spec PyProof.Rows L2 LamX
/-! ### repr -/
-- data that repr can show within the line
structure Sw (B k w : Nat) (d : PyData) : Prop where
  nd : d.hasDict = false
  sh : d.showable = true
  ls : d.leavesShort B = true
  dp : d.depth ≤ k
  wt : d.weight + 1 ≤ w
theorem Sw.le {B k w k' w' : Nat} {d : PyData} (h : Sw B k w d) (hk : k ≤ k') (hw : w ≤ w') : Sw B k' w' d := ⟨h.nd, h.sh, h.ls, Nat.le_trans h.dp hk, Nat.le_trans h.wt hw⟩
theorem Sw.fits {B k w : Nat} {d : PyData} (h : Sw B k w d) (hB : 8 ≤ B) (hz : (B + 2) * w + B ≤ 16777216) : d.shown.length ≤ sizeLine := by
  have h1 := PyData.shown_le B hB d h.ls
  have h2 : (B + 2) * d.weight ≤ (B + 2) * w := Nat.mul_le_mul (Nat.le_refl _) (Nat.le_trans (Nat.le_succ _) h.wt)
  rw [sizeLine_eq]
  omega
theorem sw_all {B k w : Nat} : ∀ {ds : List PyData}, (∀ d ∈ ds, Sw B k w d) → PyData.hasDictAll ds = false ∧ PyData.showableAll ds = true ∧ PyData.leavesShortAll B ds = true ∧ PyData.depthAll ds ≤ k ∧ PyData.weightAll ds ≤ ds.length * w
  | [], _ => ⟨rfl, rfl, rfl, Nat.zero_le _, Nat.zero_le _⟩
  | d :: ds, h => by
    obtain ⟨h1, h2, h3, h4, h5⟩ := sw_all (ds := ds) fun x hx => h x (List.mem_cons_of_mem _ hx)
    have hd := h d (List.mem_cons_self ..)
    refine ⟨by rw [PyData.hasDictAll, hd.nd, h1]; rfl, by rw [PyData.showableAll, hd.sh, h2]; rfl, by rw [PyData.leavesShortAll, hd.ls, h3]; rfl, ?_, ?_⟩
    · have := hd.dp
      rw [PyData.depthAll]; omega
    · have := hd.wt
      rw [PyData.weightAll, List.length_cons, Nat.succ_mul]; omega
theorem sw_tup {B k w n : Nat} {ds : List PyData} (h : ∀ d ∈ ds, Sw B k w d) (hl : ds.length ≤ n) : Sw B (k + 1) (n * w + 1) (.tuple ds) := by
  obtain ⟨h1, h2, h3, h4, h5⟩ := sw_all h
  have := Nat.mul_le_mul hl (Nat.le_refl w)
  exact ⟨by rw [PyData.hasDict]; exact h1, by rw [PyData.showable]; exact h2, by rw [PyData.leavesShort]; exact h3, by rw [PyData.depth]; omega, by rw [PyData.weight]; omega⟩
theorem sw_lst {B k w n : Nat} {ds : List PyData} (h : ∀ d ∈ ds, Sw B k w d) (hl : ds.length ≤ n) : Sw B (k + 1) (n * w + 1) (.list ds) := by
  obtain ⟨h1, h2, h3, h4, h5⟩ := sw_all h
  have := Nat.mul_le_mul hl (Nat.le_refl w)
  exact ⟨by rw [PyData.hasDict]; exact h1, by rw [PyData.showable]; exact h2, by rw [PyData.leavesShort]; exact h3, by rw [PyData.depth]; omega, by rw [PyData.weight]; omega⟩
theorem sw_none {B : Nat} : Sw B 0 1 .none := ⟨rfl, rfl, rfl, Nat.le_refl _, Nat.le_refl _⟩
theorem sw_bool {B : Nat} {b : Bool} : Sw B 0 1 (.bool b) := ⟨rfl, rfl, rfl, Nat.le_refl _, Nat.le_refl _⟩
theorem sw_int {B m : Nat} {i : Int} (h : i.natAbs < 2 ^ m) (h2 : i.natAbs < 10 ^ (B - 1)) (hB : 8 ≤ B) (hm : m ≤ 1900) : Sw B 0 (m + 2) (.int i) := by
  have hlog : i.natAbs ≠ 0 → i.natAbs.log2 < m := fun z => (Nat.log2_lt z).mpr h
  have hlog2 : i.natAbs.log2 < 1920 := by
    by_cases z : i.natAbs = 0
    · rw [z]; decide
    · have := hlog z; omega
  refine ⟨rfl, by rw [PyData.showable]; exact decide_eq_true hlog2, ?_, Nat.le_refl _, ?_⟩
  · rw [PyData.leavesShort, decide_eq_true_eq]
    have e := int_text_length_le10 (k := B - 1) (by omega) h2
    show (Str.ofString (toString i)).length ≤ B
    rw [PySem.ofString_length]
    omega
  · rw [PyData.weight]
    split
    · omega
    · rename_i z
      have z : i ≠ 0 := by simpa using z
      have := hlog (by omega)
      omega
theorem sw_nat {B n : Nat} (h : n < 128) (hB : 8 ≤ B) : Sw B 0 9 (.int (n : Nat)) := by
  have e : 10 ^ 7 ≤ 10 ^ (B - 1) := Nat.pow_le_pow_right (by decide) (by omega)
  have : (10 : Nat) ^ 7 = 10000000 := by decide
  exact sw_int (m := 7) (by rw [Int.natAbs_natCast]; exact h) (by rw [Int.natAbs_natCast]; omega) hB (by decide)
theorem sw_str {B : Nat} {x : Str} (h : PyData.strOk x = true) (hl : x.length ≤ 8) : Sw B 0 9 (.str x) := by
  refine ⟨rfl, rfl, ?_, Nat.le_refl _, ?_⟩
  · have h0 : x.cps.all (fun c => decide (c < 1114112)) = true := h
    rw [PyData.leavesShort, List.all_eq_true]
    intro c hc
    have := (Array.all_eq_true_iff_forall_mem.mp h0) c (Array.mem_toList_iff.mp hc)
    have h2 : c < 1114112 := by simpa using this
    have e : (16 : Nat) ^ 8 = 4294967296 := by decide
    exact decide_eq_true (by omega)
  · rw [PyData.weight]
    have : x.cps.size = x.length := rfl
    omega
def rRepr (K : PySem.W.Frag) : List V → Hp → VK → Prop := fun vs H Q => ∃ a d, vs = [.ref a] ∧ Dp K H (.ref a) d ∧ d.hasDict = false ∧ d.showable = true ∧ d.depth ≤ 30 ∧ d.shown.length ≤ sizeLine ∧ Q (.str d.shown) H
theorem cr_repr {X : Cx} (hg : X.A.guards = some []) (hu : X.A.units + 64 < cLine) : CallR X (.builtin "repr") (rRepr X.K) := by
  intro pins s σ H vs us Q I r h
  obtain ⟨a, d, rfl, hd, h1, h2, h3, h4, q⟩ := h
  rw [Vals.ref1 r]
  obtain ⟨as, rd⟩ := Dp.reads I d (.ref a) (.ref a) hd rfl
  exact repr_of_reads' (prog := X.prog) (w := X.w) (h₀ := s.heap) rd h2 (fun z => by rw [h1] at z; cases z) hg (by omega) (fun _ _ e => e) (fun h' u tk hk => ⟨.str d.shown, H, I.kept (t' := tk) hk, ⟨u, rfl⟩, q⟩) h4
section
variable {T : List (Addr × Str)} {X : Cx} {e : Expr} {σ : L2.St} {F H : Hp} {pos p : Pos} {d : PyData} {ds : List PyData}
theorem im_ref {F : Hp} {v : V} (h : Im F d v) (ht : (∃ ds, d = .tuple ds) ∨ ∃ ds, d = .list ds) : ∃ a, v = .ref a := by
  rcases ht with ⟨ds, rfl⟩ | ⟨ds, rfl⟩
  · obtain ⟨a, _, e, _⟩ := h; exact ⟨a, e⟩
  · obtain ⟨a, _, e, _⟩ := h; exact ⟨a, e⟩
theorem ed_repr {B k w : Nat} (hgd : X.A.guards = some []) (hu : X.A.units + 64 < cLine) (hm : X.mg "repr" = none) (h : ED T X e σ F H d) (ht : (∃ ds, d = .tuple ds) ∨ ∃ ds, d = .list ds) (sw : Sw B k w d) (hk : k ≤ 30) (hB : 8 ≤ B) (hz : (B + 2) * w + B ≤ 16777216) (hg : Gl X "repr" := by rfl) (hs : starEach [e] X.env = (false, eval e X.env) :: starEach [] X.env := by rfl) : ED T X (.Call (.Name "repr" p) [e] [] pos) σ F H (.str d.shown) :=
  ex_callB (cr_repr hgd hu) hm boot_reprb (ea1 h mono_im hs) (fun vs F1 H1 a1 ⟨v, e1, q⟩ Q k2 => by
    obtain ⟨a, rfl⟩ := im_ref q ht
    exact ⟨a, d, e1, Im.dp a1.sub _ _ sw.nd q, sw.nd, sw.sh, Nat.le_trans sw.dp hk, sw.fits hB hz, k2 _ F1 H1 (.refl a1.sub) rfl⟩) hg (he := hs)
end
end Tw
namespace Tw
open PySem PySem.Spec PyProof.Rows L2 LamX
/-! ### how large the answers are (plain) -/
theorem sw_step {s : Step} (h : okS s) : Sw 13 1 19 (stD s) := by
  have hw : PyData.strOk s.1 = true ∧ s.1.length ≤ 8 := by
    have : ∀ w ∈ wordsL, PyData.strOk w = true ∧ w.length ≤ 8 := by decide +kernel
    exact this _ h.1
  refine (sw_tup (B := 13) (k := 0) (w := 9) (n := 2) (ds := [.str s.1, .str s.2]) (fun d hd => ?_) (Nat.le_refl 2)).le (Nat.le_refl _) (by decide)
  simp only [List.mem_cons, List.mem_nil_iff, or_false] at hd
  rcases hd with e | e <;> rw [e]
  · exact sw_str hw.1 hw.2
  · exact sw_str (ok_str h.2) h.2.2.1
theorem sw_thr {t : Thr} (h : okT t) (hl : t.length ≤ 200) : Sw 13 2 3801 (thD t) := by
  refine sw_tup (B := 13) (k := 1) (w := 19) (n := 200) (fun d hd => ?_) (by rw [List.length_map]; exact hl)
  obtain ⟨s, hs, rfl⟩ := List.mem_map.mp hd
  exact sw_step (h s hs)
theorem sw_pr {p : Pr} (h1 : okT p.1) (h2 : okT p.2) (l1 : p.1.length ≤ 200) (l2 : p.2.length ≤ 200) : Sw 13 3 7603 (prD p) := by
  refine sw_tup (B := 13) (k := 2) (w := 3801) (n := 2) (ds := [thD p.1, thD p.2]) (fun d hd => ?_) (Nat.le_refl 2)
  simp only [List.mem_cons, List.mem_nil_iff, or_false] at hd
  rcases hd with e | e <;> rw [e]
  · exact sw_thr h1 l1
  · exact sw_thr h2 l2
-- the numbers in a contest
theorem conts_small {p : Pr} (h : okP p) : ∀ c ∈ conts p, c.ab < 40 ∧ c.ae < 40 ∧ c.bb < 40 ∧ c.be < 40 ∧ PyData.strOk c.kind = true ∧ c.kind.length ≤ 8 ∧ okN c.name := by
  have l1 := (isThr_keep h.2.2.1).1
  have l2 := (isThr_keep h.2.2.2).1
  intro c hc
  rw [← lconts_eq h] at hc
  unfold lconts at hc
  have kl : PyData.strOk "lock" = true ∧ ("lock" : Str).length ≤ 8 := by decide +kernel
  have kd : PyData.strOk "data" = true ∧ ("data" : Str).length ≤ 8 := by decide +kernel
  rcases List.mem_append.mp (List.mem_mergeSort.mp hc) with h3 | h3
  · unfold lLockCs at h3
    obtain ⟨a, ha, h3⟩ := List.mem_flatMap.mp h3
    obtain ⟨b, hb, h3⟩ := List.mem_flatMap.mp h3
    unfold lLockOne at h3
    split at h3
    · rw [List.mem_singleton.mp h3]
      have sa := (parts_mem h.2.2.1 a).mp ha
      have sb := (parts_mem h.2.2.2 b).mp hb
      have e1 := (List.getElem?_eq_some_iff.mp sa.bg).1
      have e2 := (List.getElem?_eq_some_iff.mp sa.en).1
      have e3 := (List.getElem?_eq_some_iff.mp sb.bg).1
      have e4 := (List.getElem?_eq_some_iff.mp sb.en).1
      exact ⟨by show a.b < 40; omega, by show a.e < 40; omega, by show b.b < 40; omega, by show b.e < 40; omega, kl.1, kl.2, (part_ok h.1 ha).2⟩
    · cases h3
  · unfold lDataCs at h3
    obtain ⟨a, ha, h3⟩ := List.mem_flatMap.mp h3
    obtain ⟨b, hb, h3⟩ := List.mem_flatMap.mp h3
    unfold lDataOne at h3
    split at h3
    · rw [List.mem_singleton.mp h3]
      have ea := zip_mem.mp ha
      have e1 := (List.getElem?_eq_some_iff.mp ea).1
      have e3 := (List.getElem?_eq_some_iff.mp (zip_mem.mp hb)).1
      exact ⟨by show a.2 < 40; omega, by show a.2 < 40; omega, by show b.2 < 40; omega, by show b.2 < 40; omega, kd.1, kd.2, (h.1 _ (List.mem_of_getElem? ea)).2⟩
    · cases h3
theorem sw_conts {p : Pr} (h : okQ p) : Sw 13 2 6601 (.tuple ((conts p).map Con.d)) := by
  refine sw_tup (B := 13) (k := 1) (w := 55) (n := 120) (fun d hd => ?_) (by rw [List.length_map]; exact h.2)
  obtain ⟨c, hc, rfl⟩ := List.mem_map.mp hd
  obtain ⟨c1, c2, c3, c4, c5, c6, c7⟩ := conts_small h.1 c hc
  refine (sw_tup (B := 13) (k := 0) (w := 9) (n := 6) (ds := [.int c.ab, .int c.ae, .int c.bb, .int c.be, .str c.kind, .str c.name]) (fun d hd => ?_) (Nat.le_refl 6))
  simp only [List.mem_cons, List.mem_nil_iff, or_false] at hd
  rcases hd with e | e | e | e | e | e <;> rw [e]
  · exact sw_nat (by omega) (by decide)
  · exact sw_nat (by omega) (by decide)
  · exact sw_nat (by omega) (by decide)
  · exact sw_nat (by omega) (by decide)
  · exact sw_str c5 c6
  · exact sw_str (ok_str c7) c7.2.1
theorem sw_parts {l : List Con} (h : l.length ≤ 120) : Sw 13 2 129721 (.tuple ((partsF l).map tupD)) := by
  refine sw_tup (B := 13) (k := 1) (w := 1081) (n := 120) (fun d hd => ?_) (by rw [List.length_map]; exact Nat.le_trans (parts_len l) h)
  obtain ⟨r, hr, rfl⟩ := List.mem_map.mp hd
  have hb := whole_row (parts_row hr)
  have hl := whole_len (parts_row hr)
  refine (sw_tup (B := 13) (k := 0) (w := 9) (n := 120) (fun d hd => ?_) (by rw [List.length_map]; omega))
  obtain ⟨i, hi, rfl⟩ := List.mem_map.mp hd
  have := hb i hi
  exact sw_nat (by omega) (by decide)
theorem sw_dead {p : Pr} (h : okP p) : Sw 300 2 31940 (.tuple ((deadF p).map stN)) := by
  have l1 := (isThr_keep h.2.2.1).1
  have l2 := (isThr_keep h.2.2.2).1
  have hk := keys_len (reach_ok p)
  have hG : (p.1.length + 1) * (p.2.length + 1) ≤ 1681 := Nat.le_trans (Nat.mul_le_mul (by omega) (by omega)) (by decide : 41 * 41 ≤ 1681)
  have hdl : (deadF p).length ≤ 1681 := by
    unfold deadF
    refine Nat.le_trans (List.length_filter_le _ _) ?_
    rw [List.length_mergeSort]
    unfold reachQ
    rw [List.length_map]
    omega
  refine sw_tup (B := 300) (k := 1) (w := 19) (n := 1681) (fun d hd => ?_) (by rw [List.length_map]; exact hdl)
  obtain ⟨q, hq, rfl⟩ := List.mem_map.mp hd
  unfold deadF at hq
  have hq := (reachQ_keys p).2 q (List.mem_mergeSort.mp (List.mem_filter.mp hq).1)
  refine (sw_tup (B := 300) (k := 0) (w := 9) (n := 2) (ds := [.int (q.1 : Nat), .int (q.2 : Nat)]) (fun d hd => ?_) (Nat.le_refl 2))
  simp only [List.mem_cons, List.mem_nil_iff, or_false] at hd
  have g1 : q.1 ≤ p.1.length := hq.1
  have g2 : q.2 ≤ p.2.length := hq.2
  rcases hd with e | e <;> rw [e]
  · exact sw_nat (by omega) (by decide)
  · exact sw_nat (by omega) (by decide)
theorem sw_races {l : List Con} (h : l.length ≤ 120) (hz : wfCs l) : Sw 300 1 1081 (.tuple ((racesF l).map fun i => PyData.int (i : Nat))) := by
  have hl : (racesF l).length ≤ 120 := by
    unfold racesF
    rw [List.length_map]
    exact Nat.le_trans (List.length_filter_le _ _) (Nat.le_trans (parts_len l) h)
  refine sw_tup (B := 300) (k := 0) (w := 9) (n := 120) (fun d hd => ?_) (by rw [List.length_map]; exact hl)
  obtain ⟨i, hi, rfl⟩ := List.mem_map.mp hd
  unfold racesF at hi
  obtain ⟨r, hr, rfl⟩ := List.mem_map.mp hi
  have hr := parts_row (List.mem_filter.mp hr).1
  have := whole_row hr _ (hd0_mem (whole_ne _ hz r hr))
  exact sw_nat (by omega) (by decide)
-- how many runs
theorem sum_le {M : Int} (hM : 0 ≤ M) : ∀ {l : List Int}, (∀ x ∈ l, 0 ≤ x ∧ x ≤ M) → 0 ≤ l.sum ∧ l.sum ≤ l.length * M
  | [], _ => by simp
  | x :: l, h => by
    obtain ⟨h1, h2⟩ := sum_le hM (l := l) fun y hy => h y (List.mem_cons_of_mem _ hy)
    obtain ⟨h3, h4⟩ := h x (List.mem_cons_self ..)
    rw [List.sum_cons, List.length_cons]
    have : (((l.length + 1 : Nat) : Int)) * M = l.length * M + M := by
      rw [Int.natCast_add, Int.add_mul]; simp
    omega
theorem vD_put {tb : Tb Key} {i j : Nat} {v : Int} : vD (putD tb (.inl (i : Int)) (.int v)) j = if j = i then v else vD tb j := by
  unfold vD
  rw [valD_put]
  by_cases e : j = i
  · subst e; rw [if_pos rfl, if_pos rfl]
  · rw [if_neg fun z => e (by have := Sum.inl.inj z; omega), if_neg e]
theorem ways_bd {l : List Con} (h : nP l ≤ 120) : ∀ j, (∀ i, 0 ≤ vD (waysS l j).1 i ∧ vD (waysS l j).1 i ≤ 121 ^ j) ∧ 1 ≤ (waysS l j).2 ∧ (waysS l j).2 ≤ (j + 1) * 121 ^ j
  | 0 => by
    refine ⟨fun i => ?_, by show (1 : Int) ≤ 1; decide, by show (1 : Int) ≤ _; simp⟩
    have : vD (waysS l 0).1 i = 0 := rfl
    rw [this]
    exact ⟨Int.le_refl _, by simp⟩
  | j + 1 => by
    obtain ⟨h1, h2, h3⟩ := ways_bd h j
    have hp : (0 : Int) < 121 ^ j := Int.pow_pos (by decide)
    have e1 : (121 : Int) ^ (j + 1) = 121 ^ j * 121 := Int.pow_succ ..
    have e3 : (((j + 1 : Nat) : Int) + 1) * 121 ^ (j + 1) = ((j : Int) + 1) * 121 ^ j * 121 + 121 ^ j * 121 := by
      rw [e1, Int.natCast_add, Int.add_mul]
      simp [Int.mul_assoc]
    have hj0 : (0 : Int) ≤ ((j : Int) + 1) * 121 ^ j := Int.mul_nonneg (by omega) (by omega)
    cases hx : (byLen (fun i => (earlierR l i).length) (nP l))[j]? with
    | none =>
      have e : waysS l (j + 1) = waysS l j := by
        unfold waysS
        have := List.getElem?_eq_none_iff.mp hx
        rw [List.take_of_length_le (by omega), List.take_of_length_le (by omega)]
      rw [e]
      refine ⟨fun i => ⟨(h1 i).1, ?_⟩, h2, ?_⟩
      · have := (h1 i).2; omega
      · rw [e3]; omega
    | some i0 =>
      rw [waysS_succ hx]
      have hs := sum_le (M := 121 ^ j) (by omega) (l := (((earlierR l i0).filter fun o : Nat => (valD (waysS l j).1 (.inl (o : Int))).isSome).map (vD (waysS l j).1))) fun x hxm => by
        obtain ⟨o, _, rfl⟩ := List.mem_map.mp hxm
        exact h1 o
      have hlen : ((((earlierR l i0).filter fun o : Nat => (valD (waysS l j).1 (.inl (o : Int))).isSome).map (vD (waysS l j).1)).length : Int) ≤ 120 := by
        rw [List.length_map]
        have a1 := List.length_filter_le (fun o : Nat => (valD (waysS l j).1 (.inl (o : Int))).isSome) (earlierR l i0)
        have a2 := (earlierR_ok (l := l) (i := i0)).1
        omega
      have hv : ∀ {S : Int}, S = ((((earlierR l i0).filter fun o : Nat => (valD (waysS l j).1 (.inl (o : Int))).isSome).map (vD (waysS l j).1)).sum) → 0 ≤ S ∧ S ≤ 120 * 121 ^ j := fun e => by
        rw [e]
        exact ⟨hs.1, Int.le_trans hs.2 (Int.mul_le_mul_of_nonneg_right hlen (by omega))⟩
      unfold wStep
      dsimp only
      generalize hS : ((((earlierR l i0).filter fun o : Nat => (valD (waysS l j).1 (.inl (o : Int))).isSome).map (vD (waysS l j).1)).sum) = S at hv ⊢
      obtain ⟨s1, s2⟩ := hv rfl
      refine ⟨fun i => ?_, by omega, ?_⟩
      · rw [vD_put]
        split
        · exact ⟨by omega, by omega⟩
        · have := h1 i; omega
      · rw [e3]; omega
theorem sw_count {l : List Con} (h : l.length ≤ 120) : Sw 300 0 902 (.int (waysF l)) := by
  have hn : nP l ≤ 120 := Nat.le_trans (parts_len l) h
  obtain ⟨_, h2, h3⟩ := ways_bd hn (nP l)
  have e1 : (121 : Int) ^ nP l ≤ 121 ^ 120 := by
    have := Nat.pow_le_pow_right (n := 121) (by decide) hn
    exact_mod_cast this
  have e2 : ((nP l : Int) + 1) * 121 ^ nP l ≤ 121 * 121 ^ 120 := Int.mul_le_mul (by omega) e1 (by have : (0 : Int) < 121 ^ nP l := Int.pow_pos (by decide); omega) (by decide)
  have e3 : waysF l ≤ 121 * 121 ^ 120 := Int.le_trans h3 e2
  have e4 : 1 ≤ waysF l := h2
  have e5 : (waysF l).natAbs ≤ 121 * 121 ^ 120 := by
    have : ((waysF l).natAbs : Int) = waysF l := Int.natAbs_of_nonneg (by omega)
    have z : ((121 * 121 ^ 120 : Nat) : Int) = 121 * 121 ^ 120 := by decide
    omega
  have b1 : (121 * 121 ^ 120 : Nat) < 2 ^ 900 := by decide +kernel
  have b2 : (121 * 121 ^ 120 : Nat) < 10 ^ 299 := by decide +kernel
  exact sw_int (m := 900) (by omega) (by omega) (by decide) (by decide)
end Tw
set_option maxHeartbeats 2000000
namespace Tw
open PySem PySem.Spec PyProof.Rows L2 LamX
/-! ### defs that are only called where no repr is under way -/
structure FnG (P : Program) (w : World) (K : PySem.W.Frag) (mg : Str → Option Value) (base : Heap) (k : Nat) (f : Addr) (fd : FuncData) (ps : List Str) (sp : Sp) : Prop where
  len : ∀ vs H Q E, sp vs H Q E → vs.length = ps.length
  go : ∀ (A : Around) (outer : List Env) (s : Shared) (H : Hp) (us : List Value) (vs : List V) (Q : VK) (E : XK), A.guards = some [] → Room k A → Env0 P w K mg base A outer s H → BindsTo s fd ⟨us, []⟩ (ps.zip us) → Vals vs us → sp vs H Q E →
    codeAny (model P w) A (.call (.ref f) ⟨us, []⟩) (CR L2.CX0 outer P w H s Q E) s
structure ClG (P : Program) (w : World) (K : PySem.W.Frag) (mg : Str → Option Value) (base : Heap) (k : Nat) (x : Str) (ps : List Str) (sp : Sp) : Prop where
  ex : ∃ (f : Addr) (fd : FuncData), FnG P w K mg base k f fd ps sp ∧ mg x = some (.ref f) ∧ PySem.W.keepIn K (.ref f) = true ∧ Binds K fd ps []
-- a def of the module, its code object known
structure DfC (K : PySem.W.Frag) (mg : Str → Option Value) (x : Str) (st : Stmt) (c : Addr) : Prop where
  ex : ∃ f fd, FunD K x x (defArgs st) (defBody st) (defScope st) [] [] f fd ∧ mg x = some (.ref f) ∧ fd.code = .ref c
section
variable {P : Program} {w : World} {K : PySem.W.Frag} {mg : Str → Option Value} {base : Heap}
theorem clg_of {x : Str} {st : Stmt} {N ps : List Str} {k : Nat} {sp : Sp} {c : Addr} (h : DfC K mg x st c) (S : FnScope N ps (defScope st)) (len : ∀ vs H Q E, sp vs H Q E → vs.length = ps.length)
    (hbd : ∀ (kV doc pm : Value) (an : Option Addr) (cdv ct : Value) (us : List Value), us.length = ps.length → bindArgs (PySem.W.fnOf x x (defArgs st) (defBody st) (defScope st) .none kV doc pm an cdv ct) ⟨us, []⟩ = pure (ps.zip us))
    (hbody : ∀ (f : Addr) (A : Around) (outer : List Env) (s : Shared) (H : Hp) (vs : List V) (Q : VK) (E : XK), (A.deeper (envOfC x (defScope st) s.heap.objs.size f (.ref c))).guards = some [] → Room k (A.deeper (envOfC x (defScope st) s.heap.objs.size f (.ref c))) → sp vs H Q E →
      rB (cxOf L2.CX0 P w K mg base N x (defScope st) f (.ref c) A outer s H E).nox (defBody st) { nx := fun _ H' => Q .non H', rt := Q } (start N vs) H) : ClG P w K mg base (k + 1) x ps sp := by
  obtain ⟨f, fd, F, hm, hc⟩ := h.ex
  obtain ⟨oc, od, dV, kV, doc, pm, an, cdv, ct, osl, rfl, lk, hcd, hD, _⟩ := id F.ex
  obtain rfl : cdv = .ref c := hc
  refine ⟨f, _, ⟨len, fun A outer s H us vs Q E hg hr e0 hb r h => ?_⟩, hm, F.kp, binds_of F hbd⟩
  refine run_ofS (N := N) lk hcd S hr e0 hb r (len _ _ _ _ h) fun hr2 => ⟨_, PSs.nox pss_r, hbody f A outer s H vs Q E ?_ hr2 h⟩
  first
    | exact hg
    | simpa [Around.deeper] using hg
end
section
variable {T : List (Addr × Str)} {X : Cx} {e a b c : Expr} {es : List Expr} {σ : L2.St} {F H F' H' : Hp} {pos p : Pos} {k n : Nat} {x : Str} {ps : List Str} {sp : Sp} {sts rest : List Stmt} {D : Ends}
theorem rx_callG {Q : VK} (cl : ClG X.prog X.w X.K X.mg X.base k x ps sp) (hgd : X.A.guards = some []) (hr : Room n X.A) (h : rA X (e :: es) σ H fun vs H1 => sp vs H1 Q L2.E0)
    (hk : k ≤ n := by decide) (hg : Gl X x := by rfl) (hdb : (x == ("__debug__" : Str)) = false := by decide) (he : starEach (e :: es) X.env = (false, eval e X.env) :: starEach es X.env := by rfl) (hpl : (backTo pos (starEach es X.env)).any (·.1) = false := by rfl) : rE X (.Call (.Name x p) (e :: es) [] pos) σ H Q := by
  obtain ⟨f, fd, G, hm, kp, bd⟩ := cl.ex
  intro pins s I
  exact wpAny_Call_Name_kw (ld_glob I hg hm (PySem.W.callWith_K (h₀ := X.base) I.ok.mod.kin kp (thn (h pos pins s I) fun us s1 ⟨vs, H1, I1, r, q⟩ => ⟨I1.kIn, wpAny_call (codeAny_mono (G.go X.A X.stack s1 H1 us vs Q L2.E0 hgd (hr.mono hk) I1.env0
    (by
      have hl : (us ++ ([] : List Value)).length = ps.length := by rw [List.append_nil, ← r.length]; exact G.len _ _ _ _ q
      have := bd s1 us I1.kIn hl
      rwa [List.append_nil] at this) r q) fun res s' hq => by
      match res, hq with
      | .ok (.ret u), hq => exact I1.after hq
      | .ok .next, hq => exact hq.elim
      | .ok .brk, hq => exact hq.elim
      | .ok .cont, hq => exact hq.elim
      | .error u, hq => exact False.elim hq)⟩) he hpl) hdb)
-- an if whose test may write
theorem b_whenR (h : rT X c σ H fun b H1 => if b = true then rB X sts { D with nx := rB X rest D } σ H1 else rB X rest D σ H1) : rB X (.If c sts [] pos :: rest) D σ H :=
  goC (ps_if pt_r pss_r pss_r) (by
    refine fun pins s I => wpAny_mono (h pins s I) (fun r s' ⟨H1, I1, q⟩ => ⟨H1, I1, ?_⟩) fun _ _ z => z
    cases r with
    | true => exact q
    | false => exact rB_nil q)
-- what a new lambda leaves
theorem adv_extN (s : Sub F H) (e : ExtN H H') (t : Tabs T H') : Adv T F H F H' where
  ff := Ext.rfl
  sub := fun a o h => by
    obtain ⟨n, q⟩ := s a o h
    refine ⟨n, ?_⟩
    rcases q with q | ⟨i, ob, q⟩
    · exact .inl (e _ _ q n)
    · exact .inr ⟨i, ob, e _ _ q fun _ z => nomatch z⟩
  hh := e
  sep := fun _ _ h => .inl h
  tab := fun _ => t
-- tuple target = e, e may write
theorem b_unpR {tg : Expr} {d : PyData} {bs : Bs} (h : rE X e σ H fun v H1 => rG X tg v σ H1 fun σ' H' => rB X rest D σ' H')
    (hs : swapsWithSole [tg] e pos.line X.env = pure false := by rfl) (hw : swappedStores [tg] e X.env = pure none := by rfl)
    (h1 : (assignEach [tg] X.env).map (·.2) = [assign tg X.env] := by rfl) : rB X (.Assign [tg] e pos :: rest) D σ H :=
  goC (ps_asg pe_r pg_r hs hw h1) h
end
end Tw
namespace Tw
open PySem PySem.Spec PyProof.Rows L2 LamX
section
variable {T : List (Addr × Str)} {X : Cx} {σ : L2.St} {F H : Hp} {pos p lpos : Pos} {k n : Nat} {Q : VK}
-- _law_met(lambda: body)
theorem rx_met {CB CN CL CP CS CT c Pt : Addr} {params : Arguments} {body : Expr} {scope : Scope} (M : Df X.K X.mg "_law_met" "_law_met" (top 79)) (xf : ExF X.K X.mg CB CN CL CP CS CT) (TB : TabB X.base X.mg c Pt) (hcode : X.env.code = .ref c) (hmT : (Pt, X.env.qual ++ "<lambda>") ∈ T) (hu : ∀ p ∈ T, p.1 = Pt → p.2 = X.env.qual ++ "<lambda>") (hr : Room n X.A) (hn : k + 2 ≤ n)
    (L : LamS X.env.scope scope) (hdef : defaultsOf params X.env = ([], [])) (hbind : ∀ (q : Str) (cl : List (Str × Addr)) (pm cv ctv : Value), bindArgs (PySem.W.kla_fn "<lambda>" q params body scope cl pm cv ctv) ⟨[], []⟩ = pure []) (hg : Gl X "_law_met") (hT : Tabs T H)
    (h : ∀ H1, ExtN H H1 → Tabs T H1 → ∀ (E' : XK) (Q' : VK), (∀ cls d H', metE CB CN Q cls d H' → E' cls d H') → (∀ v H', giveT Q "fine" v H' → Q' v H') → ∀ (A : Around) (outer : List Env) (s : Shared) (Hc : Hp) (f c' : Addr), Room k (A.deeper (lamEnv X scope s.heap.objs.size f c')) → rE (lamCx X A outer s Hc E' scope f c') body σ H1 Q') :
    rE X (.Call (.Name "_law_met" p) [.Lambda params body scope lpos] [] pos) σ H Q := by
  obtain ⟨g, fd, FD, hm⟩ := M.ex
  have bd := binds_of (ps := ["_law_call"]) FD (fun _ _ _ _ _ _ us hl => match us, hl with | [_], _ => rfl)
  obtain ⟨oc, od, dV, kV, doc, pm, an, cdv, ct, osl, rfl, lk, hcd, hD, _⟩ := id FD.ex
  refine goE (pe_lamcall (T := T) (TT := TMet CB CN) (t := fun E σ HZ Q => ∀ (A : Around) (outer : List Env) (s : Shared) (Hc : Hp) (f c' : Addr), Room k (A.deeper (lamEnv X scope s.heap.objs.size f c')) → rE (lamCx X A outer s Hc E scope f c') body σ HZ Q) (Ng := NMet) (a := "_law_call") hg hm FD.kp lk hcd bd
    ⟨rfl, rfl, rfl, by decide +kernel, rfl, by decide +kernel, by decide +kernel⟩ rfl (.inl rfl) (met_gives xf) TB hcode hmT hu (hr.mono hn) L hdef hbind fun A outer s Hc E f c' hr2 => ⟨fun pins s1 σ HZ Q I hq => hq A outer s Hc f c' hr2 pins s1 I⟩) ⟨hT, h⟩
end
section
variable {P : Program} {w : World} {K : PySem.W.Frag} {mg : Str → Option Value} {base : Heap} {T : List (Addr × Str)} {C CB CN CL CP CS CT c Pt : Addr}
-- the state of an editor and of the law's own
structure Both (C x pl od opl l n : Nat) (p : Pr) (ps : List Pr) (F H : Hp) : Prop where
  src : SrcAt l n F H
  ed : EdS C x pl p ps F H
  ow : OwS od opl p ps F H
  ok : okQ p
  oks : ∀ q ∈ ps, okQ q
  d1 : x ≠ od ∧ x ≠ opl ∧ pl ≠ od ∧ pl ≠ opl
  d2 : l ≠ x ∧ l ≠ pl ∧ l ≠ od ∧ l ≠ opl
variable {x pl od opl l n : Nat} {p : Pr} {ps : List Pr} {F H F' H' : Hp} {L : List Addr}
theorem Both.step (b : Both C x pl od opl l n p ps F H) (a : Adv T F H F' H') : Both C x pl od opl l n p ps F' H' := ⟨b.src.step a, b.ed.step a, b.ow.step a, b.ok, b.oks, b.d1, b.d2⟩
theorem Both.okL (b : Both C x pl od opl l n p ps F H) : ∀ q ∈ [l, x, pl, od, opl], F q = none ∧ ∃ o, H q = some o ∧ NotTbl o ∧ ∀ xs, o ≠ .tup xs := fun q hq => by
  rcases List.mem_cons.mp hq with e | hq
  · exact b.src.ok q (by rw [e]; exact List.mem_singleton.mpr rfl)
  · rcases List.mem_cons.mp hq with e | hq
    · exact b.ed.ok q (by rw [e]; simp)
    · rcases List.mem_cons.mp hq with e | hq
      · exact b.ed.ok q (by rw [e]; simp)
      · exact b.ow.ok q (by simpa using hq)
theorem Both.draw {m : Nat} (b : Both C x pl od opl l n p ps F H) (a : AdvM T [l] F H F' H') (s : SrcAt l m F' H') : Both C x pl od opl l m p ps F' H' := by
  obtain ⟨h1, h2, h3, h4⟩ := b.d2
  exact ⟨s, b.ed.stepM a (by simpa using h1.symm) (by simpa using h2.symm), b.ow.stepM a (by simpa using h3.symm) (by simpa using h4.symm), b.ok, b.oks, b.d1, b.d2⟩
theorem AdvM.in_ (a : AdvM T L F H F' H') {L' : List Addr} (h : ∀ q ∈ L, q ∈ L') : AdvM T L' F H F' H' := a.more h
-- both lose their last pair
theorem pop_both {q : Pr} {qs : List Pr} {v : V} (b : Both C x pl od opl l n p ps F H) : True := True.intro
def eqS (s : Str) : PyData := .str s
theorem fine_sw : Sw 13 1 19 (.tuple [.str "fine", .none]) := by
  refine (sw_tup (B := 13) (k := 0) (w := 9) (n := 2) (ds := [.str "fine", .none]) (fun d hd => ?_) (Nat.le_refl 2))
  simp only [List.mem_cons, List.mem_nil_iff, or_false] at hd
  rcases hd with e | e <;> rw [e]
  · exact sw_str (by decide +kernel) (by decide +kernel)
  · exact sw_none.le (Nat.le_refl _) (by decide)
theorem undo_sw : Sw 13 1 19 (.tuple [.str "undo", .none]) := by
  refine (sw_tup (B := 13) (k := 0) (w := 9) (n := 2) (ds := [.str "undo", .none]) (fun d hd => ?_) (Nat.le_refl 2))
  simp only [List.mem_cons, List.mem_nil_iff, or_false] at hd
  rcases hd with e | e <;> rw [e]
  · exact sw_str (by decide +kernel) (by decide +kernel)
  · exact sw_none.le (Nat.le_refl _) (by decide)
theorem pair_sw {p : Pr} (h1 : okT p.1) (h2 : okT p.2) (l1 : p.1.length ≤ 200) (l2 : p.2.length ≤ 200) : Sw 13 4 15207 (.tuple [.str "pair", prD p]) := by
  refine (sw_tup (B := 13) (k := 3) (w := 7603) (n := 2) (ds := [.str "pair", prD p]) (fun d hd => ?_) (Nat.le_refl 2))
  simp only [List.mem_cons, List.mem_nil_iff, or_false] at hd
  rcases hd with e | e <;> rw [e]
  · exact (sw_str (by decide +kernel) (by decide +kernel)).le (by decide) (by decide)
  · exact sw_pr h1 h2 l1 l2
-- repr(_law_met(..)) == repr(due)
theorem rx_same {X : Cx} {e1 e2 : Expr} {σ : L2.St} {H : Hp} {p1 p2 p3 p4 pos : Pos} {Q : VK} (hgd : X.A.guards = some []) (hu : X.A.units + 64 < cLine) (hm : X.mg "repr" = none)
    (h : rE X e1 σ H fun v H1 => ∃ F1 d B k w, Sub F1 H1 ∧ Im F1 d v ∧ ((∃ ds, d = .tuple ds) ∨ ∃ ds, d = .list ds) ∧ Sw B k w d ∧ k ≤ 30 ∧ 8 ≤ B ∧ (B + 2) * w + B ≤ 16777216 ∧ ED T X e2 σ F1 H1 d ∧ ∀ F2 H2, Adv T F1 H1 F2 H2 → Q (.bl true) H2)
    (hg : Gl X "repr" := by rfl) (hs1 : starEach [e1] X.env = (false, eval e1 X.env) :: starEach [] X.env := by rfl) (hs2 : starEach [e2] X.env = (false, eval e2 X.env) :: starEach [] X.env := by rfl)
    (hb1 : (backTo p2 (starEach [] X.env)).any (·.1) = false := by rfl) : rE X (.Compare (.Call (.Name "repr" p1) [e1] [] p2) [.Eq] [.Call (.Name "repr" p3) [e2] [] p4] pos) σ H Q := by
  refine goE (pe_cmpR op_eq pe_r pe_r (nomark _)) (goE (pe_callB (cr_repr hgd hu) hg hm boot_reprb (pa_cons pe_r pa_nil hs1) (by decide) (by decide) hs1 hb1) ?_)
  refine fun pins s I => wpAny_mono (h pins s I) (fun u s' ⟨v, H1, I1, r, F1, d, B, k, w, sF, im, ht, sw, hk, hB, hz, h2, q⟩ => ⟨v, H1, I1, r, ?_⟩) fun _ _ z => z
  obtain ⟨a, rfl⟩ := im_ref im ht
  refine ⟨a, d, rfl, Im.dp sF _ _ sw.nd im, sw.nd, sw.sh, Nat.le_trans sw.dp hk, sw.fits hB hz, EX.go (T := T) (ed_repr hgd hu hm h2 ht sw hk hB hz hg hs2) (.refl sF) fun y F2 H2 a2 ey => ?_⟩
  obtain rfl : y = .str d.shown := ey
  refine ⟨rfl, ?_⟩
  have := q F2 H2 a2
  simpa using this
end
end Tw
namespace Tw
open PySem PySem.Spec PyProof.Rows L2 LamX
section
variable {P : Program} {w : World} {K : PySem.W.Frag} {mg : Str → Option Value} {base : Heap} {T : List (Addr × Str)} {C CB CN CL CP CS CT c Pt : Addr}
def spUndone (T : List (Addr × Str)) (C : Addr) : Sp := fun vs H Q _ => ∃ F x pl od opl l n p ps, Sub F H ∧ Tabs T H ∧ Both C x pl od opl l n p ps F H ∧ vs = [.ref x, .ref od] ∧
  ∀ p' ps' F' H', AdvM T [l, x, pl, od, opl] F H F' H' → Both C x pl od opl l n p' ps' F' H' → ps'.length ≤ ps.length + 1 → Q (.bl true) H'
theorem takesL {X : Cx} {A : Around} {outer : List Env} {s : Shared} {H : Hp} {E : XK} {scope : Scope} {f c' : Addr} : Takes (lamCx X A outer s H E scope f c') (fun cls d _ H => E cls d H) := takes_of rfl rfl rfl rfl
theorem ok_undone (F : DfC K mg "_law_undone" (top 81) c) (g : G K mg) (M : Df K mg "_law_met" "_law_met" (top 79)) (xf : ExF K mg CB CN CL CP CS CT) (TB : TabB base mg c Pt) (hT : (Pt, (("_law_undone" : Str) ++ ".<locals>.") ++ ("<lambda>" : Str)) ∈ T) (hu : ∀ p ∈ T, p.1 = Pt → p.2 = (("_law_undone" : Str) ++ ".<locals>.") ++ ("<lambda>" : Str))
    (cu : MetX P w K mg base 3 C "undo" ["self"] (spUnd T C CN)) : ClG P w K mg base 6 "_law_undone" ["_law_editor", "_law_own"] (spUndone T C) := by
  refine clg_of (N := ["_law_editor", "_law_own", "_law_due"]) F ⟨rfl, rfl, rfl, by decide +kernel, rfl, by decide +kernel, by decide +kernel⟩ (fun vs H Q E ⟨F, x, pl, od, opl, l, n, p, ps, _, _, _, e, _⟩ => by rw [e]; rfl) (fun _ _ _ _ _ _ us hl => match us, hl with | [_, _], _ => rfl) ?_
  rintro f A outer s H0 vs Q E hgd hr ⟨F0, x, pl, od, opl, l, n, p, ps, sF, hT0, b0, rfl, k⟩
  have nd : (["_law_editor", "_law_own", "_law_due"] : List Str).Nodup := by decide +kernel
  have lpr := lay_prs b0.oks
  have spr := sh_prs b0.oks
  obtain ⟨kv0, xs0, d1, d2, d3, d4⟩ := id b0.ow.ex
  have hz : (2 : Nat) < sizeLine := by decide
  let due : PyData := if ps = [] then .tuple [.str "undo", .none] else .tuple [.str "fine", .none]
  refine b_asg (T := T) (i := 2) (P := imP due) (ex_if (k1 := !(ps.map prD).isEmpty) (et_nonil hr.units (ex_dgetR (k := .inr "past") (P := eqP (.ref opl)) (room_u1 hr) (ev_var (i := 1) rfl) d1 ed_str rfl rfl mono_eq) d3 d4 lpr.2.2 spr) (fun z => ?_) fun z => ?_) sF (fun vd F1 H1 a1 idu => ?_) nd
  · have hps : ps ≠ [] := fun e => by rw [e] at z; cases z
    exact ED.to (ed_tup (ds := [.str "fine", .none]) (ea_cons ed_str (ea_cons ed_none ea_nil))) (by show _ = (if ps = [] then _ else _); rw [if_neg hps])
  · have hps : ps = [] := by
      cases ps with
      | nil => rfl
      | cons a r => cases z
    exact ED.to (ed_tup (ds := [.str "undo", .none]) (ea_cons ed_str (ea_cons ed_none ea_nil))) (by show _ = (if ps = [] then _ else _); rw [if_pos hps])
  have b1 := b0.step a1
  obtain ⟨kv1, xs1, e1, e2, e3, e4⟩ := id b1.ow.ex
  show rB _ _ _ [some (.ref x), some (.ref od), some vd] H1
  refine b_when (T := T) (et_nonil hr.units (ex_dgetR (k := .inr "past") (P := eqP (.ref opl)) (room_u1 hr) (ev_var (i := 1) rfl) e1 ed_str rfl rfl mono_eq) e3 e4 lpr.2.2 spr) a1.sub (fun z F2 H2 a2 => ?_) fun z F2 H2 a2 => ?_
  · -- something is taken back
    have hps : ps ≠ [] := fun e => by rw [e] at z; cases z
    obtain ⟨q, _, eq, hq⟩ := last_of hps
    have b2 := b1.step a2
    obtain ⟨kv2, xs2, g1, g2, g3, g4⟩ := id b2.ow.ex
    have hlen := g4.length
    rw [List.length_map] at hlen
    have hla : (ps.map prD)[xs2.length - 1]? = some (prD q) := by
      rw [List.getElem?_map, eq, last_at (by rw [hlen, ← eq])]
      rfl
    obtain ⟨vq, hv, iv⟩ := g4.at hla
    have bdl : ImL F2 (ps.dropLast.map prD) xs2.dropLast := by
      rw [List.dropLast_eq_take, List.dropLast_eq_take, List.map_take, ← hlen]
      exact g4.take _
    refine goC (ps_dput (room_u1 hr) pe_r pe_r pe_r rfl) (e_pop (T := T) a2.sub (ex_dgetR (k := .inr "past") (P := eqP (.ref opl)) (room_u1 hr) (ev_var (i := 1) rfl) g1 ed_str rfl rfl mono_eq) b2.ow.fl g3 hv fun F3 H3 a3 f3 h3 s3 => EX.go (T := T) (ev_var (i := 1) rfl) (.refl s3) fun u F4 H4 a4 eu => EX.go (T := T) (ed_str (x := "kept")) (.refl a4.sub) fun y F5 H5 a5 ey => ?_)
    obtain rfl : u = .ref od := eu
    obtain rfl : y = .str "kept" := ey
    have b3 := b2.step a3
    obtain ⟨kv3, xs3, g5, g6, g7, g8⟩ := id b3.ow.ex
    have hne := b2.ow.ne
    obtain rfl : xs3 = xs2 := by
      rw [h3] at g7
      have g7 := Option.some.inj g7
      injection g7 with e
      exact e.symm
    have A3 : AdvM T [l, x, pl, od, opl] F0 H0 F3 (upd H3 opl (.lst xs3.dropLast)) := (AdvM.of ((a1.trans a2).trans a3)).write (by simp) f3 h3 mut_lst
    have a45 := a4.trans a5
    have g5' : upd H3 opl (.lst xs3.dropLast) od = some (.dK [(.inr "kept", kv3), (.inr "past", .ref opl)]) := by rw [upd_ne hne]; exact g5
    obtain ⟨f5, h5⟩ := a45.off b3.ow.fd g5' notTbl_dK
    obtain ⟨f6, h6⟩ := a45.off f3 upd_same notTbl_lst
    refine ⟨od, _, rfl, .inl ⟨_, .inr "kept", h5, rfl, hz, rfl⟩, ?_⟩
    have eput : putK [((.inr "kept" : Key), kv3), (.inr "past", .ref opl)] (.inr "kept") vq = [(.inr "kept", vq), (.inr "past", .ref opl)] := rfl
    rw [eput]
    have A5 := (A3.trans (.of a45) b0.okL).write (by simp) f5 h5 mut_dK (o' := .dK [(.inr "kept", vq), (.inr "past", .ref opl)])
    have ow5 : OwS od opl q ps.dropLast F5 (upd H5 od (.dK [(.inr "kept", vq), (.inr "past", .ref opl)])) := ⟨f5, f6, vq, xs3.dropLast, upd_same, iv.up (a3.ff.trans a45.ff), by rw [upd_ne hne.symm]; exact h6, bdl.up (a3.ff.trans a45.ff)⟩
    have W : AdvM T [od, opl] F3 H3 F5 (upd H5 od (.dK [(.inr "kept", vq), (.inr "past", .ref opl)])) := (((AdvM.refl (T := T) (L := [od, opl]) a3.sub).write (by simp) f3 h3 mut_lst (o' := .lst xs3.dropLast)).trans (.of a45) b3.ow.ok).write (by simp) f5 h5 mut_dK
    obtain ⟨n1, n2, n3, n4⟩ := b0.d1
    obtain ⟨n5, n6, n7, n8⟩ := b0.d2
    have ed5 := b3.ed.stepM W (by simp [n1, n2]) (by simp [n3, n4])
    have src5 := b3.src.stepM W (by simp [n7, n8])
    have T5 := A5.tab hT0
    have idu5 : Im F5 due vd := idu.up (a2.ff.trans (a3.ff.trans a45.ff))
    generalize upd H5 od (.dK [(.inr "kept", vq), (.inr "past", .ref opl)]) = H6 at A5 ow5 ed5 src5 T5 ⊢
    refine rB_nil (b_retR (rx_same (T := T) hgd hr.units (b_repr g) (rx_met (k := 3) (c := c) (Pt := Pt) M xf TB rfl hT hu hr (by decide) (lamS_by (by kernel_rfl)) rfl (fun _ _ _ _ _ => rfl) rfl T5 fun H7 ext T7 E' Q' hE hQ A2 outer2 s2 Hc f2 c' hr2 => ?_)))
    have a7 := adv_extN A5.sub ext T7
    refine rx_meth0X cu hr2 takesL (fun _ _ _ _ z => z) (EX.go (T := T) (ev_var (i := 0) rfl) (.refl a7.sub) fun u F8 H8 a8 eu => ?_)
    have ed8 := (ed5.step a7).step a8
    obtain ⟨dx, kv, q8⟩ := ed8.at
    refine ⟨x, dx, _, eu, q8, rfl, F8, x, pl, p, ps, a8.sub, ed8, b0.oks, rfl, fun qs q' e F9 H9 a9 ed9 => ?_, fun e => absurd e hps⟩
    obtain ⟨rfl, rfl⟩ : qs = ps.dropLast ∧ q' = q := by
      have z := e.symm.trans eq
      have z1 := List.append_inj' z rfl
      exact ⟨z1.1, by simpa using z1.2⟩
    refine hQ _ _ fun r hr9 => ?_
    have a78 := a7.trans a8
    have A9 := (A5.trans (.of a78) b0.okL).trans (a9.more (by simp)) b0.okL
    have ow9 := (ow5.step a78).stepM a9 (by simp [n1.symm, n3.symm]) (by simp [n2.symm, n4.symm])
    have src9 := (src5.step a78).stepM a9 (by simp [n5, n6])
    have ad : Adv T F9 H9 (upd F9 r (.tup [.str "fine", .non])) (upd H9 r (.tup [.str "fine", .non])) := Adv.new A9.sub hr9 notTbl_tup
    have ed : due = .tuple [.str "fine", .none] := by show (if ps = [] then _ else _) = _; rw [if_neg hps]
    rw [ed] at idu5
    have idu9 := ((idu5.up a78.ff).up a9.ff).up ad.ff
    refine ⟨_, .tuple [.str "fine", .none], 13, 1, 19, ad.sub, ⟨r, _, rfl, upd_same, _, _, rfl, rfl, _, _, rfl, rfl, rfl⟩, .inl ⟨_, rfl⟩, fine_sw, by decide, by decide, by decide, ed_var (i := 2) rfl idu9, fun F10 H10 a10 => ?_⟩
    have a910 := ad.trans a10
    exact k q' ps.dropLast F10 H10 (A9.trans (.of a910) b0.okL) ⟨src9.step a910, ed9.step a910, ow9.step a910, b0.oks q' hq, fun y hy => b0.oks y ((List.dropLast_sublist _).subset hy), b0.d1, b0.d2⟩ (by rw [List.length_dropLast]; omega)
  · -- nothing
    have hps : ps = [] := by
      cases ps with
      | nil => rfl
      | cons a r => cases z
    have b2 := b1.step a2
    have A2 := a1.trans a2
    have T2 := A2.tab hT0
    refine b_retR (rx_same (T := T) hgd hr.units (b_repr g) (rx_met (k := 3) (c := c) (Pt := Pt) M xf TB rfl hT hu hr (by decide) (lamS_by (by kernel_rfl)) rfl (fun _ _ _ _ _ => rfl) rfl T2 fun H7 ext T7 E' Q' hE hQ A3 outer2 s2 Hc f2 c' hr2 => ?_))
    have a7 := adv_extN a2.sub ext T7
    refine rx_meth0X cu hr2 takesL (fun _ _ _ _ z => z) (EX.go (T := T) (ev_var (i := 0) rfl) (.refl a7.sub) fun u F8 H8 a8 eu => ?_)
    have b8 := (b2.step a7).step a8
    obtain ⟨dx, kv, q8⟩ := b8.ed.at
    refine ⟨x, dx, _, eu, q8, rfl, F8, x, pl, p, ps, a8.sub, b8.ed, b0.oks, rfl, fun qs q' e => by rw [hps] at e; simp at e, fun e F9 H9 a9 => ?_⟩
    refine hE _ _ _ (.inr ⟨rfl, fun r hr9 => ?_⟩)
    have ad : Adv T F9 H9 (upd F9 r (.tup [.str "undo", .non])) (upd H9 r (.tup [.str "undo", .non])) := Adv.new a9.sub hr9 notTbl_tup
    have ed : due = .tuple [.str "undo", .none] := by show (if ps = [] then _ else _) = _; rw [if_pos hps]
    have A9 := a2.trans ((a7.trans a8).trans (a9.trans ad))
    rw [ed] at idu
    have idu9 := idu.up A9.ff
    refine ⟨_, .tuple [.str "undo", .none], 13, 1, 19, ad.sub, ⟨r, _, rfl, upd_same, _, _, rfl, rfl, _, _, rfl, rfl, rfl⟩, .inl ⟨_, rfl⟩, undo_sw, by decide, by decide, by decide, ed_var (i := 2) rfl idu9, fun F10 H10 a10 => ?_⟩
    exact k p ps F10 H10 (.of (a1.trans (A9.trans a10))) (b0.step (a1.trans (A9.trans a10))) (by omega)
end
end Tw
namespace Tw
open PySem PySem.Spec PyProof.Rows L2 LamX
theorem new_ok {p : Pr} {e : Ed} (hp : okQ p) (h : Ed.ok p e) : okT (e.thr p) ∧ (e.thr p).length ≤ 43 := by
  obtain ⟨t1, t2⟩ := thrAt_ok hp (letN e.lt)
  cases e with
  | rep y t => exact ⟨h.2.1, by have := h.2.2; show t.length ≤ 43; omega⟩
  | rem y m n =>
    have t1 : okT (thrAt p (letN y)) := t1
    have t2 : (thrAt p (letN y)).length ≤ 40 := t2
    obtain ⟨h1, h2, h3⟩ := h
    show okT (remT (thrAt p (letN y)) m n) ∧ (remT (thrAt p (letN y)) m n).length ≤ 43
    generalize thrAt p (letN y) = th at *
    unfold remT
    refine ⟨fun s hs => ?_, by rw [List.length_append, List.length_take, List.length_drop]; omega⟩
    rcases List.mem_append.mp hs with q | q
    · exact t1 s (List.mem_of_mem_take q)
    · exact t1 s (List.mem_of_mem_drop q)
  | ins y n st =>
    have t1 : okT (thrAt p (letN y)) := t1
    have t2 : (thrAt p (letN y)).length ≤ 40 := t2
    obtain ⟨h1, h2, h3, h4⟩ := h
    show okT (insT (thrAt p (letN y)) n st) ∧ (insT (thrAt p (letN y)) n st).length ≤ 43
    generalize thrAt p (letN y) = th at *
    unfold insT
    refine ⟨fun s hs => ?_, by rw [List.length_append, List.length_append, List.length_take, List.length_drop]; omega⟩
    rcases List.mem_append.mp hs with q | q
    · rcases List.mem_append.mp q with q | q
      · exact t1 s (List.mem_of_mem_take q)
      · exact h3 s q
    · exact t1 s (List.mem_of_mem_drop q)
section
variable {P : Program} {w : World} {K : PySem.W.Frag} {mg : Str → Option Value} {base : Heap} {T : List (Addr × Str)} {C CB CN CL CP CS CT c Pt : Addr}
theorem Both.mono {x pl od opl l n m : Nat} {p : Pr} {ps : List Pr} {F H : Hp} (b : Both C x pl od opl l n p ps F H) (h : n ≤ m) : Both C x pl od opl l m p ps F H := ⟨b.src.mono h, b.ed, b.ow, b.ok, b.oks, b.d1, b.d2⟩
def spEdited (T : List (Addr × Str)) (C : Addr) : Sp := fun vs H Q _ => ∃ F x pl od opl l n p ps vl vv, ∃ (ls us : List Str), Sub F H ∧ Tabs T H ∧ Both C x pl od opl l n p ps F H ∧ n ≤ 70000 ∧ ps.length ≤ 99 ∧ Im F (.list (ls.map .str)) vl ∧ Im F (.list (us.map .str)) vv ∧ (∀ x ∈ ls, okN x) ∧ ls ≠ [] ∧ ls.length ≤ 10 ∧ (∀ x ∈ us, okN x) ∧ us.length = 2 ∧ vs = [.ref l, vl, vv, .ref x, .ref od] ∧
  ∀ p' ps' F' H', AdvM T [l, x, pl, od, opl] F H F' H' → Both C x pl od opl l (n + 60) p' ps' F' H' → ps'.length ≤ ps.length + 1 → Q (.bl true) H'
theorem ok_edited (F : DfC K mg "_law_edited" (top 80) c) (g : G K mg) (M : Df K mg "_law_met" "_law_met" (top 79)) (xf : ExF K mg CB CN CL CP CS CT) (TB : TabB base mg c Pt) (hT : (Pt, (("_law_edited" : Str) ++ ".<locals>.") ++ ("<lambda>" : Str)) ∈ T) (hu : ∀ p ∈ T, p.1 = Pt → p.2 = (("_law_edited" : Str) ++ ".<locals>.") ++ ("<lambda>" : Str))
    (cU : ClG P w K mg base 6 "_law_undone" ["_law_editor", "_law_own"] (spUndone T C)) (c1 : Cl P w K mg base 1 "_law_draw" ["_law_source", "_law_limit"] (spDraw T)) (c4 : Cl P w K mg base 4 "_law_edit" ["_law_source", "_law_locks", "_law_variables", "_law_own"] (spEdit T)) (c3 : Cl P w K mg base 3 "_law_is_pair" ["_law_thing"] (spD T Ris_pair)) (cc : ClX P w K mg base 8 "_law_called" ["_law_editor", "_law_word", "_law_parts_here"] (spCalled T C CB)) :
    ClG P w K mg base 11 "_law_edited" ["_law_source", "_law_locks", "_law_variables", "_law_editor", "_law_own"] (spEdited T C) := by
  refine clg_of (N := ["_law_source", "_law_locks", "_law_variables", "_law_editor", "_law_own", "_law_word", "_law_parts_here", "_law_after", "_law_due"]) F ⟨rfl, rfl, rfl, by decide +kernel, rfl, by decide +kernel, by decide +kernel⟩ (fun vs H Q E ⟨F, x, pl, od, opl, l, n, p, ps, vl, vv, ls, us, _, _, _, _, _, _, _, _, _, _, _, _, e, _⟩ => by rw [e]; rfl) (fun _ _ _ _ _ _ us hl => match us, hl with | [_, _, _, _, _], _ => rfl) ?_
  rintro f A outer s H0 vs Q E hgd hr ⟨F0, x, pl, od, opl, l, n, p, ps, vl, vv, ls, us, sF, hT0, b0, hn, hps, il, iv, hls, hl0, hll, hus, hul, rfl, k⟩
  have nd : (["_law_source", "_law_locks", "_law_variables", "_law_editor", "_law_own", "_law_word", "_law_parts_here", "_law_after", "_law_due"] : List Str).Nodup := by decide +kernel
  have ok0 := b0.okL
  have okl := b0.src.ok
  have inl : ∀ q ∈ [l], q ∈ [l, x, pl, od, opl] := by simp
  refine b_whenR (goT (pt_cmpR op_eq pe_r pe_r (nomark _)) (rx_call c1 hr (EA.go (T := T) (eg_cons (ev_var (i := 0) rfl) (eg_cons (ed_int (i := 5)) eg_nil mono_im) mono_eq) (.refl sF) fun vs F1 H1 a1 hv => ?_)))
  obtain ⟨w1, _, rfl, rfl, w2, _, rfl, e2, rfl⟩ := hv
  obtain rfl : w2 = .int 5 := e2
  refine ⟨F1, l, n, 5, a1.sub, b0.src.step a1, by omega, by decide, by decide, rfl, fun z F2 H2 a2 src2 z0 z1 => EX.go (T := T) (ed_int (i := 0)) (.refl a2.sub) fun y F3 H3 a3 ey => ?_⟩
  obtain rfl : y = .int 0 := ey
  have A3 := ((AdvM.of a1).trans a2 okl).trans (.of a3) okl
  have b3 := b0.draw A3 (src2.step a3)
  have A3' := A3.more inl
  have T3 := A3.tab hT0
  refine ⟨rfl, _, rfl, ?_⟩
  show (if decide (V.int z = V.int 0) = true then _ else _)
  split
  · -- undo
    refine b_retR (rx_callG cU hgd hr (EA.go (T := T) (eg_cons (ev_var (i := 3) rfl) (eg_cons (ev_var (i := 4) rfl) eg_nil mono_eq) mono_eq) (.refl a3.sub) fun vs F4 H4 a4 hv => ?_))
    obtain ⟨w1, _, rfl, rfl, w2, _, rfl, rfl, rfl⟩ := hv
    exact ⟨F4, x, pl, od, opl, l, n + 1, p, ps, a4.sub, a4.tab T3, b3.step a4, rfl, fun p' ps' F' H' A b hl => k p' ps' F' H' ((A3'.trans (.of a4) ok0).trans A ok0) (b.mono (by omega)) hl⟩
  · refine b_unpR (d := .none) (bs := []) (rx_call c4 hr (EA.go (T := T) (eg_cons (ev_var (i := 0) rfl) (eg_cons (P := eqP vl) (ev_var (i := 1) rfl) (eg_cons (P := eqP vv) (ev_var (i := 2) rfl) (eg_cons (ev_var (i := 4) rfl) eg_nil mono_eq) mono_eq) mono_eq) mono_eq) (.refl a3.sub) fun vs F4 H4 a4 hv => ?_))
    obtain ⟨w1, _, rfl, rfl, w2, _, rfl, e2, w3, _, rfl, e3, w4, _, rfl, rfl, rfl⟩ := hv
    obtain rfl : vl = w2 := Eq.symm e2
    obtain rfl : vv = w3 := Eq.symm e3
    have A4 := A3.trans (.of a4) okl
    have b4 := b3.step a4
    refine ⟨F4, l, n + 1, vl, vv, od, opl, p, ps, ls, us, a4.sub, b4.src, by omega, il.up A4.ff, iv.up A4.ff, hls, hl0, hll, hus, hul, b4.ow, b4.ok, b0.d2.2.2.1.symm, b0.d2.2.2.2.symm, rfl, fun v e F5 H5 a5 src5 he im => ?_⟩
    have A5 := A4.trans a5 okl
    have b5 := b4.draw a5 src5
    refine (gt_tup rfl (gts_cons (gt_name (i := 5) nd) (gts_cons (gt_name (i := 6) nd) (gts_cons (gt_name (i := 7) nd) gts_nil)))) F5 H5 v _ _ a5.sub im fun vs hvs => ?_
    obtain ⟨w5, _, rfl, q5, w6, _, rfl, iw6, w7, _, rfl, iw7, rfl⟩ := hvs
    obtain rfl : w5 = .str e.word := q5
    show rB _ _ _ [some (.ref l), some vl, some vv, some (.ref x), some (.ref od), some (.str e.word), some w6, some w7, none] H5
    refine b_asg (T := T) (i := 8) (P := imP (.tuple [.str "fine", .none])) (ed_tup (ds := [.str "fine", .none]) (ea_cons ed_str (ea_cons ed_none ea_nil))) a5.sub (fun vd F6 H6 a6 idu => ?_) nd
    obtain ⟨n1, n2⟩ := new_ok b0.ok he
    obtain ⟨o1, o2, o3, o4⟩ := chg_ok (i := letN e.lt) b0.ok n1 (by omega)
    obtain ⟨m1, m2⟩ := okQ_len b0.ok
    have o3' : (e.new p).1.length ≤ 200 := by unfold Ed.new chg; split <;> simp only <;> omega
    have o4' : (e.new p).2.length ≤ 200 := by unfold Ed.new chg; split <;> simp only <;> omega
    have o1 : okT (e.new p).1 := o1
    have o2 : okT (e.new p).2 := o2
    have A6 := A5.trans (.of a6) okl
    have b6 := b5.step a6
    show rB _ _ _ [some (.ref l), some vl, some vv, some (.ref x), some (.ref od), some (.str e.word), some w6, some w7, some vd] H6
    refine b_if (T := T) (et_val (ed_call c3 hr (ea_cons (ed_var (i := 7) rfl (iw7.up a6.ff)) ea_nil) ⟨e.new p, o1, o2, by omega, by omega, rfl, rfl⟩)) a6.sub (fun hz F7 H7 a7 => ?_) fun hz F7 H7 a7 => ?_
    · -- the change is made
      have b7 := b6.step a7
      have A7 := A6.trans (.of a7) okl
      obtain ⟨kv7, xs7, d1, d2, d3, d4⟩ := id b7.ow.ex
      have hlen := d4.length
      rw [List.length_map] at hlen
      have hz99 : 99 < sizeLine := by decide
      refine b_app (T := T) (P := imP (prD p)) (ex_dgetR (k := .inr "past") (P := eqP (.ref opl)) (room_u1 hr) (ev_var (i := 4) rfl) d1 ed_str rfl rfl mono_eq) d3 b7.ow.fl (ex_dgetR (k := .inr "kept") (P := imP (prD p)) (room_u1 hr) (ev_var (i := 4) rfl) d1 ed_str rfl d2 mono_im) a7.sub (by omega) fun vk F8 H8 a8 ik f8 h8 s8 => ?_
      have b8 := b7.step a8
      obtain ⟨kv8, xs8, e1, e2, e3, e4⟩ := id b8.ow.ex
      have hne := b8.ow.ne
      have e1' : upd H8 opl (.lst (xs7 ++ [vk])) od = some (.dK [(.inr "kept", kv8), (.inr "past", .ref opl)]) := by rw [upd_ne hne]; exact e1
      have iw7' := ((iw7.up a6.ff).up a7.ff).up a8.ff
      refine b_dputR (T := T) (k := .inr "kept") (P := imP (prD (e.new p))) (room_u1 hr) s8 (ed_var (i := 7) rfl iw7') mono_im (ev_var (i := 4) rfl) ed_str b8.ow.fd e1' (by show 2 < sizeLine; decide) fun vn F9 H9 a9 f9 h9 inn s9 => rB_nil ?_
      have eput : putK [((.inr "kept" : Key), kv8), (.inr "past", .ref opl)] (.inr "kept") vn = [(.inr "kept", vn), (.inr "past", .ref opl)] := rfl
      rw [eput] at s9 ⊢
      have A8 : AdvM T [l, x, pl, od, opl] F0 H0 F8 (upd H8 opl (.lst (xs7 ++ [vk]))) := ((A7.trans (.of a8) okl).more inl).write (by simp) f8 h8 mut_lst
      have A9 := (A8.trans (.of a9) ok0).write (by simp) f9 h9 mut_dK (o' := .dK [(.inr "kept", vn), (.inr "past", .ref opl)])
      have W : AdvM T [od, opl] F8 H8 F9 (upd H9 od (.dK [(.inr "kept", vn), (.inr "past", .ref opl)])) := (((AdvM.refl (T := T) (L := [od, opl]) a8.sub).write (by simp) f8 h8 mut_lst (o' := .lst (xs7 ++ [vk]))).trans (.of a9) b8.ow.ok).write (by simp) f9 h9 mut_dK
      obtain ⟨g1, g2⟩ := a9.off f8 upd_same notTbl_lst
      have ow9 : OwS od opl (e.new p) (ps ++ [p]) F9 (upd H9 od (.dK [(.inr "kept", vn), (.inr "past", .ref opl)])) := by
        refine ⟨f9, g1, vn, xs7 ++ [vk], upd_same, inn, by rw [upd_ne hne.symm]; exact g2, ?_⟩
        rw [List.map_append]
        exact (d4.up (a8.ff.trans a9.ff)).snoc (ik.up a9.ff)
      obtain ⟨n1, n2, n3, n4⟩ := b0.d1
      obtain ⟨n5, n6, n7, n8⟩ := b0.d2
      have ed9 := b8.ed.stepM W (by simp [n1, n2]) (by simp [n3, n4])
      have src9 := b8.src.stepM W (by simp [n7, n8])
      have T9 := A9.tab hT0
      have x9 := a7.ff.trans (a8.ff.trans a9.ff)
      have idu9 := idu.up x9
      have iw69 := (iw6.up a6.ff).up x9
      have hQ9 : okQ (e.new p) := isPr_okQ hz o1 o2
      generalize upd H9 od (.dK [(.inr "kept", vn), (.inr "past", .ref opl)]) = H10 at A9 ow9 ed9 src9 T9 s9 ⊢
      refine b_retR (rx_same (T := T) hgd hr.units (b_repr g) (rx_met (k := 8) (c := c) (Pt := Pt) M xf TB rfl hT hu hr (by decide) (lamS_by (by kernel_rfl)) rfl (fun _ _ _ _ _ => rfl) rfl T9 fun H11 ext T11 E' Q' hE hQ A2 outer2 s2 Hc f2 c' hr2 => ?_))
      have a11 := adv_extN s9 ext T11
      refine rx_callX cc hr2 takesL (fun _ _ _ _ z => z) (EA.go (T := T) (eg_cons (ev_var (i := 3) rfl) (eg_cons (P := eqP (.str e.word)) (ev_var (i := 5) rfl) (eg_cons (P := imP e.args) (ed_var (i := 6) rfl iw69) eg_nil mono_im) mono_eq) mono_eq) (.refl a11.sub) fun vs F12 H12 a12 hv => ?_)
      obtain ⟨w1, _, rfl, rfl, w2, _, rfl, e2, wa, _, rfl, ia, rfl⟩ := hv
      obtain rfl : w2 = .str e.word := e2
      have a1112 := a11.trans a12
      have A12 := A9.trans (.of a1112) ok0
      refine ⟨F12, x, pl, p, ps, e, wa, a12.sub, ed9.step a1112, b0.ok, he, by omega, ia, rfl, fun _ F13 H13 a13 ed13 => hQ _ _ fun r hr13 => ?_, fun zz => ?_⟩
      · have A13 := A12.trans (a13.more (by simp)) ok0
        have ow13 := (ow9.step a1112).stepM a13 (by simp [n1.symm, n3.symm]) (by simp [n2.symm, n4.symm])
        have src13 := (src9.step a1112).stepM a13 (by simp [n5, n6])
        have ad : Adv T F13 H13 (upd F13 r (.tup [.str "fine", .non])) (upd H13 r (.tup [.str "fine", .non])) := Adv.new A13.sub hr13 notTbl_tup
        have idu14 := ((idu9.up a1112.ff).up a13.ff).up ad.ff
        refine ⟨_, .tuple [.str "fine", .none], 13, 1, 19, ad.sub, ⟨r, _, rfl, upd_same, _, _, rfl, rfl, _, _, rfl, rfl, rfl⟩, .inl ⟨_, rfl⟩, fine_sw, by decide, by decide, by decide, ed_var (i := 8) rfl idu14, fun F14 H14 a14 => ?_⟩
        have ad2 := ad.trans a14
        refine k (e.new p) (ps ++ [p]) F14 H14 (A13.trans (.of ad2) ok0) ⟨(src13.step ad2).mono (by omega), ed13.step ad2, ow13.step ad2, hQ9, fun y hy => ?_, b0.d1, b0.d2⟩ (by rw [List.length_append]; exact Nat.le_refl _)
        rcases List.mem_append.mp hy with q | q
        · exact b0.oks y q
        · rw [List.mem_singleton.mp q]; exact b0.ok
      · have : isPr (e.new p) = false := zz
        rw [this] at hz
        cases hz
    · -- nothing changes
      have b7 := b6.step a7
      have A7 := A6.trans (.of a7) okl
      refine b_asg (T := T) (i := 8) (P := imP (.tuple [.str "pair", prD (e.new p)])) (ed_tup (ds := [.str "pair", prD (e.new p)]) (ea_cons ed_str (ea_cons (ed_var (i := 7) rfl ((iw7.up a6.ff).up a7.ff)) ea_nil))) a7.sub (fun v2 F8 H8 a8 idu8 => rB_nil ?_) nd
      show rB _ _ _ [some (.ref l), some vl, some vv, some (.ref x), some (.ref od), some (.str e.word), some w6, some w7, some v2] H8
      have b8 := b7.step a8
      have A8 := A7.trans (.of a8) okl
      have T8 := A8.tab hT0
      have iw68 := iw6.up (a6.ff.trans (a7.ff.trans a8.ff))
      refine b_retR (rx_same (T := T) hgd hr.units (b_repr g) (rx_met (k := 8) (c := c) (Pt := Pt) M xf TB rfl hT hu hr (by decide) (lamS_by (by kernel_rfl)) rfl (fun _ _ _ _ _ => rfl) rfl T8 fun H11 ext T11 E' Q' hE hQ A2 outer2 s2 Hc f2 c' hr2 => ?_))
      have a11 := adv_extN a8.sub ext T11
      refine rx_callX cc hr2 takesL (fun _ _ _ _ z => z) (EA.go (T := T) (eg_cons (ev_var (i := 3) rfl) (eg_cons (P := eqP (.str e.word)) (ev_var (i := 5) rfl) (eg_cons (P := imP e.args) (ed_var (i := 6) rfl iw68) eg_nil mono_im) mono_eq) mono_eq) (.refl a11.sub) fun vs F12 H12 a12 hv => ?_)
      obtain ⟨w1, _, rfl, rfl, w2, _, rfl, e2, wa, _, rfl, ia, rfl⟩ := hv
      obtain rfl : w2 = .str e.word := e2
      have a1112 := a11.trans a12
      have A12 := A8.trans (.of a1112) okl
      have b12 := b8.step a1112
      refine ⟨F12, x, pl, p, ps, e, wa, a12.sub, b12.ed, b0.ok, he, by omega, ia, rfl, fun zz => ?_, fun _ dd v F13 H13 a13 fd hd ipv => hE _ _ _ (.inl ⟨rfl, dd, v, rfl, hd, fun r hr13 => ?_⟩)⟩
      · have : isPr (e.new p) = true := zz
        rw [this] at hz
        cases hz
      · have ad : Adv T F13 H13 (upd F13 r (.tup [.str "pair", v])) (upd H13 r (.tup [.str "pair", v])) := Adv.new a13.sub hr13 notTbl_tup
        have idu14 := (idu8.up a1112.ff).up (a13.ff.trans ad.ff)
        refine ⟨_, .tuple [.str "pair", prD (e.new p)], 13, 4, 15207, ad.sub, ⟨r, _, rfl, upd_same, _, _, rfl, rfl, _, _, rfl, ipv.up ad.ff, rfl⟩, .inl ⟨_, rfl⟩, pair_sw o1 o2 o3' o4', by decide, by decide, by decide, ed_var (i := 8) rfl idu14, fun F14 H14 a14 => ?_⟩
        have ad2 := a13.trans (ad.trans a14)
        exact k p ps F14 H14 ((A12.more inl).trans (.of ad2) ok0) ((b12.step ad2).mono (by omega)) (Nat.le_succ _)
end
end Tw
namespace Tw
open PySem PySem.Spec PyProof.Rows L2 LamX
section
variable {T : List (Addr × Str)} {X : Cx} {e a b : Expr} {σ : L2.St} {F H : Hp} {pos p1 p2 : Pos} {k n : Nat} {C x pl : Addr} {p : Pr} {ps : List Pr} {d : PyData} {m : Str} {R : Pr → Nat → PyData → Prop}
-- len of an instance whose class has its own
def rLenOwn (C : Addr) (sp : Sp) : List V → Hp → VK → Prop := fun xs H Q => ∃ y dx fs, xs = [.ref y] ∧ H y = some (.ins C dx fs) ∧ sp [.ref y] H (fun v H' => ∃ m : Nat, v = .int m ∧ m < 2 ^ 62 ∧ Q (.int m) H') L2.E0
theorem cr_lenOwn {sp : Sp} (c : Met X.prog X.w X.K X.mg X.base k C "__len__" ["self"] sp) (hr : Room (k + 1) X.A) : CallR X (.builtin "len") (rLenOwn C sp) := by
  intro pins s σ H xs us Q I r h
  obtain ⟨y, dx, fs, rfl, hy, hsp⟩ := h
  obtain ⟨f, fd, hc, hM, FO, bd⟩ := c.ex
  obtain rfl := Vals.ref1 r
  obtain ⟨mA, J, _⟩ := ins_get I.hok hy
  obtain ⟨od, J, _⟩ := J.look
  obtain ⟨mm, hF⟩ := I.fr
  refine PySem.W.len_K hF I.ok.mod.kin J hM.at_ hM.fn (wpAny_call (codeAny_mono (FO.run X.A.in1 X.stack s H ⟨[.ref y], []⟩ [.ref y] [.ref y] _ L2.E0 hr.in1 I.env0.in1 (by
    have := bd s [.ref y] I.kIn (by have := FO.len _ _ _ _ hsp; simpa using this)
    simpa using this) r hsp) fun res s' hq => ?_))
  cases res with
  | error u => exact False.elim hq
  | ok fl =>
    cases fl with
    | ret u =>
      obtain ⟨v, H', I', rv, mv, rfl, hm, q⟩ := I.after hq
      obtain ⟨t, rfl⟩ := rv
      refine ⟨⟨by omega, by have : (mv : Int) < 2 ^ 62 := by exact_mod_cast hm
                            omega⟩, .int mv, H', I'.tok _, ⟨_, rfl⟩, q⟩
    | next => exact False.elim hq
    | brk => exact False.elim hq
    | cont => exact False.elim hq
-- a reader of an editor
theorem ed_edm {n : Nat} {pn : Sem Bool} (c : Met X.prog X.w X.K X.mg X.base k C m ["self"] (spEd T C R)) (hr : Room n X.A) (hT : Tabs T H) (es : EdS C x pl p ps F H) (hp : okQ p) (ha : EV T X a σ F H (.ref x)) (r : R p ps.length d) (hk : k ≤ n := by decide) (hl : ∀ kv pl, (edF kv pl).lookup m = none := by exact fun _ _ => rfl)
    (ht : eval (.Call (.Attribute a m p1) [] [] pos) X.env = (do
      let ov ← eval a X.env
      standAt p1.atName
      let (f, first) ← holding [ov] (getMethod ov m pn)
      callWith pos f first (backTo pos (starEach [] X.env)) (backToKw pos (keywordEach [] X.env))) := by rfl) : ED T X (.Call (.Attribute a m p1) [] [] pos) σ F H d := fun F1 H1 a1 Q k2 =>
  rx_meth0 c hr (ha F1 H1 a1 _ fun u F2 H2 a2 eu => by
    have aa := a1.trans a2
    obtain ⟨xs, ea, ex⟩ := (es.step aa).ex
    obtain ⟨dx, kv, q1, q2⟩ := id ea.ex
    have hlen := ex.length
    rw [List.length_map] at hlen
    exact ⟨x, dx, _, eu, q1, hl kv pl, F2, x, pl, p, xs, d, a2.sub, aa.tab hT, ea, hp, rfl, by rw [hlen]; exact r, fun v F' H' a' im => k2 v F' H' (a2.trans a') im⟩) hk ht
theorem ed_lenE (c : Met X.prog X.w X.K X.mg X.base k C "__len__" ["self"] (spEd T C R)) {n : Nat} (hr : Room n X.A) (hT : Tabs T H) (es : EdS C x pl p ps F H) (hp : okQ p) (hm : X.mg "len" = none) (ha : EV T X a σ F H (.ref x)) {j : Nat} (r : R p ps.length (.int (j : Nat))) (hj : j < 2 ^ 62) (hk : k + 1 ≤ n := by decide)
    (hg : Gl X "len" := by rfl) (hs : starEach [a] X.env = (false, eval a X.env) :: starEach [] X.env := by rfl) : ED T X (.Call (.Name "len" p1) [a] [] pos) σ F H (.int (j : Nat)) :=
  ex_callB (cr_lenOwn c (hr.mono hk)) hm boot_lenb (ea1 ha mono_eq hs) (fun vs F1 H1 a1 ⟨v, e1, q⟩ Q k2 => by
    obtain ⟨xs, ea, ex⟩ := (es.step a1).ex
    obtain ⟨dx, kv, q1, q2⟩ := id ea.ex
    have hlen := ex.length
    rw [List.length_map] at hlen
    exact ⟨x, dx, _, by rw [e1, show v = .ref x from q], q1, F1, x, pl, p, xs, .int (j : Nat), a1.sub, a1.tab hT, ea, hp, rfl, by rw [hlen]; exact r, fun v F' H' a' im => ⟨j, im, hj, k2 _ F' H' a' rfl⟩⟩) hg (he := hs)
end
-- what is asked of the whole (sizes)
theorem sw_told {p : Pr} (h : okQ p) : ∃ k w, k ≤ 30 ∧ (300 + 2) * w + 300 ≤ 16777216 ∧ Sw 300 k w (.list [.int (waysF (conts p)), .bool (decide ((((partsF (conts p)).length : Nat) : Int) ≤ 1)), .tuple ((deadF p).map stN), .tuple ((racesF (conts p)).map fun i => PyData.int (i : Nat))]) := by
  have h1 := sw_count h.2
  have h2 := sw_bool (B := 300) (b := decide ((((partsF (conts p)).length : Nat) : Int) ≤ 1))
  have h3 := sw_dead h.1
  have h4 := sw_races h.2 conts_wf
  refine ⟨3, 33926, by decide, by decide, ?_⟩
  generalize PyData.int (waysF (conts p)) = d1 at *
  generalize PyData.bool (decide ((((partsF (conts p)).length : Nat) : Int) ≤ 1)) = d2 at *
  generalize PyData.tuple ((deadF p).map stN) = d3 at *
  generalize PyData.tuple ((racesF (conts p)).map fun i => PyData.int (i : Nat)) = d4 at *
  refine ⟨?_, ?_, ?_, ?_, ?_⟩
  · simp [PyData.hasDict, PyData.hasDictAll, h1.nd, h2.nd, h3.nd, h4.nd]
  · simp [PyData.showable, PyData.showableAll, h1.sh, h2.sh, h3.sh, h4.sh]
  · simp [PyData.leavesShort, PyData.leavesShortAll, h1.ls, h2.ls, h3.ls, h4.ls]
  · have a1 := h1.dp
    have a2 := h2.dp
    have a3 := h3.dp
    have a4 := h4.dp
    simp only [PyData.depth, PyData.depthAll]
    omega
  · have a1 := h1.wt
    have a2 := h2.wt
    have a3 := h3.wt
    have a4 := h4.wt
    simp only [PyData.weight, PyData.weightAll]
    omega
theorem sw_two {p : Pr} (h : okQ p) : Sw 13 3 259443 (.list [.tuple ((conts p).map Con.d), .tuple ((partsF (conts p)).map tupD)]) := by
  refine sw_lst (B := 13) (k := 2) (w := 129721) (n := 2) (fun d hd => ?_) (Nat.le_refl 2)
  simp only [List.mem_cons, List.mem_nil_iff, or_false] at hd
  rcases hd with e | e <;> rw [e]
  · exact (sw_conts h).le (Nat.le_refl _) (by decide)
  · exact sw_parts h.2
theorem sw_same {p : Pr} {n : Nat} (h : okQ p) (hn : n < 128) : Sw 13 4 22810 (.list [prD p, .int (n : Nat), .int ((p.1.length + p.2.length : Nat) : Int)]) := by
  obtain ⟨l1, l2⟩ := okQ_len h
  refine sw_lst (B := 13) (k := 3) (w := 7603) (n := 3) (fun d hd => ?_) (Nat.le_refl 3)
  simp only [List.mem_cons, List.mem_nil_iff, or_false] at hd
  rcases hd with e | e | e <;> rw [e]
  · exact sw_pr h.1.1 h.1.2.1 (by omega) (by omega)
  · exact (sw_nat hn (by decide)).le (by decide) (by decide)
  · exact (sw_nat (by omega) (by decide)).le (by decide) (by decide)
section
variable {P : Program} {w : World} {K : PySem.W.Frag} {mg : Str → Option Value} {base : Heap} {T : List (Addr × Str)} {C cA : Addr}
def spAsk (T : List (Addr × Str)) (C : Addr) : Sp := fun vs H Q _ => ∃ F x pl od opl l n p ps, Sub F H ∧ Tabs T H ∧ Both C x pl od opl l n p ps F H ∧ ps.length ≤ 100 ∧ vs = [.ref x, .ref od] ∧ ∀ F' H', Adv T F H F' H' → Q (.bl true) H'
theorem ok_same (F : DfC K mg "_law_same_editor" (top 82) cA) (g : G K mg) (c1 : Met P w K mg base 1 C "pair" ["self"] (spEd T C fun p _ d => d = prD p)) (c2 : Met P w K mg base 1 C "steps_back" ["self"] (spEd T C fun _ n d => d = .int (n : Nat))) (c3 : Met P w K mg base 1 C "__len__" ["self"] (spEd T C fun p _ d => d = .int ((p.1.length + p.2.length : Nat) : Int))) :
    ClG P w K mg base 3 "_law_same_editor" ["_law_editor", "_law_own"] (spAsk T C) := by
  refine clg_of (N := ["_law_editor", "_law_own", "_law_told"]) F ⟨rfl, rfl, rfl, by decide +kernel, rfl, by decide +kernel, by decide +kernel⟩ (fun vs H Q E ⟨F, x, pl, od, opl, l, n, p, ps, _, _, _, _, e, _⟩ => by rw [e]; rfl) (fun _ _ _ _ _ _ us hl => match us, hl with | [_, _], _ => rfl) ?_
  rintro f A outer s H0 vs Q E hgd hr ⟨F0, x, pl, od, opl, l, n, p, ps, sF, hT0, b0, hps, rfl, k⟩
  have nd : (["_law_editor", "_law_own", "_law_told"] : List Str).Nodup := by decide +kernel
  obtain ⟨l1, l2⟩ := okQ_len b0.ok
  have hz : p.1.length + p.2.length < 2 ^ 62 := by omega
  refine b_asg (T := T) (i := 2) (P := imP (.list [prD p, .int (ps.length : Nat), .int ((p.1.length + p.2.length : Nat) : Int)])) (EF.ed (ef_lst (ea_cons (ed_edm c1 hr hT0 b0.ed b0.ok (ev_var (i := 0) rfl) rfl) (ea_cons (ed_edm c2 hr hT0 b0.ed b0.ok (ev_var (i := 0) rfl) rfl) (ea_cons (ed_lenE c3 hr hT0 b0.ed b0.ok (b_len g) (ev_var (i := 0) rfl) rfl hz) ea_nil))))) sF (fun vt F1 H1 a1 it => ?_) nd
  have b1 := b0.step a1
  obtain ⟨kv, xs, d1, d2, d3, d4⟩ := id b1.ow.ex
  have hlen := d4.length
  rw [List.length_map] at hlen
  show rB _ _ _ [some (.ref x), some (.ref od), some vt] H1
  have sw := sw_same (n := ps.length) b0.ok (by omega)
  have kept : ∀ {pa pb pc : Pos} {j : Nat}, ED T (cxOf L2.CX0 P w K mg base ["_law_editor", "_law_own", "_law_told"] "_law_same_editor" (defScope (top 82)) f (.ref cA) A outer s H0 E).nox (.Subscript (.Name "_law_own" pa) (.Constant (.str "kept") j pb) pc) [some (.ref x), some (.ref od), some vt] F1 H1 (prD p) := ex_dgetR (k := .inr "kept") (P := imP (prD p)) (room_u1 hr) (ev_var (i := 1) rfl) d1 ed_str rfl d2 mono_im
  have e1 : PyData.int (((p.1.map stD).length : Nat) + ((p.2.map stD).length : Nat)) = .int ((p.1.length + p.2.length : Nat) : Int) := by rw [List.length_map, List.length_map]; rfl
  refine b_ret (T := T) (P := imP (.bool true)) (ED.to (ed_eqS (ed_repr hgd hr.units (b_repr g) (ed_var (i := 2) rfl it) (.inr ⟨_, rfl⟩) sw (by decide) (by decide) (by decide)) (ed_repr hgd hr.units (b_repr g) (EF.ed (ef_lst (ea_cons kept (ea_cons (ED.to (ed_lenm (b_len g) (ex_dgetR (k := .inr "past") (P := eqP (.ref opl)) (room_u1 hr) (ev_var (i := 1) rfl) d1 ed_str rfl rfl mono_eq) d3) (by rw [hlen])) (ea_cons (ED.to (ed_add (ed_lent (b_len g) (ed_ixt kept ed_int rfl)) (ed_lent (b_len g) (ed_ixt kept ed_int rfl))) e1) ea_nil))))) (.inr ⟨_, rfl⟩) sw (by decide) (by decide) (by decide))) (by simp)) a1.sub fun v F2 H2 a2 q => ?_
  obtain rfl : v = .bl true := q
  exact k F2 H2 (a1.trans a2)
theorem ok_right (F : DfC K mg "_law_answers_right" (top 83) cA) (g : G K mg) (c1 : Met P w K mg base 4 C "contests" ["self"] (spEd T C fun p _ d => Rcontests [prD p] d)) (c2 : Met P w K mg base 7 C "pieces" ["self"] (spEd T C fun p _ d => Rpieces [prD p] d)) (c3 : Met P w K mg base 9 C "count_runs" ["self"] (spEd T C fun p _ d => Rcount [prD p] d)) (c4 : Met P w K mg base 8 C "is_serial" ["self"] (spEd T C fun p _ d => Rserial [prD p] d))
    (c5 : Met P w K mg base 5 C "deadlocks" ["self"] (spEd T C fun p _ d => Rdead [prD p] d)) (c6 : Met P w K mg base 8 C "races" ["self"] (spEd T C fun p _ d => Rraces [prD p] d)) (f1 : Cl P w K mg base 8 "count_runs_counting" ["pair"] (spDT T Rcount)) (f2 : Cl P w K mg base 7 "is_serial_pieces" ["pair"] (spD T Rserial)) (f3 : Cl P w K mg base 4 "deadlocks_states" ["pair"] (spD T Rdead)) (f4 : Cl P w K mg base 7 "races_races" ["pair"] (spD T Rraces))
    (l1 : Cl P w K mg base 2 "_law_contests" ["_law_duo"] (spD T Rlconts)) (l2 : Cl P w K mg base 3 "_law_pieces" ["_law_known"] (spD T Rlpieces)) :
    ClG P w K mg base 10 "_law_answers_right" ["_law_editor", "_law_own"] (spAsk T C) := by
  refine clg_of (N := ["_law_editor", "_law_own", "_law_both", "_law_known", "_law_told"]) F ⟨rfl, rfl, rfl, by decide +kernel, rfl, by decide +kernel, by decide +kernel⟩ (fun vs H Q E ⟨F, x, pl, od, opl, l, n, p, ps, _, _, _, _, e, _⟩ => by rw [e]; rfl) (fun _ _ _ _ _ _ us hl => match us, hl with | [_, _], _ => rfl) ?_
  rintro f A outer s H0 vs Q E hgd hr ⟨F0, x, pl, od, opl, l, n, p, ps, sF, hT0, b0, hps, rfl, k⟩
  have nd : (["_law_editor", "_law_own", "_law_both", "_law_known", "_law_told"] : List Str).Nodup := by decide +kernel
  obtain ⟨kv, xs, d1, d2, d3, d4⟩ := id b0.ow.ex
  have hp := b0.ok
  refine b_asg (T := T) (i := 2) (P := imP (prD p)) (ex_dgetR (k := .inr "kept") (P := imP (prD p)) (room_u1 hr) (ev_var (i := 1) rfl) d1 ed_str rfl d2 mono_im) sF (fun vb F1 H1 a1 ib => ?_) nd
  show rB _ _ _ [some (.ref x), some (.ref od), some vb, none, none] H1
  refine b_asg (T := T) (i := 3) (P := imP (.list ((conts p).map Con.d))) (ED.to (ed_call l1 hr (ea_cons (ed_var (i := 2) rfl ib) ea_nil) ⟨p, okL_of hp.1, rfl, rfl⟩) (by rw [lconts_eq hp.1])) a1.sub (fun vk F2 H2 a2 ik => ?_) nd
  have b2 := (b0.step a1).step a2
  have T2 := a2.tab (a1.tab hT0)
  have ib2 := ib.up a2.ff
  show rB _ _ _ [some (.ref x), some (.ref od), some vb, some vk, none] H2
  refine b_when (T := T) (k0 := false) (ET.to (et_neS (ed_repr hgd hr.units (b_repr g) (EF.ed (ef_lst (ea_cons (ed_edm c1 hr T2 b2.ed hp (ev_var (i := 0) rfl) ⟨p, hp.1, rfl, rfl⟩) (ea_cons (ed_edm c2 hr T2 b2.ed hp (ev_var (i := 0) rfl) ⟨p, hp, rfl, rfl⟩) ea_nil)))) (.inr ⟨_, rfl⟩) (sw_two hp) (by decide) (by decide) (by decide))
    (ed_repr hgd hr.units (b_repr g) (EF.ed (ef_lst (ea_cons (ed_tupl (b_tuple g) (ed_var (i := 3) rfl ik)) (ea_cons (ed_tupl (b_tuple g) (ed_call l2 hr (ea_cons (ed_var (i := 3) rfl ik) ea_nil) ⟨conts p, hp.2, conts_wf, rfl, rfl⟩)) ea_nil)))) (.inr ⟨_, rfl⟩) (sw_two hp) (by decide) (by decide) (by decide))) (by simp)) a2.sub (fun z => by cases z) fun _ F3 H3 a3 => ?_
  have b3 := b2.step a3
  have T3 := a3.tab T2
  have ib3 := ib2.up a3.ff
  obtain ⟨sk, sw, s1, s2, s3⟩ := sw_told hp
  refine b_asg (T := T) (i := 4) (EF.ed (ef_lst (ea_cons (ed_edm c3 hr T3 b3.ed hp (ev_var (i := 0) rfl) ⟨p, hp, rfl, rfl⟩) (ea_cons (ed_edm c4 hr T3 b3.ed hp (ev_var (i := 0) rfl) ⟨p, hp, rfl, rfl⟩) (ea_cons (ed_edm c5 hr T3 b3.ed hp (ev_var (i := 0) rfl) ⟨p, hp.1, rfl, rfl⟩) (ea_cons (ed_edm c6 hr T3 b3.ed hp (ev_var (i := 0) rfl) ⟨p, hp, rfl, rfl⟩) ea_nil)))))) a3.sub (fun vt F4 H4 a4 it => ?_) nd
  have T4 := a4.tab T3
  have ib4 := ib3.up a4.ff
  show rB _ _ _ [some (.ref x), some (.ref od), some vb, some vk, some vt] H4
  have r1 : Rcount [prD p] (.int (waysF (conts p))) := ⟨p, hp, rfl, rfl⟩
  have r2 : Rserial [prD p] (.bool (decide ((((partsF (conts p)).length : Nat) : Int) ≤ 1))) := ⟨p, hp, rfl, rfl⟩
  have r3 : Rdead [prD p] (.tuple ((deadF p).map stN)) := ⟨p, hp.1, rfl, rfl⟩
  have r4 : Rraces [prD p] (.tuple ((racesF (conts p)).map fun i => PyData.int (i : Nat))) := ⟨p, hp, rfl, rfl⟩
  refine b_ret (T := T) (P := imP (.bool true)) (ED.to (ed_eqS (ed_repr hgd hr.units (b_repr g) (ed_var (i := 4) rfl it) (.inr ⟨_, rfl⟩) s3 s1 (by decide) s2) (ed_repr hgd hr.units (b_repr g) (EF.ed (ef_lst (ea_cons (ed_callT T4 f1 hr (ea_cons (ed_var (i := 2) rfl ib4) ea_nil) r1) (ea_cons (ed_call f2 hr (ea_cons (ed_var (i := 2) rfl ib4) ea_nil) r2) (ea_cons (ed_call f3 hr (ea_cons (ed_var (i := 2) rfl ib4) ea_nil) r3) (ea_cons (ed_call f4 hr (ea_cons (ed_var (i := 2) rfl ib4) ea_nil) r4) ea_nil)))))) (.inr ⟨_, rfl⟩) s3 s1 (by decide) s2)) (by simp)) a4.sub fun v F5 H5 a5 q => ?_
  obtain rfl : v = .bl true := q
  exact k F5 H5 ((((a1.trans a2).trans a3).trans a4).trans a5)
end
end Tw
namespace Tw
open PySem PySem.Spec PyProof.Rows L2 LamX
theorem sql_up {K : PySem.W.Frag} {F H : Hp} {a : Addr} {xs : List V} (h : ∀ o, ¬ IsDic o → F a = some o → H a = some o) (q : SqL K F a xs) : SqL K H a xs := by
  rcases q with (q | ⟨o, q⟩) | q
  · exact .inl (.inl (h _ (fun z => z) q))
  · exact .inl (.inr ⟨o, h _ (fun z => z) q⟩)
  · exact .inr q
theorem sql_sub {K : PySem.W.Frag} {F H : Hp} {a : Addr} {xs : List V} (s : Sub F H) (q : SqL K F a xs) : SqL K H a xs := sql_up (fun o n h => s.at h n) q
theorem sql_ext {K : PySem.W.Frag} {F F' : Hp} {a : Addr} {xs : List V} (e : Ext F F') (q : SqL K F a xs) : SqL K F' a xs := sql_up (fun o n h => e _ _ h) q
def CPowB (i j : Int) : Prop := 0 ≤ j ∧ (Builtin.Int.intBits i : Int) * j ≤ 2 ^ 27
theorem op_powB {X : Cx} : OpR X (binaryOp .Pow) (L2.rI CPowB fun i j => .int (i ^ j.toNat)) := opI fun _ _ _ _ _ _ _ hc q => pow_int hc.1 hc.2 q
section
variable {T : List (Addr × Str)} {X : Cx} {e a b : Expr} {σ : L2.St} {F H : Hp} {pos p : Pos}
theorem ed_powB {i j : Int} (ha : ED T X a σ F H (.int i)) (hb : ED T X b σ F H (.int j)) (hc : CPowB i j) : ED T X (.BinOp a .Pow b pos) σ F H (.int (i ^ j.toNat)) := ex_bin op_powB ha hb mono_im (rx_I hc rfl mono_im)
-- what the script holds
theorem ed_scr {l : Addr} {ns : List Int} {k : Nat} {i : Int} (ha : EV T X a σ F H (.ref l)) (hS : SqL X.K F l (ns.map V.int)) (hb : ED T X b σ F H (.int (k : Nat))) (h : ns[k]? = some i) (hs : PlainIx b := by exact fun _ _ => rfl) : ED T X (.Subscript a b pos) σ F H (.int i) :=
  ex_op2 (pe_ix ix_list pe_r pe_r hs) ha hb mono_eq fun x y F1 H1 a1 h1 h2 Q k2 =>
    ⟨l, ns.map V.int, k, .int i, h1, h2, sql_sub a1.sub (sql_ext a1.ff hS), atI_nat (by rw [List.getElem?_map, h]; rfl), k2 _ F1 H1 (.refl a1.sub) rfl⟩
theorem ed_lenS {l : Addr} {ns : List Int} (hm : X.mg "len" = none) (ha : EV T X a σ F H (.ref l)) (hS : SqL X.K F l (ns.map V.int)) (hg : Gl X "len" := by rfl) (hs : starEach [a] X.env = (false, eval a X.env) :: starEach [] X.env := by rfl) : ED T X (.Call (.Name "len" p) [a] [] pos) σ F H (.int (ns.length : Nat)) :=
  ex_callB call_len_seq hm boot_lenb (ea1 ha mono_eq hs) (fun vs F1 H1 a1 ⟨v, e1, q⟩ Q k => ⟨l, ns.map V.int, by rw [e1, show v = .ref l from q], .inl (sql_sub a1.sub (sql_ext a1.ff hS)), k _ F1 H1 (.refl a1.sub) (by show V.int _ = V.int _; rw [List.length_map])⟩) hg (he := hs)
end
theorem big_m : ((10 : Int) ^ (60 : Int).toNat) ^ (5 : Int).toNat = 10 ^ 300 := by decide +kernel
theorem big_b : CPowB ((10 : Int) ^ (60 : Int).toNat) 5 := ⟨by decide, by decide +kernel⟩
section
variable {P : Program} {w : World} {K : PySem.W.Frag} {mg : Str → Option Value} {base : Heap} {T : List (Addr × Str)}
def spStart (T : List (Addr × Str)) (K : PySem.W.Frag) : Sp := fun vs H Q _ => ∃ F a, ∃ (ns : List Int) (k : Nat), Sub F H ∧ SqL K F a (ns.map V.int) ∧ k ≤ 1 ∧ vs = [.ref a, .int (k : Nat)] ∧
  ∀ l F' H', Adv T F H F' H' → Nw H l → SrcAt l 0 F' H' → Q (.ref l) H'
theorem ok_start (F : DfN K mg "_law_start" 61) (g : G K mg) : Cl P w K mg base 1 "_law_start" ["_law_script", "_law_k"] (spStart T K) := by
  refine cl_of (N := ["_law_script", "_law_k", "_law_cell", "_law_large"]) F ⟨rfl, rfl, rfl, by decide +kernel, rfl, by decide +kernel, by decide +kernel⟩ (fun vs H Q E ⟨F, a, ns, k, _, _, _, e, _⟩ => by rw [e]; rfl) (fun _ _ _ _ _ _ us hl => match us, hl with | [_, _], _ => rfl) ?_
  rintro f cdv A outer s H0 vs Q E hr ⟨F0, a, ns, k, sF, hS, hk1, rfl, kq⟩
  have nd : (["_law_script", "_law_k", "_law_cell", "_law_large"] : List Str).Nodup := by decide +kernel
  have kk : ∀ {F1 H1 : Hp} {σ : L2.St} {pn : Pos}, σ[1]? = some (some (.int (k : Nat))) → ED T (cxOf L2.CX0 P w K mg base ["_law_script", "_law_k", "_law_cell", "_law_large"] "_law_start" (defScope (top 61)) f cdv A outer s H0 E).nox (.Name "_law_k" pn) σ F1 H1 (.int (k : Nat)) := fun h => ed_var (d := .int (k : Nat)) (i := 1) h rfl
  have kb : (k : Int).natAbs < 2 ^ 7 := by omega
  let cell : Int := if decide ((k : Int) < (ns.length : Nat)) = true then ns.getD k 0 else 13 * k + 7
  refine b_asg (T := T) (i := 2) (P := imP (.int cell)) (ex_if (k1 := decide ((k : Int) < (ns.length : Nat))) (et_lt (kk rfl) (ed_lenS (b_len g) (ev_var (i := 0) rfl) hS)) (fun z => ?_) fun z => ?_) sF (fun vc F1 H1 a1 ic => ?_) nd
  · have zk : k < ns.length := by have := of_decide_eq_true z; omega
    refine ED.to (ed_scr (ev_var (i := 0) rfl) hS (kk rfl) (i := ns.getD k 0) ?_) ?_
    · rw [List.getD_eq_getElem?_getD, List.getElem?_eq_getElem zk]; rfl
    · show PyData.int _ = .int (if decide ((k : Int) < (ns.length : Nat)) = true then _ else _)
      rw [if_pos z]
  · refine ED.to (ed_add (ed_mulW ed_int (kk rfl) (wide_mul (a := 7) (b := 7) (by decide) kb (by decide) (by decide) (by decide))) ed_int) ?_
    show PyData.int _ = .int (if decide ((k : Int) < (ns.length : Nat)) = true then _ else _)
    rw [if_neg (by rw [z]; decide)]
  · obtain rfl : vc = .int cell := ic
    generalize cell = ce
    show rB _ _ _ [some (.ref a), some (.int (k : Nat)), some (.int ce), none] H1
    have ab : ∀ {F1 H1 : Hp} {σ : L2.St} {pn : Pos}, σ[2]? = some (some (.int ce)) → ED T (cxOf L2.CX0 P w K mg base ["_law_script", "_law_k", "_law_cell", "_law_large"] "_law_start" (defScope (top 61)) f cdv A outer s H0 E).nox (.Name "_law_cell" pn) σ F1 H1 (.int ce) := fun h => ed_var (d := .int ce) (i := 2) h rfl
    have hm0 : (0 : Int) ≤ (if ce < 0 then -ce else ce) % 10 ^ 300 := Int.emod_nonneg _ (by decide)
    have hm1 : (if ce < 0 then -ce else ce) % 10 ^ 300 < 10 ^ 300 := Int.emod_lt_of_pos _ (by decide)
    have hpw : (10 : Int) ^ 300 < 2 ^ 1000 := by decide +kernel
    have hmn : ((if ce < 0 then -ce else ce) % 10 ^ 300).natAbs < 2 ^ 1000 := by
      have e : (((2 : Nat) ^ 1000 : Nat) : Int) = 2 ^ 1000 := by norm_cast
      have : (((if ce < 0 then -ce else ce) % 10 ^ 300).natAbs : Int) < ((2 : Nat) ^ 1000 : Nat) := by rw [e]; omega
      exact_mod_cast this
    have hbn : ∀ b : Bool, (if b then (1 : Int) else 0).natAbs < 2 ^ 1 := fun b => by cases b <;> decide
    have hb0 : ∀ b : Bool, (0 : Int) ≤ (if b then (1 : Int) else 0) := fun b => by cases b <;> decide
    refine b_asg (T := T) (i := 3) (P := imP (.int ((if ce < 0 then -ce else ce) % 10 ^ 300 * (if decide ((10 : Int) ^ (18 : Int).toNat ≤ (if ce < 0 then -ce else ce)) then 1 else 0)))) (ED.to (ed_mulW (ed_mod (ed_abs (b_abs g) (ab rfl)) (ED.to (ed_powB (ed_pow ed_int ed_int ⟨by decide, by decide, by decide⟩) ed_int big_b) (by rw [big_m])) (by decide)) (ed_intb (b_int g) (ed_ge (ed_abs (b_abs g) (ab rfl)) (ed_pow ed_int ed_int ⟨by decide, by decide, by decide⟩))) (wide_mul (a := 1000) (b := 1) hmn (hbn _) (by decide) (by decide) (by decide))) rfl) a1.sub (fun vl F2 H2 a2 il => ?_) nd
    have hl0 : (0 : Int) ≤ (if ce < 0 then -ce else ce) % 10 ^ 300 * (if decide ((10 : Int) ^ (18 : Int).toNat ≤ (if ce < 0 then -ce else ce)) then 1 else 0) := Int.mul_nonneg hm0 (hb0 _)
    generalize (if ce < 0 then -ce else ce) % 10 ^ 300 * (if decide ((10 : Int) ^ (18 : Int).toNat ≤ (if ce < 0 then -ce else ce)) then 1 else 0) = lg at il hl0
    obtain rfl : vl = .int lg := il
    show rB _ _ _ [some (.ref a), some (.int (k : Nat)), some (.int ce), some (.int lg)] H2
    have hc0 : (0 : Int) ≤ ce % 2305843009213693951 := Int.emod_nonneg _ (by decide)
    have hc1 : ce % 2305843009213693951 < 2305843009213693951 := Int.emod_lt_of_pos _ (by decide)
    have hkk : (15485867 * (k : Int) * (k : Int)) = 0 ∨ (15485867 * (k : Int) * (k : Int)) = 15485867 := by
      rcases Nat.le_one_iff_eq_zero_or_eq_one.mp hk1 with e | e <;> rw [e] <;> decide
    have h1 : (15485867 * (k : Int)).natAbs < 2 ^ 32 := by
      have : (15485867 * (k : Int)) ≤ 15485867 := by omega
      have : (0 : Int) ≤ 15485867 * (k : Int) := by omega
      have e : (2 : Nat) ^ 32 = 4294967296 := by decide
      omega
    have h2 : (ce % 2305843009213693951 + 15485867 * (k : Int) * (k : Int) + 41).natAbs < 2 ^ 64 := by
      have e : (2 : Nat) ^ 64 = 18446744073709551616 := by decide
      omega
    have big : (15485867 : Int).natAbs < 2 ^ 32 := by decide
    refine b_retR (EF.go (T := T) (ef_lst (ds := [.int lg, .int ((ce % 2305843009213693951 + 15485867 * (k : Int) * (k : Int) + 41) * 48271 % 2305843009213693907), .int 0]) (ea_cons (ed_var (d := .int lg) (i := 3) rfl rfl) (ea_cons (ed_mod (ed_mulW (ed_add (ed_add (ed_mod (ab rfl) ed_int (by decide)) (ed_mulW (ed_mulW ed_int (kk rfl) (wide_mul (a := 32) (b := 7) big kb (by decide) (by decide) (by decide))) (kk rfl) (wide_mul (a := 32) (b := 7) h1 kb (by decide) (by decide) (by decide)))) ed_int) ed_int (wide_mul (a := 64) (b := 32) h2 (by decide) (by decide) (by decide) (by decide))) ed_int (by decide)) (ea_cons ed_int ea_nil)))) (.refl a2.sub) fun l xs F3 H3 a3 hn hF hl hd => ?_)
    have hx0 : (0 : Int) ≤ (ce % 2305843009213693951 + 15485867 * (k : Int) * (k : Int) + 41) * 48271 % 2305843009213693907 := Int.emod_nonneg _ (by decide)
    have hx1 : (ce % 2305843009213693951 + 15485867 * (k : Int) * (k : Int) + 41) * 48271 % 2305843009213693907 < 2305843009213693907 := Int.emod_lt_of_pos _ (by decide)
    generalize (ce % 2305843009213693951 + 15485867 * (k : Int) * (k : Int) + 41) * 48271 % 2305843009213693907 = mx at hd hx0 hx1
    obtain ⟨v1, _, rfl, q1, v2, _, rfl, q2, v3, _, rfl, q3, rfl⟩ := hd
    obtain rfl : v1 = .int lg := q1
    obtain rfl : v2 = .int mx := q2
    obtain rfl : v3 = .int 0 := q3
    have A3 := (a1.trans a2).trans a3
    have e62 : (2 : Int) ^ 62 = 4611686018427387904 := by decide
    exact kq l F3 H3 A3 (Nw.back (a1.trans a2) hn) ⟨hF, lg, mx, 0, hl, hl0, hx0, by rw [e62]; omega, Int.le_refl 0, Int.le_refl 0⟩
end
end Tw
namespace Tw
open PySem PySem.Spec PyProof.Rows L2 LamX
-- what is known of a class with its own == and no other !=
structure EqF (K : PySem.W.Frag) (C : Addr) : Prop where
  ne : PySem.W.findIn K (.ref C) "__ne__" = some (some (.builtin "object.__ne__"))
  ca : PySem.W.findIn K (.ref C) "__class__" = some (some (.builtin "object.__class__"))
  cn : PySem.W.specialIn K (.builtin "object.__class__") "__get__" = some (some (.builtin "getset_descriptor.__get__"))
  ct : PySem.W.takesIn K (.builtin "object.__class__") = some true
  cm : PySem.W.mroIn K C (.type "object") = some true
section
variable {prog : Program} {w : World} {A : Around} {E : Value → Shared → Prop} {s : Shared} {K : PySem.W.Frag} {x y C f : Addr} {ox oy : Obj} {od od2 : Option Obj}
-- the body of object's !=
theorem one_ne {Q : Fin → Shared → Prop} (hu : A.units < cLine) (X : K.In s.heap) (I : PySem.W.InstAt s.heap x ox C od) (hs : PySem.W.findIn K (.ref C) "__eq__" = some (some (.ref f))) (hf : PySem.W.isFn K (.ref f) = true)
    (h : wpAny (model prog w) A (call (.ref f) [.ref x, .ref y]) (fun v s' => ∃ b, v = .bool b ∧ Q (.done (.ret (.bool (!b)))) s') E s) : wpAny (model prog w) A (Builtin.«object.__ne__» ⟨[.ref x, .ref y], []⟩) Q E s := by
  obtain ⟨hp, gs, dr, tk, os⟩ := s
  unfold Builtin.«object.__ne__»
  repeat (first
    | with_reducible refine wpAny_cRoomFor hu ?_
    | (refine wpAny_bind (m := callSpecialIfBound? (.ref x) (Str.ofString "__eq__") [.ref y])
        (PySem.W.ifBound_K X I hs hf (wpAny_mono h (fun r s' hr => by
          obtain ⟨bb, rfl, hq⟩ := hr
          repeat (first | exact hq | exact wpAny_pure hq | (refine wpAny_bind (m := truthy (.bool _)) (wpAny_truthy_bool ?_)) | wp_step)) fun _ _ z => z)))
    | wp_step)
theorem try_ne {Q : Option Value → Shared → Prop} (hu : A.units + 1 < cLine) (X : K.In s.heap) (I : PySem.W.InstAt s.heap x ox C od) (e : EqF K C) (hs : PySem.W.findIn K (.ref C) "__eq__" = some (some (.ref f))) (hf : PySem.W.isFn K (.ref f) = true)
    (h : wpAny (model prog w) A.in1 (call (.ref f) [.ref x, .ref y]) (fun v s' => ∃ b, v = .bool b ∧ Q (some (.bool (!b))) s') E s) : wpAny (model prog w) A (tryCompare (.ref x) "__ne__" (.ref y)) Q E s := by
  have inst : PySem.W.Looks (model prog w) s.heap (isInstance (.ref x) (.type "object")) true := I.type.andThen (PySem.W.looks_mroIn X e.cm)
  have go : wpAny (model prog w) A (call (.builtin "object.__ne__") [.ref x, .ref y]) (fun v s' => ∃ b, v = .bool b ∧ Q (some (.bool b)) s') E s :=
    wpAny_call (codeAny_call_builtin F.slot_object_ne.plain F.cmpEntry_ne (PySem.W.check_slot F.cmpKind_ne F.cmpSplit_ne inst (F.cmpArgs_ne _ _) (one_ne (A := A.in1) hu X I hs hf (wpAny_mono h (fun v s' ⟨b, e1, q⟩ => ⟨b, e1, _, rfl, q⟩) fun _ _ z => z))))
  have hb : bindSpecial (.builtin "object.__ne__") (.ref x) = pure (.builtin "object.__ne__", [.ref x]) := F.slot_object_ne.bind _
  have fin : wpAny (model prog w) A (call (.builtin "object.__ne__") ([.ref x] ++ [.ref y]) >>= fun v => pure (some v)) (fun r s' => ∃ b, r = some (.bool b) ∧ Q (some (.bool b)) s') E s := wpAny_bind (wpAny_mono go (fun v s' ⟨b, e1, q⟩ => by subst e1; exact wpAny_pure ⟨b, rfl, q⟩) fun _ _ z => z)
  unfold tryCompare
  refine wpAny_bind (wpAny_mono (?_ : wpAny (model prog w) A (callSpecialIfBound? (.ref x) "__ne__" [.ref y]) (fun r s' => ∃ b, r = some (.bool b) ∧ Q (some (.bool b)) s') E s) (fun r s' ⟨b, e1, q⟩ => by subst e1; exact wpAny_pure q) fun _ _ z => z)
  simp only [callSpecialIfBound?, bindSpecialIfBound?]
  refine wpAny_holding (wpAny_bind (wpAny_bind (wpAny_bind (I.type.here ((PySem.W.looks_findIn X e.ne).here ?_)))))
  simp only [hb]
  refine wpAny_bind (wpAny_askSetting (wpAny_ite ?_))
  split
  · exact wpAny_bind (wpAny_pure (wpAny_pure fin))
  · exact wpAny_tryCatch (wpAny_bind (wpAny_pure (wpAny_pure fin)))
theorem rich_ne {Q : Value → Shared → Prop} (hu : A.units + 1 < cLine) (X : K.In s.heap) (I : PySem.W.InstAt s.heap x ox C od) (I2 : PySem.W.InstAt s.heap y oy C od2) (e : EqF K C) (hs : PySem.W.findIn K (.ref C) "__eq__" = some (some (.ref f))) (hf : PySem.W.isFn K (.ref f) = true)
    (h : wpAny (model prog w) A.in1 (call (.ref f) [.ref x, .ref y]) (fun v s' => ∃ b, v = .bool b ∧ Q (.bool (!b)) s') E s) : wpAny (model prog w) A (richCompare .NotEq (.ref x) (.ref y)) Q E s := by
  have one : wpAny (model prog w) A (tryCompare (.ref x) "__ne__" (.ref y)) (fun r s' => ∃ v, r = some v ∧ Q v s') E s := try_ne hu X I e hs hf (wpAny_mono h (fun v s' ⟨b, e1, q⟩ => ⟨b, e1, _, rfl, q⟩) fun _ _ z => z)
  unfold richCompare
  simp only [oneThing_ref]
  refine wpAny_holding (wpAny_bind (wpAny_cRoomFor (Nat.lt_of_succ_lt hu) ?_))
  refine wpAny_bind (I.type.here (wpAny_bind (I2.type.here ?_)))
  split
  · rename_i q
    simp at q
  · refine wpAny_bind (wpAny_pure ?_)
    simp only [Bool.false_eq_true, if_false]
    refine wpAny_bind (wpAny_mono one (fun r s' z => ?_) fun _ _ z => z)
    obtain ⟨v, rfl, hq⟩ := z
    exact wpAny_pure hq
end
end Tw
namespace Tw
open PySem PySem.Spec PyProof.Rows L2 LamX
section
variable {T : List (Addr × Str)} {X : Cx} {e a b : Expr} {σ : L2.St} {F H : Hp} {pos p1 p2 : Pos} {k n : Nat} {C x pl : Addr} {p : Pr} {y : Str} {Q : VK}
-- != of two instances
def rNeOwn (C : Addr) (sp : Sp) : R2 := fun x y H Q => ∃ a b dx dy fs gs, x = .ref a ∧ y = .ref b ∧ H a = some (.ins C dx fs) ∧ H b = some (.ins C dy gs) ∧ sp [.ref a, .ref b] H (fun v H' => ∃ bb, v = .bl bb ∧ Q (.bl (!bb)) H') L2.E0
theorem op_neOwn {sp : Sp} (c : Met X.prog X.w X.K X.mg X.base k C "__eq__" ["self", "other"] sp) (ef : EqF X.K C) (hr : Room (k + 1) X.A) : OpR X (compareOp .NotEq) (rNeOwn C sp) := by
  intro pins s σ H x y v u Q I rx ry h
  obtain ⟨a, b, dx, dy, fs, gs, rfl, rfl, ha, hb, hsp⟩ := h
  cases (show v = Value.ref a from rx)
  cases (show u = Value.ref b from ry)
  obtain ⟨f, fd, hc, hM, FO, bd⟩ := c.ex
  obtain ⟨mA, J, _⟩ := ins_get I.hok ha
  obtain ⟨mB, J2, _⟩ := ins_get I.hok hb
  obtain ⟨od, J, _⟩ := J.look
  obtain ⟨od2, J2, _⟩ := J2.look
  have rv : Vals [V.ref a, V.ref b] [Value.ref a, Value.ref b] := .cons rfl (.cons rfl .nil)
  show wpAny (model X.prog X.w) X.A (richCompare .NotEq (.ref a) (.ref b)) (EP X pins σ Q) X.xe s
  refine rich_ne (room_u1 hr) I.kIn J J2 ef hM.at_ hM.fn (wpAny_call (codeAny_mono (FO.run X.A.in1 X.stack s H ⟨[.ref a, .ref b], []⟩ [.ref a, .ref b] [.ref a, .ref b] _ L2.E0 hr.in1 I.env0.in1 (by
    have := bd s [.ref a, .ref b] I.kIn (by have := FO.len _ _ _ _ hsp; simpa using this)
    simpa using this) rv hsp) fun res s' hq => ?_))
  cases res with
  | error u => exact False.elim hq
  | ok fl =>
    cases fl with
    | ret u =>
      obtain ⟨v, H', I', rv', bb, rfl, q⟩ := I.after hq
      cases (show u = Value.bool bb from rv')
      exact ⟨bb, rfl, .bl (!bb), H', I', rfl, q⟩
    | next => exact False.elim hq
    | brk => exact False.elim hq
    | cont => exact False.elim hq
-- a new editor, by place and by name
theorem rx_mkE (c : MakK X.prog X.w X.K X.mg X.base k y C ["self", "pair"] ["pair"] (spEI T C)) (hr : Room n X.A) (s : Sub F H) (hp : okQ p) (he : ED T X e σ F H (prD p)) (q : ∀ o pl F' H', Adv T F H F' H' → Nw H o → Nw H pl → EdS C o pl p [] F' H' → Q (.ref o) H') (hk : k + 1 ≤ n := by decide) (hg : Gl X y := by rfl)
    (hdb : (y == ("__debug__" : Str)) = false := by decide) (hs : starEach [e] X.env = (false, eval e X.env) :: starEach [] X.env := by rfl) (hpl : (backTo pos (starEach [] X.env)).any (·.1) = false := by rfl) : rE X (.Call (.Name y p1) [e] [] pos) σ H Q := by
  obtain ⟨f, fd, M, FO, hm, bd, _⟩ := c.ex
  refine goE (pe_make M FO (hr.mono hk) hg hm bd .nil L2.pass0 pa_r hdb hs hpl) (EA.go (T := T) (ea_cons he ea_nil hs) (.refl s) fun vs F1 H1 a1 hv o dx ho hdx hne => ?_)
  obtain ⟨vp, _, rfl, ip, rfl⟩ := hv
  have l1 : Adv T F1 H1 F1 (upd H1 dx (.own o)) := Adv.lay a1.sub hdx
  have l2 : Adv T F1 (upd H1 dx (.own o)) F1 (upd (upd H1 dx (.own o)) o (.ins C dx [])) := Adv.lay l1.sub (by rw [upd_ne hne.symm]; exact ho)
  exact ⟨F1, H1, o, dx, p, vp, rfl, l1.trans l2, .of ho, a1.sub.offN ho, upd_same, hp, ip, fun F' H' pl a' nw ed => ⟨rfl, q o pl F' H' (a1.trans a') (Nw.back a1 (.of ho)) (Nw.back a1 nw) ed⟩⟩
theorem rx_mkEk {kp : Pos} (c : MakK X.prog X.w X.K X.mg X.base k y C ["self", "pair"] ["pair"] (spEI T C)) (hr : Room n X.A) (s : Sub F H) (hp : okQ p) (he : ED T X e σ F H (prD p)) (q : ∀ o pl F' H', Adv T F H F' H' → Nw H o → Nw H pl → EdS C o pl p [] F' H' → Q (.ref o) H') (hk : k + 1 ≤ n := by decide) (hg : Gl X y := by rfl)
    (hdb : (y == ("__debug__" : Str)) = false := by decide) (hall : (backToKw pos (keywordEach [⟨some "pair", e, kp⟩] X.env)).all (·.1.isSome) = true := by rfl) (hks : (backToKw pos (keywordEach [⟨some "pair", e, kp⟩] X.env)).filterMap (·.1) = (["pair"] : List Str) := by rfl)
    (hpl : ((backTo pos (starEach [] X.env)).any (·.1) || (backToKw pos (keywordEach [⟨some "pair", e, kp⟩] X.env)).any (·.1.isNone)) = false := by rfl) : rE X (.Call (.Name y p1) [] [⟨some "pair", e, kp⟩] pos) σ H Q := by
  obtain ⟨f, fd, M, FO, hm, _, kb⟩ := c.ex
  refine goE (pe_makeK0 M FO (hr.mono hk) hg hm kb L2.pass0 (pk_cons pe_r pk_nil) hall hks hdb hpl) (EX.go (T := T) he (.refl s) fun vp F1 H1 a1 ip => ⟨rfl, rfl, fun o dx ho hdx hne => ?_⟩)
  have l1 : Adv T F1 H1 F1 (upd H1 dx (.own o)) := Adv.lay a1.sub hdx
  have l2 : Adv T F1 (upd H1 dx (.own o)) F1 (upd (upd H1 dx (.own o)) o (.ins C dx [])) := Adv.lay l1.sub (by rw [upd_ne hne.symm]; exact ho)
  exact ⟨F1, H1, o, dx, p, vp, rfl, l1.trans l2, .of ho, a1.sub.offN ho, upd_same, hp, ip, fun F' H' pl a' nw ed => ⟨rfl, q o pl F' H' (a1.trans a') (Nw.back a1 (.of ho)) (Nw.back a1 nw) ed⟩⟩
-- isinstance(e, C) of such an instance
theorem ed_isE {dx : Addr} {fs : List (Str × V)} {e2 : Expr} (hm : X.mg "isinstance" = none) (hC : Cls X.K C) (ef : EqF X.K C) (h : EV T X e σ F H (.ref x)) (hx : H x = some (.ins C dx fs)) (h2 : EV T X e2 σ F H (.ref C)) (hg : Gl X "isinstance" := by rfl) (hs : starEach [e, e2] X.env = (false, eval e X.env) :: starEach [e2] X.env := by rfl) (hs2 : starEach [e2] X.env = (false, eval e2 X.env) :: starEach [] X.env := by rfl)
    (hpl : (backTo pos (starEach [e2] X.env)).any (·.1) = false := by rfl) : ED T X (.Call (.Name "isinstance" p1) [e, e2] [] pos) σ F H (.bool true) :=
  ex_callB call_isi hm boot_isib (ea2 h h2 mono_eq mono_eq hs hs2) (fun vs F1 H1 a1 ⟨v, w, e1, q, q2⟩ Q k => ⟨v, w, .ref C, .ref C, true, e1, by rw [show w = .ref C from q2]; exact .own C, by
    rw [show v = .ref x from q]
    exact .base (.ins (a1.hh _ _ hx notTbl_ins) hC ef.ca ef.cn ef.ct ef.cm), by
    unfold PySem.W.kitOne
    rw [if_pos (by simp)], k _ F1 H1 (.refl a1.sub) rfl⟩) hg (he := hs) (hpl := hpl)
end
theorem eqv_pr {p : Pr} (h : okQ p) : PyData.eqv (prD p) (prD p) = true := PySem.SeqAt.eqv_refl _ (lay_pr h.1.1 h.1.2.1).1
theorem okD_pr {p : Pr} (h : okQ p) : okD (prD p) = true := by
  obtain ⟨h1, h2, h3⟩ := lay_pr h.1.1 h.1.2.1
  unfold okD SeqAt.shaped
  rw [h3, h1]
  simp
  omega
section
variable {P : Program} {w : World} {K : PySem.W.Frag} {mg : Str → Option Value} {base : Heap} {T : List (Addr × Str)} {C : Addr}
def spEdEq (T : List (Addr × Str)) (C : Addr) : Sp := fun vs H Q _ => ∃ F x y pl pl2 p ps ps2, Sub F H ∧ EdS C x pl p ps F H ∧ EdS C y pl2 p ps2 F H ∧ okQ p ∧ vs = [.ref x, .ref y] ∧ ∀ F' H', Adv T F H F' H' → Q (.bl true) H'
theorem ok_edeq (F : CM K C "__eq__" "Editor.__eq__" (inClass (top 59) 1)) (g : G K mg) (gl : mg "Editor" = some (.ref C)) (ef : EqF K C) (nk : NoAttr K C "kept") : Met P w K mg base 1 C "__eq__" ["self", "other"] (spEdEq T C) := by
  refine met_of (N := ["self", "other"]) F ⟨rfl, rfl, rfl, by decide +kernel, rfl, by decide +kernel, by decide +kernel⟩ (fun vs H Q E ⟨F, x, y, pl, pl2, p, ps, ps2, _, _, _, _, e, _⟩ => by rw [e]; rfl) (fun _ _ _ _ _ _ us hl => match us, hl with | [_, _], _ => rfl) ?_
  rintro f cdv A outer s H0 vs Q E hr ⟨F0, x, y, pl, pl2, p, ps, ps2, sF, e1, e2, hp, rfl, k⟩
  obtain ⟨xs1, ea1, _⟩ := e1.ex
  obtain ⟨xs2, ea2, _⟩ := e2.ex
  obtain ⟨dy, kvy, hy, _⟩ := id ea2.ex
  refine b_ret (T := T) (P := imP (.bool true)) (ED.to (ed_and (k1 := true) (ed_isE (b_isi g) F.cls ef (ev_var (i := 1) rfl) hy (ev_gref gl)) fun _ => ed_one (ed_eqD hr.units (ed_kp nk F.cls ea1 (ev_var (i := 0) rfl)) (ed_kp nk F.cls ea2 (ev_var (i := 1) rfl)) (okD_pr hp) (okD_pr hp))) (by rw [eqv_pr hp]; rfl)) sF fun v F1 H1 a1 q => ?_
  obtain rfl : v = .bl true := q
  exact k F1 H1 a1
end
end Tw
namespace Tw
open PySem PySem.Spec PyProof.Rows L2 LamX
abbrev NLaw : List Str := ["_law_script", "_law_nth", "_law_source", "_law_locks", "_law_variables", "_law_both", "_law_own", "_law_before", "_law_editor", "_law_turn"]
def cntL (n : Nat) : Nat := max 1 (min 2 n)
theorem cnt_eq (n : Nat) : (if (if ((n : Nat) : Int) < 2 then ((n : Nat) : Int) else 2) > 1 then (if ((n : Nat) : Int) < 2 then ((n : Nat) : Int) else 2) else 1) = ((cntL n : Nat) : Int) := by
  unfold cntL
  split <;> split <;> omega
theorem cnt_le (n : Nat) : cntL n ≤ 2 := by unfold cntL; omega
section
variable {P : Program} {w : World} {K : PySem.W.Frag} {mg : Str → Option Value} {base : Heap} {T : List (Addr × Str)} {C cA : Addr}
def spLaw (T : List (Addr × Str)) (K : PySem.W.Frag) : Sp := fun vs H Q _ => ∃ F a, ∃ ns : List Int, Sub F H ∧ Tabs T H ∧ SqL K F a (ns.map V.int) ∧ ns.length ≤ 1000 ∧ vs = [.ref a] ∧ ∀ H', Q (.bl true) H'
theorem ok_law (F : DfC K mg "law" (top 84) cA) (g : G K mg) (gl : mg "Editor" = some (.ref C)) (c1 : Cl P w K mg base 1 "_law_start" ["_law_script", "_law_k"] (spStart T K)) (c2 : Cl P w K mg base 4 "_law_desk" ["_law_source", "_law_most"] (spDesk T)) (c3 : MakK P w K mg base 6 "Editor" C ["self", "pair"] ["pair"] (spEI T C)) (c4 : Met P w K mg base 1 C "__eq__" ["self", "other"] (spEdEq T C)) (ef : EqF K C)
    (c5 : ClG P w K mg base 11 "_law_edited" ["_law_source", "_law_locks", "_law_variables", "_law_editor", "_law_own"] (spEdited T C)) (c6 : ClG P w K mg base 3 "_law_same_editor" ["_law_editor", "_law_own"] (spAsk T C)) (c7 : ClG P w K mg base 10 "_law_answers_right" ["_law_editor", "_law_own"] (spAsk T C)) : ClG P w K mg base 12 "law" ["_law_script"] (spLaw T K) := by
  refine clg_of (N := NLaw) F ⟨rfl, rfl, rfl, by decide +kernel, rfl, by decide +kernel, by decide +kernel⟩ (fun vs H Q E ⟨F, a, ns, _, _, _, _, e, _⟩ => by rw [e]; rfl) (fun _ _ _ _ _ _ us hl => match us, hl with | [_], _ => rfl) ?_
  rintro f A outer s H0 vs Q E hgd hr ⟨F0, a, ns, sF, hT, hS, hns, rfl, k⟩
  have nd : NLaw.Nodup := by decide +kernel
  have hc2 := cnt_le ns.length
  refine b_for (T := T) (enc := fun i : Nat => PyData.int (i : Nat)) (xs := List.range (cntL ns.length)) (bs := fun i => [(1, .int (i : Nat))]) rfl .never (Wk.to (wk_range1 (n := ((cntL ns.length : Nat) : Int)) (b_range g) (ED.to (ed_max2 rfl (b_max g) ed_int (ed_min2 rfl (b_min g) ed_int (ed_lenS (b_len g) (ev_var (i := 0) rfl) hS))) (by rw [cnt_eq])) (by omega) (by omega)) (by rw [show ((cntL ns.length : Nat) : Int).toNat = cntL ns.length by omega, range0])) sF (fun i _ => gt_name nd)
    (fun i σ F' H' => (∃ y1 y2 y3 y4 y5 y6 y7 y8 y9, σ = [some (.ref a), y1, y2, y3, y4, y5, y6, y7, y8, y9]) ∧ Tabs T H')
    (fun F1 H1 a1 => ⟨⟨none, none, none, none, none, none, none, none, none, rfl⟩, a1.tab hT⟩) ?_ ?_
  · rintro i q σ1 F1 H1 hq s1 x1 ⟨⟨y1, y2, y3, y4, y5, y6, y7, y8, y9, rfl⟩, t1⟩ us F2 H2 a2 ⟨u0, _, rfl, m0, rfl⟩ N hN
    obtain rfl : u0 = .int (q : Nat) := m0
    have hq1 : q ≤ 1 := by
      have h1 := List.mem_range.mp (List.mem_of_getElem? hq)
      omega
    show rB _ _ _ [some (.ref a), some (.int (q : Nat)), y2, y3, y4, y5, y6, y7, y8, y9] H2
    -- source
    refine b_asgR (i := 2) (rx_call c1 hr (EA.go (T := T) (eg_cons (ev_var (i := 0) rfl) (eg_cons (P := eqP (.int (q : Nat))) (ev_var (i := 1) rfl) eg_nil mono_eq) mono_eq) (.refl a2.sub) fun vs F3 H3 a3 hv => ?_)) nd
    obtain ⟨w1, _, rfl, rfl, w2, _, rfl, e2, rfl⟩ := hv
    obtain rfl : w2 = .int (q : Nat) := e2
    refine ⟨F3, a, ns, q, a3.sub, sql_ext (x1.trans (a2.ff.trans a3.ff)) hS, hq1, rfl, fun l F4 H4 a4 nwl src4 => ?_⟩
    show rB _ _ _ [some (.ref a), some (.int (q : Nat)), some (.ref l), y3, y4, y5, y6, y7, y8, y9] H4
    -- desk
    refine b_unpR (d := .none) (bs := []) (rx_call c2 hr (EA.go (T := T) (eg_cons (ev_var (i := 2) rfl) (eg_cons (ed_int (i := 8)) eg_nil mono_im) mono_eq) (.refl a4.sub) fun vs F5 H5 a5 hv => ?_))
    obtain ⟨w1, _, rfl, rfl, w2, _, rfl, e2, rfl⟩ := hv
    obtain rfl : w2 = .int 8 := e2
    have src5 := src4.step a5
    refine ⟨F5, l, 0, a5.sub, src5, by omega, rfl, fun r vl vv vb od opl ls vs2 p F6 H6 A6 src6 hr6 il iv hls hl0 hll hus hul hp ib ow nod nopl => ?_⟩
    have lod : l ≠ od := by
      obtain ⟨aa, bb, cc, hl5, _⟩ := src5.ex
      exact nod.ne hl5 notTbl_lst
    have lopl : l ≠ opl := by
      obtain ⟨aa, bb, cc, hl5, _⟩ := src5.ex
      exact nopl.ne hl5 notTbl_lst
    refine goG (pg_tup rfl (pgs_cons (pg_name (i := 3) nd rfl (.inl rfl)) (pgs_cons (pg_name (i := 4) nd rfl (.inl rfl)) (pgs_cons (pg_name (i := 5) nd rfl (.inl rfl)) (pgs_cons (pg_name (i := 6) nd rfl (.inl rfl)) pgs_nil))))) ⟨r, _, rfl, SqT.of hr6, rfl, _, _, rfl, _, _, rfl, _, _, rfl, _, _, rfl, rfl, ?_⟩
    show rB _ _ _ [some (.ref a), some (.int (q : Nat)), some (.ref l), some vl, some vv, some vb, some (.ref od), y7, y8, y9] H6
    obtain ⟨l40, m40⟩ := okQ_len hp
    have swp := sw_pr hp.1.1 hp.1.2.1 (Nat.le_trans l40 (by decide)) (Nat.le_trans m40 (by decide))
    -- before, editor
    refine b_parR (m := 7) (n := 8) rfl nd (EX.go (T := T) (ed_repr hgd hr.units (b_repr g) (ed_var (i := 5) rfl ib) (.inl ⟨_, rfl⟩) swp (by decide) (by decide) (by decide)) (.refl A6.sub) fun vr F7 H7 a7 er => rx_mkE c3 hr a7.sub hp (ed_var (i := 5) rfl (ib.up a7.ff)) fun x pl F8 H8 a8 nx npl ed8 => ?_)
    obtain rfl : vr = .str (prD p).shown := er
    show rB _ _ _ [some (.ref a), some (.int (q : Nat)), some (.ref l), some vl, some vv, some vb, some (.ref od), some (.str (prD p).shown), some (.ref x), y9] H8
    have a78 := a7.trans a8
    have b8 : Both C x pl od opl l 100 p [] F8 H8 := by
      obtain ⟨aa, bb, cc, hl7, _⟩ := (src6.step a7).ex
      obtain ⟨kv, xs, h1, h2, h3, h4⟩ := (ow.step a7).ex
      exact ⟨src6.step a78, ed8, ow.step a78, hp, (fun q hq => by cases hq), ⟨(nx.ne h1 notTbl_dK).symm, (nx.ne h3 notTbl_lst).symm, (npl.ne h1 notTbl_dK).symm, (npl.ne h3 notTbl_lst).symm⟩, nx.ne hl7 notTbl_lst, npl.ne hl7 notTbl_lst, lod, lopl⟩
    have t8 : Tabs T H8 := a78.tab (A6.tab (a5.tab (a4.tab (a3.tab (a2.tab t1)))))
    have x8 : Ext F1 F8 := a2.ff.trans (a3.ff.trans (a4.ff.trans (a5.ff.trans (A6.ff.trans a78.ff))))
    have il8 := il.up a78.ff
    have iv8 := iv.up a78.ff
    have ib8 := ib.up a78.ff
    have s8 := a8.sub
    clear src4 src5 src6 A6 ow nod nopl a78 nx npl ed8 hr6 ib iv il
    -- by name
    refine b_whenR (goT (pt_cmpR (op_neOwn c4 ef (hr.mono (by decide))) pe_r pe_r (nomark _)) (rx_mkEk c3 hr s8 hp (ed_var (i := 5) rfl ib8) fun x2 pl2 F9 H9 a9 nx2 npl2 ed9 => EX.go (T := T) (ev_var (i := 8) rfl) (.refl a9.sub) fun u F10 H10 a10 eu => ?_))
    obtain rfl : u = .ref x := eu
    have b10 := (b8.step a9).step a10
    have e10 := ed9.step a10
    obtain ⟨dx, kv, q1⟩ := b10.ed.at
    obtain ⟨dx2, kv2, q2⟩ := e10.at
    refine ⟨x2, x, _, _, _, _, rfl, rfl, q2, q1, F10, x2, x, pl2, pl, p, [], [], a10.sub, e10, b10.ed, hp, rfl, fun F11 H11 a11 => ⟨true, rfl, _, rfl, ?_⟩⟩
    show rB _ _ _ [some (.ref a), some (.int (q : Nat)), some (.ref l), some vl, some vv, some vb, some (.ref od), some (.str (prD p).shown), some (.ref x), y9] H11
    have a911 := (a9.trans a10).trans a11
    have b11 := b10.step a11
    have t11 := a911.tab t8
    have x11 := x8.trans a911.ff
    have il11 := il8.up a911.ff
    have iv11 := iv8.up a911.ff
    have ib11 := ib8.up a911.ff
    have s11 := a11.sub
    have okl := b11.okL
    -- the turns
    refine b_for (T := T) (enc := fun i : Nat => PyData.int (i : Nat)) (xs := List.range 20) (bs := fun i => [(9, .int (i : Nat))]) rfl .never (Wk.to (wk_range1 (n := 20) (b_range g) ed_int (by decide) (by decide)) (by rw [show (20 : Int).toNat = 20 by decide, range0])) s11 (fun i _ => gt_name nd)
      (fun i σ F' H' => ∃ y p' ps', σ = [some (.ref a), some (.int (q : Nat)), some (.ref l), some vl, some vv, some vb, some (.ref od), some (.str (prD p).shown), some (.ref x), y] ∧ Both C x pl od opl l (100 + 60 * i) p' ps' F' H' ∧ ps'.length ≤ i ∧ Tabs T H')
      (fun F12 H12 a12 => ⟨y9, p, [], rfl, b11.step a12, Nat.le_refl 0, a12.tab t11⟩) ?_ ?_
    · rintro j z σ2 F12 H12 hz s12 x12 ⟨y, p', ps', rfl, b12, hps, t12⟩ us F13 H13 a13 ⟨u0, _, rfl, m1, rfl⟩ N2 hN2
      obtain rfl : u0 = .int (z : Nat) := m1
      have hj : j < 20 := by
        have h1 := (List.getElem?_eq_some_iff.mp hz).1
        rwa [List.length_range] at h1
      show rB _ _ _ [some (.ref a), some (.int (q : Nat)), some (.ref l), some vl, some vv, some vb, some (.ref od), some (.str (prD p).shown), some (.ref x), some (.int (z : Nat))] H13
      have b13 := b12.step a13
      refine b_whenR (goT pw_r.pt (goW (pw_or pt_r pw_r) (goT (pt_not pt_r) (goT (pt_val pe_r) (rx_callG c5 hgd hr (EA.go (T := T) (eg_cons (ev_var (i := 2) rfl) (eg_cons (P := eqP vl) (ev_var (i := 3) rfl) (eg_cons (P := eqP vv) (ev_var (i := 4) rfl) (eg_cons (ev_var (i := 8) rfl) (eg_cons (ev_var (i := 6) rfl) eg_nil mono_eq) mono_eq) mono_eq) mono_eq) mono_eq) (.refl a13.sub) fun vs F14 H14 a14 hv => ?_))))))
      obtain ⟨w1, _, rfl, rfl, w2, _, rfl, e2, w3, _, rfl, e3, w4, _, rfl, rfl, w5, _, rfl, rfl, rfl⟩ := hv
      obtain rfl : vl = w2 := Eq.symm e2
      obtain rfl : vv = w3 := Eq.symm e3
      have x14 := x12.trans (a13.ff.trans a14.ff)
      refine ⟨F14, x, pl, od, opl, l, 100 + 60 * j, p', ps', vl, vv, ls, vs2, a14.sub, a14.tab (a13.tab t12), b13.step a14, by omega, by omega, il11.up x14, iv11.up x14, hls, hl0, hll, hus, hul, rfl, fun p2 ps2 F15 H15 A15 b15 hl15 => ⟨true, rfl, ?_⟩⟩
      have t15 := A15.tab (a14.tab (a13.tab t12))
      show rW _ (.BoolOp .Or [_] _) _ H15 _
      refine goW (pw_or1 pt_r) (goT (pt_not pt_r) (goT (pt_val pe_r) (rx_callG c6 hgd hr (EA.go (T := T) (eg_cons (ev_var (i := 8) rfl) (eg_cons (ev_var (i := 6) rfl) eg_nil mono_eq) mono_eq) (.refl A15.sub) fun vs F16 H16 a16 hv => ?_))))
      obtain ⟨w1, _, rfl, rfl, w2, _, rfl, rfl, rfl⟩ := hv
      refine ⟨F16, x, pl, od, opl, l, _, p2, ps2, a16.sub, a16.tab t15, b15.step a16, by omega, rfl, fun F17 H17 a17 => ⟨true, rfl, ?_⟩⟩
      have a1617 := a16.trans a17
      have b17 := b15.step a1617
      have t17 := a1617.tab t15
      have x17 : Ext F12 F17 := a13.ff.trans (a14.ff.trans (A15.ff.trans a1617.ff))
      have fin : ∀ F' H', Adv T F17 H17 F' H' → N2 [some (.ref a), some (.int (q : Nat)), some (.ref l), some vl, some vv, some vb, some (.ref od), some (.str (prD p).shown), some (.ref x), some (.int (z : Nat))] H' := fun F' H' a' => hN2 _ F' H' a'.sub (x17.trans a'.ff) ⟨_, p2, ps2, rfl, (b17.step a').mono (by omega), by omega, a'.tab t17⟩
      show rB _ _ _ [some (.ref a), some (.int (q : Nat)), some (.ref l), some vl, some vv, some vb, some (.ref od), some (.str (prD p).shown), some (.ref x), some (.int (z : Nat))] H17
      refine b_whenR (goT pw_r.pt (goW (pw_and pt_r pw_r) (et_eqI (T := T) (F := F17) (H := H17) (i := (z : Int) % 4) (j := 3) (ed_mod (ed_var (d := .int (z : Nat)) (i := 9) rfl rfl) ed_int (by decide)) ed_int F17 H17 (.refl a17.sub) _ fun F18 H18 a18 => ?_)))
      cases hd : decide ((z : Int) % 4 = 3) with
      | false => exact rB_nil (fin F18 H18 a18)
      | true =>
        show rW _ (.BoolOp .And [_] _) _ H18 _
        refine goW (pw_and1 pt_r) (goT (pt_not pt_r) (goT (pt_val pe_r) (rx_callG c7 hgd hr (EA.go (T := T) (eg_cons (ev_var (i := 8) rfl) (eg_cons (ev_var (i := 6) rfl) eg_nil mono_eq) mono_eq) (.refl a18.sub) fun vs F19 H19 a19 hv => ?_))))
        obtain ⟨w1, _, rfl, rfl, w2, _, rfl, rfl, rfl⟩ := hv
        have a1819 := a18.trans a19
        exact ⟨F19, x, pl, od, opl, l, _, p2, ps2, a19.sub, a1819.tab t17, b17.step a1819, by omega, rfl, fun F20 H20 a20 => ⟨true, rfl, rB_nil (fin F20 H20 (a1819.trans a20))⟩⟩
    · rintro σ2 F12 H12 s12 x12 ⟨y, p', ps', rfl, b12, hps, t12⟩
      rw [List.length_range] at hps
      have ib12 := ib11.up x12
      refine b_whenR (goT pw_r.pt (goW (pw_or pt_r pw_r) (et_neS (T := T) (F := F12) (H := H12) (ed_repr hgd hr.units (b_repr g) (ed_var (i := 5) rfl ib12) (.inl ⟨_, rfl⟩) swp (by decide) (by decide) (by decide)) (ed_var (d := .str (prD p).shown) (i := 7) rfl rfl) F12 H12 (.refl s12) _ fun F13 H13 a13 => ?_)))
      have e0 : (!decide ((prD p).shown = (prD p).shown)) = false := by simp
      rw [e0]
      show rW _ (.BoolOp .Or [_] _) _ H13 _
      refine goW (pw_or1 pt_r) (goT (pt_not pt_r) (goT (pt_val pe_r) (rx_callG c7 hgd hr (EA.go (T := T) (eg_cons (ev_var (i := 8) rfl) (eg_cons (ev_var (i := 6) rfl) eg_nil mono_eq) mono_eq) (.refl a13.sub) fun vs F14 H14 a14 hv => ?_))))
      obtain ⟨w1, _, rfl, rfl, w2, _, rfl, rfl, rfl⟩ := hv
      have a1314 := a13.trans a14
      refine ⟨F14, x, pl, od, opl, l, _, p', ps', a14.sub, a1314.tab t12, b12.step a1314, by omega, rfl, fun F15 H15 a15 => ⟨true, rfl, rB_nil (hN _ F15 H15 a15.sub (x11.trans (x12.trans (a1314.ff.trans a15.ff))) ⟨⟨_, _, _, _, _, _, _, _, _, rfl⟩, a15.tab (a1314.tab t12)⟩)⟩⟩
  · rintro σ1 F1 H1 s1 x1 ⟨_, t1⟩
    refine b_ret (T := T) (P := imP (.bool true)) ed_bool s1 fun v F2 H2 a2 q => ?_
    obtain rfl : v = .bl true := q
    exact k H2
end
end Tw
set_option maxHeartbeats 4000000
namespace Tw
open PySem PySem.Spec PyProof.Rows L2 LamX
theorem oexB_ok {K : PySem.W.Frag} {C : Addr} (h : oexB K C = true) : OexC K C := by
  unfold oexB at h
  obtain ⟨h1, h2⟩ := He.ba h
  obtain ⟨h3, h4⟩ := He.ba h2
  obtain ⟨h5, h6⟩ := He.ba h4
  obtain ⟨h7, h8⟩ := He.ba h6
  refine ⟨?_, He.eqO_ok h3, of_decide_eq_true h5, of_decide_eq_true h7, h8⟩
  split at h1
  · rename_i t dd cd sl ho
    obtain ⟨k1, k2⟩ := He.ba h1
    split at k2
    · rename_i C2 bm a0 a1 a2 a3 n a5 hm hs
      obtain ⟨k3, k4⟩ := He.ba k2
      obtain ⟨k5, k6⟩ := He.ba k4
      obtain ⟨k7, k8⟩ := He.ba k6
      obtain ⟨k9, k10⟩ := He.ba k8
      obtain ⟨nm, bs, mro, ns, qn, hd, sn, sub, ab, col, del⟩ := cd
      have e1 := of_decide_eq_true k1
      have e2 := of_decide_eq_true k3
      have e3 := of_decide_eq_true k5
      dsimp only at hm k7 k9
      have e4 : del = false := by simpa using k7
      have e5 : sl = #[a0, a1, a2, a3, some (.builtin n), a5] := by
        obtain ⟨l⟩ := sl
        exact congrArg Array.mk hs
      subst e1 e2 e3 hm k9 e4 e5
      exact ⟨_, _, _, _, _, _, _, _, _, _, _, _, _, _, _, ho, k10⟩
    · cases k2
  · cases h1
theorem terB_ok {K : PySem.W.Frag} {mg : Str → Option Value} {C : Addr} (gl : mg "ThreadError" = some (.ref C)) (h : terB K C = true) : TErr K mg C := by
  unfold terB at h
  obtain ⟨h1, h2⟩ := He.ba h
  obtain ⟨h3, h4⟩ := He.ba h2
  refine ⟨gl, h1, He.eqO_ok h3, ?_⟩
  split at h4
  · rename_i s hs
    rw [hs, of_decide_eq_true h4]
  · cases h4
theorem eqfB_ok {K : PySem.W.Frag} {C : Addr} (h : eqfB K C = true) : EqF K C := by
  unfold eqfB at h
  obtain ⟨h1, h2⟩ := He.ba h
  obtain ⟨h3, h4⟩ := He.ba h2
  obtain ⟨h5, h6⟩ := He.ba h4
  obtain ⟨h7, h8⟩ := He.ba h6
  exact ⟨He.eqO_ok h1, He.eqO_ok h3, He.eqO_ok h5, of_decide_eq_true h7, of_decide_eq_true h8⟩
theorem abB_ok {K : PySem.W.Frag} {mg : Str → Option Value} (gl : mg "LETTERS_editor" = some (.ref (He.ga K "LETTERS_editor"))) (h : abB K = true) : ABd K mg := by
  unfold abB at h
  split at h
  · rename_i t dt sl ho
    exact ⟨_, _, gl, ho, congrArg Value.type (of_decide_eq_true h), rfl⟩
  · cases h
end Tw
namespace Tw
open PySem PySem.Spec PyProof.Rows L2 LamX
/-! ### all defs of the module keep their promises -/
section
variable {K : PySem.W.Frag} {mg : Str → Option Value}
theorem df_at {x nm : Str} {st : Stmt} {f : Addr} (gl : mg x = some (.ref f)) (e : ∃ fd, FunD K nm nm (defArgs st) (defBody st) (defScope st) [] [] f fd) : Df K mg x nm st := e.elim fun fd F => ⟨f, fd, F, gl⟩
theorem code_at {x qual : Str} {st : Stmt} {fd : FuncData} {p : Str × Option Str} (F : FunD K x qual (defArgs st) (defBody st) (defScope st) [] [] (He.fAd K p) fd) : fd.code = .ref (He.cT K p).1 := by
  obtain ⟨oc, od, dV, kV, doc, pm, an, cdv, ct, osl, rfl, lk, hcd, _⟩ := F.ex
  obtain ⟨cc, hc⟩ := He.codeIn_ref hcd
  subst hc
  show Value.ref cc = .ref (He.codeOf K p)
  rw [He.codeOf_eq lk rfl]
theorem dfc_at {x : Str} {st : Stmt} (gl : mg x = some (.ref (He.ga K x))) (e : ∃ fd, FunD K x x (defArgs st) (defBody st) (defScope st) [] [] (He.fAd K (x, none)) fd) : DfC K mg x st (He.cT K (x, none)).1 := e.elim fun fd F => ⟨_, fd, F, gl, code_at F⟩
theorem ci_at {x qual : Str} {st : Stmt} {C : Addr} (gl : mg x = some (.ref C)) (cl : Cls K C) (e : ∃ fd, FunD K "__init__" qual (defArgs st) (defBody st) (defScope st) [] [] (He.ma K C "__init__") fd) (m : Mk K C (He.ma K C "__init__")) : CI K mg x C qual st := ⟨gl, cl, e.elim fun fd F => ⟨_, fd, F, m⟩⟩
theorem cm_at {m qual : Str} {st : Stmt} {C : Addr} (cl : Cls K C) (e : ∃ fd, FunD K m qual (defArgs st) (defBody st) (defScope st) [] [] (He.ma K C m) fd) (q : Meth K C m (He.ma K C m)) : CM K C m qual st := ⟨cl, e.elim fun fd F => ⟨_, fd, F, q⟩⟩
theorem cmc_at {x m qual : Str} {st : Stmt} (cl : Cls K (He.ga K x)) (e : ∃ fd, FunD K m qual (defArgs st) (defBody st) (defScope st) [] [] (He.fAd K (x, some m)) fd) (q : Meth K (He.ga K x) m (He.ma K (He.ga K x) m)) : CMc K (He.ga K x) m qual st (He.cT K (x, some m)).1 := ⟨cl, e.elim fun fd F => ⟨_, fd, F, q, code_at F⟩⟩
theorem xc_at {x qual : Str} {st : Stmt} {C : Addr} (gl : mg x = some (.ref C)) (o : OexC K C) (e : ∃ fd, FunD K "__init__" qual (defArgs st) (defBody st) (defScope st) [] [] (He.ma K C "__init__") fd) (q : Meth K C "__init__" (He.ma K C "__init__")) : XC K mg x qual C st := ⟨gl, o, e.elim fun fd F => ⟨_, fd, F, q.at_, beq_iff_eq.mp q.fn⟩⟩
end
def nmW : Str := (("Ways.ways" : Str) ++ ".<locals>.") ++ ("<lambda>" : Str)
def nmE : Str := (("_law_edited" : Str) ++ ".<locals>.") ++ ("<lambda>" : Str)
def nmU : Str := (("_law_undone" : Str) ++ ".<locals>.") ++ ("<lambda>" : Str)
def hT (K : PySem.W.Frag) : List (Addr × Str) := [((He.cT K ("Ways", some "ways")).2, nmW), ((He.cT K ("_law_edited", none)).2, nmE), ((He.cT K ("_law_undone", none)).2, nmU)]
theorem only3 {a b c : Addr} {x y z : Str} (h : [a, b, c].Nodup) : (∀ p ∈ [(a, x), (b, y), (c, z)], p.1 = a → p.2 = x) ∧ (∀ p ∈ [(a, x), (b, y), (c, z)], p.1 = b → p.2 = y) ∧ ∀ p ∈ [(a, x), (b, y), (c, z)], p.1 = c → p.2 = z := by
  simp only [List.nodup_cons, List.mem_cons, List.mem_nil_iff, or_false, not_or] at h
  obtain ⟨⟨h1, h2⟩, h3, _⟩ := h
  refine ⟨fun p hp e => ?_, fun p hp e => ?_, fun p hp e => ?_⟩ <;> simp only [List.mem_cons, List.mem_nil_iff, or_false] at hp <;> rcases hp with q | q | q <;> subst q <;> first | rfl | (exfalso; simp_all)
theorem ok_top {P : Program} {w : World} {K : PySem.W.Frag} {mg : Str → Option Value} {base h : Heap} (X : K.In h) (Gn : h.Ns mainGlobals mg) (c : SaysH h K) (TB : ∀ p ∈ hTf.map (He.cT K), TabB base mg p.1 p.2) : ClG P w K mg base 12 "law" ["_law_script"] (spLaw (hT K) K) := by
  have tbW : TabB base mg (He.cT K ("Ways", some "ways")).1 (He.cT K ("Ways", some "ways")).2 := TB _ (List.mem_map.mpr ⟨("Ways", some "ways"), List.mem_of_getElem? (i := 0) rfl, rfl⟩)
  have tbE : TabB base mg (He.cT K ("_law_edited", none)).1 (He.cT K ("_law_edited", none)).2 := TB _ (List.mem_map.mpr ⟨("_law_edited", none), List.mem_of_getElem? (i := 1) rfl, rfl⟩)
  have tbU : TabB base mg (He.cT K ("_law_undone", none)).1 (He.cT K ("_law_undone", none)).2 := TB _ (List.mem_map.mpr ⟨("_law_undone", none), List.mem_of_getElem? (i := 2) rfl, rfl⟩)
  have ex := c.ex
  unfold hEx at ex
  obtain ⟨x1, ex⟩ := He.ba ex
  obtain ⟨x2, ex⟩ := He.ba ex
  obtain ⟨x3, ex⟩ := He.ba ex
  obtain ⟨x4, ex⟩ := He.ba ex
  obtain ⟨x5, ex⟩ := He.ba ex
  obtain ⟨x6, ex⟩ := He.ba ex
  obtain ⟨x7, ex⟩ := He.ba ex
  obtain ⟨x8, x9⟩ := He.ba ex
  obtain ⟨uW, uE, uU⟩ := only3 (x := nmW) (y := nmE) (z := nmU) (of_decide_eq_true x9)
  have mW : ((He.cT K ("Ways", some "ways")).2, nmW) ∈ hT K := List.mem_of_getElem? (i := 0) rfl
  have mE : ((He.cT K ("_law_edited", none)).2, nmE) ∈ hT K := List.mem_of_getElem? (i := 1) rfl
  have mU : ((He.cT K ("_law_undone", none)).2, nmU) ∈ hT K := List.mem_of_getElem? (i := 2) rfl
  have g : G K mg := {
    b := fun x hx => He.free_ok X Gn (c.d.facts (List.mem_append_left _ (List.mem_append_left _ (List.mem_map.mpr ⟨x, hx, rfl⟩))))
    words := ⟨_, (He.glo_ok X Gn (c.d.fact 134 (f := .glo "WORDS") rfl)), He.tupB_ok x7 _⟩
    ab := ⟨_, (He.glo_ok X Gn (c.d.fact 135 (f := .glo "LETTERS_editor") rfl)), He.tupB_ok x8 _⟩
    cl := He.str_ok X Gn (c.d.fact 133 (f := .str "LETTERS_threads" letters) rfl)
    ci := fun p hp => He.int_ok X Gn (c.d.facts (List.mem_append_left _ (List.mem_append_right _ (List.mem_append_left _ (List.mem_map.mpr ⟨p, hp, rfl⟩)))))
    cs := fun p hp => He.str_ok X Gn (c.d.facts (List.mem_append_left _ (List.mem_append_right _ (List.mem_append_right _ (List.mem_map.mpr ⟨p, hp, rfl⟩))))) }
  have o_BadPair := oexB_ok x1
  have o_NothingToUndo := oexB_ok x2
  have te := terB_ok (He.glo_ok X Gn (c.d.fact 117 (f := .glo "ThreadError") rfl)) x3
  have ef := eqfB_ok x4
  have abd := abB_ok (He.glo_ok X Gn (c.d.fact 135 (f := .glo "LETTERS_editor") rfl)) x5
  have xf : ExF K mg (He.ga K "BadPair") (He.ga K "NothingToUndo") (He.ga K "BadLetter") (He.ga K "BadPlace") (He.ga K "BadSteps") (He.ga K "ThreadError") := {
    gL := (He.glo_ok X Gn (c.d.fact 114 (f := .glo "BadLetter") rfl)), gP := (He.glo_ok X Gn (c.d.fact 115 (f := .glo "BadPlace") rfl)), gS := (He.glo_ok X Gn (c.d.fact 116 (f := .glo "BadSteps") rfl)), gB := (He.glo_ok X Gn (c.d.fact 112 (f := .glo "BadPair") rfl)), gN := (He.glo_ok X Gn (c.d.fact 113 (f := .glo "NothingToUndo") rfl)), gT := (He.glo_ok X Gn (c.d.fact 117 (f := .glo "ThreadError") rfl))
    bL := (He.exm_ok (c.d.fact 136 (f := .exm "BadPair" "BadLetter" false) rfl)), bP := (He.exm_ok (c.d.fact 137 (f := .exm "BadPair" "BadPlace" false) rfl)), bS := (He.exm_ok (c.d.fact 138 (f := .exm "BadPair" "BadSteps" false) rfl)), bB := (He.exm_ok (c.d.fact 139 (f := .exm "BadPair" "BadPair" true) rfl))
    nL := (He.exm_ok (c.d.fact 140 (f := .exm "NothingToUndo" "BadLetter" false) rfl)), nP := (He.exm_ok (c.d.fact 141 (f := .exm "NothingToUndo" "BadPlace" false) rfl)), nS := (He.exm_ok (c.d.fact 142 (f := .exm "NothingToUndo" "BadSteps" false) rfl)), nB := (He.exm_ok (c.d.fact 143 (f := .exm "NothingToUndo" "BadPair" false) rfl)), nN := (He.exm_ok (c.d.fact 144 (f := .exm "NothingToUndo" "NothingToUndo" true) rfl))
    xf := xfB_ok x6, xv := (He.noat_ok (c.d.fact 132 (f := .noat "BadPair" "value") rfl)) }
  have c20 := ok_is_name (P := P) (w := w) (base := base) (T := hT K) (mg := mg) (df_at (He.glo_ok X Gn (c.d.fact 29 (f := .glo "is_name") rfl)) (c.d.def_ 1 (d := dN "is_name" 20) rfl)) g
  have c21 := ok_is_step (P := P) (w := w) (base := base) (T := hT K) (mg := mg) (df_at (He.glo_ok X Gn (c.d.fact 30 (f := .glo "is_step") rfl)) (c.d.def_ 2 (d := dN "is_step" 21) rfl)) g c20
  have c22 := ok_are_steps (P := P) (w := w) (base := base) (T := hT K) (mg := mg) (df_at (He.glo_ok X Gn (c.d.fact 31 (f := .glo "are_steps") rfl)) (c.d.def_ 3 (d := dN "are_steps" 22) rfl)) g c21
  have c23 := ok_is_thread (P := P) (w := w) (base := base) (T := hT K) (mg := mg) (df_at (He.glo_ok X Gn (c.d.fact 32 (f := .glo "is_thread") rfl)) (c.d.def_ 4 (d := dN "is_thread" 23) rfl)) g c22
  have c24 := ok_sections (P := P) (w := w) (base := base) (T := hT K) (mg := mg) (df_at (He.glo_ok X Gn (c.d.fact 33 (f := .glo "sections") rfl)) (c.d.def_ 5 (d := dN "sections" 24) rfl)) g
  have c25 := ok_accesses (P := P) (w := w) (base := base) (T := hT K) (mg := mg) (df_at (He.glo_ok X Gn (c.d.fact 34 (f := .glo "accesses") rfl)) (c.d.def_ 6 (d := dN "accesses" 25) rfl)) g
  have c29 := ok_lock (P := P) (w := w) (base := base) (T := hT K) (mg := mg) (df_at (He.glo_ok X Gn (c.d.fact 35 (f := .glo "lock_contests") rfl)) (c.d.def_ 7 (d := dN "lock_contests" 29) rfl)) g c24
  have c30 := ok_data (P := P) (w := w) (base := base) (T := hT K) (mg := mg) (df_at (He.glo_ok X Gn (c.d.fact 36 (f := .glo "data_contests") rfl)) (c.d.def_ 8 (d := dN "data_contests" 30) rfl)) g c25
  have c32 := ok_contests (P := P) (w := w) (base := base) (T := hT K) (mg := mg) (df_at (He.glo_ok X Gn (c.d.fact 67 (f := .glo "contests_contests") rfl)) (c.d.def_ 39 (d := dA "contests_contests" "contests" 31) rfl)) g c29 c30
  have c33 := ok_is_pair (P := P) (w := w) (base := base) (T := hT K) (mg := mg) (df_at (He.glo_ok X Gn (c.d.fact 37 (f := .glo "is_pair") rfl)) (c.d.def_ 9 (d := dN "is_pair" 33) rfl)) g c23 c32
  have c34 := ok_forces (P := P) (w := w) (base := base) (T := hT K) (mg := mg) (df_at (He.glo_ok X Gn (c.d.fact 38 (f := .glo "forces") rfl)) (c.d.def_ 10 (d := dN "forces" 34) rfl))
  have c35 := ok_leads (P := P) (w := w) (base := base) (T := hT K) (mg := mg) (df_at (He.glo_ok X Gn (c.d.fact 39 (f := .glo "leads_in") rfl)) (c.d.def_ 11 (d := dN "leads_in" 35) rfl)) g c34
  have c37 := ok_holdings (P := P) (w := w) (base := base) (T := hT K) (mg := mg) (df_at (He.glo_ok X Gn (c.d.fact 40 (f := .glo "holdings") rfl)) (c.d.def_ 12 (d := dN "holdings" 37) rfl)) g
  have k38 := ok_plane (P := P) (w := w) (base := base) (T := hT K) (mg := mg) (ci_at (He.glo_ok X Gn (c.d.fact 106 (f := .glo "Plane") rfl)) (He.cls_ok (c.d.fact 107 (f := .cls "Plane") rfl)) (c.d.def_ 50 (d := dM "Plane" "__init__" "Plane.__init__" 38 0) rfl) (He.mkr_ok (c.d.fact 111 (f := .mkr "Plane") rfl))) g (He.noat_ok (c.d.fact 129 (f := .noat "Plane" "sizes") rfl)) (He.noat_ok (c.d.fact 130 (f := .noat "Plane" "end") rfl)) (He.noat_ok (c.d.fact 131 (f := .noat "Plane" "held_by") rfl)) c37
  have m381 := ok_open (P := P) (w := w) (base := base) (T := hT K) (mg := mg) (cm_at (He.cls_ok (c.d.fact 107 (f := .cls "Plane") rfl)) (c.d.def_ 51 (d := dM "Plane" "is_open_at" "Plane.is_open_at" 38 1) rfl) (He.meth_ok (c.d.fact 79 (f := .meth "Plane" "is_open_at") rfl))) g (He.noat_ok (c.d.fact 131 (f := .noat "Plane" "held_by") rfl))
  have m383 := ok_next (P := P) (w := w) (base := base) (T := hT K) (mg := mg) (cm_at (He.cls_ok (c.d.fact 107 (f := .cls "Plane") rfl)) (c.d.def_ 52 (d := dM "Plane" "next_states" "Plane.next_states" 38 3) rfl) (He.meth_ok (c.d.fact 80 (f := .meth "Plane" "next_states") rfl))) g (He.noat_ok (c.d.fact 129 (f := .noat "Plane" "sizes") rfl)) m381
  have m384 := ok_reach (P := P) (w := w) (base := base) (T := hT K) (mg := mg) (cm_at (He.cls_ok (c.d.fact 107 (f := .cls "Plane") rfl)) (c.d.def_ 53 (d := dM "Plane" "reached_from" "Plane.reached_from" 38 4) rfl) (He.meth_ok (c.d.fact 81 (f := .meth "Plane" "reached_from") rfl))) g m383
  have c40 := ok_dead (P := P) (w := w) (base := base) (T := hT K) (mg := mg) (df_at (He.glo_ok X Gn (c.d.fact 68 (f := .glo "deadlocks_states") rfl)) (c.d.def_ 40 (d := dA "deadlocks_states" "deadlocks" 39) rfl)) g (He.cls_ok (c.d.fact 107 (f := .cls "Plane") rfl)) (He.noat_ok (c.d.fact 130 (f := .noat "Plane" "end") rfl)) k38 m383 m384
  have k42 := ok_blocks (P := P) (w := w) (base := base) (T := hT K) (mg := mg) (ci_at (He.glo_ok X Gn (c.d.fact 102 (f := .glo "Blocks") rfl)) (He.cls_ok (c.d.fact 103 (f := .cls "Blocks") rfl)) (c.d.def_ 45 (d := dM "Blocks" "__init__" "Blocks.__init__" 42 0) rfl) (He.mkr_ok (c.d.fact 109 (f := .mkr "Blocks") rfl))) g (He.noat_ok (c.d.fact 122 (f := .noat "Blocks" "known") rfl)) (He.noat_ok (c.d.fact 123 (f := .noat "Blocks" "led") rfl)) (He.noat_ok (c.d.fact 124 (f := .noat "Blocks" "parts") rfl)) c32 c35
  have m422 := ok_ends (P := P) (w := w) (base := base) (T := hT K) (mg := mg) (cm_at (He.cls_ok (c.d.fact 103 (f := .cls "Blocks") rfl)) (c.d.def_ 46 (d := dM "Blocks" "ends_before" "Blocks.ends_before" 42 2) rfl) (He.meth_ok (c.d.fact 74 (f := .meth "Blocks" "ends_before") rfl))) g (He.noat_ok (c.d.fact 122 (f := .noat "Blocks" "known") rfl)) (He.noat_ok (c.d.fact 124 (f := .noat "Blocks" "parts") rfl))
  have c44 := ok_pieces (P := P) (w := w) (base := base) (T := hT K) (mg := mg) (df_at (He.glo_ok X Gn (c.d.fact 69 (f := .glo "pieces_pieces") rfl)) (c.d.def_ 41 (d := dA "pieces_pieces" "pieces" 43) rfl)) g (He.cls_ok (c.d.fact 103 (f := .cls "Blocks") rfl)) (He.noat_ok (c.d.fact 124 (f := .noat "Blocks" "parts") rfl)) k42
  have c46 := ok_serial (P := P) (w := w) (base := base) (T := hT K) (mg := mg) (df_at (He.glo_ok X Gn (c.d.fact 70 (f := .glo "is_serial_pieces") rfl)) (c.d.def_ 42 (d := dA "is_serial_pieces" "is_serial" 45) rfl)) g c44
  have m481 := ok_earl (P := P) (w := w) (base := base) (T := hT K) (mg := mg) (cm_at (He.cls_ok (c.d.fact 105 (f := .cls "Ways") rfl)) (c.d.def_ 48 (d := dM "Ways" "earlier_of" "Ways.earlier_of" 48 1) rfl) (He.meth_ok (c.d.fact 76 (f := .meth "Ways" "earlier_of") rfl))) g (He.cls_ok (c.d.fact 103 (f := .cls "Blocks") rfl)) (He.noat_ok (c.d.fact 124 (f := .noat "Blocks" "parts") rfl)) (He.noat_ok (c.d.fact 126 (f := .noat "Ways" "after") rfl)) (He.noat_ok (c.d.fact 127 (f := .noat "Ways" "ahead") rfl)) m422
  have k48 := ok_ways (P := P) (w := w) (base := base) (T := hT K) (mg := mg) (ci_at (He.glo_ok X Gn (c.d.fact 104 (f := .glo "Ways") rfl)) (He.cls_ok (c.d.fact 105 (f := .cls "Ways") rfl)) (c.d.def_ 47 (d := dM "Ways" "__init__" "Ways.__init__" 48 0) rfl) (He.mkr_ok (c.d.fact 110 (f := .mkr "Ways") rfl))) g (He.cls_ok (c.d.fact 103 (f := .cls "Blocks") rfl)) (He.noat_ok (c.d.fact 123 (f := .noat "Blocks" "led") rfl)) (He.noat_ok (c.d.fact 124 (f := .noat "Blocks" "parts") rfl)) (He.noat_ok (c.d.fact 125 (f := .noat "Ways" "piece_at") rfl)) (He.noat_ok (c.d.fact 126 (f := .noat "Ways" "after") rfl)) (He.noat_ok (c.d.fact 127 (f := .noat "Ways" "ahead") rfl)) (He.noat_ok (c.d.fact 128 (f := .noat "Ways" "earlier") rfl)) k42 m481
  have m482 := ok_waysM (P := P) (w := w) (base := base) (T := hT K) (mg := mg) (cmc_at (He.cls_ok (c.d.fact 105 (f := .cls "Ways") rfl)) (c.d.def_ 49 (d := dM "Ways" "ways" "Ways.ways" 48 2) rfl) (He.meth_ok (c.d.fact 77 (f := .meth "Ways" "ways") rfl))) g (He.noat_ok (c.d.fact 128 (f := .noat "Ways" "earlier") rfl)) tbW mW uW
  have c50 := ok_count (P := P) (w := w) (base := base) (T := hT K) (mg := mg) (df_at (He.glo_ok X Gn (c.d.fact 71 (f := .glo "count_runs_counting") rfl)) (c.d.def_ 43 (d := dA "count_runs_counting" "count_runs" 49) rfl)) g k48 m482
  have c54 := ok_races (P := P) (w := w) (base := base) (T := hT K) (mg := mg) (df_at (He.glo_ok X Gn (c.d.fact 72 (f := .glo "races_races") rfl)) (c.d.def_ 44 (d := dA "races_races" "races" 53) rfl)) g c32 c44
  have c19 := ok_is_int (P := P) (w := w) (base := base) (T := hT K) (mg := mg) (df_at (He.glo_ok X Gn (c.d.fact 28 (f := .glo "is_integer") rfl)) (c.d.def_ 0 (d := dN "is_integer" 19) rfl)) g
  have c57 := ok_index_of (P := P) (w := w) (base := base) (T := hT K) (mg := mg) (df_at (He.glo_ok X Gn (c.d.fact 41 (f := .glo "index_of") rfl)) (c.d.def_ 13 (d := dN "index_of" 57) rfl)) g abd
  have c58 := ok_check (P := P) (w := w) (base := base) (T := hT K) (mg := mg) (df_at (He.glo_ok X Gn (c.d.fact 42 (f := .glo "check_place") rfl)) (c.d.def_ 14 (d := dN "check_place" 58) rfl)) g c19
  have xB := ok_badpair (P := P) (w := w) (base := base) (mg := mg) (xc_at (He.glo_ok X Gn (c.d.fact 112 (f := .glo "BadPair") rfl)) o_BadPair (c.d.def_ 70 (d := dM "BadPair" "__init__" "BadPair.__init__" 3 0) rfl) (He.meth_ok (c.d.fact 98 (f := .meth "BadPair" "__init__") rfl))) te (He.noat_ok (c.d.fact 132 (f := .noat "BadPair" "value") rfl))
  have xN := ok_nothing (P := P) (w := w) (base := base) (mg := mg) (xc_at (He.glo_ok X Gn (c.d.fact 113 (f := .glo "NothingToUndo") rfl)) o_NothingToUndo (c.d.def_ 71 (d := dM "NothingToUndo" "__init__" "NothingToUndo.__init__" 7 0) rfl) (He.meth_ok (c.d.fact 99 (f := .meth "NothingToUndo" "__init__") rfl))) te
  have k59 := ok_edinit (P := P) (w := w) (base := base) (T := hT K) (mg := mg) (ci_at (He.glo_ok X Gn (c.d.fact 100 (f := .glo "Editor") rfl)) (He.cls_ok (c.d.fact 101 (f := .cls "Editor") rfl)) (c.d.def_ 54 (d := dM "Editor" "__init__" "Editor.__init__" 59 0) rfl) (He.mkr_ok (c.d.fact 108 (f := .mkr "Editor") rfl))) g (He.noat_ok (c.d.fact 120 (f := .noat "Editor" "kept") rfl)) (He.noat_ok (c.d.fact 121 (f := .noat "Editor" "past") rfl)) c33
  have eEq := ok_edeq (P := P) (w := w) (base := base) (T := hT K) (mg := mg) (cm_at (He.cls_ok (c.d.fact 101 (f := .cls "Editor") rfl)) (c.d.def_ 55 (d := dM "Editor" "__eq__" "Editor.__eq__" 59 1) rfl) (He.meth_ok (c.d.fact 83 (f := .meth "Editor" "__eq__") rfl))) g (He.glo_ok X Gn (c.d.fact 100 (f := .glo "Editor") rfl)) ef (He.noat_ok (c.d.fact 120 (f := .noat "Editor" "kept") rfl))
  have eLen := ok_edlen (P := P) (w := w) (base := base) (T := hT K) (mg := mg) (cm_at (He.cls_ok (c.d.fact 101 (f := .cls "Editor") rfl)) (c.d.def_ 56 (d := dM "Editor" "__len__" "Editor.__len__" 59 2) rfl) (He.meth_ok (c.d.fact 84 (f := .meth "Editor" "__len__") rfl))) g (He.noat_ok (c.d.fact 120 (f := .noat "Editor" "kept") rfl))
  have eCh := ok_change (P := P) (w := w) (base := base) (T := hT K) (mg := mg) (cm_at (He.cls_ok (c.d.fact 101 (f := .cls "Editor") rfl)) (c.d.def_ 57 (d := dM "Editor" "change" "Editor.change" 59 3) rfl) (He.meth_ok (c.d.fact 85 (f := .meth "Editor" "change") rfl))) g (He.noat_ok (c.d.fact 120 (f := .noat "Editor" "kept") rfl)) (He.noat_ok (c.d.fact 121 (f := .noat "Editor" "past") rfl)) c33 xB
  have eIns := ok_insert (P := P) (w := w) (base := base) (T := hT K) (mg := mg) (cm_at (He.cls_ok (c.d.fact 101 (f := .cls "Editor") rfl)) (c.d.def_ 58 (d := dM "Editor" "insert" "Editor.insert" 59 4) rfl) (He.meth_ok (c.d.fact 86 (f := .meth "Editor" "insert") rfl))) g (He.noat_ok (c.d.fact 120 (f := .noat "Editor" "kept") rfl)) c57 c58 c21 eCh
  have eRem := ok_remove (P := P) (w := w) (base := base) (T := hT K) (mg := mg) (cm_at (He.cls_ok (c.d.fact 101 (f := .cls "Editor") rfl)) (c.d.def_ 59 (d := dM "Editor" "remove" "Editor.remove" 59 5) rfl) (He.meth_ok (c.d.fact 87 (f := .meth "Editor" "remove") rfl))) g (He.noat_ok (c.d.fact 120 (f := .noat "Editor" "kept") rfl)) c57 c58 eCh
  have eRep := ok_replace (P := P) (w := w) (base := base) (T := hT K) (mg := mg) (cm_at (He.cls_ok (c.d.fact 101 (f := .cls "Editor") rfl)) (c.d.def_ 60 (d := dM "Editor" "replace" "Editor.replace" 59 6) rfl) (He.meth_ok (c.d.fact 88 (f := .meth "Editor" "replace") rfl))) c57 eCh
  have eUn := ok_undo (P := P) (w := w) (base := base) (T := hT K) (mg := mg) (cm_at (He.cls_ok (c.d.fact 101 (f := .cls "Editor") rfl)) (c.d.def_ 61 (d := dM "Editor" "undo" "Editor.undo" 59 7) rfl) (He.meth_ok (c.d.fact 89 (f := .meth "Editor" "undo") rfl))) (He.noat_ok (c.d.fact 120 (f := .noat "Editor" "kept") rfl)) (He.noat_ok (c.d.fact 121 (f := .noat "Editor" "past") rfl)) xN
  have eBk := ok_back (P := P) (w := w) (base := base) (T := hT K) (mg := mg) (cm_at (He.cls_ok (c.d.fact 101 (f := .cls "Editor") rfl)) (c.d.def_ 62 (d := dM "Editor" "steps_back" "Editor.steps_back" 59 8) rfl) (He.meth_ok (c.d.fact 90 (f := .meth "Editor" "steps_back") rfl))) g (He.noat_ok (c.d.fact 121 (f := .noat "Editor" "past") rfl))
  have ePr := ok_pair (P := P) (w := w) (base := base) (T := hT K) (mg := mg) (cm_at (He.cls_ok (c.d.fact 101 (f := .cls "Editor") rfl)) (c.d.def_ 63 (d := dM "Editor" "pair" "Editor.pair" 59 9) rfl) (He.meth_ok (c.d.fact 91 (f := .meth "Editor" "pair") rfl))) (He.noat_ok (c.d.fact 120 (f := .noat "Editor" "kept") rfl))
  have eCo := ok_edcont (P := P) (w := w) (base := base) (T := hT K) (mg := mg) (cm_at (He.cls_ok (c.d.fact 101 (f := .cls "Editor") rfl)) (c.d.def_ 64 (d := dM "Editor" "contests" "Editor.contests" 59 10) rfl) (He.meth_ok (c.d.fact 92 (f := .meth "Editor" "contests") rfl))) (He.noat_ok (c.d.fact 120 (f := .noat "Editor" "kept") rfl)) c32
  have ePc := ok_edpc (P := P) (w := w) (base := base) (T := hT K) (mg := mg) (cm_at (He.cls_ok (c.d.fact 101 (f := .cls "Editor") rfl)) (c.d.def_ 65 (d := dM "Editor" "pieces" "Editor.pieces" 59 11) rfl) (He.meth_ok (c.d.fact 93 (f := .meth "Editor" "pieces") rfl))) (He.noat_ok (c.d.fact 120 (f := .noat "Editor" "kept") rfl)) c44
  have eCr := ok_edcr (P := P) (w := w) (base := base) (T := hT K) (mg := mg) (cm_at (He.cls_ok (c.d.fact 101 (f := .cls "Editor") rfl)) (c.d.def_ 66 (d := dM "Editor" "count_runs" "Editor.count_runs" 59 12) rfl) (He.meth_ok (c.d.fact 94 (f := .meth "Editor" "count_runs") rfl))) (He.noat_ok (c.d.fact 120 (f := .noat "Editor" "kept") rfl)) c50
  have eSe := ok_edser (P := P) (w := w) (base := base) (T := hT K) (mg := mg) (cm_at (He.cls_ok (c.d.fact 101 (f := .cls "Editor") rfl)) (c.d.def_ 67 (d := dM "Editor" "is_serial" "Editor.is_serial" 59 13) rfl) (He.meth_ok (c.d.fact 95 (f := .meth "Editor" "is_serial") rfl))) (He.noat_ok (c.d.fact 120 (f := .noat "Editor" "kept") rfl)) c46
  have eDl := ok_eddl (P := P) (w := w) (base := base) (T := hT K) (mg := mg) (cm_at (He.cls_ok (c.d.fact 101 (f := .cls "Editor") rfl)) (c.d.def_ 68 (d := dM "Editor" "deadlocks" "Editor.deadlocks" 59 14) rfl) (He.meth_ok (c.d.fact 96 (f := .meth "Editor" "deadlocks") rfl))) (He.noat_ok (c.d.fact 120 (f := .noat "Editor" "kept") rfl)) c40
  have eRc := ok_edrc (P := P) (w := w) (base := base) (T := hT K) (mg := mg) (cm_at (He.cls_ok (c.d.fact 101 (f := .cls "Editor") rfl)) (c.d.def_ 69 (d := dM "Editor" "races" "Editor.races" 59 15) rfl) (He.meth_ok (c.d.fact 97 (f := .meth "Editor" "races") rfl))) (He.noat_ok (c.d.fact 120 (f := .noat "Editor" "kept") rfl)) c54
  have lSt := ok_start (P := P) (w := w) (base := base) (T := hT K) (mg := mg) (df_at (He.glo_ok X Gn (c.d.fact 43 (f := .glo "_law_start") rfl)) (c.d.def_ 15 (d := dN "_law_start" 61) rfl)) g
  have lDr := ok_draw (P := P) (w := w) (base := base) (T := hT K) (mg := mg) (df_at (He.glo_ok X Gn (c.d.fact 44 (f := .glo "_law_draw") rfl)) (c.d.def_ 16 (d := dN "_law_draw" 62) rfl))
  have lCh := ok_choice (P := P) (w := w) (base := base) (T := hT K) (mg := mg) (df_at (He.glo_ok X Gn (c.d.fact 45 (f := .glo "_law_choice") rfl)) (c.d.def_ 17 (d := dN "_law_choice" 63) rfl)) g lDr
  have lNm := ok_names (P := P) (w := w) (base := base) (T := hT K) (mg := mg) (df_at (He.glo_ok X Gn (c.d.fact 46 (f := .glo "_law_names") rfl)) (c.d.def_ 18 (d := dN "_law_names" 64) rfl)) g lDr lCh
  have lTh := ok_thread (P := P) (w := w) (base := base) (T := hT K) (mg := mg) (df_at (He.glo_ok X Gn (c.d.fact 47 (f := .glo "_law_thread") rfl)) (c.d.def_ 19 (d := dN "_law_thread" 65) rfl)) g lDr lCh
  have lPt := ok_parts (P := P) (w := w) (base := base) (T := hT K) (mg := mg) (df_at (He.glo_ok X Gn (c.d.fact 48 (f := .glo "_law_parts") rfl)) (c.d.def_ 20 (d := dN "_law_parts" 66) rfl)) g
  have lCo := ok_lcontests (P := P) (w := w) (base := base) (T := hT K) (mg := mg) (df_at (He.glo_ok X Gn (c.d.fact 49 (f := .glo "_law_contests") rfl)) (c.d.def_ 21 (d := dN "_law_contests" 67) rfl)) g lPt
  have lFo := ok_lforces (P := P) (w := w) (base := base) (T := hT K) (mg := mg) (df_at (He.glo_ok X Gn (c.d.fact 50 (f := .glo "_law_forces") rfl)) (c.d.def_ 22 (d := dN "_law_forces" 68) rfl))
  have lLe := ok_led (P := P) (w := w) (base := base) (T := hT K) (mg := mg) (df_at (He.glo_ok X Gn (c.d.fact 51 (f := .glo "_law_led") rfl)) (c.d.def_ 23 (d := dN "_law_led" 69) rfl)) g lFo
  have lPc := ok_lpieces (P := P) (w := w) (base := base) (T := hT K) (mg := mg) (df_at (He.glo_ok X Gn (c.d.fact 52 (f := .glo "_law_pieces") rfl)) (c.d.def_ 24 (d := dN "_law_pieces" 70) rfl)) g lLe
  have lIs := ok_lis_step (P := P) (w := w) (base := base) (T := hT K) (mg := mg) (df_at (He.glo_ok X Gn (c.d.fact 53 (f := .glo "_law_is_step") rfl)) (c.d.def_ 25 (d := dN "_law_is_step" 71) rfl)) g
  have lIt := ok_lis_thread (P := P) (w := w) (base := base) (T := hT K) (mg := mg) (df_at (He.glo_ok X Gn (c.d.fact 54 (f := .glo "_law_is_thread") rfl)) (c.d.def_ 26 (d := dN "_law_is_thread" 72) rfl)) g lIs
  have lIp := ok_lis_pair (P := P) (w := w) (base := base) (T := hT K) (mg := mg) (df_at (He.glo_ok X Gn (c.d.fact 55 (f := .glo "_law_is_pair") rfl)) (c.d.def_ 27 (d := dN "_law_is_pair" 73) rfl)) g lIt lCo
  have lWi := ok_with (P := P) (w := w) (base := base) (T := hT K) (mg := mg) (df_at (He.glo_ok X Gn (c.d.fact 56 (f := .glo "_law_with") rfl)) (c.d.def_ 28 (d := dN "_law_with" 74) rfl))
  have lDe := ok_desk (P := P) (w := w) (base := base) (T := hT K) (mg := mg) (df_at (He.glo_ok X Gn (c.d.fact 57 (f := .glo "_law_desk") rfl)) (c.d.def_ 29 (d := dN "_law_desk" 75) rfl)) lDr lNm lTh
  have lSm := ok_small (P := P) (w := w) (base := base) (T := hT K) (mg := mg) (df_at (He.glo_ok X Gn (c.d.fact 58 (f := .glo "_law_small_steps") rfl)) (c.d.def_ 30 (d := dN "_law_small_steps" 76) rfl)) g lCh
  have lEd := ok_edit (P := P) (w := w) (base := base) (T := hT K) (mg := mg) (df_at (He.glo_ok X Gn (c.d.fact 59 (f := .glo "_law_edit") rfl)) (c.d.def_ 31 (d := dN "_law_edit" 77) rfl)) g lDr lCh lTh lWi lSm
  have lCa := ok_called (P := P) (w := w) (base := base) (T := hT K) (mg := mg) (df_at (He.glo_ok X Gn (c.d.fact 60 (f := .glo "_law_called") rfl)) (c.d.def_ 32 (d := dN "_law_called" 78) rfl)) eIns eRem eRep
  have lMe : Df K mg "_law_met" "_law_met" (top 79) := (df_at (He.glo_ok X Gn (c.d.fact 61 (f := .glo "_law_met") rfl)) (c.d.def_ 33 (d := dN "_law_met" 79) rfl))
  have lUn := ok_undone (P := P) (w := w) (base := base) (T := hT K) (mg := mg) (dfc_at (He.glo_ok X Gn (c.d.fact 63 (f := .glo "_law_undone") rfl)) (c.d.def_ 35 (d := dN "_law_undone" 81) rfl)) g lMe xf tbU mU uU eUn
  have lEe := ok_edited (P := P) (w := w) (base := base) (T := hT K) (mg := mg) (dfc_at (He.glo_ok X Gn (c.d.fact 62 (f := .glo "_law_edited") rfl)) (c.d.def_ 34 (d := dN "_law_edited" 80) rfl)) g lMe xf tbE mE uE lUn lDr lEd lIp lCa
  have lSa := ok_same (P := P) (w := w) (base := base) (T := hT K) (mg := mg) (dfc_at (He.glo_ok X Gn (c.d.fact 64 (f := .glo "_law_same_editor") rfl)) (c.d.def_ 36 (d := dN "_law_same_editor" 82) rfl)) g ePr eBk eLen
  have lAn := ok_right (P := P) (w := w) (base := base) (T := hT K) (mg := mg) (dfc_at (He.glo_ok X Gn (c.d.fact 65 (f := .glo "_law_answers_right") rfl)) (c.d.def_ 37 (d := dN "_law_answers_right" 83) rfl)) g eCo ePc eCr eSe eDl eRc c50 c46 c40 c54 lCo lPc
  exact ok_law (P := P) (w := w) (base := base) (T := hT K) (mg := mg) (dfc_at (He.glo_ok X Gn (c.d.fact 66 (f := .glo "law") rfl)) (c.d.def_ 38 (d := dN "law" 84) rfl)) g (He.glo_ok X Gn (c.d.fact 100 (f := .glo "Editor") rfl)) lSt lDe k59 eEq ef lEe lSa lAn
end Tw
namespace Tw
open PySem PySem.Spec PyProof.Rows L2 LamX
/-! ### the law's call, where no repr is under way -/
section
variable {K : PySem.W.Frag} {a : Addr} {tb : List Addr} {ob : Obj} {xs : List V}
-- what is tracked at the start: the script (unless K has it), the empty tables
def atGo (K : PySem.W.Frag) (a : Addr) (tb : List Addr) (ob : Obj) (xs : List V) : Hp := fun b => if b = a ∧ K.lookup a = none then some (.frz ob (.lst xs)) else if b ∈ tb then some (.tbl #[]) else none
theorem atGo_cases {b : Addr} {u : HO} (h : atGo K a tb ob xs b = some u) : (b = a ∧ K.lookup a = none ∧ u = .frz ob (.lst xs)) ∨ (b ∈ tb ∧ u = .tbl #[]) := by
  unfold atGo at h
  split at h
  · rename_i q
    exact .inl ⟨q.1, q.2, (Option.some.inj h).symm⟩
  · split at h
    · rename_i q
      exact .inr ⟨q, (Option.some.inj h).symm⟩
    · cases h
theorem atGo_tab (ha : a ∉ tb) {b : Addr} (hb : b ∈ tb) : atGo K a tb ob xs b = some (.tbl #[]) := by
  unfold atGo
  rw [if_neg (fun q : b = a ∧ K.lookup a = none => ha (q.1 ▸ hb)), if_pos hb]
theorem atGo_scr (h : K.lookup a = none) : atGo K a tb ob xs a = some (.frz ob (.lst xs)) := if_pos ⟨rfl, h⟩
end
theorem go_law {P : Program} {w : World} {K : PySem.W.Frag} {mg mb : Str → Option Value} {k : Nat} {f a : Addr} {tf : List (Addr × Addr)} {sp : Sp} {s : Shared} {vs : List Value} {ns : List Int} {y : Str}
    (kin : K.In s.heap) (gns : s.heap.Ns mainGlobals mg) (bns : s.heap.Ns builtinsNs mb) (boot : ∀ x : Str, x ≠ "__name__" → mb x = bootBuiltins x) (lim : s.heap.NoLimit) (gen : s.gens = #[])
    (tabs : ∀ p ∈ tf, s.heap.get? p.2 = some { cls := .none, data := .fields #[] }) (outK : ∀ p ∈ tf, K.lookup p.2 = none) (codes : ∀ p ∈ tf, PySem.W.codeHdIn K p.1 p.2 = true)
    (bmod : ∃ (m : Addr) (o : Obj), mg "__builtins__" = some (.ref m) ∧ m ≠ builtinsNs ∧ s.heap.get? m = some o ∧ o.cls = .type "module" ∧ o.dict = some builtinsNs ∧ o.data = .plain)
    (scr : s.heap.get? a = some { cls := .type "list", data := .seq vs.toArray }) (isI : IntsAre vs ns) (len : ns.length ≤ sizeLine) (room : Room k callerA) (named : mg "law" = some (.ref f))
    (F : ∀ base : Heap, K.In base → base.Ns mainGlobals mg → (∀ p ∈ tf, TabB base mg p.1 p.2) → ClG P w K mg base k "law" [y] sp)
    (pre : ∀ H : Hp, (∀ p ∈ tf, H p.2 = some (.tbl #[])) → SqL K H a (ns.map V.int) → sp [.ref a] H (fun v _ => v = .bl true) L2.E0) :
    codeAny (model P w) callerA (.call (.ref f) ⟨[.ref a], []⟩) (fun r s' => r = .ok (.ret (.bool true)) ∧ OldK s.heap s'.heap ∧ s'.os = s.os ∧ AllBare s'.gens) s := by
  have rel := vals_ints isI
  have vlen := isI.length
  have isTab : ∀ {b : Addr}, b ∈ tf.map (·.2) → s.heap.get? b = some { cls := .none, data := .fields #[] } := fun {b} hb => by
    obtain ⟨p, hp, rfl⟩ := List.mem_map.mp hb
    exact tabs p hp
  have inTab : ∀ p ∈ tf, p.2 ∈ tf.map (·.2) := fun p hp => List.mem_map.mpr ⟨p, hp, rfl⟩
  have aOut : a ∉ tf.map (·.2) := fun z => by
    have q := (isTab z).symm.trans scr
    injection q with q
    injection q with _ _ q
    cases q
  generalize hH : atGo K a (tf.map (·.2)) { cls := .type "list", data := .seq vs.toArray } (ns.map V.int) = H
  have tabH : ∀ p ∈ tf, H p.2 = some (.tbl #[]) := fun p hp => by rw [← hH]; exact atGo_tab aOut (inTab p hp)
  have cas : ∀ {b : Addr} {u : HO}, H b = some u → (b = a ∧ K.lookup a = none ∧ u = .frz { cls := .type "list", data := .seq vs.toArray } (.lst (ns.map V.int))) ∨ (b ∈ tf.map (·.2) ∧ u = .tbl #[]) := fun h => atGo_cases (by rw [hH]; exact h)
  -- the abstract heap is the heap's
  have holds : HOk P w H s.heap := fun b u hu => by
    rcases cas hu with ⟨rfl, _, rfl⟩ | ⟨hb, rfl⟩
    · exact ⟨scr, by rw [List.length_map]; exact len, vs, _, rel, scr⟩
    · exact isTab hb
  have scrH : SqL K H a (ns.map V.int) := by
    cases q : K.lookup a with
    | none =>
      refine .inl (.inr ⟨{ cls := .type "list", data := .seq vs.toArray }, ?_⟩)
      rw [← hH]
      exact atGo_scr q
    | some o =>
      have e := (kin a o q).symm.trans scr
      injection e with e
      subst e
      exact .inr ⟨_, vs.toArray, _, q, rfl, rfl, rfl, by rw [List.size_toArray, vlen]; exact len, by simpa using rel⟩
  -- what is of another kind is not tracked
  have free : ∀ {b : Addr} {o : Obj}, s.heap.get? b = some o → (∀ us m, o.data ≠ .seq us m) → o.data ≠ .fields #[] → H b = none := fun {b o} hb n1 n2 => by
    cases q : H b with
    | none => rfl
    | some u =>
      exfalso
      rcases cas q with ⟨rfl, _, _⟩ | ⟨hb2, _⟩
      · rw [scr] at hb
        injection hb with hb
        subst hb
        exact n1 _ _ rfl
      · rw [isTab hb2] at hb
        injection hb with hb
        subst hb
        exact n2 rfl
  have stay : ∀ {b : Addr} {o : Obj}, s.heap.get? b = some o → H b = none → (hidT s.heap H).get? b = some o := fun h n => hidT_get h n
  have nsB : ∀ {b : Addr} {m : Str → Option Value}, s.heap.Ns b m → (hidT s.heap H).Ns b m := fun {b m} ⟨o, es, ep, e, d, r⟩ => ⟨o, es, ep, stay e (free e (fun us m z => by rw [d] at z; cases z) fun z => by rw [d] at z; cases z), d, r⟩
  have kinB : K.In (hidT s.heap H) := fun b o e => stay (kin b o e) (by
    cases q : H b with
    | none => rfl
    | some u =>
      exfalso
      rcases cas q with ⟨rfl, n, _⟩ | ⟨hb2, _⟩
      · rw [n] at e
        cases e
      · obtain ⟨p, hp, rfl⟩ := List.mem_map.mp hb2
        rw [outK p hp] at e
        cases e)
  have tabB : ∀ p ∈ tf, TabB (hidT s.heap H) mg p.1 p.2 := fun p hp => by
    obtain ⟨og, es, ep, eg, dg, _⟩ := id gns
    have gP : mainGlobals ≠ p.2 := fun z => by
      rw [z, tabs p hp] at eg
      injection eg with eg
      rw [← eg] at dg
      cases dg
    refine NdefX.tabB_of_K kinB (codes p hp) ?_ gP
    obtain ⟨m, o, b1, b2, b3, b4, b5, b6⟩ := bmod
    refine ⟨m, o, b1, b2, fun z => ?_, fun z => ?_, stay b3 (free b3 (fun us n z => by rw [b6] at z; cases z) fun z => by rw [b6] at z; cases z), b4, b5, b6⟩
    · rw [z, eg] at b3
      injection b3 with b3
      rw [b3, b6] at dg
      cases dg
    · rw [z, tabs p hp] at b3
      injection b3 with b3
      rw [← b3] at b6
      cases b6
  obtain ⟨mc, lim1, lim2⟩ := lim
  have md : L2.Mod K mg (hidT s.heap H) := { kin := kinB, glob := nsB gns, blt := ⟨mb, nsB bns, boot⟩, nolimit := ⟨mc, nsB lim1, lim2⟩ }
  have env : Env0 P w K mg (hidT s.heap H) callerA [] s H := { frames := rfl, mod := md, bs := fun _ _ e => of_hidT e, bsz := Nat.le_of_eq (hidT_size _ _), funs := True.intro, frf := fun b hb => absurd hb List.not_mem_nil, hok := holds, bare := .of_eq gen }
  obtain ⟨f2, fd2, G2, nm2, _, bd⟩ := (F _ kinB (nsB gns) tabB).ex
  obtain rfl : f2 = f := by
    rw [named] at nm2
    injection nm2 with e
    injection e with e
    exact e.symm
  have one : Vals [V.ref a] [Value.ref a] := .cons rfl .nil
  refine codeAny_mono (G2.go callerA [] s H [.ref a] [.ref a] _ L2.E0 rfl room env (by
    have := bd s [.ref a] kin rfl
    simpa using this) one (pre H tabH scrH)) fun r s' hr => ?_
  · cases r with
    | error e => exact False.elim hr
    | ok fl =>
      cases fl with
      | next => exact False.elim hr
      | brk => exact False.elim hr
      | cont => exact False.elim hr
      | ret u =>
        obtain ⟨v, H2, os2, bare2, un, ok2, rv, ev⟩ := hr
        have ev : v = .bl true := ev
        subst ev
        obtain rfl : u = Value.bool true := rv
        have same : ∀ {b : Addr} {o : Obj}, b ∉ tf.map (·.2) → s.heap.get? b = some o → s'.heap.get? b = some o := fun {b o} hb e => by
          cases q : H b with
          | none => exact un.keep b o e q List.not_mem_nil List.not_mem_nil
          | some u =>
            rcases cas q with ⟨_, _, rfl⟩ | ⟨hb2, _⟩
            · have z1 := (holds b _ q).1
              have z2 := (ok2 b _ (un.frzs b _ _ q)).1
              rw [e] at z1
              injection z1 with z1
              rw [z1]
              exact z2
            · exact absurd hb2 hb
        have more : ∀ p ∈ tf, ∃ us : Array Value, s'.heap.get? p.2 = some { cls := .none, data := .fields us } := fun p hp => by
          obtain ⟨us, z⟩ := un.tbls p.2 #[] (tabH p hp)
          exact ⟨_, ok2 p.2 _ z⟩
        refine ⟨rfl, { old := fun b o e => ?_, there := fun b o e => ?_ }, os2, bare2⟩
        · by_cases hb : b ∈ tf.map (·.2)
          · obtain ⟨p, hp, rfl⟩ := List.mem_map.mp hb
            obtain ⟨us, hus⟩ := more p hp
            rw [tabs p hp] at e
            injection e with e
            subst e
            exact .inr (.inl ⟨((PySem.W.codeHd_of_K kin (codes p hp)).tab (tabs p hp)).isCodeTable, rfl, #[], us, rfl, by rw [Array.empty_append]; exact hus⟩)
          · exact .inl (same hb e)
        · by_cases hb : b ∈ tf.map (·.2)
          · obtain ⟨p, hp, rfl⟩ := List.mem_map.mp hb
            exact (more p hp).elim fun us z => ⟨_, z⟩
          · exact ⟨o, same hb e⟩
end Tw
namespace Tw
open PySem PySem.Spec PyProof.Rows L2 LamX
-- the law's own premise at the start
def stands (H : Hp) : Hp := fun b => match H b with
  | some (.tbl _) => none
  | u => u
theorem stands_eq {H : Hp} {b : Addr} {u : HO} (h : stands H b = some u) : H b = some u ∧ NotTbl u := by
  unfold stands at h
  split at h
  · cases h
  · rename_i hn
    refine ⟨h, fun ps e => ?_⟩
    subst e
    exact hn ps h
theorem stands_of {H : Hp} {b : Addr} {u : HO} (h : H b = some u) (n : NotTbl u) : stands H b = some u := by
  unfold stands
  split
  · rename_i ps q
    rw [q] at h
    injection h with e
    exact absurd e.symm (n ps)
  · exact h
theorem pre_law {K : PySem.W.Frag} {H : Hp} {a : Addr} {ns : List Int} {Q : VK} {E : XK} (hl : ns.length ≤ 63) (h1 : ∀ p ∈ hTf.map (He.cT K), H p.2 = some (.tbl #[])) (h2 : SqL K H a (ns.map V.int)) (q : ∀ H', Q (.bl true) H') : spLaw (hT K) K [.ref a] H Q E := by
  refine ⟨stands H, a, ns, fun b u hb => ⟨(stands_eq hb).2, .inl (stands_eq hb).1⟩, fun p hp => ?_, ?_, by omega, rfl, q⟩
  · have hp : p = ((He.cT K ("Ways", some "ways")).2, nmW) ∨ p = ((He.cT K ("_law_edited", none)).2, nmE) ∨ p = ((He.cT K ("_law_undone", none)).2, nmU) := by simpa [hT] using hp
    have m0 : (("Ways", some "ways") : He.Defn) ∈ hTf := List.mem_of_getElem? (i := 0) rfl
    have m1 : (("_law_edited", none) : He.Defn) ∈ hTf := List.mem_of_getElem? (i := 1) rfl
    have m2 : (("_law_undone", none) : He.Defn) ∈ hTf := List.mem_of_getElem? (i := 2) rfl
    rcases hp with e | e | e <;> subst e
    · exact TabS.nil (h1 _ (List.mem_map.mpr ⟨_, m0, rfl⟩))
    · exact TabS.nil (h1 _ (List.mem_map.mpr ⟨_, m1, rfl⟩))
    · exact TabS.nil (h1 _ (List.mem_map.mpr ⟨_, m2, rfl⟩))
  · rcases h2 with (z | ⟨o, z⟩) | z
    · exact .inl (.inl (stands_of z fun _ e => nomatch e))
    · exact .inl (.inr ⟨o, stands_of z fun _ e => nomatch e⟩)
    · exact .inr z
theorem room12 : Room 12 callerA := ⟨rfl, by decide, by decide⟩
theorem law_goes (w : World) {K : PySem.W.Frag} {mg mb : Str → Option Value} {f a : Addr} {s : Shared} {vs : List Value} {ns : List Int} (kin : K.In s.heap) (c : SaysH s.heap K)
    (gns : s.heap.Ns mainGlobals mg) (bns : s.heap.Ns builtinsNs mb) (boot : ∀ x : Str, x ≠ "__name__" → mb x = bootBuiltins x) (lim : s.heap.NoLimit) (gen : s.gens = #[])
    (bmod : ∃ (m : Addr) (o : Obj), mg "__builtins__" = some (.ref m) ∧ m ≠ builtinsNs ∧ s.heap.get? m = some o ∧ o.cls = .type "module" ∧ o.dict = some builtinsNs ∧ o.data = .plain)
    (scr : s.heap.get? a = some { cls := .type "list", data := .seq vs.toArray }) (isI : IntsAre vs ns) (len : ns.length ≤ 63) (named : mg "law" = some (.ref f)) :
    codeAny (model hR.prog w) callerA (.call (.ref f) ⟨[.ref a], []⟩) (fun r s' => r = .ok (.ret (.bool true)) ∧ OldK s.heap s'.heap ∧ s'.os = s.os ∧ AllBare s'.gens) s := by
  have hz : 63 ≤ sizeLine := by decide
  have each : ∀ {p : Addr × Addr}, p ∈ hTf.map (He.cT K) → ∃ q ∈ hTf, He.cT K q = p := fun hp => List.mem_map.mp hp
  exact go_law (tf := hTf.map (He.cT K)) kin gns bns boot lim gen (fun p hp => by obtain ⟨q, hq, rfl⟩ := each hp; exact c.em q hq) (fun p hp => by obtain ⟨q, hq, rfl⟩ := each hp; exact c.out q hq) (fun p hp => by obtain ⟨q, hq, rfl⟩ := each hp; exact c.hd q hq)
    bmod scr isI (Nat.le_trans len hz) room12 named (fun base _ _ TB => ok_top kin gns c TB) fun H h1 h2 => pre_law len h1 h2 fun _ => rfl
end Tw
open PySem PySem.W PySem.Calls PyProof.Rows
theorem PySem.Challenge.cw_twothreads_k63_whole_editors_along_histo_holds : PySem.Challenge.rw_twothreads_k63_whole_editors_along_histo.Holds :=
  Tw.head_goes (Att.attach_callB (l := PySem.Challenge.rw_twothreads_k63_whole_editors_along_histo) (n := 63) rfl Tw.top_dflt fun w s₀ s₁ mg mb fa o pm cd doc a vs ns G ⟨K, KX, c⟩ ho hd hcd hmg hobj hints hlen hbits hg =>
    Tw.law_goes w KX c G.T.g G.T.b G.T.builtins G.T.nolimit hg G.T.bmain hobj hints hlen (by rw [← Tw.top_name]; exact hmg))
