import PyProof.Rows.All
import Wide.All
import OpenK.AllK
import Wide.FinOn
import HandS.ForMost
import HandS.Exc
import HandS.TryOnly
import HandS.ExcOwn
import HandS.WordsExc
import HandS.Defaults
import HandS.Evl
import HandS.Wide
import HandS.SetFor
import HandS.Walk
import HandS.Conv
import HandS.Zip
import HandS.HeadHook2
import KE.GoesEnum
import HandS.Style
import HandS.IsInst
import HandS.Dict
import HandS.SortInts
import HandS.HeadHook4
import HandS.ExcIs
import HandS.Text
import HandS.TryMany
import HandS.ExcCtx
import HandS.HotCalls
import KE.KExcIs
import HandS.ExcField
import HandS.ExcInit
import HandS.WordsDict
import HandS.TupLen
import HandS.Set
import HandS.Strs
import PyProof.Rows.SetFrom
import KE.KSortTup
import HandS.TupSets
import HandS.SortOrd
import PyProof.Rows.SortShellAny
import HandS.Deep
import HandS.More
import HandS.TupAny
import KE.KRevSl
import HandS.Small
import HandS.Steps
import PySem.Challenge.RW_ribbonloft_k07_numbers_of_pegs_refused
import KE.KStateDown
import Lean
import HandS.Head0
import HandS.Head1
import HandS.Head2
import HandS.HeadEnd
set_option Elab.async false
set_option linter.all false
set_option maxRecDepth 100000
set_option maxHeartbeats 4000000
namespace Rb
open PySem PySem.Spec PyProof.Rows L2
def exNames : List Str := ["BadPegs", "BadFrame", "BadHalf", "BadHook", "BadName", "NoNumber", "NoFrame", "NoStack", "NoPlace", "Taken", "Full", "NothingThere", "BadTrade", "Hangs", "BadPage"]
def exB (K : PySem.W.Frag) : Bool :=
  exNames.all (fun x => decide (PySem.W.exmOne K (.ref (He.ga K x)) (.ref (He.ga K "RibbonError")) = some true) &&
    exNames.all (fun y => decide (PySem.W.exmOne K (.ref (He.ga K x)) (.ref (He.ga K y)) = some (decide (x = y)) ∧ PySem.W.kitOne K (.ref (He.ga K x)) (.ref (He.ga K y)) = some (decide (x = y)))) &&
    decide (PySem.W.kitOne K (.ref (He.ga K x)) (.type "ValueError") = some true) &&
    decide (PySem.W.findIn K (.ref (He.ga K x)) "__getattribute__" = some (some (.builtin "BaseException.__getattribute__"))) &&
    decide (PySem.W.findIn K (.ref (He.ga K x)) "__getattr__" = some none) &&
    decide (PySem.W.subIn K (.ref (He.ga K x)) (.type "BaseException") = some true) &&
    PySem.W.hasDictIn K (He.ga K x) &&
    decide (PySem.W.findIn K (.ref (He.ga K x)) "__class__" = some (some (.builtin "object.__class__"))) &&
    decide (PySem.W.specialIn K (.builtin "object.__class__") "__get__" = some (some (.builtin "getset_descriptor.__get__"))) &&
    decide (PySem.W.takesIn K (.builtin "object.__class__") = some true) &&
    decide (PySem.W.mroIn K (He.ga K x) (.type "object") = some true))
def oexB (K : PySem.W.Frag) (f x : Str) : Bool :=
  (match K.lookup (He.ga K x) with
    | some ⟨.type "type", _, .cls q, s⟩ => (match q.mro, s.toList with
      | .ref z :: l, [_, _, _, _, some (.builtin g), _] => decide (z = He.ga K x) && (decide (g = "ValueError.__new__") && (!q.hasDel && (q.hasDict && PySem.HandSPX.refsVE l)))
      | _, _ => false)
    | _ => false) &&
  (decide (PySem.W.findIn K (.ref (He.ga K x)) "__setattr__" = some (some (.builtin "object.__setattr__"))) &&
  (decide (PySem.W.subIn K (.ref (He.ga K x)) (.type "BaseException") = some true) &&
  (decide (PySem.W.typeIn K (.ref (He.ga K x)) = some (.type "type")) &&
  (PySem.W.keepIn K (.ref (He.ga K x)) &&
  (decide (PySem.W.findIn K (.ref (He.ga K x)) "__init__" = some (some (.ref (He.ma K (He.ga K x) "__init__")))) &&
  (decide (PySem.W.typeIn K (.ref (He.ma K (He.ga K x) "__init__")) = some (.type "function")) &&
  (decide (PySem.W.findIn K (.ref (He.ga K x)) f = some none) && xfB K (He.ga K x))))))))
def clsStmt (s : Stmt) (j : Nat) : Stmt := match s with
  | .ClassDef _ _ _ b .. => b.getD j (.Pass ⟨0, 0, 0, 0⟩)
  | _ => .Pass ⟨0, 0, 0, 0⟩
def exBN (N : List Str) (K : PySem.W.Frag) : Bool :=
  N.all fun x => decide (PySem.W.exmOne K (.ref (He.ga K x)) (.ref (He.ga K "RibbonError")) = some true) && N.all fun y => decide (PySem.W.exmOne K (.ref (He.ga K x)) (.ref (He.ga K y)) = some (decide (x = y)))
end Rb

set_option Elab.async false
set_option linter.all false
set_option maxRecDepth 100000
set_option maxHeartbeats 0
namespace Rb.M_k07
open PySem PySem.Spec PyProof.Rows L2 Rb
def top (i : Nat) : Stmt := PySem.Challenge.pw_ribbonloft_k07_numbers_of_pegs_refused.main.body.getD i (.Pass ⟨0, 0, 0, 0⟩)
abbrev sti_BadTrade : Stmt := clsStmt (top 15) 0
def dI_BadTrade : He.DefD := ⟨("BadTrade", some "__init__"), "__init__", "BadTrade.__init__", defArgs sti_BadTrade, defBody sti_BadTrade, defScope sti_BadTrade, [], []⟩
def dI_Desk : He.DefD := ⟨("Desk", some "__init__"), "__init__", "Desk.__init__", defArgs (clsStmt (top 83) 0), defBody (clsStmt (top 83) 0), defScope (clsStmt (top 83) 0), [], []⟩
def dI_Loft : He.DefD := ⟨("Loft", some "__init__"), "__init__", "Loft.__init__", defArgs (clsStmt (top 66) 0), defBody (clsStmt (top 66) 0), defScope (clsStmt (top 66) 0), [], []⟩
def exA (K : PySem.W.Frag) : Bool := exB K && (([("at", "BadTrade")] : List (Str × Str)).all fun q => oexB K q.1 q.2)
def dA (i : Nat) (x y : Str) : He.DefD := ⟨(x, none), y, y, defArgs (top i), defBody (top i), defScope (top i), [], []⟩
def dD (i : Nat) (x : Str) : He.DefD := ⟨(x, none), x, x, defArgs (top i), defBody (top i), defScope (top i), [], []⟩
def fn : List He.DefD := [dD 20 "ask_pegs", dD 21 "turned_round", dD 22 "in_round", dD 23 "out_of_round", dD 24 "are_ties", dD 25 "nested", dD 26 "is_frame", dD 27 "ask_frame", dD 28 "plain", dD 33 "from_brackets", dD 35 "followed", dD 36 "rings_left", dD 37 "put_together", dD 38 "stacked", dD 40 "ask_hook", dD 41 "ask_row", dD 42 "hook", dD 44 "made", dD 86 "ways_on", dD 87 "how_many", dD 88 "numbered", dD 89 "every", dD 90 "texts", dD 91 "half_in", dD 92 "halves", dD 93 "how_many_halves", dD 94 "half_of", dD 96 "beside", dD 97 "swapped", dD 98 "dropped", dD 99 "cut", dD 100 "grown", dD 101 "behind", dD 102 "walked", dD 103 "traded", dD 104 "like_ahead", dD 105 "fold", dD 106 "folding", dD 107 "out_of_order", dD 108 "next_trades", dD 109 "descent", dD 110 "contrary", dD 111 "bridge", dD 113 "_law_kin", dD 114 "_law_mix", dD 115 "_law_raw", dD 116 "_law_digits", dD 117 "_law_ask", dD 118 "_law_ask_more", dD 119 "_law_word", dD 120 "law", dA 42 "hook_hooks" "hook", dI_BadTrade, dI_Desk, dI_Loft]
def fa : List He.Fa := [.glo "ask_pegs", .glo "turned_round", .glo "in_round", .glo "out_of_round", .glo "are_ties", .glo "nested", .glo "is_frame", .glo "ask_frame", .glo "plain", .glo "from_brackets", .glo "followed", .glo "rings_left", .glo "put_together", .glo "stacked", .glo "ask_hook", .glo "ask_row", .glo "hook", .glo "made", .glo "ways_on", .glo "how_many", .glo "numbered", .glo "every", .glo "texts", .glo "half_in", .glo "halves", .glo "how_many_halves", .glo "half_of", .glo "beside", .glo "swapped", .glo "dropped", .glo "cut", .glo "grown", .glo "behind", .glo "walked", .glo "traded", .glo "like_ahead", .glo "fold", .glo "folding", .glo "out_of_order", .glo "next_trades", .glo "descent", .glo "contrary", .glo "bridge", .glo "_law_kin", .glo "_law_mix", .glo "_law_raw", .glo "_law_digits", .glo "_law_ask", .glo "_law_ask_more", .glo "_law_word", .glo "law", .glo "hook_hooks", .free "ValueError", .free "abs", .free "enumerate", .free "isinstance", .free "len", .free "list", .free "range", .free "sorted", .free "tuple", .free "zip", .exc "BadFrame", .exc "BadHook", .exc "BadPegs", .exc "NoNumber", .glo "BadFrame", .glo "BadHalf", .glo "BadHook", .glo "BadName", .glo "BadPage", .glo "BadPegs", .glo "BadTrade", .glo "Full", .glo "Hangs", .glo "NoFrame", .glo "NoNumber", .glo "NoPlace", .glo "NoStack", .glo "NothingThere", .glo "RibbonError", .glo "Taken", .glo "Desk", .cls "Desk", .mkr "Desk", .noat "Desk" "own", .glo "Loft", .cls "Loft", .mkr "Loft", .noat "Loft" "width", .noat "Loft" "known", .noat "Loft" "piles", .noat "Loft" "past", .noat "Loft" "ahead", .int "MOST_LISTED" 6, .int "MOST_PEGS" 10]
def loose0 : List Str := ["_wall", "RibbonError", "BadPegs", "BadFrame", "BadHalf", "BadHook", "BadName", "NoNumber", "NoFrame", "NoStack", "NoPlace", "Taken", "Full", "NothingThere", "BadTrade", "Hangs", "BadPage", "MOST_PEGS", "ask_pegs", "turned_round", "in_round", "out_of_round", "are_ties", "nested", "is_frame", "ask_frame", "plain", "renamed", "over", "mirrored"]
def loose1 : List Str := ["brackets", "from_brackets", "followed", "rings_left", "put_together", "stacked", "ask_hook", "ask_row", "hook", "hook_hooks", "made", "column", "seams_of", "length_of", "tied_beside", "tied_anew", "without_first", "shortest_row", "LETTERS", "LONGEST_NAME", "MOST_FRAMES", "MOST_STACKS", "MOST_ENTRIES", "ask_new", "ask_name", "turned_over", "mirror_of", "names_in", "with_thing", "without"]
def loose2 : List Str := ["Loft", "FIGURES", "MOST_FIGURES", "number_in", "entry_word", "page", "FORMS", "thing_in", "things_in", "frame_in", "comes_told", "row_told", "answered", "deed_done", "class_of", "Desk", "MOST_LISTED", "ways_on", "how_many", "numbered", "every", "texts", "half_in", "halves", "how_many_halves", "half_of", "beside", "swapped", "dropped", "cut"]
def loose3 : List Str := ["grown", "behind", "walked", "traded", "like_ahead", "fold", "folding", "out_of_order", "next_trades", "descent", "contrary", "bridge", "_law_kin", "_law_mix", "_law_raw", "_law_digits", "_law_ask", "_law_ask_more", "_law_word"]
def loose : List Str := loose0 ++ loose1 ++ loose2 ++ loose3
abbrev R0 : PySem.W.OpenRow := PySem.W.OpenLaw.row PySem.Challenge.rw_ribbonloft_k07_numbers_of_pegs_refused
def bfs (g : Addr → Option Obj) : Nat → List Addr → List Addr
  | 0, as => as
  | n + 1, as => as ++ bfs g n (as.flatMap fun a => match g a with
    | some o => He.refsD o
    | none => [])
def frQ (g : Addr → Option Obj) : PySem.W.Frag := He.frT g (bfs g 4 [mainGlobals])
def obQ (fa : List He.Fa) (fn : List He.DefD) (ex : PySem.W.Frag → Bool) (g : Addr → Option Obj) : He.AlX := (He.obsT fa fn [] (frQ g), ex (frQ g))
def hookQ (fa : List He.Fa) (fn : List He.DefD) (ex : PySem.W.Frag → Bool) : PySem.W.Hook where
  α := He.AlX
  obs := fun s => obQ fa fn ex s.heap.get?
  val := fun w => He.valX fn [] w
  says := fun w h => ∃ K : PySem.W.Frag, K.In h ∧ (He.SaysT fa fn [] w K ∧ ex K = true)
  of := fun _ _ e => ⟨_, He.frT_in, congrArg (fun z : He.AlX => z.1) e, congrArg (fun z : He.AlX => z.2) e⟩
  keeps := fun _ _ _ ⟨K, hK, c⟩ k => ⟨K, PySem.W.Frag.In.keeps hK k, c⟩
abbrev hk : PySem.W.Hook := hookQ fa fn exA
def ob (s : PySem.W.SharedT) : He.AlX := obQ fa fn exA (HandSHeadRun.getT s)
theorem ob_eq (s : PySem.W.SharedT) : ob s = hk.obs s.abs := by
  show obQ fa fn exA (HandSHeadRun.getT s) = obQ fa fn exA s.abs.heap.get?
  rw [show HandSHeadRun.getT s = s.abs.heap.get? from funext (HandSHeadRun.getT_eq s)]
abbrev S_run_a (w : World) : Prop := HandSHeadRun.RunEq R0 (PySem.W.view R0.prog [120]) hk ob 30000 loose w
theorem run_a_f (w : World) : S_run_a (w.withFollow "special-get-raises" false) := by
  intro os
  kernel_rfl
theorem run_a_t (w : World) : S_run_a (w.withFollow "special-get-raises" true) := by
  intro os
  kernel_rfl
theorem run_a (w : World) : S_run_a w := PySem.W.byRow2 "special-get-raises" (P := S_run_a) run_a_f run_a_t w
theorem run (w : World) : HandSHeadRun.RunEq R0 (PySem.W.view R0.prog [120]) hk ob 30000 loose w := by
  exact run_a w
open PySem.W PySem.Calls in
theorem z_law (h : PySem.Challenge.rw_ribbonloft_k07_numbers_of_pegs_refused.row.wellSaid = true → PySem.Challenge.rw_ribbonloft_k07_numbers_of_pegs_refused.row.Holds) : PySem.Challenge.rw_ribbonloft_k07_numbers_of_pegs_refused.Holds := by
  w_on; o_law
  exact h (by assumption)
open PySem.W PySem.Calls in
theorem z_e : opening R0.prog = plainProg R0.prog.main.scope.names := by kernel_rfl
open PySem.W PySem.Calls in
theorem z_f : ∀ s, fenceModules? R0.prog s = some s := fun s => by kernel_rfl
open PySem.W PySem.Calls in
theorem z_def : defOf (PySem.W.view R0.prog [120]) R0.name = some ((HandSHeadRun.topDef R0.prog 120), []) := by kernel_rfl
open PySem.W PySem.Calls in
theorem z_p : R0.prog.theDef R0.name = some ((HandSHeadRun.topDef R0.prog 120).params, (HandSHeadRun.topDef R0.prog 120).body, (HandSHeadRun.topDef R0.prog 120).scope) := by kernel_rfl
open PySem.W PySem.Calls in
theorem z_k : kwWritten? (HandSHeadRun.topDef R0.prog 120).params.kwonlyargs (HandSHeadRun.topDef R0.prog 120).params.kw_defaults = some [] := by kernel_rfl
open PySem.W PySem.Calls in
theorem z_ok : (chainsOk (PySem.W.view R0.prog [120]) && opensWell R0.prog && (frees R0.toRowW && R0.within.isEmpty)) = true := by kernel_rfl
open PySem.W PySem.Calls in
theorem z_b : R0.prog.bare := ⟨rfl, rfl, rfl, rfl, rfl, by decide +kernel⟩
open PySem.W PySem.Calls in
theorem z_wr : (!R0.writes || R0.records.isEmpty) = true := by rfl
end Rb.M_k07
set_option maxHeartbeats 4000000

set_option Elab.async false
set_option linter.all false
set_option maxRecDepth 100000
set_option maxHeartbeats 2000000
namespace Rb
open PySem PySem.Spec PyProof.Rows L2
abbrev Ex := Evl.Ex
abbrev Frag := PySem.W.Frag
def lim : Nat := 100000
theorem lim_le {n : Nat} (h : n ≤ lim) : n ≤ sizeLine := Nat.le_trans h (by decide)
theorem lim_lt {n : Nat} (h : n < lim) : n < sizeLine := Nat.lt_of_lt_of_le h (by decide)

def kD : Key → PyData
  | .inl i => .int i
  | .inr s => .str s
def kvD (p : Key × PyData) : PyData × PyData := (kD p.1, p.2)
def kOk : Key → Prop
  | .inl _ => True
  | .inr s => s.length ≤ lim
def DtL (kvs : List (List Key × PyData)) : Prop := kvs.length ≤ lim ∧ ∀ p, p ∈ kvs → p.1.length ≤ lim
def DkL (kvs : List (Key × PyData)) : Prop := kvs.length ≤ lim ∧ ∀ p, p ∈ kvs → kOk p.1
mutual
inductive Dq (H : Hp) : V → PyData → Prop
  | non : Dq H .non .none
  | bl (b : Bool) : Dq H (.bl b) (.bool b)
  | int (i : Int) : Dq H (.int i) (.int i)
  | str (x : Str) : x.length ≤ lim → Dq H (.str x) (.str x)
  | lst {a : Addr} {xs : List V} {ds : List PyData} : H a = some (.lst xs) → DqAll H xs ds → ds.length ≤ lim → Dq H (.ref a) (.list ds)
  | tup {a : Addr} {xs : List V} {ds : List PyData} : H a = some (.tup xs) → DqAll H xs ds → ds.length ≤ lim → Dq H (.ref a) (.tuple ds)
  /-- a dict that never changes again -/
  | dct {a : Addr} {o : Obj} {xs : List (Key × V)} {kvs : List (Key × PyData)} {ps : List (PyData × PyData)} : H a = some (.frz o (.dK xs)) → xs.map (·.1) = kvs.map (·.1) → DqAll H (xs.map (·.2)) (kvs.map (·.2)) → DkL kvs → ps = kvs.map kvD → Dq H (.ref a) (.dict ps)
inductive DqAll (H : Hp) : List V → List PyData → Prop
  | nil : DqAll H [] []
  | cons {v : V} {vs : List V} {d : PyData} {ds : List PyData} : Dq H v d → DqAll H vs ds → DqAll H (v :: vs) (d :: ds)
end
mutual
theorem Dq.mono' {H H' : Hp} (e : Ex H H') : ∀ {d : PyData} {v : V}, Dq H v d → Dq H' v d
  | _, _, .non => .non
  | _, _, .bl b => .bl b
  | _, _, .int i => .int i
  | _, _, .str x z => .str x z
  | _, _, .lst h1 h2 h3 => .lst (e _ _ h1) (DqAll.mono' e h2) h3
  | _, _, .tup h1 h2 h3 => .tup (e _ _ h1) (DqAll.mono' e h2) h3
  | _, _, .dct h1 h2 h3 h4 h5 => .dct (e _ _ h1) h2 (DqAll.mono' e h3) h4 h5
theorem DqAll.mono' {H H' : Hp} (e : Ex H H') : ∀ {ds : List PyData} {vs : List V}, DqAll H vs ds → DqAll H' vs ds
  | _, _, .nil => .nil
  | _, _, .cons h1 h2 => .cons (Dq.mono' e h1) (DqAll.mono' e h2)
end
theorem Dq.mono {H H' : Hp} (e : Ex H H') (d : PyData) (v : V) (h : Dq H v d) : Dq H' v d := h.mono' e
theorem DqAll.mono {H H' : Hp} (e : Ex H H') (ds : List PyData) (vs : List V) (h : DqAll H vs ds) : DqAll H' vs ds := h.mono' e
mutual
theorem Dq.dp {K : Frag} {H : Hp} : ∀ (d : PyData) (v : V), PyData.canLay0 d = true → Dq H v d → Dp K H v d
  | .none, _, _, h => by cases h; exact .non
  | .bool b, _, _, h => by cases h; exact .bl b
  | .int i, _, _, h => by cases h; exact .int i
  | .str x, _, _, h => by cases h; exact .str x
  | .list ds, _, c, h => by cases h with | lst h1 h2 h3 => exact .lst (SqL.of h1) (DqAll.dp ds _ c h2)
  | .tuple ds, _, c, h => by cases h with | tup h1 h2 h3 => exact .tup (SqT.of h1) (DqAll.dp ds _ c h2)
  | .dict _, _, c, _ => by cases c
theorem DqAll.dp {K : Frag} {H : Hp} : ∀ (ds : List PyData) (vs : List V), PyData.canLayAll0 ds = true → DqAll H vs ds → DpAll K H vs ds
  | [], _, _, h => by cases h; exact .nil
  | d :: ds, _, c, h => by
    have c' : (PyData.canLay0 d && PyData.canLayAll0 ds) = true := c
    cases h with | cons h1 h2 => exact .cons (Dq.dp d _ (Bool.and_eq_true_iff.mp c').1 h1) (DqAll.dp ds _ (Bool.and_eq_true_iff.mp c').2 h2)
end
theorem DqAll.len {H : Hp} : ∀ {ds : List PyData} {vs : List V}, DqAll H vs ds → vs.length = ds.length
  | [], _, h => by cases h; rfl
  | d :: ds, _, h => by cases h with | cons h1 h2 => rw [List.length_cons, List.length_cons, h2.len]
theorem DqAll.get {H : Hp} : ∀ {ds : List PyData} {vs : List V} {i : Nat} {d : PyData}, DqAll H vs ds → ds[i]? = some d → ∃ v, vs[i]? = some v ∧ Dq H v d
  | [], _, _, _, _, e => by simp at e
  | d :: ds, _, 0, _, .cons h1 h2, e => by simp at e; subst e; exact ⟨_, rfl, h1⟩
  | d :: ds, _, i + 1, _, .cons h1 h2, e => by
    obtain ⟨v, e1, e2⟩ := DqAll.get h2 (by simpa using e)
    exact ⟨v, by simpa using e1, e2⟩
theorem DqAll.getV {H : Hp} : ∀ {ds : List PyData} {vs : List V} {i : Nat} {v : V}, DqAll H vs ds → vs[i]? = some v → ∃ d, ds[i]? = some d ∧ Dq H v d
  | [], _, _, _, .nil, e => by simp at e
  | d :: ds, _, 0, _, .cons h1 h2, e => by simp at e; subst e; exact ⟨_, rfl, h1⟩
  | d :: ds, _, i + 1, _, .cons h1 h2, e => by
    obtain ⟨v, e1, e2⟩ := DqAll.getV h2 (by simpa using e)
    exact ⟨v, by simpa using e1, e2⟩
theorem DqAll.app {H : Hp} : ∀ {ds es : List PyData} {vs ws : List V}, DqAll H vs ds → DqAll H ws es → DqAll H (vs ++ ws) (ds ++ es)
  | [], _, _, _, .nil, h => h
  | _ :: _, _, _, _, .cons h1 h2, h => .cons h1 (h2.app h)
theorem DqAll.take {H : Hp} : ∀ {ds : List PyData} {vs : List V} (n : Nat), DqAll H vs ds → DqAll H (vs.take n) (ds.take n)
  | _, _, 0, _ => .nil
  | [], _, _ + 1, .nil => .nil
  | _ :: _, _, n + 1, .cons h1 h2 => .cons h1 (h2.take n)
theorem DqAll.drop {H : Hp} : ∀ {ds : List PyData} {vs : List V} (n : Nat), DqAll H vs ds → DqAll H (vs.drop n) (ds.drop n)
  | _, _, 0, h => h
  | [], _, _ + 1, .nil => .nil
  | _ :: _, _, n + 1, .cons h1 h2 => h2.drop n
theorem DqAll.set {H : Hp} {v : V} {d : PyData} (h : Dq H v d) : ∀ {ds : List PyData} {vs : List V} (i : Nat), DqAll H vs ds → DqAll H (vs.set i v) (ds.set i d)
  | [], _, _, .nil => .nil
  | _ :: _, _, 0, .cons h1 h2 => .cons h h2
  | _ :: _, _, n + 1, .cons h1 h2 => .cons h1 (h2.set h n)
theorem DqAll.rev {H : Hp} : ∀ {ds : List PyData} {vs : List V}, DqAll H vs ds → DqAll H vs.reverse ds.reverse
  | [], _, .nil => .nil
  | _ :: _, _, .cons h1 h2 => by
    rw [List.reverse_cons, List.reverse_cons]
    exact h2.rev.app (.cons h1 .nil)
theorem DqAll.dropLast {H : Hp} {ds : List PyData} {vs : List V} (h : DqAll H vs ds) : DqAll H vs.dropLast ds.dropLast := by
  rw [List.dropLast_eq_take, List.dropLast_eq_take, h.len]
  exact h.take _
theorem DqAll.erase {H : Hp} : ∀ {ds : List PyData} {vs : List V} (i : Nat), DqAll H vs ds → DqAll H (vs.eraseIdx i) (ds.eraseIdx i)
  | [], _, _, .nil => .nil
  | _ :: _, _, 0, .cons h1 h2 => h2
  | _ :: _, _, n + 1, .cons h1 h2 => .cons h1 (h2.erase n)
theorem DqAll.ints {H : Hp} : ∀ {ns : List Int} {vs : List V}, DqAll H vs (ns.map PyData.int) → vs = ns.map V.int
  | [], _, h => by cases h; rfl
  | n :: ns, _, h => by
    cases h with
    | cons h1 h2 =>
      cases h1
      rw [List.map_cons, h2.ints]
theorem DqAll.ints' {H : Hp} : ∀ (ns : List Int), DqAll H (ns.map V.int) (ns.map PyData.int)
  | [] => .nil
  | n :: ns => .cons (.int n) (DqAll.ints' ns)
theorem DqAll.strs {H : Hp} : ∀ {ns : List Str} {vs : List V}, DqAll H vs (ns.map PyData.str) → vs = ns.map V.str
  | [], _, h => by cases h; rfl
  | n :: ns, _, h => by
    cases h with
    | cons h1 h2 =>
      cases h1
      rw [List.map_cons, h2.strs]
def NoTup (o : HO) : Prop := ∀ xs, o ≠ .tup xs
structure Fz (F H F' H' : Hp) : Prop where
  f : Ex F F'
  fh : Ex F' H'
  own' : ∀ p o, H p = some o → F p = none → (NoTup o → F' p = none) ∧ H' p = some o
theorem Fz.own {F H F' H' : Hp} (z : Fz F H F' H') (p : Addr) (o : HO) (h : H p = some o) (n : F p = none) (nt : NoTup o := by exact fun _ z => nomatch z) : F' p = none ∧ H' p = some o := ⟨(z.own' p o h n).1 nt, (z.own' p o h n).2⟩
theorem Fz.refl {F H : Hp} (e : Ex F H) : Fz F H F H := ⟨Evl.Ex.refl F, e, fun _ _ h n => ⟨fun _ => n, h⟩⟩
theorem Fz.trans {F H F1 H1 F2 H2 : Hp} (a : Fz F H F1 H1) (b : Fz F1 H1 F2 H2) : Fz F H F2 H2 :=
  ⟨a.f.trans b.f, b.fh, fun p o h n => by
    obtain ⟨x, y⟩ := a.own' p o h n
    cases r : F1 p with
    | none => exact b.own' p o y r
    | some u =>
      have e := a.fh p u r
      rw [y] at e
      cases e
      exact ⟨fun z => (by rw [x z] at r; cases r), b.fh p _ (b.f p _ r)⟩⟩
theorem Fz.hh {F H F' H' : Hp} (e : Ex F H) (a : Fz F H F' H') : Ex H H' := fun p o h => by
  cases q : F p with
  | none => exact (a.own' p o h q).2
  | some u =>
    have e1 := e p u q
    rw [h] at e1
    cases e1
    exact a.fh p o (a.f p o q)
theorem Fz.hn {F H F' H' : Hp} (z : Fz F H F' H') {p : Addr} (h : H' p = none) : H p = none := by
  cases q : H p with
  | none => rfl
  | some o =>
    cases r : F p with
    | none => rw [(z.own' p o q r).2] at h; cases h
    | some u => rw [z.fh p u (z.f p u r)] at h; cases h
theorem Fz.tup {F H : Hp} {p : Addr} {xs : List V} (e : Ex F H) (h : H p = some (.tup xs)) : ∃ F', Fz F H F' H ∧ F' p = some (.tup xs) := by
  cases r : F p with
  | some u =>
    have e1 := e p u r
    rw [h] at e1
    cases e1
    exact ⟨F, Fz.refl e, r⟩
  | none =>
    refine ⟨upd F p (.tup xs), ⟨Evl.Ex.new r, fun a u q => ?_, fun a u q n => ⟨fun nt => ?_, q⟩⟩, upd_same⟩
    · by_cases z : a = p
      · subst z; rw [upd_same] at q; rw [h]; exact q
      · rw [upd_ne z] at q; exact e a u q
    · by_cases z : a = p
      · subst z; rw [h] at q; cases q; exact absurd rfl (nt xs)
      · rw [upd_ne z]; exact n
theorem Fz.new {F H : Hp} {p : Addr} {o : HO} (e : Ex F H) (h : H p = none) : Fz F H (upd F p o) (upd H p o) := by
  have hF : F p = none := Evl.fresh_back e h
  refine ⟨Evl.Ex.new hF, fun a u q => ?_, fun a u q n => ?_⟩
  · by_cases z : a = p
    · subst z; rw [upd_same] at q ⊢; exact q
    · rw [upd_ne z] at q ⊢; exact e a u q
  · have z := ne_of_none q h
    rw [upd_ne z, upd_ne z]
    exact ⟨fun _ => n, q⟩
theorem Fz.add {F H : Hp} {p : Addr} {o : HO} (e : Ex F H) (h : H p = none) : Fz F H F (upd H p o) := by
  refine ⟨Evl.Ex.refl F, fun a u q => ?_, fun a u q n => ?_⟩
  · rw [upd_ne (ne_of_none (e a u q) h)]; exact e a u q
  · rw [upd_ne (ne_of_none q h)]; exact ⟨fun _ => n, q⟩
theorem Fz.settle {F H F1 H1 : Hp} {p : Addr} {o : HO} (a : Fz F H F1 H1) (h : H p = none) (h1 : H1 p = some o) (f1 : F1 p = none) : Fz F H (upd F1 p o) H1 := by
  refine ⟨a.f.trans (Evl.Ex.new f1), fun b u q => ?_, fun b u q n => ?_⟩
  · by_cases z : b = p
    · subst z; rw [upd_same] at q; rw [h1]; exact q
    · rw [upd_ne z] at q; exact a.fh b u q
  · rw [upd_ne (ne_of_none q h)]; exact a.own' b u q n

def KvOk {κ : Type} (F : Hp) (xs : List (κ × V)) (ys : List (κ × PyData)) : Prop := xs.map (·.1) = ys.map (·.1) ∧ DqAll F (xs.map (·.2)) (ys.map (·.2))
theorem KvOk.mono {κ : Type} {F F' : Hp} {xs : List (κ × V)} {ys : List (κ × PyData)} (e : Ex F F') (h : KvOk F xs ys) : KvOk F' xs ys := ⟨h.1, DqAll.mono e _ _ h.2⟩
inductive OT where
  /-- settled data -/
  | d (d : PyData)
  /-- a list of settled data -/
  | lst (ds : List PyData)
  /-- a dict of settled data -/
  | dk (kvs : List (Key × PyData))
  /-- an instance of the class at C -/
  | obj (C : Addr) (ns : List Str) (ts : List OT)
  /-- a dict whose values are such things -/
  | rc (ns : List Key) (ts : List OT)
  /-- a list of such things -/
  | arr (ts : List OT)
  /-- this very value, of which nothing is owned -/
  | val (v : V)
  /-- a tuple of such things -/
  | tup (ts : List OT)
  /-- the thing, which stands at this very address -/
  | pin (p : Addr) (t : OT)
mutual
inductive Tr (F H : Hp) : V → OT → List Addr → Prop
  | d {v : V} {d : PyData} : Dq F v d → Tr F H v (.d d) []
  | lst {p : Addr} {vs : List V} {ds : List PyData} : H p = some (.lst vs) → DqAll F vs ds → ds.length ≤ lim → Tr F H (.ref p) (.lst ds) [p]
  | dk {p : Addr} {xs : List (Key × V)} {kvs : List (Key × PyData)} : H p = some (.dK xs) → KvOk F xs kvs → DkL kvs → Tr F H (.ref p) (.dk kvs) [p]
  | obj {p C dx : Addr} {fs : List (Str × V)} {ns : List Str} {ts : List OT} {A : List Addr} : H p = some (.ins C dx fs) → H dx = some (.own p) → fs.map (·.1) = ns → TrAll F H (fs.map (·.2)) ts A → Tr F H (.ref p) (.obj C ns ts) (p :: dx :: A)
  | rc {p : Addr} {xs : List (Key × V)} {ns : List Key} {ts : List OT} {A : List Addr} : H p = some (.dK xs) → xs.map (·.1) = ns → TrAll F H (xs.map (·.2)) ts A → Tr F H (.ref p) (.rc ns ts) (p :: A)
  | arr {p : Addr} {vs : List V} {ts : List OT} {A : List Addr} : H p = some (.lst vs) → TrAll F H vs ts A → ts.length ≤ lim → Tr F H (.ref p) (.arr ts) (p :: A)
  | val {v : V} : Tr F H v (.val v) []
  | tup {p : Addr} {vs : List V} {ts : List OT} {A : List Addr} : F p = some (.tup vs) → TrAll F H vs ts A → ts.length ≤ lim → Tr F H (.ref p) (.tup ts) A
  | pin {p : Addr} {t : OT} {A : List Addr} : Tr F H (.ref p) t A → Tr F H (.ref p) (.pin p t) A
inductive TrAll (F H : Hp) : List V → List OT → List Addr → Prop
  | nil : TrAll F H [] [] []
  | cons {v : V} {vs : List V} {t : OT} {ts : List OT} {A B : List Addr} : Tr F H v t A → TrAll F H vs ts B → TrAll F H (v :: vs) (t :: ts) (A ++ B)
end
mutual
theorem Tr.keep {F H F' H' : Hp} (e : Ex F F') : ∀ {v : V} {t : OT} {A : List Addr}, Tr F H v t A → (∀ a, a ∈ A → ∀ u, H a = some u → H' a = some u) → Tr F' H' v t A
  | _, _, _, .d h, _ => .d (h.mono' e)
  | _, _, _, .lst h1 h2 h3, k => .lst (k _ List.mem_cons_self _ h1) (h2.mono' e) h3
  | _, _, _, .dk h1 h2 h3, k => .dk (k _ List.mem_cons_self _ h1) (h2.mono e) h3
  | _, _, _, .obj h1 h2 h3 h4, k => .obj (k _ List.mem_cons_self _ h1) (k _ (List.mem_cons_of_mem _ List.mem_cons_self) _ h2) h3 (h4.keep e fun a ha => k a (List.mem_cons_of_mem _ (List.mem_cons_of_mem _ ha)))
  | _, _, _, .rc h1 h2 h3, k => .rc (k _ List.mem_cons_self _ h1) h2 (h3.keep e fun a ha => k a (List.mem_cons_of_mem _ ha))
  | _, _, _, .arr h1 h2 h3, k => .arr (k _ List.mem_cons_self _ h1) (h2.keep e fun a ha => k a (List.mem_cons_of_mem _ ha)) h3
  | _, _, _, .val, _ => .val
  | _, _, _, .tup h1 h2 h3, k => .tup (e _ _ h1) (h2.keep e k) h3
  | _, _, _, .pin h, k => .pin (h.keep e k)
theorem TrAll.keep {F H F' H' : Hp} (e : Ex F F') : ∀ {vs : List V} {ts : List OT} {A : List Addr}, TrAll F H vs ts A → (∀ a, a ∈ A → ∀ u, H a = some u → H' a = some u) → TrAll F' H' vs ts A
  | _, _, _, .nil, _ => .nil
  | _, _, _, .cons h1 h2, k => .cons (h1.keep e fun a ha => k a (List.mem_append_left _ ha)) (h2.keep e fun a ha => k a (List.mem_append_right _ ha))
end
def NoXd (o : HO) : Prop := (∀ fs, o ≠ .xd fs) ∧ NoTup o
mutual
theorem Tr.at {F H : Hp} : ∀ {v : V} {t : OT} {A : List Addr}, Tr F H v t A → ∀ a, a ∈ A → ∃ u, H a = some u ∧ NoXd u
  | _, _, _, .d _, a, h => by cases h
  | _, _, _, .lst h1 _ _, a, h => by
    rcases List.mem_cons.mp h with rfl | h
    · exact ⟨_, h1, ⟨fun _ z => (nomatch z), fun _ z => (nomatch z)⟩⟩
    · cases h
  | _, _, _, .dk h1 _ _, a, h => by
    rcases List.mem_cons.mp h with rfl | h
    · exact ⟨_, h1, ⟨fun _ z => (nomatch z), fun _ z => (nomatch z)⟩⟩
    · cases h
  | _, _, _, .obj h1 h2 _ h4, a, h => by
    rcases List.mem_cons.mp h with rfl | h
    · exact ⟨_, h1, ⟨fun _ z => (nomatch z), fun _ z => (nomatch z)⟩⟩
    · rcases List.mem_cons.mp h with rfl | h
      · exact ⟨_, h2, ⟨fun _ z => (nomatch z), fun _ z => (nomatch z)⟩⟩
      · exact h4.at a h
  | _, _, _, .rc h1 _ h3, a, h => by
    rcases List.mem_cons.mp h with rfl | h
    · exact ⟨_, h1, ⟨fun _ z => (nomatch z), fun _ z => (nomatch z)⟩⟩
    · exact h3.at a h
  | _, _, _, .arr h1 h2 _, a, h => by
    rcases List.mem_cons.mp h with rfl | h
    · exact ⟨_, h1, ⟨fun _ z => (nomatch z), fun _ z => (nomatch z)⟩⟩
    · exact h2.at a h
  | _, _, _, .val, a, h => by cases h
  | _, _, _, .tup _ h2 _, a, h => h2.at a h
  | _, _, _, .pin h2, a, h => h2.at a h
theorem TrAll.at {F H : Hp} : ∀ {vs : List V} {ts : List OT} {A : List Addr}, TrAll F H vs ts A → ∀ a, a ∈ A → ∃ u, H a = some u ∧ NoXd u
  | _, _, _, .nil, a, h => by cases h
  | _, _, _, .cons h1 h2, a, h => by
    rcases List.mem_append.mp h with h | h
    · exact h1.at a h
    · exact h2.at a h
end
inductive Sl where
  /-- nothing is known -/
  | un
  /-- settled data -/
  | sh (d : PyData)
  /-- a list of this frame's own, which it may change -/
  | ow (ds : List PyData)
  /-- a list that is only read -/
  | sc (ds : List PyData)
  /-- a dict of this frame's own: keys ints and texts; keys tuples of these -/
  | dk (kvs : List (Key × PyData))
  | dt (kvs : List (List Key × PyData))
  /-- a dict with such keys that never changes again -/
  | ft (kvs : List (List Key × PyData))
  /-- this very address (a caught exception's), with its dict of one field -/
  | xo (a : Addr) (d : Option (Addr × Str × PyData))
  /-- a thing of this frame's own; one that is lent, at p; one that is only looked at -/
  | tr (t : OT)
  | tb (p : Addr) (t : OT)
  | ro (t : OT)
def Sl.owned : Sl → Bool
  | .ow _ => true
  | .dk _ => true
  | .dt _ => true
  | _ => false
def XdOk (F H : Hp) : Option (Addr × Str × PyData) → Prop
  | none => True
  | some (dd, f, q) => ∃ v, Dq F v q ∧ ((F dd = some (.xd [(f, v)])) ∨ (F dd = none ∧ H dd = some (.xd [(f, v)])))
theorem XdOk.at {F H : Hp} {dd : Addr} {f : Str} {q : PyData} (e : Ex F H) : XdOk F H (some (dd, f, q)) → ∃ v, Dq F v q ∧ H dd = some (.xd [(f, v)])
  | ⟨v, a, b⟩ => ⟨v, a, by
    rcases b with b | b
    · exact e _ _ b
    · exact b.2⟩
theorem XdOk.of {F H : Hp} {dd : Addr} {f : Str} {q : PyData} {v : V} (e : Ex F H) (a : Dq F v q) (h : H dd = some (.xd [(f, v)])) : XdOk F H (some (dd, f, q)) := ⟨v, a, by
  cases r : F dd with
  | none => exact .inr ⟨rfl, h⟩
  | some u =>
    rw [e _ _ r] at h
    exact .inl h⟩
def SlOk (K : Frag) (H0 F H : Hp) (o : Option V) : Sl → Prop
  | .un => True
  | .sh d => ∃ v, o = some v ∧ Dq F v d
  | .ow ds => ∃ p vs, o = some (.ref p) ∧ H0 p = none ∧ F p = none ∧ H p = some (.lst vs) ∧ DqAll F vs ds ∧ ds.length ≤ lim
  | .sc ds => ∃ p vs, o = some (.ref p) ∧ SqL K F p vs ∧ DqAll F vs ds ∧ ds.length ≤ lim
  | .dk kvs => ∃ p xs, o = some (.ref p) ∧ H0 p = none ∧ F p = none ∧ H p = some (.dK xs) ∧ KvOk F xs kvs ∧ DkL kvs
  | .dt kvs => ∃ p xs, o = some (.ref p) ∧ H0 p = none ∧ F p = none ∧ H p = some (.dT xs) ∧ KvOk F xs kvs ∧ DtL kvs
  | .ft kvs => ∃ p ob xs, o = some (.ref p) ∧ F p = some (.frz ob (.dT xs)) ∧ KvOk F xs kvs ∧ DtL kvs
  | .xo a d => o = some (.ref a) ∧ XdOk F H d
  | .tr t => ∃ v A, o = some v ∧ Tr F H v t A ∧ A.Nodup ∧ ∀ a, a ∈ A → F a = none ∧ H0 a = none
  | .tb p t => ∃ A, o = some (.ref p) ∧ Tr F H (.ref p) t A ∧ A.Nodup ∧ ∀ a, a ∈ A → F a = none ∧ H0 a = none
  | .ro t => ∃ v A, o = some v ∧ Tr F H v t A ∧ ∀ a, a ∈ A → F a = none ∧ ∃ u, H0 a = some u
def SlA (K : Frag) (H0 F H : Hp) (o : Option V) (A : List Addr) : Sl → Prop
  | .ow ds => ∃ p vs, o = some (.ref p) ∧ H0 p = none ∧ F p = none ∧ H p = some (.lst vs) ∧ DqAll F vs ds ∧ ds.length ≤ lim ∧ A = [p]
  | .dk kvs => ∃ p xs, o = some (.ref p) ∧ H0 p = none ∧ F p = none ∧ H p = some (.dK xs) ∧ KvOk F xs kvs ∧ DkL kvs ∧ A = [p]
  | .dt kvs => ∃ p xs, o = some (.ref p) ∧ H0 p = none ∧ F p = none ∧ H p = some (.dT xs) ∧ KvOk F xs kvs ∧ DtL kvs ∧ A = [p]
  | .tr t => ∃ v, o = some v ∧ Tr F H v t A ∧ A.Nodup ∧ ∀ a, a ∈ A → F a = none ∧ H0 a = none
  | .tb p t => o = some (.ref p) ∧ Tr F H (.ref p) t A ∧ A.Nodup ∧ ∀ a, a ∈ A → F a = none ∧ H0 a = none
  | s => SlOk K H0 F H o s ∧ A = []
theorem SlA.ok {K : Frag} {H0 F H : Hp} {o : Option V} {A : List Addr} : ∀ {s : Sl}, SlA K H0 F H o A s → SlOk K H0 F H o s
  | .un, h => h.1
  | .sh _, h => h.1
  | .sc _, h => h.1
  | .ft _, h => h.1
  | .xo _ _, h => h.1
  | .ro _, h => h.1
  | .ow _, ⟨p, vs, a, b, c, d, e, f, _⟩ => ⟨p, vs, a, b, c, d, e, f⟩
  | .dk _, ⟨p, vs, a, b, c, d, e, f, _⟩ => ⟨p, vs, a, b, c, d, e, f⟩
  | .dt _, ⟨p, vs, a, b, c, d, e, f, _⟩ => ⟨p, vs, a, b, c, d, e, f⟩
  | .tr _, ⟨v, a, b, c⟩ => ⟨v, A, a, b, c⟩
  | .tb _ _, ⟨a, b, c⟩ => ⟨A, a, b, c⟩
theorem SlOk.a {K : Frag} {H0 F H : Hp} {o : Option V} : ∀ {s : Sl}, SlOk K H0 F H o s → ∃ A, SlA K H0 F H o A s
  | .un, h => ⟨[], h, rfl⟩
  | .sh _, h => ⟨[], h, rfl⟩
  | .sc _, h => ⟨[], h, rfl⟩
  | .ft _, h => ⟨[], h, rfl⟩
  | .xo _ _, h => ⟨[], h, rfl⟩
  | .ro _, h => ⟨[], h, rfl⟩
  | .ow _, ⟨p, vs, a, b, c, d, e, f⟩ => ⟨[p], p, vs, a, b, c, d, e, f, rfl⟩
  | .dk _, ⟨p, vs, a, b, c, d, e, f⟩ => ⟨[p], p, vs, a, b, c, d, e, f, rfl⟩
  | .dt _, ⟨p, vs, a, b, c, d, e, f⟩ => ⟨[p], p, vs, a, b, c, d, e, f, rfl⟩
  | .tr _, ⟨v, A, a, b, c⟩ => ⟨A, v, a, b, c⟩
  | .tb _ _, ⟨A, a, b, c⟩ => ⟨A, a, b, c⟩
theorem SlA.free {K : Frag} {H0 F H : Hp} {o : Option V} {A : List Addr} : ∀ {s : Sl}, SlA K H0 F H o A s → ∀ a, a ∈ A → F a = none ∧ H0 a = none ∧ ∃ u, H a = some u ∧ NoXd u
  | .un, h, a, m => by rw [h.2] at m; cases m
  | .sh _, h, a, m => by rw [h.2] at m; cases m
  | .sc _, h, a, m => by rw [h.2] at m; cases m
  | .ft _, h, a, m => by rw [h.2] at m; cases m
  | .xo _ _, h, a, m => by rw [h.2] at m; cases m
  | .ro _, h, a, m => by rw [h.2] at m; cases m
  | .ow _, ⟨p, vs, _, b, c, d, _, _, e⟩, a, m => by
    rw [e] at m
    obtain rfl := List.mem_singleton.mp m
    exact ⟨c, b, _, d, ⟨fun _ z => (nomatch z), fun _ z => (nomatch z)⟩⟩
  | .dk _, ⟨p, vs, _, b, c, d, _, _, e⟩, a, m => by
    rw [e] at m
    obtain rfl := List.mem_singleton.mp m
    exact ⟨c, b, _, d, ⟨fun _ z => (nomatch z), fun _ z => (nomatch z)⟩⟩
  | .dt _, ⟨p, vs, _, b, c, d, _, _, e⟩, a, m => by
    rw [e] at m
    obtain rfl := List.mem_singleton.mp m
    exact ⟨c, b, _, d, ⟨fun _ z => (nomatch z), fun _ z => (nomatch z)⟩⟩
  | .tr _, ⟨v, _, b, _, c⟩, a, m => ⟨(c a m).1, (c a m).2, b.at a m⟩
  | .tb _ _, ⟨_, b, _, c⟩, a, m => ⟨(c a m).1, (c a m).2, b.at a m⟩
theorem sq_mono {K : Frag} {F F' : Hp} {p : Addr} {vs : List V} (e : Ex F F') (h : SqL K F p vs) : SqL K F' p vs := Evl.ex_l e h
theorem both {p q r : Prop} (h : (p → q) ∧ r) (x : p) : q ∧ r := ⟨h.1 x, h.2⟩
theorem SlA.keep {K : Frag} {H0 F H F' H' : Hp} {o : Option V} {A C : List Addr} (e : Ex F F') (k : ∀ a u, H a = some u → F a = none → a ∉ C → (NoTup u → F' a = none) ∧ H' a = some u) (cz : ∀ a, a ∈ C → H0 a = none ∧ ∀ u, H a = some u → NoXd u) :
    ∀ {s : Sl}, SlA K H0 F H o A s → (∀ a, a ∈ A → a ∉ C) → SlA K H0 F' H' o A s
  | .un, h, _ => h
  | .sh d, ⟨⟨v, h1, h2⟩, h3⟩, _ => ⟨⟨v, h1, h2.mono' e⟩, h3⟩
  | .sc ds, ⟨⟨p, vs, h1, h2, h3, h4⟩, h5⟩, _ => ⟨⟨p, vs, h1, sq_mono e h2, h3.mono' e, h4⟩, h5⟩
  | .ft kvs, ⟨⟨p, ob, xs, h1, h2, h3, h4⟩, h5⟩, _ => ⟨⟨p, ob, xs, h1, e _ _ h2, h3.mono e, h4⟩, h5⟩
  | .xo a none, ⟨⟨h1, _⟩, h3⟩, _ => ⟨⟨h1, trivial⟩, h3⟩
  | .xo a (some (dd, f, q)), ⟨⟨h1, v, h4, h5⟩, h3⟩, _ => ⟨⟨h1, v, h4.mono' e, by
    rcases h5 with b | ⟨b1, b2⟩
    · exact .inl (e _ _ b)
    · exact .inr (both (k _ _ b2 b1 fun z => ((cz _ z).2 _ b2).1 _ rfl) fun _ z => nomatch z)⟩, h3⟩
  | .ro t, ⟨⟨v, B, h1, h2, h3⟩, h4⟩, _ => by
    have kk : ∀ a, a ∈ B → F' a = none ∧ ∀ u, H a = some u → H' a = some u := fun a ha => by
      obtain ⟨f0, u0, hu0⟩ := h3 a ha
      obtain ⟨u, hu, nx⟩ := h2.at a ha
      have nc : a ∉ C := fun z => by rw [(cz a z).1] at hu0; cases hu0
      exact ⟨(k a u hu f0 nc).1 nx.2, fun u' hu' => (k a u' hu' f0 nc).2⟩
    exact ⟨⟨v, B, h1, h2.keep e fun a ha => (kk a ha).2, fun a ha => ⟨(kk a ha).1, (h3 a ha).2⟩⟩, h4⟩
  | .ow ds, ⟨p, vs, a, b, c, d, f, g, h⟩, n => by
    have nc := n p (by rw [h]; exact List.mem_singleton.mpr rfl)
    exact ⟨p, vs, a, b, (k _ _ d c nc).1 (fun _ z => nomatch z), (k _ _ d c nc).2, f.mono' e, g, h⟩
  | .dk ds, ⟨p, vs, a, b, c, d, f, g, h⟩, n => by
    have nc := n p (by rw [h]; exact List.mem_singleton.mpr rfl)
    exact ⟨p, vs, a, b, (k _ _ d c nc).1 (fun _ z => nomatch z), (k _ _ d c nc).2, f.mono e, g, h⟩
  | .dt ds, ⟨p, vs, a, b, c, d, f, g, h⟩, n => by
    have nc := n p (by rw [h]; exact List.mem_singleton.mpr rfl)
    exact ⟨p, vs, a, b, (k _ _ d c nc).1 (fun _ z => nomatch z), (k _ _ d c nc).2, f.mono e, g, h⟩
  | .tr t, ⟨v, a, b, c, d⟩, n => by
    have kk : ∀ a, a ∈ A → F' a = none ∧ ∀ u, H a = some u → H' a = some u := fun a ha => by
      obtain ⟨u, hu, nx⟩ := b.at a ha
      exact ⟨(k a u hu (d a ha).1 (n a ha)).1 nx.2, fun u' hu' => (k a u' hu' (d a ha).1 (n a ha)).2⟩
    exact ⟨v, a, b.keep e fun a ha => (kk a ha).2, c, fun a ha => ⟨(kk a ha).1, (d a ha).2⟩⟩
  | .tb p t, ⟨a, b, c, d⟩, n => by
    have kk : ∀ a, a ∈ A → F' a = none ∧ ∀ u, H a = some u → H' a = some u := fun a ha => by
      obtain ⟨u, hu, nx⟩ := b.at a ha
      exact ⟨(k a u hu (d a ha).1 (n a ha)).1 nx.2, fun u' hu' => (k a u' hu' (d a ha).1 (n a ha)).2⟩
    exact ⟨a, b.keep e fun a ha => (kk a ha).2, c, fun a ha => ⟨(kk a ha).1, (d a ha).2⟩⟩
structure EnvOk (K : Frag) (F0 H0 F H : Hp) (σ : List (Option V)) (env : List Sl) : Prop where
  z : Fz F0 H0 F H
  len : σ.length = env.length
  as : ∃ As : Nat → List Addr, (∀ (i : Nat) (s : Sl), env[i]? = some s → ∃ o : Option V, σ[i]? = some o ∧ SlA K H0 F H o (As i) s) ∧ ∀ (i j : Nat) (s t : Sl) (a : Addr), env[i]? = some s → env[j]? = some t → a ∈ As i → a ∈ As j → i = j
section
variable {K : Frag} {F0 H0 F H F' H' : Hp} {σ : List (Option V)} {env env' : List Sl}
theorem EnvOk.fh (E : EnvOk K F0 H0 F H σ env) : Ex F H := E.z.fh
theorem EnvOk.sl (E : EnvOk K F0 H0 F H σ env) (i : Nat) (s : Sl) (h : env[i]? = some s) : ∃ o : Option V, σ[i]? = some o ∧ SlOk K H0 F H o s := by
  obtain ⟨As, a, _⟩ := E.as
  obtain ⟨o, h1, h2⟩ := a i s h
  exact ⟨o, h1, h2.ok⟩
theorem EnvOk.lt (E : EnvOk K F0 H0 F H σ env) {i : Nat} {s : Sl} (h : env[i]? = some s) : i < σ.length := by
  rw [E.len]; exact (List.getElem?_eq_some_iff.mp h).1
theorem EnvOk.flat (z : Fz F0 H0 F H) (l : σ.length = env.length) (h : ∀ (i : Nat) (s : Sl), env[i]? = some s → ∃ o : Option V, σ[i]? = some o ∧ SlA K H0 F H o [] s) : EnvOk K F0 H0 F H σ env :=
  ⟨z, l, fun _ => [], h, fun i j s t a _ _ m _ => by cases m⟩
theorem EnvOk.step (E : EnvOk K F0 H0 F H σ env) (z : Fz F H F' H') : EnvOk K F0 H0 F' H' σ env := by
  obtain ⟨As, a, b⟩ := E.as
  refine ⟨E.z.trans z, E.len, As, fun i s h => ?_, b⟩
  obtain ⟨o, h1, h2⟩ := a i s h
  exact ⟨o, h1, h2.keep (C := []) z.f (fun p u hp hf _ => z.own' p u hp hf) (fun _ m => by cases m) fun _ _ m => by cases m⟩
theorem set_env {i j : Nat} {s t : Sl} (h : (env.set i s)[j]? = some t) : (j = i ∧ t = s ∧ i < env.length) ∨ (j ≠ i ∧ env[j]? = some t) := by
  rw [List.getElem?_set] at h
  by_cases e : i = j
  · subst e
    rw [if_pos rfl] at h
    by_cases l : i < env.length
    · rw [if_pos l] at h; cases h; exact .inl ⟨rfl, rfl, l⟩
    · rw [if_neg l] at h; cases h
  · rw [if_neg e] at h
    exact .inr ⟨fun z => e z.symm, h⟩
theorem EnvOk.put (E : EnvOk K F0 H0 F H σ env) (i : Nat) (v : Option V) {t : Sl} {B C : List Addr} (e : Ex F F') (fh : Ex F' H') (k : ∀ a u, H a = some u → F a = none → a ∉ C → (NoTup u → F' a = none) ∧ H' a = some u)
    (hc : C = [] ∨ ∃ s o, env[i]? = some s ∧ σ[i]? = some o ∧ ∀ A, SlA K H0 F H o A s → ∀ c, c ∈ C → c ∈ A)
    (hb : ∀ b, b ∈ B → H b = none ∨ b ∈ C) (ht : SlA K H0 F' H' v B t) : EnvOk K F0 H0 F' H' (σ.set i v) (env.set i t) := by
  obtain ⟨As, a, d⟩ := E.as
  have cA : ∀ c, c ∈ C → i < env.length ∧ c ∈ As i ∧ F c = none ∧ H0 c = none ∧ ∃ u, H c = some u ∧ NoXd u := fun c m => by
    rcases hc with rfl | ⟨s, o, e1, e2, h⟩
    · cases m
    · obtain ⟨o', h1, h2⟩ := a i s e1
      rw [e2] at h1
      cases h1
      have := h _ h2 c m
      exact ⟨(List.getElem?_eq_some_iff.mp e1).1, this, h2.free c this⟩
  refine ⟨⟨E.z.f.trans e, fh, fun p u q n => ?_⟩, by rw [List.length_set, List.length_set, E.len], fun j => if j = i then B else As j, fun j s h => ?_, fun j l s u p hj hl mj ml => ?_⟩
  · obtain ⟨x, y⟩ := E.z.own' p u q n
    cases r : F p with
    | none => exact k p u y r fun m => by rw [(cA p m).2.2.2.1] at q; cases q
    | some w =>
      have e1 := E.z.fh p w r
      rw [y] at e1
      cases e1
      exact ⟨fun nt => (by rw [x nt] at r; cases r), fh p _ (e p _ r)⟩
  · rcases set_env h with ⟨rfl, rfl, l⟩ | ⟨n, h⟩
    · refine ⟨v, ?_, ?_⟩
      · rw [List.getElem?_set, if_pos rfl, if_pos (by rw [E.len]; exact l)]
      · dsimp only; rw [if_pos rfl]; exact ht
    · obtain ⟨o, h1, h2⟩ := a j s h
      refine ⟨o, ?_, ?_⟩
      · rw [List.getElem?_set, if_neg fun z => n z.symm]; exact h1
      · dsimp only; rw [if_neg n]
        refine h2.keep e k (fun c m => ⟨(cA c m).2.2.2.1, fun u hu => ?_⟩) fun c m mc => ?_
        · obtain ⟨_, _, _, _, u', hu', nx⟩ := cA c m
          rw [hu] at hu'; cases hu'
          exact nx
        · obtain ⟨l, mi, _⟩ := cA c mc
          exact n (d j i s env[i] c h (List.getElem?_eq_getElem l) m mi)
  · have ne : ∀ {j : Nat} {s : Sl}, j ≠ i → env[j]? = some s → p ∈ B → p ∈ As j → False := fun {j s} n h mb mj => by
      obtain ⟨o, h1, h2⟩ := a j s h
      rcases hb p mb with z | z
      · obtain ⟨_, _, u, hu, _⟩ := h2.free p mj
        rw [z] at hu; cases hu
      · obtain ⟨l, mi, _⟩ := cA p z
        exact n (d j i s env[i] p h (List.getElem?_eq_getElem l) mj mi)
    dsimp only at mj ml
    rcases set_env hj with ⟨ej, _, lj⟩ | ⟨nj, hj'⟩
    · rcases set_env hl with ⟨el, _, ll⟩ | ⟨nl, hl'⟩
      · rw [ej, el]
      · rw [if_pos ej] at mj
        rw [if_neg nl] at ml
        exact (ne nl hl' mj ml).elim
    · rw [if_neg nj] at mj
      rcases set_env hl with ⟨el, _, ll⟩ | ⟨nl, hl'⟩
      · rw [if_pos el] at ml
        exact (ne nj hj' ml mj).elim
      · rw [if_neg nl] at ml
        exact d j l s u p hj' hl' mj ml
theorem set_self {α : Type} {xs : List α} {i : Nat} {x : α} (h : xs[i]? = some x) : xs.set i x = xs := by
  refine List.ext_getElem? fun j => ?_
  rw [List.getElem?_set]
  by_cases e : i = j
  · subst e
    rw [if_pos rfl, if_pos (List.getElem?_eq_some_iff.mp h).1, h]
  · rw [if_neg e]
theorem EnvOk.set0 (E : EnvOk K F0 H0 F H σ env) (i : Nat) (v : Option V) {s : Sl} (hs : SlA K H0 F H v [] s) : EnvOk K F0 H0 F H (σ.set i v) (env.set i s) :=
  E.put i v (B := []) (C := []) (Evl.Ex.refl F) E.fh (fun _ _ h f _ => ⟨fun _ => f, h⟩) (.inl rfl) (fun _ m => by cases m) hs
theorem EnvOk.setS (E : EnvOk K F0 H0 F H σ env) (i : Nat) {v : V} {d : PyData} (h : Dq F v d) : EnvOk K F0 H0 F H (σ.set i (some v)) (env.set i (.sh d)) :=
  E.set0 i _ ⟨⟨v, rfl, h⟩, rfl⟩
theorem EnvOk.setU (E : EnvOk K F0 H0 F H σ env) (i : Nat) {v : V} : EnvOk K F0 H0 F H (σ.set i (some v)) (env.set i .un) :=
  E.set0 i _ ⟨trivial, rfl⟩
theorem EnvOk.forget (E : EnvOk K F0 H0 F H σ env) (i : Nat) (o : Option V) : EnvOk K F0 H0 F H (σ.set i o) (env.set i .un) := E.set0 i _ ⟨trivial, rfl⟩
theorem EnvOk.setN (E : EnvOk K F0 H0 F H σ env) {F' H' : Hp} (z : Fz F H F' H') (i : Nat) {v : V} {s : Sl} {B : List Addr} (hn : ∀ b, b ∈ B → H b = none) (hs : SlA K H0 F' H' (some v) B s) : EnvOk K F0 H0 F' H' (σ.set i (some v)) (env.set i s) :=
  E.put i _ (B := B) (C := []) z.f z.fh (fun a u h f _ => z.own' a u h f) (.inl rfl) (fun b m => .inl (hn b m)) hs
theorem EnvOk.setO (E : EnvOk K F0 H0 F H σ env) {F' H' : Hp} (z : Fz F H F' H') (i : Nat) {p : Addr} {s : Sl} (hn : H p = none) (hs : SlOk K H0 F' H' (Option.some (.ref p)) s) (os : s.owned = true := by rfl) : EnvOk K F0 H0 F' H' (σ.set i (Option.some (.ref p))) (env.set i s) := by
  obtain ⟨B, hB⟩ := hs.a
  refine E.setN z i (fun b m => ?_) hB
  have : B = [p] := by
    cases s with
    | ow ds => obtain ⟨_, _, e, _, _, _, _, _, h⟩ := hB; cases e; exact h
    | dk ds => obtain ⟨_, _, e, _, _, _, _, _, h⟩ := hB; cases e; exact h
    | dt ds => obtain ⟨_, _, e, _, _, _, _, _, h⟩ := hB; cases e; exact h
    | _ => cases os
  rw [this] at m
  obtain rfl := List.mem_singleton.mp m
  exact hn
theorem EnvOk.mutT (E : EnvOk K F0 H0 F H σ env) {i : Nat} {s t : Sl} {o : Option V} {A B : List Addr} (fh : Ex F' H') (e : Ex F F') (hs : env[i]? = some s) (hi : σ[i]? = some o) (hA : ∀ A', SlA K H0 F H o A' s → ∀ c, c ∈ A → c ∈ A') (k : ∀ a u, H a = some u → F a = none → a ∉ A → (NoTup u → F' a = none) ∧ H' a = some u)
    (hb : ∀ b, b ∈ B → H b = none ∨ b ∈ A) (ht : SlA K H0 F' H' o B t) : EnvOk K F0 H0 F' H' σ (env.set i t) := by
  have := E.put i o (B := B) (C := A) e fh k (.inr ⟨s, o, hs, hi, hA⟩) hb ht
  rw [set_self hi] at this
  exact this
theorem owned_at {s : Sl} {p : Addr} (os : s.owned = true) {A : List Addr} (h : SlA K H0 F H (some (.ref p)) A s) : A = [p] := by
  cases s with
  | ow ds => obtain ⟨_, _, e, _, _, _, _, _, h⟩ := h; cases e; exact h
  | dk ds => obtain ⟨_, _, e, _, _, _, _, _, h⟩ := h; cases e; exact h
  | dt ds => obtain ⟨_, _, e, _, _, _, _, _, h⟩ := h; cases e; exact h
  | _ => cases os
theorem EnvOk.mut (E : EnvOk K F0 H0 F H σ env) {i : Nat} {p : Addr} {s t : Sl} {o : HO} (hs : env[i]? = some s) (os : s.owned = true) (hi : σ[i]? = Option.some (Option.some (.ref p))) (ht : SlOk K H0 F (upd H p o) (Option.some (.ref p)) t) (ot : t.owned = true) :
    EnvOk K F0 H0 F (upd H p o) σ (env.set i t) := by
  obtain ⟨B, hB⟩ := ht.a
  have eB := owned_at ot hB
  subst eB
  have hF : F p = none := (hB.free p (List.mem_singleton.mpr rfl)).1
  refine E.mutT (A := [p]) (B := [p]) (fun a u q => ?_) (Evl.Ex.refl F) hs hi (fun A' h c m => by rw [owned_at os h]; exact m) (fun a u h f n => ⟨fun _ => f, ?_⟩) (fun b m => .inr m) hB
  · rw [upd_ne (ne_of_none q hF)]; exact E.fh a u q
  · rw [upd_ne fun z => n (by rw [z]; exact List.mem_singleton.mpr rfl)]; exact h
theorem EnvOk.freeze {ds : List PyData} (E : EnvOk K F0 H0 F H σ env) {i : Nat} (hs : env[i]? = some (.ow ds)) : ∃ F', EnvOk K F0 H0 F' H σ (env.set i (.sh (.list ds))) := by
  obtain ⟨o, e1, p, vs, e, h0, f, h, a, l⟩ := E.sl i _ hs
  subst e
  have m := Evl.Ex.new (o := HO.lst vs) f
  refine ⟨upd F p (.lst vs), E.mutT (s := .ow ds) (A := [p]) (B := []) (fun a u q => ?_) m hs e1 (fun A' h c m => by rw [owned_at rfl h]; exact m) (fun a u h f n => ⟨fun _ => ?_, h⟩) (fun b m => by cases m) ⟨⟨_, rfl, .lst upd_same (a.mono' m) l⟩, rfl⟩⟩
  · by_cases z : a = p
    · subst z; rw [upd_same] at q; rw [h]; exact q
    · rw [upd_ne z] at q; exact E.fh a u q
  · rw [upd_ne fun z => n (by rw [z]; exact List.mem_singleton.mpr rfl)]; exact f
inductive Wk : List Sl → List Sl → Prop
  | nil : Wk [] []
  | same {s : Sl} {e e' : List Sl} : Wk e e' → Wk (s :: e) (s :: e')
  | un {s : Sl} {e e' : List Sl} : Wk e e' → Wk (s :: e) (.un :: e')
  | tb {p : Addr} {t : OT} {e e' : List Sl} : Wk e e' → Wk (.tb p t :: e) (.tr t :: e')
theorem Wk.get : ∀ {e e' : List Sl} {i : Nat} {s : Sl}, Wk e e' → e'[i]? = some s → s = .un ∧ i < e.length ∨ e[i]? = some s ∨ ∃ p t, s = .tr t ∧ e[i]? = some (.tb p t)
  | _, _, _, _, .nil, h => by simp at h
  | _, _, 0, _, .same _, h => .inr (.inl (by simpa using h))
  | _, _, i + 1, _, .same w, h => by
    rcases w.get (i := i) (by simpa using h) with ⟨a, b⟩ | a | ⟨p, t, a, b⟩
    · exact .inl ⟨a, by rw [List.length_cons]; omega⟩
    · exact .inr (.inl (by simpa using a))
    · exact .inr (.inr ⟨p, t, a, by simpa using b⟩)
  | _, _, 0, _, .un _, h => .inl ⟨by simp at h; exact h.symm, by simp⟩
  | _, _, i + 1, _, .un w, h => by
    rcases w.get (i := i) (by simpa using h) with ⟨a, b⟩ | a | ⟨p, t, a, b⟩
    · exact .inl ⟨a, by rw [List.length_cons]; omega⟩
    · exact .inr (.inl (by simpa using a))
    · exact .inr (.inr ⟨p, t, a, by simpa using b⟩)
  | _, _, 0, _, .tb (p := p) (t := t) _, h => .inr (.inr ⟨p, t, by simp at h; exact h.symm, by simp⟩)
  | _, _, i + 1, _, .tb w, h => by
    rcases w.get (i := i) (by simpa using h) with ⟨a, b⟩ | a | ⟨p, t, a, b⟩
    · exact .inl ⟨a, by rw [List.length_cons]; omega⟩
    · exact .inr (.inl (by simpa using a))
    · exact .inr (.inr ⟨p, t, a, by simpa using b⟩)
theorem Wk.len : ∀ {e e' : List Sl}, Wk e e' → e.length = e'.length
  | _, _, .nil => rfl
  | _, _, .same w => by rw [List.length_cons, List.length_cons, w.len]
  | _, _, .un w => by rw [List.length_cons, List.length_cons, w.len]
  | _, _, .tb w => by rw [List.length_cons, List.length_cons, w.len]
theorem EnvOk.weak (E : EnvOk K F0 H0 F H σ env) (w : Wk env env') : EnvOk K F0 H0 F H σ env' := by
  obtain ⟨As, a, b⟩ := E.as
  have key : ∀ i s, env'[i]? = some s → ∃ s', env[i]? = some s' ∧ ∀ o, SlA K H0 F H o (As i) s' → ∃ A, SlA K H0 F H o A s ∧ (A = [] ∨ A = As i) := fun i s h => by
    rcases w.get h with ⟨rfl, l⟩ | h' | ⟨p, t, rfl, h'⟩
    · exact ⟨_, List.getElem?_eq_getElem l, fun o _ => ⟨[], ⟨trivial, rfl⟩, .inl rfl⟩⟩
    · exact ⟨s, h', fun o x => ⟨_, x, .inr rfl⟩⟩
    · refine ⟨_, h', fun o x => ?_⟩
      have x : o = some (.ref p) ∧ Tr F H (.ref p) t (As i) ∧ (As i).Nodup ∧ ∀ a, a ∈ As i → F a = none ∧ H0 a = none := x
      exact ⟨As i, ⟨_, x.1, x.2⟩, .inr rfl⟩
  have : ∀ i, ∃ A, (A = [] ∨ A = As i) ∧ ∀ s, env'[i]? = some s → ∃ o, σ[i]? = some o ∧ SlA K H0 F H o A s := fun i => by
    by_cases l : i < env'.length
    · obtain ⟨s', h1, h2⟩ := key i _ (List.getElem?_eq_getElem l)
      obtain ⟨o, h3, h4⟩ := a i s' h1
      obtain ⟨A, h5, h6⟩ := h2 o h4
      refine ⟨A, h6, fun s hs => ⟨o, h3, ?_⟩⟩
      rw [List.getElem?_eq_getElem l] at hs
      cases hs
      exact h5
    · exact ⟨[], .inl rfl, fun s hs => absurd (List.getElem?_eq_some_iff.mp hs).1 l⟩
  refine ⟨E.z, by rw [E.len, w.len], fun i => (this i).choose, fun i s h => (this i).choose_spec.2 s h, fun i j s t p hi hj mi mj => ?_⟩
  obtain ⟨s', h1, _⟩ := key i s hi
  obtain ⟨t', h2, _⟩ := key j t hj
  have sub : ∀ i, p ∈ (this i).choose → p ∈ As i := fun i m => by
    rcases (this i).choose_spec.1 with z | z
    · rw [z] at m; cases m
    · rw [z] at m; exact m
  exact b i j s' t' p h1 h2 (sub i mi) (sub j mj)
end
theorem Fz.base {F H F1 H1 F2 H2 : Hp} (z : Fz F H F1 H1) (f : Ex F1 F2) (z2 : Fz F H F2 H2) : Fz F1 H F2 H2 := ⟨f, z2.fh, fun p o h n => z2.own' p o h (by
  cases r : F p with
  | none => rfl
  | some u => rw [z.f p u r] at n; cases n)⟩
theorem Fz.back {F H F1 H1 F2 H2 : Hp} (z : Fz F H F1 H1) (z2 : Fz F1 H F2 H2) : Fz F H F2 H2 := ⟨z.f.trans z2.f, z2.fh, fun p o h n => by
  obtain ⟨x, y⟩ := z.own' p o h n
  cases r : F1 p with
  | none => exact z2.own' p o h r
  | some u =>
    have e := z.fh p u r
    rw [y] at e
    cases e
    exact ⟨fun nt => (by rw [x nt] at r; cases r), z2.fh p _ (z2.f p _ r)⟩⟩
theorem EnvOk.base {K : Frag} {F0 H0 F H : Hp} {σ : List (Option V)} {env : List Sl} (E : EnvOk K F0 H0 F H σ env) : EnvOk K F H0 F H σ env := ⟨E.z.base (Evl.Ex.refl F) E.z, E.len, E.as⟩
theorem EnvOk.back {K : Frag} {F0 H0 F H F1 H1 : Hp} {σ : List (Option V)} {env : List Sl} (z : Fz F0 H0 F1 H1) (E : EnvOk K F1 H0 F H σ env) : EnvOk K F0 H0 F H σ env := ⟨z.back E.z, E.len, E.as⟩
end Rb

set_option Elab.async false
set_option linter.all false
set_option maxRecDepth 100000
set_option maxHeartbeats 2000000
namespace Rb
open PySem PySem.Spec PyProof.Rows L2
theorem lay_of {d : PyData} (h : SeqAt.shaped d = true) : PyData.canLay0 d = true := (Bool.and_eq_true_iff.mp h).1
def EX (K : Frag) (te : TE) (env : List Sl) (d : PyData) : Prop := ∀ ⦃F0 H0 F H : Hp⦄ ⦃σ : List (Option V)⦄, EnvOk K F0 H0 F H σ env → ∀ Q : VK, (∀ v F' H', Fz F H F' H' → Dq F' v d → Q v H') → te σ H Q
def EXl (K : Frag) (te : TE) (env : List Sl) (ds : List PyData) : Prop := ∀ ⦃F0 H0 F H : Hp⦄ ⦃σ : List (Option V)⦄, EnvOk K F0 H0 F H σ env → ∀ Q : VK, (∀ p vs F' H', Fz F H F' H' → H' p = some (.lst vs) → DqAll F' vs ds → ds.length ≤ lim → Q (.ref p) H') → te σ H Q
def EXw (K : Frag) (te : TE) (env : List Sl) (ds : List PyData) : Prop := ∀ ⦃F0 H0 F H : Hp⦄ ⦃σ : List (Option V)⦄, EnvOk K F0 H0 F H σ env → ∀ Q : VK, (∀ p vs F' H', Fz F H F' H' → H p = none → F' p = none → H' p = some (.lst vs) → DqAll F' vs ds → ds.length ≤ lim → Q (.ref p) H') → te σ H Q
def EXq (K : Frag) (te : TE) (env : List Sl) (d : PyData) : Prop := ∀ ⦃F0 H0 F H : Hp⦄ ⦃σ : List (Option V)⦄, EnvOk K F0 H0 F H σ env → ∀ Q : VK, (∀ v F' H', Fz F H F' H' → Dq H' v d → Q v H') → te σ H Q
def ET (K : Frag) (tt : TT) (env : List Sl) (b : Bool) : Prop := ∀ ⦃F0 H0 F H : Hp⦄ ⦃σ : List (Option V)⦄, EnvOk K F0 H0 F H σ env → ∀ Q : Bool → Hp → Prop, (∀ F' H', Fz F H F' H' → Q b H') → tt σ H Q
def EA (K : Frag) (ta : TA) (env : List Sl) (ds : List PyData) : Prop := ∀ ⦃F0 H0 F H : Hp⦄ ⦃σ : List (Option V)⦄, EnvOk K F0 H0 F H σ env → ∀ Q : List V → Hp → Prop, (∀ vs F' H', Fz F H F' H' → DqAll F' vs ds → Q vs H') → ta σ H Q
def EO (K : Frag) (to : TO) (env : List Sl) (o : Option Int) : Prop := ∀ ⦃F0 H0 F H : Hp⦄ ⦃σ : List (Option V)⦄, EnvOk K F0 H0 F H σ env → ∀ Q : Option Int → Hp → Prop, (∀ F' H', Fz F H F' H' → Q o H') → to σ H Q
def EXo (K : Frag) (te : TE) (env : List Sl) {α : Type} (e : α → PyData) (m : Option α) : Prop := ∀ x, m = some x → EX K te env (e x)
def ETo (K : Frag) (tt : TT) (env : List Sl) (m : Option Bool) : Prop := ∀ x, m = some x → ET K tt env x

section
variable {K : Frag} {env : List Sl} {ta tb tc te : TE} {t u : TT} {d e : PyData} {ds es : List PyData} {α β : Type}
theorem EX.l (h : EX K te env (.list ds)) : EXl K te env ds := fun F0 H0 F H σ E Q q => h E Q fun v F' H' z hv => by
  cases hv with
  | lst h1 h2 h3 => exact q _ _ F' H' z (z.fh _ _ h1) h2 h3
theorem EXw.l (h : EXw K te env ds) : EXl K te env ds := fun F0 H0 F H σ E Q q => h E Q fun p vs F' H' z _ _ h1 h2 h3 => q p vs F' H' z h1 h2 h3
theorem EXw.sh (h : EXw K te env ds) : EX K te env (.list ds) := fun F0 H0 F H σ E Q q => h E Q fun p vs F' H' z hn hf h1 h2 h3 =>
  q _ _ H' (z.settle hn h1 hf) (.lst upd_same (DqAll.mono (Evl.Ex.new hf) _ _ h2) h3)
theorem EX.q (h : EX K te env d) : EXq K te env d := fun F0 H0 F H σ E Q q => h E Q fun v F' H' z hv => q v F' H' z (Dq.mono z.fh _ _ hv)
theorem EXl.q (h : EXl K te env ds) : EXq K te env (.list ds) := fun F0 H0 F H σ E Q q => h E Q fun p vs F' H' z h1 h2 h3 => q _ F' H' z (.lst h1 (DqAll.mono z.fh _ _ h2) h3)
theorem exo_bind {e : β → PyData} {m : Option α} {k : α → Option β} (h : ∀ x, m = some x → EXo K te env e (k x)) : EXo K te env e (m.bind k) := fun y hy => by
  obtain ⟨x, h1, h2⟩ := Option.bind_eq_some_iff.mp hy
  exact h x h1 y h2
theorem exo_some {e : α → PyData} {x : α} (h : EX K te env (e x)) : EXo K te env e (some x) := fun y hy => by cases hy; exact h
theorem eto_bind {m : Option α} {k : α → Option Bool} (h : ∀ x, m = some x → ETo K t env (k x)) : ETo K t env (m.bind k) := fun y hy => by
  obtain ⟨x, h1, h2⟩ := Option.bind_eq_some_iff.mp hy
  exact h x h1 y h2
theorem eto_some {b : Bool} (h : ET K t env b) : ETo K t env (some b) := fun y hy => by cases hy; exact h

theorem ex_var {i : Nat} (h : env[i]? = some (.sh d)) : EX K (tVar i) env d := fun F0 H0 F H σ E Q q => by
  obtain ⟨o, h1, v, h2, h3⟩ := E.sl i _ h
  subst h2
  exact ⟨v, h1, q v F H (Fz.refl E.fh) h3⟩
theorem exl_var {i : Nat} (h : env[i]? = some (.ow ds)) : EXl K (tVar i) env ds := fun F0 H0 F H σ E Q q => by
  obtain ⟨o, h1, p, vs, h2, h3, h4, h5, h6, h7⟩ := E.sl i _ h
  subst h2
  exact ⟨_, h1, q p vs F H (Fz.refl E.fh) h5 h6 h7⟩
theorem ex_int {i : Int} : EX K (tC (.int i)) env (.int i) := fun F0 H0 F H σ E Q q => q _ F H (Fz.refl E.fh) (.int i)
theorem ex_bl {b : Bool} : EX K (tC (.bl b)) env (.bool b) := fun F0 H0 F H σ E Q q => q _ F H (Fz.refl E.fh) (.bl b)
theorem ex_non : EX K (tC .non) env .none := fun F0 H0 F H σ E Q q => q _ F H (Fz.refl E.fh) .non
theorem ex_str {x : Str} (h : x.length ≤ lim) : EX K (tC (.str x)) env (.str x) := fun F0 H0 F H σ E Q q => q _ F H (Fz.refl E.fh) (.str x h)

theorem ex_i0 {g : Int → Int → V} {i j : Int} (ha : EX K ta env (.int i)) (hb : EX K tb env (.int j)) (hd : ∀ F, Dq F (g i j) d) : EX K (tOp (rI0 g) ta tb) env d := fun F0 H0 F H σ E Q q =>
  ha E _ fun v F1 H1 z1 h1 => hb (E.step z1) _ fun w F2 H2 z2 h2 => by
    cases h1; cases h2
    exact ⟨i, j, rfl, rfl, q _ F2 H2 (z1.trans z2) (hd F2)⟩
theorem ex_iC {C : Int → Int → Prop} {g : Int → Int → V} {i j : Int} (ha : EX K ta env (.int i)) (hb : EX K tb env (.int j)) (hc : C i j) (hd : ∀ F, Dq F (g i j) d) : EX K (tOp (rI C g) ta tb) env d := fun F0 H0 F H σ E Q q =>
  ha E _ fun v F1 H1 z1 h1 => hb (E.step z1) _ fun w F2 H2 z2 h2 => by
    cases h1; cases h2
    exact ⟨i, j, rfl, rfl, hc, q _ F2 H2 (z1.trans z2) (hd F2)⟩
theorem ex_add {i j : Int} (ha : EX K ta env (.int i)) (hb : EX K tb env (.int j)) : EX K (tOp (rI0 fun i j => .int (i + j)) ta tb) env (.int (i + j)) := ex_i0 ha hb fun _ => .int _
theorem ex_sub {i j : Int} (ha : EX K ta env (.int i)) (hb : EX K tb env (.int j)) : EX K (tOp (rI0 fun i j => .int (i - j)) ta tb) env (.int (i - j)) := ex_i0 ha hb fun _ => .int _
theorem ex_mul {i j : Int} (ha : EX K ta env (.int i)) (hb : EX K tb env (.int j)) (hc : CMul i j) : EX K (tOp (rI CMul fun i j => .int (i * j)) ta tb) env (.int (i * j)) := ex_iC ha hb hc fun _ => .int _
theorem ex_mod {i j : Int} (ha : EX K ta env (.int i)) (hb : EX K tb env (.int j)) (hc : 0 < j) : EX K (tOp (rI (fun _ j => 0 < j) fun i j => .int (i % j)) ta tb) env (.int (i % j)) := ex_iC ha hb hc fun _ => .int _
theorem ex_fdiv {i j : Int} (ha : EX K ta env (.int i)) (hb : EX K tb env (.int j)) (hc : CDivW i j) : EX K (tOp (rI CDivW fun i j => .int (i / j)) ta tb) env (.int (i / j)) := ex_iC ha hb hc fun _ => .int _
theorem ex_pow {i j : Int} (ha : EX K ta env (.int i)) (hb : EX K tb env (.int j)) (hc : CPow i j) : EX K (tOp (rI CPow fun i j => .int (i ^ j.toNat)) ta tb) env (.int (i ^ j.toNat)) := ex_iC ha hb hc fun _ => .int _
theorem ex_lt {i j : Int} (ha : EX K ta env (.int i)) (hb : EX K tb env (.int j)) : EX K (tOp (rI0 fun i j => .bl (decide (i < j))) ta tb) env (.bool (decide (i < j))) := ex_i0 ha hb fun _ => .bl _
theorem ex_gt {i j : Int} (ha : EX K ta env (.int i)) (hb : EX K tb env (.int j)) : EX K (tOp (rI0 fun i j => .bl (decide (j < i))) ta tb) env (.bool (decide (j < i))) := ex_i0 ha hb fun _ => .bl _
theorem ex_ge {i j : Int} (ha : EX K ta env (.int i)) (hb : EX K tb env (.int j)) : EX K (tOp (rI0 fun i j => .bl (decide (j ≤ i))) ta tb) env (.bool (decide (j ≤ i))) := ex_i0 ha hb fun _ => .bl _
theorem ex_neg {i : Int} (ha : EX K ta env (.int i)) : EX K (tUn (rU fun i => .int (-i)) ta) env (.int (-i)) := fun F0 H0 F H σ E Q q =>
  ha E _ fun v F1 H1 z1 h1 => by
    cases h1
    exact ⟨i, rfl, q _ F1 H1 z1 (.int _)⟩
theorem ex_eqI {i j : Int} (ha : EX K ta env (.int i)) (hb : EX K tb env (.int j)) : EX K (tOp rEq ta tb) env (.bool (decide (i = j))) := fun F0 H0 F H σ E Q q =>
  ha E _ fun v F1 H1 z1 h1 => hb (E.step z1) _ fun w F2 H2 z2 h2 => by
    cases h1; cases h2
    have e : decide (V.int i = V.int j) = decide (i = j) := by
      by_cases c : i = j
      · rw [decide_eq_true c, c, decide_eq_true rfl]
      · rw [decide_eq_false c, decide_eq_false fun z => c (V.int.inj z)]
    refine ⟨rfl, ?_⟩
    rw [e]
    exact q _ F2 H2 (z1.trans z2) (.bl _)
theorem ex_neI {i j : Int} (ha : EX K ta env (.int i)) (hb : EX K tb env (.int j)) : EX K (tOp rNe ta tb) env (.bool (!decide (i = j))) := fun F0 H0 F H σ E Q q =>
  ha E _ fun v F1 H1 z1 h1 => hb (E.step z1) _ fun w F2 H2 z2 h2 => by
    cases h1; cases h2
    have e : decide (V.int i = V.int j) = decide (i = j) := by
      by_cases c : i = j
      · rw [decide_eq_true c, c, decide_eq_true rfl]
      · rw [decide_eq_false c, decide_eq_false fun z => c (V.int.inj z)]
    refine ⟨rfl, ?_⟩
    rw [e]
    exact q _ F2 H2 (z1.trans z2) (.bl _)
theorem ex_eqS {x y : Str} (ha : EX K ta env (.str x)) (hb : EX K tb env (.str y)) : EX K (tOp rEq ta tb) env (.bool (decide (x = y))) := fun F0 H0 F H σ E Q q =>
  ha E _ fun v F1 H1 z1 h1 => hb (E.step z1) _ fun w F2 H2 z2 h2 => by
    cases h1; cases h2
    have e : decide (V.str x = V.str y) = decide (x = y) := by
      by_cases c : x = y
      · rw [decide_eq_true c, c, decide_eq_true rfl]
      · rw [decide_eq_false c, decide_eq_false fun z => c (V.str.inj z)]
    refine ⟨rfl, ?_⟩
    rw [e]
    exact q _ F2 H2 (z1.trans z2) (.bl _)
theorem ex_neS {x y : Str} (ha : EX K ta env (.str x)) (hb : EX K tb env (.str y)) : EX K (tOp rNe ta tb) env (.bool (!decide (x = y))) := fun F0 H0 F H σ E Q q =>
  ha E _ fun v F1 H1 z1 h1 => hb (E.step z1) _ fun w F2 H2 z2 h2 => by
    cases h1; cases h2
    have e : decide (V.str x = V.str y) = decide (x = y) := by
      by_cases c : x = y
      · rw [decide_eq_true c, c, decide_eq_true rfl]
      · rw [decide_eq_false c, decide_eq_false fun z => c (V.str.inj z)]
    refine ⟨rfl, ?_⟩
    rw [e]
    exact q _ F2 H2 (z1.trans z2) (.bl _)
theorem ex_eqD {x : Bool} (ha : EXq K ta env d) (hb : EXq K tb env e) (sd : SeqAt.shaped d = true) (se : SeqAt.shaped e = true) (hv : PyData.eqv d e = x) : EX K (tOp (rEqD K) ta tb) env (.bool x) := fun F0 H0 F H σ E Q q =>
  ha E _ fun v F1 H1 z1 h1 => hb (E.step z1) _ fun w F2 H2 z2 h2 => by
    subst hv
    exact ⟨d, e, Dq.dp _ _ (lay_of sd) (Dq.mono (z2.hh (E.step z1).fh) _ _ h1), Dq.dp _ _ (lay_of se) h2, sd, se, q _ F2 H2 (z1.trans z2) (.bl _)⟩
theorem ex_neD {x : Bool} (ha : EXq K ta env d) (hb : EXq K tb env e) (sd : SeqAt.shaped d = true) (se : SeqAt.shaped e = true) (hv : PyData.eqv d e = x) : EX K (tOp (rNeD K) ta tb) env (.bool (!x)) := fun F0 H0 F H σ E Q q =>
  ha E _ fun v F1 H1 z1 h1 => hb (E.step z1) _ fun w F2 H2 z2 h2 => by
    subst hv
    exact ⟨d, e, Dq.dp _ _ (lay_of sd) (Dq.mono (z2.hh (E.step z1).fh) _ _ h1), Dq.dp _ _ (lay_of se) h2, sd, se, q _ F2 H2 (z1.trans z2) (.bl _)⟩
theorem ex_addS {x y : Str} (ha : EX K ta env (.str x)) (hb : EX K tb env (.str y)) (hl : (x ++ y).length ≤ lim) (hl2 : x.length + y.length ≤ lim) : EX K (tOp (fun x y H Q => ∃ i j, x = .str i ∧ y = .str j ∧ i.length + j.length ≤ sizeLine ∧ Q (.str (i ++ j)) H) ta tb) env (.str (x ++ y)) := fun F0 H0 F H σ E Q q =>
  ha E _ fun v F1 H1 z1 h1 => hb (E.step z1) _ fun w F2 H2 z2 h2 => by
    cases h1; cases h2
    exact ⟨x, y, rfl, rfl, lim_le hl2, q _ F2 H2 (z1.trans z2) (.str _ hl)⟩
def isNone : PyData → Bool
  | .none => true
  | _ => false
theorem ex_isN (ha : EX K ta env d) : EX K (tOp (fun x y H Q => y = .non ∧ Q (.bl (decide (x = .non))) H) ta (tC .non)) env (.bool (isNone d)) := fun F0 H0 F H σ E Q q =>
  ha E _ fun v F1 H1 z1 h1 => by
    refine ⟨rfl, ?_⟩
    have e : decide (v = V.non) = isNone d := by cases h1 <;> rfl
    rw [e]
    exact q _ F1 H1 z1 (.bl _)
theorem ex_notN (ha : EX K ta env d) : EX K (tOp (fun x y H Q => y = .non ∧ Q (.bl (!decide (x = .non))) H) ta (tC .non)) env (.bool (!isNone d)) := fun F0 H0 F H σ E Q q =>
  ha E _ fun v F1 H1 z1 h1 => by
    refine ⟨rfl, ?_⟩
    have e : decide (v = V.non) = isNone d := by cases h1 <;> rfl
    rw [e]
    exact q _ F1 H1 z1 (.bl _)
theorem atI_map {f : α → β} {xs : List α} {i : Int} {x : α} (h : atI xs i = some x) : atI (xs.map f) i = some (f x) := by
  unfold atI at h ⊢
  obtain ⟨j, h1, h2⟩ := Option.bind_eq_some_iff.mp h
  rw [List.length_map, h1]
  show (xs.map f)[j]? = _
  rw [List.getElem?_map, h2]
  rfl
theorem DqAll.atI {H : Hp} {ds : List PyData} {vs : List V} {i : Int} (a : DqAll H vs ds) (h : L2.atI ds i = some d) : ∃ v, L2.atI vs i = some v ∧ Dq H v d := by
  unfold L2.atI at h ⊢
  obtain ⟨j, h1, h2⟩ := Option.bind_eq_some_iff.mp h
  rw [a.len, h1]
  exact a.get h2
theorem ex_ixL {i : Int} (ha : EXl K ta env ds) (hb : EX K tb env (.int i)) (h : atI ds i = some d) : EX K (tOp (rIxL K) ta tb) env d := fun F0 H0 F H σ E Q q =>
  ha E _ fun p vs F1 H1 z1 h1 a1 l1 => hb (E.step z1) _ fun w F2 H2 z2 h2 => by
    cases h2
    obtain ⟨v, e1, e2⟩ := a1.atI h
    exact ⟨p, vs, i, v, rfl, rfl, SqL.of (z2.hh (E.step z1).fh _ _ h1), e1, q _ F2 H2 (z1.trans z2) (Dq.mono z2.f _ _ e2)⟩
theorem ex_ixT {i : Int} (ha : EX K ta env (.tuple ds)) (hb : EX K tb env (.int i)) (h : atI ds i = some d) : EX K (tOp (rIxT K) ta tb) env d := fun F0 H0 F H σ E Q q =>
  ha E _ fun p F1 H1 z1 h1 => hb (E.step z1) _ fun w F2 H2 z2 h2 => by
    cases h2
    cases h1 with
    | tup h1 a1 l1 =>
    obtain ⟨v, e1, e2⟩ := a1.atI h
    exact ⟨_, _, i, v, rfl, rfl, SqT.of (z2.fh _ _ (z2.f _ _ h1)), e1, q _ F2 H2 (z1.trans z2) (Dq.mono z2.f _ _ e2)⟩
theorem ea_nil : EA K tNil env [] := fun F0 H0 F H σ E Q q => q [] F H (Fz.refl E.fh) .nil
theorem ea_cons {tr : TA} (ha : EX K ta env d) (hr : EA K tr env ds) : EA K (tCons ta tr) env (d :: ds) := fun F0 H0 F H σ E Q q =>
  ha E _ fun v F1 H1 z1 h1 => hr (E.step z1) _ fun vs F2 H2 z2 h2 => q _ F2 H2 (z1.trans z2) (.cons (Dq.mono z2.f _ _ h1) h2)
theorem ex_tup {tr : TA} (ha : EA K tr env ds) (hl : ds.length ≤ lim) : EX K (tTup tr) env (.tuple ds) := fun F0 H0 F H σ E Q q =>
  ha E _ fun vs F1 H1 z1 h1 => ⟨by rw [h1.len]; exact lim_le hl, fun p hp => q _ (upd F1 p (.tup vs)) _ (z1.trans (Fz.new (E.step z1).fh hp)) (.tup upd_same (DqAll.mono (Evl.Ex.new (Evl.fresh_back (E.step z1).fh hp)) _ _ h1) hl)⟩
theorem fresh0 {F H F1 H1 : Hp} {p : Addr} (e : Ex F H) (z : Fz F H F1 H1) (h : H1 p = none) : H p = none := Evl.fresh_back (z.hh e) h
theorem exw_lst {tr : TA} (ha : EA K tr env ds) (hl : ds.length ≤ lim) : EXw K (tLst tr) env ds := fun F0 H0 F H σ E Q q =>
  ha E _ fun vs F1 H1 z1 h1 => ⟨by rw [h1.len]; exact lim_le hl, fun p hp => q p vs F1 _ (z1.trans (Fz.add (E.step z1).fh hp)) (fresh0 E.fh z1 hp) (Evl.fresh_back (E.step z1).fh hp) upd_same h1 hl⟩
theorem exw_cat (ha : EXl K ta env ds) (hb : EXl K tb env es) (hl : (ds ++ es).length ≤ lim) : EXw K (tOp rCat ta tb) env (ds ++ es) := fun F0 H0 F H σ E Q q =>
  ha E _ fun p vs F1 H1 z1 h1 a1 l1 => hb (E.step z1) _ fun r ws F2 H2 z2 h2 a2 l2 => by
    have E2 := (E.step z1).step z2
    refine ⟨p, r, vs, ws, rfl, rfl, z2.hh (E.step z1).fh _ _ h1, h2, ?_, fun o ho => ?_⟩
    · rw [a1.len, a2.len, ← List.length_append]; exact lim_le hl
    · exact q o _ F2 _ ((z1.trans z2).trans (Fz.add E2.fh ho)) (fresh0 E.fh (z1.trans z2) ho) (Evl.fresh_back E2.fh ho) upd_same ((DqAll.mono z2.f _ _ a1).app a2) hl
theorem et_of (h : EX K te env (.bool b)) : ET K (tTest te) env b := fun F0 H0 F H σ E Q q => h E _ fun v F1 H1 z1 h1 => by
  cases h1
  exact ⟨b, rfl, q F1 H1 z1⟩
theorem et_B {b : Bool} (h : EX K te env (.bool b)) : ET K (tB te) env b := fun F0 H0 F H σ E Q q => h E _ fun v F1 H1 z1 h1 => by
  cases h1
  exact ⟨b, rfl, q F1 H1 z1⟩
theorem et_not {b : Bool} (h : ET K t env b) : ET K (tNot t) env (!b) := fun F0 H0 F H σ E Q q => h E _ fun F1 H1 z1 => q F1 H1 z1
theorem eto_and {m n : Option Bool} (h1 : ETo K t env m) (h2 : ETo K u env n) : ETo K (tAnd t u) env (m.bind fun a => if a = true then n else some false) := fun x e => by
  obtain ⟨a, e1, e2⟩ := Option.bind_eq_some_iff.mp e
  intro F0 H0 F H σ E Q q
  refine h1 a e1 E _ fun F1 H1 z1 => ?_
  cases a with
  | true =>
    show u σ H1 Q
    exact h2 x e2 (E.step z1) _ fun F2 H2 z2 => q F2 H2 (z1.trans z2)
  | false =>
    cases e2
    exact q F1 H1 z1
theorem eto_or {m n : Option Bool} (h1 : ETo K t env m) (h2 : ETo K u env n) : ETo K (tOr t u) env (m.bind fun a => if a = true then some true else n) := fun x e => by
  obtain ⟨a, e1, e2⟩ := Option.bind_eq_some_iff.mp e
  intro F0 H0 F H σ E Q q
  refine h1 a e1 E _ fun F1 H1 z1 => ?_
  cases a with
  | true =>
    cases e2
    exact q F1 H1 z1
  | false =>
    show u σ H1 Q
    exact h2 x e2 (E.step z1) _ fun F2 H2 z2 => q F2 H2 (z1.trans z2)
theorem et_and {a b : Bool} (h1 : ET K t env a) (h2 : ET K u env b) : ET K (tAnd t u) env (a && b) := fun F0 H0 F H σ E Q q => h1 E _ fun F1 H1 z1 => by
  cases a with
  | true => exact h2 (E.step z1) _ fun F2 H2 z2 => q F2 H2 (z1.trans z2)
  | false => exact q F1 H1 z1
theorem et_or {a b : Bool} (h1 : ET K t env a) (h2 : ET K u env b) : ET K (tOr t u) env (a || b) := fun F0 H0 F H σ E Q q => h1 E _ fun F1 H1 z1 => by
  cases a with
  | true => exact q F1 H1 z1
  | false => exact h2 (E.step z1) _ fun F2 H2 z2 => q F2 H2 (z1.trans z2)
theorem exo_and {m n : Option Bool} (h1 : EXo K ta env .bool m) (h2 : EXo K tb env .bool n) : EXo K (tAndV ta tb) env .bool (m.bind fun a => if a = true then n else some false) := fun x e => by
  obtain ⟨a, e1, e2⟩ := Option.bind_eq_some_iff.mp e
  intro F0 H0 F H σ E Q q
  refine h1 a e1 E _ fun v F1 H1 z1 hv => ?_
  cases hv
  refine ⟨a, rfl, ?_⟩
  cases a with
  | true =>
    show tb σ H1 Q
    exact h2 x e2 (E.step z1) _ fun v F2 H2 z2 hv => q v F2 H2 (z1.trans z2) hv
  | false =>
    cases e2
    exact q _ F1 H1 z1 (.bl false)
theorem ex_notV {a : Bool} (h1 : EX K ta env (.bool a)) : EX K (tNotV ta) env (.bool (!a)) := fun F0 H0 F H σ E Q q => h1 E _ fun v F1 H1 z1 hv => by
  cases hv
  exact ⟨a, rfl, q _ F1 H1 z1 (.bl _)⟩
theorem exo_if {c : Bool} {e : α → PyData} {m n : Option α} (hc : ET K t env c) (h1 : c = true → EXo K ta env e m) (h2 : c = false → EXo K tb env e n) : EXo K (tIf t ta tb) env e (if c = true then m else n) := fun x ex => by
  intro F0 H0 F H σ E Q q
  refine hc E _ fun F1 H1 z1 => ?_
  cases c with
  | true => exact h1 rfl x ex (E.step z1) _ fun v F2 H2 z2 hv => q v F2 H2 (z1.trans z2) hv
  | false => exact h2 rfl x ex (E.step z1) _ fun v F2 H2 z2 hv => q v F2 H2 (z1.trans z2) hv
theorem ex_if {c : Bool} {e : α → PyData} {x y : α} (hc : ET K t env c) (h1 : EX K ta env (e x)) (h2 : EX K tb env (e y)) : EX K (tIf t ta tb) env (e (if c = true then x else y)) := by
  have h := exo_if (e := e) hc (fun _ => exo_some h1) (fun _ => exo_some h2) (if c = true then x else y) (by cases c <;> rfl)
  exact h
theorem exo_chain {g g' : Int → Int → V} {p p' : Int → Int → Bool} {i j : Int} {m : Option Int} (hg : ∀ i j, g i j = .bl (p i j)) (hg' : ∀ i j, g' i j = .bl (p' i j)) (ha : EX K ta env (.int i)) (hb : EX K tb env (.int j)) (hc : EXo K tc env .int m) :
    EXo K (tChain (rI0 g) (rI0 g') ta tb tc) env .bool (if p i j = true then m.map (p' j) else some false) := fun x ex => by
  intro F0 H0 F H σ E Q q
  refine ha E _ fun v F1 H1 z1 h1 => hb (E.step z1) _ fun w F2 H2 z2 h2 => ?_
  cases h1; cases h2
  refine ⟨i, j, rfl, rfl, p i j, hg i j, ?_⟩
  cases hp : p i j with
  | true =>
    rw [hp, if_pos rfl] at ex
    obtain ⟨k, e1, e2⟩ := Option.map_eq_some_iff.mp ex
    rw [if_pos rfl]
    refine hc k e1 ((E.step z1).step z2) _ fun u F3 H3 z3 h3 => ?_
    cases h3
    refine ⟨j, k, rfl, rfl, ?_⟩
    rw [hg', e2]
    exact q _ F3 H3 ((z1.trans z2).trans z3) (.bl _)
  | false =>
    rw [hp, if_neg Bool.false_ne_true] at ex
    cases ex
    rw [if_neg Bool.false_ne_true]
    exact q _ F2 H2 (z1.trans z2) (.bl _)
theorem ex_chain {g g' : Int → Int → V} {p p' : Int → Int → Bool} {i j k : Int} (hg : ∀ i j, g i j = .bl (p i j)) (hg' : ∀ i j, g' i j = .bl (p' i j)) (ha : EX K ta env (.int i)) (hb : EX K tb env (.int j)) (hc : EX K tc env (.int k)) :
    EX K (tChain (rI0 g) (rI0 g') ta tb tc) env (.bool (p i j && p' j k)) :=
  exo_chain hg hg' ha hb (exo_some (e := PyData.int) hc) (p i j && p' j k) (by cases p i j <;> rfl)
end
end Rb

set_option Elab.async false
set_option linter.all false
set_option maxRecDepth 100000
set_option maxHeartbeats 2000000
namespace Rb
open PySem PySem.Spec PyProof.Rows L2
structure IterP (J : It) (P : Hp → Hp → Prop) (ds : List PyData) : Prop where
  go : ∀ F H i d, P F H → Ex F H → ds[i]? = some d → J.go i H ∧ ∀ x H', J.yld i H x H' → ∃ F', Fz F H F' H' ∧ Dq F' x d
  stop : ∀ F H, P F H → Ex F H → J.stop ds.length H
def EIs (K : Frag) (wi : TI) (env : List Sl) (ds : List PyData) : Prop := ∀ ⦃F0 H0 F H : Hp⦄ ⦃σ : List (Option V)⦄, EnvOk K F0 H0 F H σ env → ∀ R : It → Hp → Prop, (∀ J F' H', Fz F H F' H' → ds.length ≤ lim → IterP J (fun F1 H1 => Ex F' F1) ds → R J H') → wi σ H R
def EI (K : Frag) (wi : TI) (env : List Sl) (ds : List PyData) : Prop := ∀ ⦃F0 H0 F H : Hp⦄ ⦃σ : List (Option V)⦄, EnvOk K F0 H0 F H σ env → ∀ R : It → Hp → Prop, (∀ J F' H', Fz F H F' H' → ds.length ≤ lim → IterP J (fun F1 H1 => Fz F' H' F1 H1) ds → R J H') → wi σ H R
section
variable {K : Frag} {env : List Sl} {ta tb tc te tl : TE} {d e : PyData} {ds es : List PyData} {α β : Type} {wi : TI}
theorem EIs.i (h : EIs K wi env ds) : EI K wi env ds := fun F0 H0 F H σ E R r => h E R fun J F' H' z l p => r J F' H' z l ⟨fun F1 H1 i d p1 => p.go F1 H1 i d p1.f, fun F1 H1 p1 => p.stop F1 H1 p1.f⟩
theorem itl {a : Addr} {vs : List V} {P : Hp → Hp → Prop} (hP : ∀ F H, P F H → Ex F H → H a = some (.lst vs) ∧ DqAll F vs ds) : IterP (Itl K a) P ds := by
  refine ⟨fun F H i d p e hd => ?_, fun F H p e => ?_⟩
  · obtain ⟨h1, h2⟩ := hP F H p e
    obtain ⟨v, hv, dv⟩ := h2.get hd
    refine ⟨⟨vs, v, SqL.of h1, hv⟩, fun x H' y => ?_⟩
    obtain ⟨rfl, y⟩ := y
    have e1 := (y vs (SqL.of h1)).symm.trans hv
    cases e1
    exact ⟨F, Fz.refl e, dv⟩
  · obtain ⟨h1, h2⟩ := hP F H p e
    exact ⟨vs, SqL.of h1, Nat.le_of_eq h2.len⟩
theorem itt {a : Addr} {vs : List V} {P : Hp → Hp → Prop} (hP : ∀ F H, P F H → Ex F H → H a = some (.tup vs) ∧ DqAll F vs ds) : IterP (Itt K a) P ds := by
  refine ⟨fun F H i d p e hd => ?_, fun F H p e => ?_⟩
  · obtain ⟨h1, h2⟩ := hP F H p e
    obtain ⟨v, hv, dv⟩ := h2.get hd
    refine ⟨⟨vs, v, SqT.of h1, hv⟩, fun x H' y => ?_⟩
    obtain ⟨rfl, y⟩ := y
    have e1 := (y vs (SqT.of h1)).symm.trans hv
    cases e1
    exact ⟨F, Fz.refl e, dv⟩
  · obtain ⟨h1, h2⟩ := hP F H p e
    exact ⟨vs, SqT.of h1, Nat.le_of_eq h2.len⟩
theorem eis_list (h : EX K tl env (.list ds)) : EIs K (iList K tl) env ds := fun F0 H0 F H σ E R r => h E _ fun v F' H' z hv => by
  cases hv with
  | lst h1 h2 h3 => exact ⟨_, rfl, ⟨_, SqL.of (z.fh _ _ h1)⟩, r _ F' H' z h3 (itl fun F1 H1 p e => ⟨e _ _ (p _ _ h1), DqAll.mono p _ _ h2⟩)⟩
theorem ei_list (h : EXl K tl env ds) : EI K (iList K tl) env ds := fun F0 H0 F H σ E R r => h E _ fun p vs F' H' z h1 h2 h3 =>
  ⟨p, rfl, ⟨vs, SqL.of h1⟩, r _ F' H' z h3 (itl fun F1 H1 q e => ⟨q.hh z.fh _ _ h1, DqAll.mono q.f _ _ h2⟩)⟩
theorem eis_tup (h : EX K tl env (.tuple ds)) : EIs K (iTup K tl) env ds := fun F0 H0 F H σ E R r => h E _ fun v F' H' z hv => by
  cases hv with
  | tup h1 h2 h3 => exact ⟨_, rfl, ⟨_, SqT.of (z.fh _ _ h1)⟩, r _ F' H' z h3 (itt fun F1 H1 p e => ⟨e _ _ (p _ _ h1), DqAll.mono p _ _ h2⟩)⟩
def rng (lo hi : Int) : List Int := (List.range (hi - lo).toNat).map fun (i : Nat) => lo + (i : Int)
theorem rng_len (lo hi : Int) : (rng lo hi).length = (hi - lo).toNat := by unfold rng; rw [List.length_map, List.length_range]
theorem itr {lo : Int} {n : Nat} {P : Hp → Hp → Prop} : IterP (Itr lo n) P (((List.range n).map fun (i : Nat) => lo + (i : Int)).map PyData.int) := by
  refine ⟨fun F H i d p e hd => ?_, fun F H p e => ?_⟩
  · rw [List.map_map, List.getElem?_map] at hd
    obtain ⟨j, h1, h2⟩ := Option.map_eq_some_iff.mp hd
    obtain ⟨h3, h4⟩ := List.getElem?_eq_some_iff.mp h1
    rw [List.getElem_range] at h4
    rw [List.length_range] at h3
    subst h4; subst h2
    refine ⟨h3, fun x H' y => ?_⟩
    obtain ⟨rfl, rfl⟩ := y
    exact ⟨F, Fz.refl e, .int _⟩
  · show n ≤ _
    rw [List.length_map, List.length_map, List.length_range]
    exact Nat.le_refl _
def rngOk (n : Int) : Prop := -50000 ≤ n ∧ n ≤ 50000
instance (n : Int) : Decidable (rngOk n) := inferInstanceAs (Decidable (_ ∧ _))
theorem rng_lim {m n : Int} (hm : rngOk m) (hn : rngOk n) : ((rng m n).map PyData.int).length ≤ lim := by
  unfold rngOk at hm hn
  unfold lim
  rw [List.length_map, rng_len]
  omega
theorem eis_rng1 {n : Int} (h : EX K ta env (.int n)) (hn : rngOk n) : EIs K (iRng1 (tCons ta tNil)) env ((rng 0 n).map PyData.int) := fun F0 H0 F H σ E R r => h E _ fun v F' H' z hv => by
  cases hv
  have l := rng_lim (m := 0) (by decide) hn
  unfold rngOk at hn
  refine ⟨n, rfl, by omega, by omega, r _ F' H' z l ?_⟩
  have e : (n - 0).toNat = n.toNat := by rw [Int.sub_zero]
  unfold rng
  rw [e]
  exact itr
theorem eis_rng2 {m n : Int} (ha : EX K ta env (.int m)) (hb : EX K tb env (.int n)) (hm : rngOk m) (hn : rngOk n) : EIs K (iRng2 (tCons ta (tCons tb tNil))) env ((rng m n).map PyData.int) := fun F0 H0 F H σ E R r => ha E _ fun v F1 H1 z1 hv => hb (E.step z1) _ fun w F2 H2 z2 hw => by
  cases hv; cases hw
  have l := rng_lim hm hn
  unfold rngOk at hm hn
  exact ⟨m, n, rfl, ⟨by omega, by omega, by omega, by omega⟩, r _ F2 H2 (z1.trans z2) l itr⟩
def rng3N (lo hi c : Int) : Nat := if 0 < c then (if lo < hi then ((hi - lo - 1) / c + 1).toNat else 0) else (if hi < lo then ((lo - hi - 1) / (-c) + 1).toNat else 0)
def rng3 (lo hi c : Int) : List Int := (List.range (rng3N lo hi c)).map fun (i : Nat) => lo + (i : Int) * c
theorem itc {lo c : Int} {n : Nat} {P : Hp → Hp → Prop} : IterP (Itc lo c n) P (((List.range n).map fun (i : Nat) => lo + (i : Int) * c).map PyData.int) := by
  refine ⟨fun F H i d p e hd => ?_, fun F H p e => ?_⟩
  · rw [List.map_map, List.getElem?_map] at hd
    obtain ⟨j, h1, h2⟩ := Option.map_eq_some_iff.mp hd
    obtain ⟨h3, h4⟩ := List.getElem?_eq_some_iff.mp h1
    rw [List.getElem_range] at h4
    rw [List.length_range] at h3
    subst h4; subst h2
    refine ⟨h3, fun x H' y => ?_⟩
    obtain ⟨rfl, rfl⟩ := y
    exact ⟨F, Fz.refl e, .int _⟩
  · show n ≤ _
    rw [List.length_map, List.length_map, List.length_range]
    exact Nat.le_refl _
theorem div_bnd {q c : Int} (hq : 0 ≤ q) (hc : 0 < c) : 0 ≤ q / c ∧ q / c ≤ q := ⟨Int.ediv_nonneg hq (by omega), Int.ediv_le_self c hq⟩
theorem rngC_ok {i j c : Int} (hc : c ≠ 0) (h1 : c.natAbs < 1000000000) (hi : i < 2 ^ 60 ∧ -(2 ^ 60) ≤ i) (hj : j < 2 ^ 60 ∧ -(2 ^ 60) ≤ j) : RgC i j c (rng3N i j c) := by
  have key : Builtin.Range.rangeSize i j c = rng3N i j c ∧ (rng3N i j c : Int) ≤ 2 ^ 61 := by
    unfold Builtin.Range.rangeSize rng3N
    by_cases c0 : 0 < c
    · rw [if_pos c0, if_pos (show c > 0 from c0)]
      by_cases c1 : i < j
      · rw [if_pos c1, if_pos c1]
        have := div_bnd (q := j - i - 1) (c := c) (by omega) c0
        generalize (j - i - 1) / c = q at this ⊢
        omega
      · rw [if_neg c1, if_neg c1]
        exact ⟨rfl, by decide⟩
    · rw [if_neg c0, if_neg (show ¬ c > 0 from c0)]
      by_cases c1 : j < i
      · rw [if_pos c1, if_pos (show i > j from c1)]
        have := div_bnd (q := i - j - 1) (c := -c) (by omega) (by omega)
        generalize (i - j - 1) / -c = q at this ⊢
        omega
      · rw [if_neg c1, if_neg (show ¬ i > j from c1)]
        exact ⟨rfl, by decide⟩
  refine ⟨hc, by omega, ?_, key.1⟩
  unfold Builtin.Range.small
  rw [key.1]
  have := key.2
  generalize rng3N i j c = q at this ⊢
  simp only [Builtin.Range.rangeFitsLong, Bool.and_eq_true, Bool.or_eq_true, decide_eq_true_eq, beq_iff_eq]
  by_cases c0 : c > 0
  · simp only [c0, if_true, Bool.and_eq_true, decide_eq_true_eq]
    omega
  · simp only [c0, if_false, Bool.and_eq_true, decide_eq_true_eq]
    omega
theorem rng3N_le {m n c : Int} (hm : rngOk m) (hn : rngOk n) (h0 : c ≠ 0) : rng3N m n c ≤ lim := by
  unfold rngOk at hm hn
  unfold rng3N lim
  by_cases c0 : 0 < c
  · rw [if_pos c0]
    by_cases c1 : m < n
    · rw [if_pos c1]
      have := div_bnd (q := n - m - 1) (c := c) (by omega) c0
      omega
    · rw [if_neg c1]; omega
  · rw [if_neg c0]
    by_cases c1 : n < m
    · rw [if_pos c1]
      have := div_bnd (q := m - n - 1) (c := -c) (by omega) (by omega)
      omega
    · rw [if_neg c1]; omega
theorem eis_rng3 {m n c : Int} (ha : EX K ta env (.int m)) (hb : EX K tb env (.int n)) (hc : EX K tc env (.int c)) (hm : rngOk m) (hn : rngOk n) (h0 : c ≠ 0) (h1 : c.natAbs < 1000000000) :
    EIs K (iRng3 (tCons ta (tCons tb (tCons tc tNil)))) env ((rng3 m n c).map PyData.int) := fun F0 H0 F H σ E R r => ha E _ fun v F1 H1 z1 hv => hb (E.step z1) _ fun w F2 H2 z2 hw => hc ((E.step z1).step z2) _ fun u F3 H3 z3 hu => by
  cases hv; cases hw; cases hu
  have l := rng3N_le hm hn h0
  unfold rngOk at hm hn
  refine ⟨m, n, c, _, rfl, rngC_ok h0 h1 (by omega) (by omega), r _ F3 H3 ((z1.trans z2).trans z3) ?_ itc⟩
  unfold rng3
  rw [List.length_map, List.length_map, List.length_range]
  exact l
end
end Rb

set_option Elab.async false
set_option linter.all false
set_option maxRecDepth 100000
set_option maxHeartbeats 2000000
namespace Rb
open PySem PySem.Spec PyProof.Rows L2
def EG (K : Frag) (g : TG) (env : List Sl) (d : PyData) (env' : List Sl) : Prop := ∀ ⦃F0 H0 F H : Hp⦄ ⦃σ : List (Option V)⦄ ⦃v : V⦄, EnvOk K F0 H0 F H σ env → Dq F v d → ∀ Q : L2.St → Hp → Prop, (∀ σ' F' H', EnvOk K F0 H0 F' H' σ' env' → Q σ' H') → g v σ H Q
def EGc (K : Frag) (g : TG) (env : List Sl) (d : PyData) (env' : List Sl) (vs : List Nat) : Prop := ∀ ⦃F0 H0 F H : Hp⦄ ⦃σ : List (Option V)⦄ ⦃v : V⦄, EnvOk K F0 H0 F H σ env → Dq F v d → ∀ Q : L2.St → Hp → Prop, (∀ σ', EnvOk K F0 H0 F H σ' env' → wipe σ' vs = wipe σ vs → Q σ' H) → g v σ H Q
def EGs (K : Frag) (g : TGs) (env : List Sl) (ds : List PyData) (env' : List Sl) (vs : List Nat) : Prop := ∀ ⦃F0 H0 F H : Hp⦄ ⦃σ : List (Option V)⦄ ⦃ws : List V⦄, EnvOk K F0 H0 F H σ env → DqAll F ws ds → ∀ Q : L2.St → Hp → Prop, (∀ σ', EnvOk K F0 H0 F H σ' env' → wipe σ' vs = wipe σ vs → Q σ' H) → g ws σ H Q
theorem wipe_set {σ : List (Option V)} {i : Nat} {x : Option V} : ∀ {vs : List Nat}, i ∈ vs → wipe (σ.set i x) vs = wipe σ vs
  | [], h => by cases h
  | v :: vs, h => by
    unfold wipe
    by_cases m : i ∈ vs
    · rw [wipe_set m]
    · have e : i = v := by
        rcases List.mem_cons.mp h with z | z
        · exact z
        · exact absurd z m
      subst e
      have : ∀ vs : List Nat, i ∉ vs → wipe (σ.set i x) vs = (wipe σ vs).set i x := fun vs => by
        induction vs with
        | nil => intro _; rfl
        | cons w ws ih =>
          intro hm
          unfold wipe
          rw [ih fun z => hm (List.mem_cons_of_mem _ z), List.set_comm]
          exact fun z => hm (z ▸ List.mem_cons_self)
      rw [this vs m, List.set_set]
section
variable {K : Frag} {env env' env1 : List Sl} {d : PyData} {ds : List PyData} {g : TG} {gs : TGs} {vs : List Nat} {te ti : TE} {α β S R O : Type}
theorem EGc.eg (h : EGc K g env d env' vs) : EG K g env d env' := fun F0 H0 F H σ v E hv Q q => h E hv Q fun σ' E' _ => q σ' F H E'
theorem egc_name {i : Nat} (hi : i ∈ vs) : EGc K (gName i) env d (env.set i (.sh d)) vs := fun F0 H0 F H σ v E hv Q q => q _ (E.setS i hv) (wipe_set hi)
theorem egs_nil : EGs K gNil env [] env vs := fun F0 H0 F H σ v E hv Q q => by
  cases hv
  exact ⟨rfl, q σ E rfl⟩
theorem egs_cons (h1 : EGc K g env d env1 vs) (h2 : EGs K gs env1 ds env' vs) : EGs K (gCons g gs) env (d :: ds) env' vs := fun F0 H0 F H σ v E hv Q q => by
  cases hv with
  | cons a b => exact ⟨_, _, rfl, h1 E a _ fun σ1 E1 w1 => h2 E1 b _ fun σ2 E2 w2 => q σ2 E2 (w2.trans w1)⟩
theorem egc_tup {n : Nat} (h : EGs K gs env ds env' vs) (hn : ds.length = n) : EGc K (gTup K n gs) env (.tuple ds) env' vs := fun F0 H0 F H σ v E hv Q q => by
  cases hv with
  | tup h1 h2 h3 => exact ⟨_, _, rfl, SqT.of (E.fh _ _ h1), by rw [h2.len, hn], h E h2 _ q⟩
theorem egc_lst {n : Nat} (h : EGs K gs env ds env' vs) (hn : ds.length = n) : EGc K (gLst K n gs) env (.list ds) env' vs := fun F0 H0 F H σ v E hv Q q => by
  cases hv with
  | lst h1 h2 h3 => exact ⟨_, _, rfl, SqL.of (E.fh _ _ h1), by rw [h2.len, hn], h E h2 _ q⟩
theorem eg_sub {k : Nat} {i : Int} {j : Nat} {ds' : List PyData} (hk : env[k]? = some (.ow ds)) (hi : EX K ti env (.int i)) (hj : ixN ds.length i = some j) (hd : ds' = ds.set j d) : EG K (gSub (tVar k) ti rSetL) env d (env.set k (.ow ds')) := fun F0 H0 F H σ v E hv Q q => by
  obtain ⟨o, h1, p, vs, h2, h3, h4, h5, h6, h7⟩ := E.sl k _ hk
  subst h2
  refine ⟨_, h1, hi E _ fun w F1 H1 z1 hw => ?_⟩
  cases hw
  have E1 := E.step z1
  obtain ⟨f1, hh1⟩ := z1.own p _ h5 h4
  have a1 := DqAll.mono z1.f _ _ h6
  subst hd
  refine ⟨p, vs, i, j, rfl, rfl, hh1, by rw [a1.len]; exact hj, q _ F1 _ (E1.mut hk rfl h1 ⟨p, _, rfl, h3, f1, upd_same, a1.set (Dq.mono z1.f _ _ hv) j, by rw [List.length_set]; exact h7⟩ rfl)⟩
structure Exn where
  name : Str
  arg : Option (Str × PyData)
def exW (K : Frag) (x : Exn) (F H : Hp) (C : Value → Option Addr → Prop) : Prop := match x.arg with
  | none => C (.ref (He.ga K x.name)) none
  | some q => ∀ dd v, H dd = some (.xd [(q.1, v)]) → Dq F v q.2 → C (.ref (He.ga K x.name)) (some dd)
theorem exW.imp {K : Frag} {x : Exn} {F H : Hp} {C C' : Value → Option Addr → Prop} (h : exW K x F H C) (i : ∀ c d, C c d → C' c d) : exW K x F H C' := by
  unfold exW at h ⊢
  split
  · rename_i e; rw [e] at h; exact i _ _ h
  · rename_i q e; rw [e] at h; exact fun dd v a b => i _ _ (h dd v a b)
inductive Rv where
  | sh (d : PyData)
  | fr (ds : List PyData)
  /-- what nobody looks at -/
  | un
inductive Out where
  | nx (env : List Sl)
  | bk (env : List Sl)
  | ct (env : List Sl)
  | rt (r : Rv)
  | ex (env : List Sl) (x : Exn) (W : WX)
  /-- handed back while things are lent: they stand as env says -/
  | re (env : List Sl) (t : Option OT)
def Out.fin : Out → Prop
  | .rt _ => True
  | .re _ _ => True
  | .ex _ _ _ => True
  | _ => False
def RetOk (F0 H0 : Hp) (Q : VK) : Rv → Prop
  | .sh d => ∀ F H v, Fz F0 H0 F H → Dq F v d → Q v H
  | .fr ds => ∀ F H p vs, Fz F0 H0 F H → H0 p = none → F p = none → H p = some (.lst vs) → DqAll F vs ds → ds.length ≤ lim → Q (.ref p) H
  | .un => ∀ F H v, Fz F0 H0 F H → Q v H
def ReOk (K : Frag) (F0 H0 : Hp) (Q : VK) (env : List Sl) : Option OT → Prop
  | none => ∀ F H σ v, EnvOk K F0 H0 F H σ env → Q v H
  | some t => ∀ F H σ v, EnvOk K F0 H0 F H (σ ++ [some v]) (env ++ [.tr t]) → Q v H
theorem ReOk.base {K : Frag} {F0 H0 F1 H1 : Hp} {Q : VK} {env : List Sl} (z : Fz F0 H0 F1 H1) : ∀ {t : Option OT}, ReOk K F0 H0 Q env t → ReOk K F1 H0 Q env t
  | none, h => fun F H σ v E => h F H σ v (E.back z)
  | some t, h => fun F H σ v E => h F H σ v (E.back z)
def Cont (K : Frag) (F0 H0 : Hp) (D : Ends) : Out → Prop
  | .nx env => ∀ F H σ, EnvOk K F0 H0 F H σ env → D.nx σ H
  | .bk env => ∀ F H σ, EnvOk K F0 H0 F H σ env → D.bk σ H
  | .ct env => ∀ F H σ, EnvOk K F0 H0 F H σ env → D.ct σ H
  | .rt r => RetOk F0 H0 D.rt r
  | .ex env x W => ∀ F H σ, EnvOk K F0 H0 F H σ env → exW K x F H fun c d => W c d σ H
  | .re env t => ReOk K F0 H0 D.rt env t
theorem RetOk.base {F0 H0 F1 H1 : Hp} {Q : VK} (z : Fz F0 H0 F1 H1) : ∀ {r : Rv}, RetOk F0 H0 Q r → RetOk F1 H0 Q r
  | .sh d, h => fun F H v z2 hv => h F H v (z.back z2) hv
  | .fr ds, h => fun F H p vs z2 a b c d l => h F H p vs (z.back z2) a b c d l
  | .un, h => fun F H v z2 => h F H v (z.back z2)
theorem Cont.base {K : Frag} {F0 H0 F1 H1 : Hp} {D : Ends} (z : Fz F0 H0 F1 H1) : ∀ {o : Out}, Cont K F0 H0 D o → Cont K F1 H0 D o
  | .nx env, h => fun F H σ E => h F H σ (E.back z)
  | .bk env, h => fun F H σ E => h F H σ (E.back z)
  | .ct env, h => fun F H σ E => h F H σ (E.back z)
  | .rt r, h => RetOk.base z h
  | .ex env x W, h => fun F H σ E => h F H σ (E.back z)
  | .re env t, h => ReOk.base z h
theorem Cont.fin {K : Frag} {F0 H0 : Hp} {D D' : Ends} (e : D'.rt = D.rt) : ∀ {o : Out}, o.fin → Cont K F0 H0 D o → Cont K F0 H0 D' o
  | .rt r, _, h => by show RetOk F0 H0 D'.rt r; rw [e]; exact h
  | .ex env x W, _, h => h
  | .re env t, _, h => by show ReOk K F0 H0 D'.rt env t; rw [e]; exact h
def BX (K : Frag) (ts : TS) (env : List Sl) {O : Type} (enc : O → Out) (m : Option O) : Prop := ∀ o, m = some o → ∀ ⦃F0 H0 F H : Hp⦄ ⦃σ : List (Option V)⦄ (D : Ends), EnvOk K F0 H0 F H σ env → Cont K F0 H0 D (enc o) → ts D σ H
variable {ts tu tw : TS} {tt : TT} {enc : O → Out} {m n : Option O}
theorem bx_bind {k : α → Option O} {m : Option α} (h : ∀ x, m = some x → BX K ts env enc (k x)) : BX K ts env enc (m.bind k) := fun o ho => by
  obtain ⟨x, h1, h2⟩ := Option.bind_eq_some_iff.mp ho
  exact h x h1 o h2
theorem bx_none : BX K ts env enc none := fun o ho => by cases ho
theorem bx_map {O' : Type} {enc' : O' → Out} {f : O → O'} (h : BX K ts env enc m) (he : ∀ o, enc' (f o) = enc o) : BX K ts env enc' (m.map f) := fun o ho => by
  obtain ⟨x, h1, h2⟩ := Option.map_eq_some_iff.mp ho
  subst h2
  rw [he]
  exact h x h1
theorem bx_freeze (i : Nat) (hs : env[i]? = some (.ow ds)) (h : BX K ts (env.set i (.sh (.list ds))) enc m) : BX K ts env enc m := fun o ho F0 H0 F H σ D E c => by
  obtain ⟨F', E'⟩ := E.freeze hs
  exact h o ho D E' c
theorem bx_ret {o : O} {d : PyData} (h : EX K te env d) (he : enc o = .rt (.sh d)) : BX K (tRet te) env enc (some o) := fun o' ho F0 H0 F H σ D E c => by
  cases ho
  rw [he] at c
  exact h E _ fun v F' H' z hv => c F' H' v (E.z.trans z) hv
theorem bx_retW {o : O} {ds : List PyData} (h : EXw K te env ds) (he : enc o = .rt (.fr ds)) : BX K (tRet te) env enc (some o) := fun o' ho F0 H0 F H σ D E c => by
  cases ho
  rw [he] at c
  exact h E _ fun p vs F' H' z hn hf h1 h2 h3 => c F' H' p vs (E.z.trans z) (E.z.hn hn) hf h1 h2 h3
end
end Rb

set_option Elab.async false
set_option linter.all false
set_option maxRecDepth 100000
set_option maxHeartbeats 2000000
namespace Rb
open PySem PySem.Spec PyProof.Rows L2
inductive Lp (S R : Type) where
  | nx (s : S)
  | bk (s : S)
  | rt (r : R)
section
variable {K : Frag} {env env' env1 env2 : List Sl} {d : PyData} {ds : List PyData} {g : TG} {gs : TGs} {vs : List Nat} {te ti ta tb : TE} {wi : TI} {α β S R O O1 : Type}
variable {ts tu tw : TS} {tt : TT} {enc : O → Out} {enc1 : O1 → Out} {m n : Option O} {m1 : Option O1}
theorem bx_asg (he : EX K te env d) (hg : EG K g env d env1) (h : BX K tu env1 enc m) : BX K (tSeq (tAsg te g) tu) env enc m := fun o ho F0 H0 F H σ D E c =>
  he E _ fun v F1 H1 z1 hv => hg (E.step z1) hv _ fun σ2 F2 H2 E2 => h o ho D E2 c
theorem bx_asgW {i : Nat} (he : EXw K te env ds) (h : BX K tu (env.set i (.ow ds)) enc m) : BX K (tSeq (tAsg te (gName i)) tu) env enc m := fun o ho F0 H0 F H σ D E c =>
  he E _ fun p vs F1 H1 z1 hn hf h1 h2 h3 => h o ho D (E.setO z1 i hn (s := .ow ds) ⟨p, vs, rfl, E.z.hn hn, hf, h1, h2, h3⟩) c
theorem bx_drop (he : EX K te env d) (h : BX K tu env enc m) : BX K (tSeq (tDrop te) tu) env enc m := fun o ho F0 H0 F H σ D E c =>
  he E _ fun v F1 H1 z1 hv => h o ho D (E.step z1) c
def app? (xs : List α) (x : α) : Option (List α) := if xs.length < lim then some (xs ++ [x]) else none
theorem app_some {xs ys : List α} {x : α} (h : app? xs x = some ys) : xs.length < lim ∧ ys = xs ++ [x] := by
  unfold app? at h
  by_cases c : xs.length < lim
  · rw [if_pos c] at h; cases h; exact ⟨c, rfl⟩
  · rw [if_neg c] at h; cases h
theorem s_app {e : α → PyData} {i : Nat} {xs ys : List α} {x : α} (hi : env[i]? = some (.ow (xs.map e))) (hx : EX K te env (e x)) (hy : app? xs x = some ys) {F0 H0 F H : Hp} {σ : List (Option V)} {D : Ends} (E : EnvOk K F0 H0 F H σ env)
    (k : ∀ F' H', EnvOk K F0 H0 F' H' σ (env.set i (.ow (ys.map e))) → D.nx σ H') : tDrop (tBM K "list" rAppend (tVar i) (tCons te tNil)) D σ H := by
  obtain ⟨hl, rfl⟩ := app_some hy
  obtain ⟨o, h1, p, vs, h2, h3, h4, h5, h6, h7⟩ := E.sl i _ hi
  subst h2
  refine ⟨_, h1, .inl ⟨rfl, vs, SqL.of h5⟩, hx E _ fun w F1 H1 z1 hw => ?_⟩
  obtain ⟨f1, hh1⟩ := z1.own p _ h5 h4
  have a1 := DqAll.mono z1.f _ _ h6
  have hlen := a1.len
  rw [List.length_map] at hlen
  refine ⟨p, vs, w, rfl, rfl, hh1, by rw [hlen]; exact lim_lt hl, k F1 _ ((E.step z1).mut hi rfl h1 ⟨p, _, rfl, h3, f1, upd_same, ?_, ?_⟩ rfl)⟩
  · rw [List.map_append]
    exact a1.app (.cons hw .nil)
  · rw [List.length_map, List.length_append]
    exact hl
theorem bx_app {e : α → PyData} {i : Nat} {xs ys : List α} {x : α} (hi : env[i]? = some (.ow (xs.map e))) (hx : EX K te env (e x)) (hy : app? xs x = some ys) (h : BX K tu (env.set i (.ow (ys.map e))) enc m) :
    BX K (tSeq (tDrop (tBM K "list" rAppend (tVar i) (tCons te tNil))) tu) env enc m := fun o ho F0 H0 F H σ D E c => s_app (D := { D with nx := tu D }) hi hx hy E fun F' H' E' => h o ho D E' c
def ext? (xs ys : List α) : Option (List α) := if xs.length + ys.length ≤ lim then some (xs ++ ys) else none
theorem ext_some {xs ys zs : List α} (h : ext? xs ys = some zs) : xs.length + ys.length ≤ lim ∧ zs = xs ++ ys := by
  unfold ext? at h
  by_cases c : xs.length + ys.length ≤ lim
  · rw [if_pos c] at h; cases h; exact ⟨c, rfl⟩
  · rw [if_neg c] at h; cases h
theorem s_ext {e : α → PyData} {i : Nat} {xs ys zs : List α} (hi : env[i]? = some (.ow (xs.map e))) (hx : EXl K te env (ys.map e)) (hy : ext? xs ys = some zs) {F0 H0 F H : Hp} {σ : List (Option V)} {D : Ends} (E : EnvOk K F0 H0 F H σ env)
    (k : ∀ F' H', EnvOk K F0 H0 F' H' σ (env.set i (.ow (zs.map e))) → D.nx σ H') : tDrop (tBM K "list" rExtend (tVar i) (tCons te tNil)) D σ H := by
  obtain ⟨hl, rfl⟩ := ext_some hy
  obtain ⟨o, h1, p, vs, h2, h3, h4, h5, h6, h7⟩ := E.sl i _ hi
  subst h2
  refine ⟨_, h1, .inl ⟨rfl, vs, SqL.of h5⟩, hx E _ fun q ws F1 H1 z1 hq aq lq => ?_⟩
  obtain ⟨f1, hh1⟩ := z1.own p _ h5 h4
  have a1 := DqAll.mono z1.f _ _ h6
  have hlen := a1.len
  rw [List.length_map] at hlen
  have hlen2 := aq.len
  rw [List.length_map] at hlen2
  refine ⟨p, q, vs, ws, rfl, rfl, hh1, hq, by rw [hlen, hlen2]; exact lim_le hl, k F1 _ ((E.step z1).mut hi rfl h1 ⟨p, _, rfl, h3, f1, upd_same, ?_, ?_⟩ rfl)⟩
  · rw [List.map_append]
    exact a1.app aq
  · rw [List.length_map, List.length_append]
    exact hl
theorem bx_ext {e : α → PyData} {i : Nat} {xs ys zs : List α} (hi : env[i]? = some (.ow (xs.map e))) (hx : EXl K te env (ys.map e)) (hy : ext? xs ys = some zs) (h : BX K tu (env.set i (.ow (zs.map e))) enc m) :
    BX K (tSeq (tDrop (tBM K "list" rExtend (tVar i) (tCons te tNil))) tu) env enc m := fun o ho F0 H0 F H σ D E c => s_ext (D := { D with nx := tu D }) hi hx hy E fun F' H' E' => h o ho D E' c
def rem? (xs : List Int) (x : Int) : Option (List Int) := if x ∈ xs then some (xs.erase x) else none
theorem erase_idx : ∀ {xs : List Int} {x : Int}, x ∈ xs → ∃ j, xs[j]? = some x ∧ (∀ m : Nat, m < j → xs[m]? ≠ some x) ∧ xs.erase x = xs.eraseIdx j
  | [], _, h => by cases h
  | y :: ys, x, h => by
    by_cases e : y = x
    · subst e
      exact ⟨0, rfl, fun m hm => absurd hm (Nat.not_lt_zero _), by simp⟩
    · have h' : x ∈ ys := by
        rcases List.mem_cons.mp h with z | z
        · exact absurd z.symm e
        · exact z
      obtain ⟨j, h1, h2, h3⟩ := erase_idx h'
      refine ⟨j + 1, by simpa using h1, fun m hm => ?_, ?_⟩
      · cases m with
        | zero => simpa using e
        | succ m => simpa using h2 m (by omega)
      · rw [List.erase_cons_tail (by simpa using e), h3]
        rfl
theorem s_rem {i : Nat} {xs ys : List Int} {x : Int} (hi : env[i]? = some (.ow (xs.map PyData.int))) (hx : EX K te env (.int x)) (hy : rem? xs x = some ys) {F0 H0 F H : Hp} {σ : List (Option V)} {D : Ends} (E : EnvOk K F0 H0 F H σ env)
    (k : ∀ F' H', EnvOk K F0 H0 F' H' σ (env.set i (.ow (ys.map PyData.int))) → D.nx σ H') : tDrop (tBM K "list" rRemI (tVar i) (tCons te tNil)) D σ H := by
  unfold rem? at hy
  by_cases c : x ∈ xs
  · rw [if_pos c] at hy; cases hy
    obtain ⟨j, j1, j2, j3⟩ := erase_idx c
    obtain ⟨o, h1, p, vs, h2, h3, h4, h5, h6, h7⟩ := E.sl i _ hi
    subst h2
    refine ⟨_, h1, .inl ⟨rfl, vs, SqL.of h5⟩, hx E _ fun w F1 H1 z1 hw => ?_⟩
    cases hw
    obtain ⟨f1, hh1⟩ := z1.own p _ h5 h4
    have a1 := DqAll.mono z1.f _ _ h6
    have ev := a1.ints
    subst ev
    refine ⟨p, xs, x, j, rfl, rfl, hh1, j1, j2, k F1 _ ((E.step z1).mut hi rfl h1 ⟨p, _, rfl, h3, f1, upd_same, ?_, ?_⟩ rfl)⟩
    · rw [j3]; exact DqAll.ints' _
    · rw [List.length_map] at h7 ⊢
      exact Nat.le_trans (List.length_erase_le) h7
  · rw [if_neg c] at hy; cases hy
theorem bx_rem {i : Nat} {xs ys : List Int} {x : Int} (hi : env[i]? = some (.ow (xs.map PyData.int))) (hx : EX K te env (.int x)) (hy : rem? xs x = some ys) (h : BX K tu (env.set i (.ow (ys.map PyData.int))) enc m) :
    BX K (tSeq (tDrop (tBM K "list" rRemI (tVar i) (tCons te tNil))) tu) env enc m := fun o ho F0 H0 F H σ D E c => s_rem (D := { D with nx := tu D }) hi hx hy E fun F' H' E' => h o ho D E' c
def pop? (xs : List α) : Option (α × List α) := xs.getLast?.map fun x => (x, xs.dropLast)
theorem s_pop {e : α → PyData} {i : Nat} {xs ys : List α} {x : α} (hi : env[i]? = some (.ow (xs.map e))) (hy : pop? xs = some (x, ys)) {F0 H0 F H : Hp} {σ : List (Option V)} (E : EnvOk K F0 H0 F H σ env) {Q : VK}
    (k : ∀ v H', EnvOk K F0 H0 F H' σ (env.set i (.ow (ys.map e))) → Dq F v (e x) → Q v H') : tBM0 K "list" rPop (tVar i) σ H Q := by
  unfold pop? at hy
  obtain ⟨x', e1, e2⟩ := Option.map_eq_some_iff.mp hy
  cases e2
  obtain ⟨o, h1, p, vs, h2, h3, h4, h5, h6, h7⟩ := E.sl i _ hi
  subst h2
  have hlast : (xs.map e)[vs.length - 1]? = some (e x) := by
    rw [h6.len, List.length_map, List.getElem?_map, ← List.getLast?_eq_getElem?, e1]
    rfl
  obtain ⟨v, e3, e4⟩ := h6.get hlast
  refine ⟨_, h1, .inl ⟨rfl, vs, SqL.of h5⟩, p, vs, v, rfl, rfl, h5, e3, k v _ (E.mut hi rfl h1 ⟨p, _, rfl, h3, h4, upd_same, ?_, ?_⟩ rfl) e4⟩
  · have k2 : (xs.map e).dropLast = xs.dropLast.map e := by rw [List.dropLast_eq_take, List.dropLast_eq_take, List.length_map, List.map_take]
    rw [← k2]
    exact h6.dropLast
  · rw [List.length_map, List.length_dropLast]
    rw [List.length_map] at h7
    omega
theorem bx_pop {e : α → PyData} {i j : Nat} {xs ys : List α} {x : α} (hi : env[i]? = some (.ow (xs.map e))) (hy : pop? xs = some (x, ys)) (h : BX K tu ((env.set i (.ow (ys.map e))).set j (.sh (e x))) enc m) :
    BX K (tSeq (tAsg (tBM0 K "list" rPop (tVar i)) (gName j)) tu) env enc m := fun o ho F0 H0 F H σ D E c => s_pop hi hy E fun v H' E' hv => h o ho D (E'.setS j hv) c
theorem bx_nx {o : O} (hw : Wk env env') (hn : enc o = .nx env') : BX K tNext env enc (some o) := fun o' ho F0 H0 F H σ D E c => by
  cases ho
  rw [hn] at c
  exact c F H σ (E.weak hw)
theorem bx_seq {k : O1 → Option O} (h1 : BX K ts env enc1 m1) (h2 : ∀ o1, m1 = some o1 → (∃ env', enc1 o1 = .nx env' ∧ BX K tu env' enc (k o1)) ∨ (∃ o, k o1 = some o ∧ enc o = enc1 o1 ∧ ∀ e, enc1 o1 ≠ .nx e)) : BX K (tSeq ts tu) env enc (m1.bind k) := fun o ho F0 H0 F H σ D E c => by
  obtain ⟨o1, e1, e2⟩ := Option.bind_eq_some_iff.mp ho
  refine h1 o1 e1 { D with nx := tu D } E ?_
  rcases h2 o1 e1 with ⟨env', a, b⟩ | ⟨o', a, b, nn⟩
  · rw [a]
    exact fun F1 H1 σ1 E1 => b o e2 D E1 c
  · rw [a] at e2; cases e2
    rw [b] at c
    cases q : enc1 o1 with
    | nx e => exact absurd q (nn e)
    | bk e => rw [q] at c; exact c
    | ct e => rw [q] at c; exact c
    | rt r => rw [q] at c; exact c
    | ex e x W => rw [q] at c; exact c
    | re e t => rw [q] at c; exact c
theorem bx_then {envS : O1 → List Sl} {k : O1 → Option O} (h1 : BX K ts env (fun s => .nx (envS s)) m1) (h2 : ∀ s, m1 = some s → BX K tu (envS s) enc (k s)) : BX K (tSeq ts tu) env enc (m1.bind k) :=
  bx_seq h1 fun s e => .inl ⟨envS s, rfl, h2 s e⟩
theorem bx_if {b : Bool} (ht : ET K tt env b) (h1 : b = true → BX K ts env enc m) (h2 : b = false → BX K tu env enc n) : BX K (tIfS tt ts tu) env enc (if b = true then m else n) := fun o ho F0 H0 F H σ D E c =>
  ht E _ fun F1 H1 z1 => by
    cases b with
    | true => exact h1 rfl o ho D (E.step z1) c
    | false => exact h2 rfl o ho D (E.step z1) c
theorem bx_ifRet {b : Bool} (ht : ET K tt env b) (h1 : b = true → BX K ts env enc m) (hn : ∀ o e, m = some o → enc o ≠ .nx e) (h2 : b = false → BX K tu env enc n) : BX K (tSeq (tIfS tt ts tNext) tu) env enc (if b = true then m else n) := fun o ho F0 H0 F H σ D E c =>
  ht E _ fun F1 H1 z1 => by
    cases b with
    | true =>
      refine h1 rfl o ho { D with nx := tu D } (E.step z1) ?_
      cases q : enc o with
      | nx e => exact absurd q (hn o e ho)
      | bk e => rw [q] at c; exact c
      | ct e => rw [q] at c; exact c
      | rt r => rw [q] at c; exact c
      | ex e x W => rw [q] at c; exact c
      | re e t => rw [q] at c; exact c
    | false => exact h2 rfl o ho D (E.step z1) c
theorem bx_ifNo {b : Bool} (ht : ET K tt env b) (h2 : b = false → BX K tu env enc n) : BX K (tSeq (tIfS tt ts tNext) tu) env enc (if b = true then none else n) := fun o ho F0 H0 F H σ D E c =>
  ht E _ fun F1 H1 z1 => by
    cases b with
    | true => cases ho
    | false => exact h2 rfl o ho D (E.step z1) c
def forL (f : S → α → Option (Lp S R)) : S → List α → Option (S ⊕ R)
  | s, [] => some (.inl s)
  | s, x :: xs => (f s x).bind fun o => match o with
    | .nx s' => forL f s' xs
    | .bk s' => some (.inl s')
    | .rt r => some (.inr r)
def encL (envS : S → List Sl) (encR : R → Out) : Lp S R → Out
  | .nx s => .nx (envS s)
  | .bk s => .bk (envS s)
  | .rt r => encR r
def encE (envS : S → List Sl) (encR : R → Out) : S ⊕ R → Out
  | .inl s => .nx (envS s)
  | .inr r => encR r
theorem bx_forL {envS : S → List Sl} {encR : R → Out} {e : α → PyData} {envB : S → α → List Sl} {f : S → α → Option (Lp S R)} {s0 : S} {xs : List α} (hi : EIs K wi env (xs.map e)) (hw : Wk env (envS s0)) (hr : ∀ r, (encR r).fin)
    (hg : ∀ s x, x ∈ xs → EG K g (envS s) (e x) (envB s x)) (hb : ∀ s x, x ∈ xs → BX K ts (envB s x) (encL envS encR) (f s x)) : BX K (tFor wi g ts) env (encE envS encR) (forL f s0 xs) := fun o ho F0 H0 F H σ D E c =>
  hi E _ fun J F1 H1 z1 hl it => by
    have z01 := E.z.trans z1
    refine ⟨fun i m σ' H' => ∃ s F', EnvOk K F1 H0 F' H' σ' (envS s) ∧ m = xs.length - i ∧ i ≤ xs.length ∧ forL f s (xs.drop i) = some o, ⟨xs.length, s0, F1, (E.step z1).base.weak hw, rfl, Nat.zero_le _, ho⟩, ?_⟩
    rintro i m σ' H' ⟨s, F', E', rfl, hi', hf⟩
    by_cases hlt : i < xs.length
    · refine .inr ?_
      have hd : (xs.map e)[i]? = some (e xs[i]) := by rw [List.getElem?_map, List.getElem?_eq_getElem hlt]; rfl
      obtain ⟨g1, g2⟩ := it.go F' H' i _ E'.z.f E'.fh hd
      rw [List.drop_eq_getElem_cons hlt] at hf
      obtain ⟨o1, f1, f2⟩ := Option.bind_eq_some_iff.mp hf
      refine ⟨g1, fun σ2 H2 => ∃ s2 F2, EnvOk K F1 H0 F2 H2 σ2 (envS s2) ∧ o1 = .nx s2, ?_, fun x H2 y => ?_⟩
      · rintro σ2 H2 ⟨s2, F2, E2, rfl⟩
        exact ⟨xs.length - (i + 1), by omega, s2, F2, E2, rfl, hlt, f2⟩
      · obtain ⟨F2, z2, hx⟩ := g2 x H2 y
        refine hg s xs[i] (List.getElem_mem hlt) (E'.step z2) hx _ fun σ3 F3 H3 E3 => ?_
        refine hb s xs[i] (List.getElem_mem hlt) o1 f1 _ E3 ?_
        cases o1 with
        | nx s2 => exact fun F4 H4 σ4 E4 => ⟨s2, F4, E4, rfl⟩
        | bk s2 =>
          cases f2
          exact fun F4 H4 σ4 E4 => c F4 H4 σ4 (E4.back z01)
        | rt r =>
          cases f2
          show Cont K F1 H0 _ (encR r)
          have c' : Cont K F0 H0 D (encR r) := c
          exact Cont.fin (D := D) (by rfl) (hr r) (Cont.base z01 c')
    · have hi2 : i = xs.length := by omega
      subst hi2
      rw [List.drop_length] at hf
      cases hf
      refine .inl ⟨?_, c F' H' σ' (E'.back z01)⟩
      have := it.stop F' H' E'.z.f E'.fh
      rw [List.length_map] at this
      exact this
def forS (f : S → α → Option S) : S → List α → Option S
  | s, [] => some s
  | s, x :: xs => (f s x).bind fun s' => forS f s' xs
theorem forS_L {f : S → α → Option S} : ∀ {xs : List α} {s : S}, forL (R := Empty) (fun s x => (f s x).map Lp.nx) s xs = (forS f s xs).map Sum.inl
  | [], s => rfl
  | x :: xs, s => by
    unfold forL forS
    cases q : f s x with
    | none => rfl
    | some s' => exact forS_L (xs := xs) (s := s')
theorem bx_forS {envS : S → List Sl} {e : α → PyData} {envB : S → α → List Sl} {f : S → α → Option S} {s0 : S} {xs : List α} (hi : EIs K wi env (xs.map e)) (hw : Wk env (envS s0))
    (hg : ∀ s x, x ∈ xs → EG K g (envS s) (e x) (envB s x)) (hb : ∀ s x, x ∈ xs → BX K ts (envB s x) (fun s' => .nx (envS s')) (f s x)) : BX K (tFor wi g ts) env (fun s => .nx (envS s)) (forS f s0 xs) := fun o ho => by
  have h := bx_forL (R := Empty) (encR := fun r => nomatch r) (f := fun s x => (f s x).map Lp.nx) hi hw (fun r => nomatch r) hg (fun s x hx => bx_map (hb s x hx) fun o => rfl)
  rw [forS_L] at h
  exact h (.inl o) (by rw [ho]; rfl)
def forR (f : S → α → Option (S ⊕ R)) : S → List α → Option (S ⊕ R)
  | s, [] => some (.inl s)
  | s, x :: xs => (f s x).bind fun o => match o with
    | .inl s' => forR f s' xs
    | .inr r => some (.inr r)
def toLp : S ⊕ R → Lp S R
  | .inl s => .nx s
  | .inr r => .rt r
theorem forR_L {f : S → α → Option (S ⊕ R)} : ∀ {xs : List α} {s : S}, forL (fun s x => (f s x).map toLp) s xs = forR f s xs
  | [], s => rfl
  | x :: xs, s => by
    unfold forL forR
    cases q : f s x with
    | none => rfl
    | some s' =>
      cases s' with
      | inl s' => exact forR_L (xs := xs) (s := s')
      | inr r => rfl
theorem bx_forR {envS : S → List Sl} {encR : R → Out} {e : α → PyData} {envB : S → α → List Sl} {f : S → α → Option (S ⊕ R)} {s0 : S} {xs : List α} (hi : EIs K wi env (xs.map e)) (hw : Wk env (envS s0)) (hr : ∀ r, (encR r).fin)
    (hg : ∀ s x, x ∈ xs → EG K g (envS s) (e x) (envB s x)) (hb : ∀ s x, x ∈ xs → BX K ts (envB s x) (encE envS encR) (f s x)) : BX K (tFor wi g ts) env (encE envS encR) (forR f s0 xs) := by
  have h := bx_forL (encR := encR) (f := fun s x => (f s x).map toLp) hi hw hr hg (fun s x hx => bx_map (hb s x hx) fun o => by cases o <;> rfl)
  rw [forR_L] at h
  exact h
def whR (c : S → Option Bool) (f : S → Option (S ⊕ R)) : Nat → S → Option (S ⊕ R)
  | 0, _ => none
  | n + 1, s => (c s).bind fun b => if b = true then (f s).bind fun o => match o with
    | .inl s' => whR c f n s'
    | .inr r => some (.inr r) else some (.inl s)
def whS (c : S → Option Bool) (f : S → Option S) : Nat → S → Option S
  | 0, _ => none
  | n + 1, s => (c s).bind fun b => if b = true then (f s).bind fun s' => whS c f n s' else some s
theorem bx_whR {envS : S → List Sl} {encR : R → Out} {cc : S → Option Bool} {f : S → Option (S ⊕ R)} {s0 : S} {n : Nat} (hw : Wk env (envS s0)) (hr : ∀ r, (encR r).fin)
    (hc : ∀ s, ETo K tt (envS s) (cc s)) (hb : ∀ s, BX K ts (envS s) (encE envS encR) (f s)) : BX K (tWhile tt ts) env (encE envS encR) (whR cc f n s0) := fun o ho F0 H0 F H σ D E c => by
  refine ⟨fun m σ' H' => ∃ s F', EnvOk K F0 H0 F' H' σ' (envS s) ∧ whR cc f m s = some o, ⟨n, s0, F, E.weak hw, ho⟩, ?_⟩
  rintro m σ' H' ⟨s, F', E', hf⟩
  cases m with
  | zero => cases hf
  | succ m =>
    obtain ⟨b, e1, e2⟩ := Option.bind_eq_some_iff.mp hf
    refine hc s b e1 E' _ fun F1 H1 z1 => ?_
    cases b with
    | true =>
      rw [if_pos rfl] at e2 ⊢
      obtain ⟨o1, f1, f2⟩ := Option.bind_eq_some_iff.mp e2
      refine ⟨fun σ2 H2 => ∃ s2 F2, EnvOk K F0 H0 F2 H2 σ2 (envS s2) ∧ o1 = .inl s2, ?_, ?_⟩
      · rintro σ2 H2 ⟨s2, F2, E2, rfl⟩
        exact ⟨m, Nat.lt_succ_self _, s2, F2, E2, f2⟩
      · refine hb s o1 f1 _ (E'.step z1) ?_
        cases o1 with
        | inl s2 => exact fun F4 H4 σ4 E4 => ⟨s2, F4, E4, rfl⟩
        | inr r =>
          cases f2
          show Cont K F0 H0 _ (encR r)
          have c' : Cont K F0 H0 D (encR r) := c
          exact Cont.fin (D := D) (by rfl) (hr r) c'
    | false =>
      rw [if_neg Bool.false_ne_true] at e2 ⊢
      cases e2
      exact c F1 H1 σ' (E'.step z1)
theorem whS_R {cc : S → Option Bool} {f : S → Option S} : ∀ {n : Nat} {s : S}, whR (R := Empty) cc (fun s => (f s).map Sum.inl) n s = (whS cc f n s).map Sum.inl
  | 0, s => rfl
  | n + 1, s => by
    unfold whR whS
    cases q : cc s with
    | none => rfl
    | some b =>
      cases b with
      | false => rfl
      | true =>
        show ((Option.map Sum.inl (f s)).bind _) = Option.map _ ((f s).bind _)
        cases q2 : f s with
        | none => rfl
        | some s' => exact whS_R (n := n) (s := s')
theorem bx_whS {envS : S → List Sl} {cc : S → Option Bool} {f : S → Option S} {s0 : S} {n : Nat} (hw : Wk env (envS s0))
    (hc : ∀ s, ETo K tt (envS s) (cc s)) (hb : ∀ s, BX K ts (envS s) (fun s' => .nx (envS s')) (f s)) : BX K (tWhile tt ts) env (fun s => .nx (envS s)) (whS cc f n s0) := fun o ho => by
  have h := bx_whR (R := Empty) (encR := fun r => nomatch r) (f := fun s => (f s).map Sum.inl) (n := n) hw (fun r => nomatch r) hc (fun s => bx_map (hb s) fun o => rfl)
  rw [whS_R] at h
  exact h (.inl o) (by rw [ho]; rfl)
end
end Rb

set_option Elab.async false
set_option linter.all false
set_option maxRecDepth 100000
set_option maxHeartbeats 2000000
namespace Rb
open PySem PySem.Spec PyProof.Rows L2
def wipeE (env : List Sl) : List Nat → List Sl
  | [] => env
  | v :: vs => (wipeE env vs).set v .un
theorem EnvOk.wipe {K : Frag} {F0 H0 F H : Hp} {σ : List (Option V)} {env : List Sl} (E : EnvOk K F0 H0 F H σ env) : ∀ vs : List Nat, EnvOk K F0 H0 F H (L2.wipe σ vs) (wipeE env vs)
  | [] => E
  | v :: vs => (E.wipe vs).forget v none
theorem wipe_sub {σ : List (Option V)} {vs : List Nat} : ∀ {ws : List Nat}, (∀ w ∈ ws, w ∈ vs) → wipe (wipe σ ws) vs = wipe σ vs
  | [], _ => rfl
  | w :: ws, h => by
    show wipe ((wipe σ ws).set w none) vs = wipe σ vs
    rw [wipe_set (h w List.mem_cons_self), wipe_sub fun x hx => h x (List.mem_cons_of_mem _ hx)]
theorem Fz.mutNew {F H F' H' : Hp} {p : Addr} {o : HO} (z : Fz F H F' H') (hn : H p = none) (hf : F' p = none) : Fz F H F' (upd H' p o) := by
  refine ⟨z.f, fun a u q => ?_, fun a u q n => ?_⟩
  · rw [upd_ne (ne_of_none q hf)]; exact z.fh a u q
  · rw [upd_ne (ne_of_none q hn)]; exact z.own' a u q n
section
variable {K : Frag} {env env' env1 env2 : List Sl} {d : PyData} {ds es : List PyData} {g : TG} {gs : TGs} {vs : List Nat} {te ti ta tb tl : TE} {wi : TI} {α β S R O O1 : Type} {tt : TT}
def compM (t : α → Option Bool) (f : α → Option β) : List α → Option (List β)
  | [] => some []
  | x :: xs => (t x).bind fun b => if b = true then (f x).bind fun y => (compM t f xs).bind fun ys => some (y :: ys) else compM t f xs
theorem exw_lc {e : α → PyData} {e' : β → PyData} {t : α → Option Bool} {f : α → Option β} {xs : List α} {ys : List β} {envB : α → List Sl} (hi : EI K wi env (xs.map e)) (hm : compM t f xs = some ys) (hg : ∀ x, x ∈ xs → EGc K g (wipeE env vs) (e x) (envB x) vs)
    (ht : ∀ x, x ∈ xs → ETo K tt (envB x) (t x)) (he : ∀ x, x ∈ xs → EXo K te (envB x) e' (f x)) : EXw K (tLc wi g tt te vs) env (ys.map e') := fun F0 H0 F H σ E Q q =>
  hi E _ fun J F1 H1 z1 hl it D hD => by
    have hFD : F1 D = none := Evl.fresh_back z1.fh hD
    refine ⟨fun i m H' => ∃ F' done rest acc, Fz F1 H1 F' H' ∧ F' D = none ∧ H' D = some (.lst acc) ∧ DqAll F' acc (done.map e') ∧ compM t f (xs.drop i) = some rest ∧ ys = done ++ rest ∧ done.length ≤ i ∧ m = xs.length - i ∧ i ≤ xs.length,
      ⟨xs.length, F1, [], ys, [], Fz.add z1.fh hD, hFD, upd_same, .nil, hm, rfl, Nat.le_refl _, rfl, Nat.zero_le _⟩, ?_⟩
    rintro i m H' ⟨F', done, rest, acc, zz, fD, hD', ha, hc, hy, hdl, rfl, hi'⟩
    by_cases hlt : i < xs.length
    · refine .inr ?_
      have hd : (xs.map e)[i]? = some (e xs[i]) := by rw [List.getElem?_map, List.getElem?_eq_getElem hlt]; rfl
      obtain ⟨g1, g2⟩ := it.go F' H' i _ zz zz.fh hd
      rw [List.drop_eq_getElem_cons hlt] at hc
      obtain ⟨b, c1, c2⟩ := Option.bind_eq_some_iff.mp hc
      refine ⟨g1, fun H2 => ∃ F' done rest acc, Fz F1 H1 F' H2 ∧ F' D = none ∧ H2 D = some (.lst acc) ∧ DqAll F' acc (done.map e') ∧ compM t f (xs.drop (i + 1)) = some rest ∧ ys = done ++ rest ∧ done.length ≤ i + 1, ?_, fun x H2 y => ?_⟩
      · rintro H2 ⟨F2, done2, rest2, acc2, z2, f2, h2, a2, k2, y2, l2⟩
        exact ⟨xs.length - (i + 1), by omega, F2, done2, rest2, acc2, z2, f2, h2, a2, k2, y2, l2, rfl, hlt⟩
      · obtain ⟨F2, z2, hx⟩ := g2 x H2 y
        have mem := List.getElem_mem hlt
        have E2 := ((E.step (z1.trans (zz.trans z2))).wipe vs)
        refine hg xs[i] mem E2 hx _ fun σ3 E3 w3 => ⟨w3.trans (wipe_sub fun _ h => h), ?_⟩
        refine ht xs[i] mem b c1 E3 _ fun F4 H4 z4 => ?_
        obtain ⟨d1, d2⟩ := (z2.trans z4).own D _ hD' fD
        cases b with
        | true =>
          rw [if_pos rfl] at c2 ⊢
          obtain ⟨yv, c3, c4⟩ := Option.bind_eq_some_iff.mp c2
          obtain ⟨rest', c5, c6⟩ := Option.bind_eq_some_iff.mp c4
          cases c6
          refine he xs[i] mem yv c3 (E3.step z4) _ fun v F5 H5 z5 hv => ?_
          obtain ⟨d3, d4⟩ := z5.own D _ d2 d1
          have hlen := ha.len
          rw [List.length_map] at hlen
          rw [List.length_map] at hl
          refine ⟨acc, d4, lim_lt (by omega), F5, done ++ [yv], rest', acc ++ [v], (((zz.trans z2).trans z4).trans z5).mutNew hD d3, d3, upd_same, ?_, c5, by rw [hy]; simp, by rw [List.length_append]; exact Nat.succ_le_succ hdl⟩
          rw [List.map_append]
          exact (DqAll.mono ((z2.f.trans z4.f).trans z5.f) _ _ ha).app (.cons hv .nil)
        | false =>
          rw [if_neg Bool.false_ne_true] at c2 ⊢
          exact ⟨F4, done, rest, acc, (zz.trans z2).trans z4, d1, d2, DqAll.mono (z2.f.trans z4.f) _ _ ha, c2, hy, Nat.le_succ_of_le hdl⟩
    · have hi2 : i = xs.length := by omega
      subst hi2
      rw [List.drop_length] at hc
      cases hc
      refine .inl ⟨?_, ?_⟩
      · have := it.stop F' H' zz zz.fh
        rw [List.length_map] at this
        exact this
      · rw [List.append_nil] at hy
        subst hy
        refine q D acc F' H' (z1.trans zz) (z1.hn hD) fD hD' ha ?_
        rw [List.length_map] at hl ⊢
        exact Nat.le_trans hdl hl
def Prom (I : List PyData → Rv → Prop) : Sp := fun vs H Q _ => ∃ F ds r, Ex F H ∧ DqAll F vs ds ∧ I ds r ∧ RetOk F H Q r
def Im {A R : Type} (ea : A → List PyData) (er : R → Rv) (f : A → Option R) : List PyData → Rv → Prop := fun ds r => ∃ a y, ds = ea a ∧ f a = some y ∧ r = er y
theorem ex_call {I : List PyData → Rv → Prop} {tr : TA} {E : XK} (ha : EA K tr env ds) (hI : I ds (.sh d)) : EX K (tCall (Prom I) [] E tr) env d := fun F0 H0 F H σ E Q q =>
  ha E _ fun vs F1 H1 z1 a1 => by
    rw [List.append_nil]
    exact ⟨F1, ds, _, (E.step z1).fh, a1, hI, fun F2 H2 v z2 hv => q v F2 H2 (z1.trans z2) hv⟩
theorem exw_call {I : List PyData → Rv → Prop} {tr : TA} {E : XK} (ha : EA K tr env ds) (hI : I ds (.fr es)) : EXw K (tCall (Prom I) [] E tr) env es := fun F0 H0 F H σ E Q q =>
  ha E _ fun vs F1 H1 z1 a1 => by
    rw [List.append_nil]
    exact ⟨F1, ds, _, (E.step z1).fh, a1, hI, fun F2 H2 p vs z2 hn hf h1 h2 h3 => q p vs F2 H2 (z1.trans z2) (z1.hn hn) hf h1 h2 h3⟩
def startE (N : List Str) (ds : List PyData) : List Sl := ds.map .sh ++ List.replicate (N.length - ds.length) .un
theorem start_ok {K : Frag} {N : List Str} {ws : List V} {F H : Hp} (e : Ex F H) (a : DqAll F ws ds) : EnvOk K F H F H (L2.start N ws) (startE N ds) := by
  have hl := a.len
  refine EnvOk.flat (Fz.refl e) ?_ fun i s h => ?_
  · unfold L2.start startE
    simp only [List.length_append, List.length_map, List.length_replicate, hl]
  · unfold L2.start
    unfold startE at h
    by_cases c : i < ds.length
    · rw [List.getElem?_append_left (by rw [List.length_map]; exact c), List.getElem?_map] at h
      rw [List.getElem?_append_left (by rw [List.length_map, hl]; exact c), List.getElem?_map]
      obtain ⟨d, h1, h2⟩ := Option.map_eq_some_iff.mp h
      subst h2
      obtain ⟨v, h3, h4⟩ := a.get h1
      rw [h3]
      exact ⟨_, rfl, ⟨v, rfl, h4⟩, rfl⟩
    · rw [List.getElem?_append_right (by rw [List.length_map]; omega), List.length_map] at h
      rw [List.getElem?_append_right (by rw [List.length_map, hl]; omega), List.length_map, hl]
      obtain ⟨h1, h2⟩ := List.getElem?_eq_some_iff.mp h
      rw [List.getElem_replicate] at h2
      subst h2
      rw [List.length_replicate] at h1
      refine ⟨none, ?_, trivial, rfl⟩
      rw [List.getElem?_replicate, if_pos h1]
theorem fn_ok {A R : Type} {P : Program} {w : World} {mg : Str → Option Value} {base : Heap} {x qual : Str} {params : Arguments} {body : List Stmt} {scope : Scope} {f : Addr} {fd : FuncData} {N ps : List Str} {k : Nat} {ea : A → List PyData} {er : R → Rv} {fm : A → Option R} {en : R → Out}
    (F : FunD K x qual params body scope [] [] f fd) (S : FnScope N ps scope) (hl : ∀ a, (ea a).length = ps.length) (hn : ∀ y, en y = .rt (er y) ∨ (er y = .sh .none ∧ ∃ e, en y = .nx e))
    (hb : ∀ (cdv : Value) (A' : Around) (outer : List Env) (s : Shared) (H : Hp) (E : XK), Room k (A'.deeper (envOfC qual scope s.heap.objs.size f cdv)) →
      ∃ t, PSs (cxOf CX0 P w K mg base N qual scope f cdv A' outer s H E).nox body t ∧ ∀ a, BX K t (startE N (ea a)) en (fm a)) : FnOk P w K mg base CX0 (k + 1) f fd ps (Prom (Im ea er fm)) := by
  refine F.ok S (fun vs H Q E h => ?_) (fun cdv A' outer s H vs Q E hr h => ?_)
  · obtain ⟨F, ds, r, e, a, ⟨a', y, rfl, _, _⟩, _⟩ := h
    rw [a.len, hl]
  · obtain ⟨F, ds, r, e, a, ⟨a', y, rfl, hy, rfl⟩, q⟩ := h
    obtain ⟨t, p, b⟩ := hb cdv A' outer s H E hr
    refine ⟨t, PSs.nox p, b a' y hy _ (start_ok e a) ?_⟩
    rcases hn y with hn | ⟨hn, e', he⟩
    · rw [hn]; exact q
    · rw [he]
      rw [hn] at q
      exact fun F1 H1 σ1 E1 => q F1 H1 .non E1.z .non
theorem ex_lenL {e : α → PyData} {xs : List α} (ha : EXl K ta env (xs.map e)) : EX K (tCB (fun ws H Q => ∃ x n, ws = [x] ∧ LenV K x H n ∧ Q (.int n) H) (tCons ta tNil)) env (.int (xs.length : Int)) := fun F0 H0 F H σ E Q q =>
  ha E _ fun p vs F1 H1 z1 h1 a1 l1 => by
    have := a1.len
    rw [List.length_map] at this
    exact ⟨_, xs.length, rfl, .inl ⟨vs, SqL.of h1, this.symm⟩, q _ F1 H1 z1 (.int _)⟩
theorem ex_lenT {e : α → PyData} {xs : List α} (ha : EX K ta env (.tuple (xs.map e))) : EX K (tCB (fun ws H Q => ∃ x n, ws = [x] ∧ LenV K x H n ∧ Q (.int n) H) (tCons ta tNil)) env (.int (xs.length : Int)) := fun F0 H0 F H σ E Q q =>
  ha E _ fun v F1 H1 z1 hv => by
    cases hv with
    | tup h1 a1 l1 =>
    have := a1.len
    rw [List.length_map] at this
    exact ⟨_, xs.length, rfl, .inr ⟨_, SqT.of (z1.fh _ _ h1), this.symm⟩, q _ F1 H1 z1 (.int _)⟩
theorem ex_lenS {x : Str} (ha : EX K ta env (.str x)) : EX K (tCB (fun ws H Q => ∃ x n, ws = [x] ∧ LenV K x H n ∧ Q (.int n) H) (tCons ta tNil)) env (.int (x.length : Int)) := fun F0 H0 F H σ E Q q =>
  ha E _ fun v F1 H1 z1 hv => by
    cases hv with
    | str _ l => exact ⟨_, x.length, rfl, ⟨lim_le l, rfl⟩, q _ F1 H1 z1 (.int _)⟩
theorem exw_listL (ha : EXl K ta env ds) : EXw K (tCB (fun xs H Q => ∃ p ys, xs = [.ref p] ∧ (SqL K H p ys ∨ SqT K H p ys) ∧ ∀ l, H l = none → Q (.ref l) (upd H l (.lst ys))) (tCons ta tNil)) env ds := fun F0 H0 F H σ E Q q =>
  ha E _ fun p vs F1 H1 z1 h1 a1 l1 => ⟨p, vs, rfl, .inl (SqL.of h1), fun l hl => q l vs F1 _ (z1.trans (Fz.add z1.fh hl)) (z1.hn hl) (Evl.fresh_back z1.fh hl) upd_same a1 l1⟩
theorem exw_listT (ha : EX K ta env (.tuple ds)) : EXw K (tCB (fun xs H Q => ∃ p ys, xs = [.ref p] ∧ (SqL K H p ys ∨ SqT K H p ys) ∧ ∀ l, H l = none → Q (.ref l) (upd H l (.lst ys))) (tCons ta tNil)) env ds := fun F0 H0 F H σ E Q q =>
  ha E _ fun v F1 H1 z1 hv => by
    cases hv with
    | tup h1 a1 l1 => exact ⟨_, _, rfl, .inr (SqT.of (z1.fh _ _ h1)), fun l hl => q l _ F1 _ (z1.trans (Fz.add z1.fh hl)) (z1.hn hl) (Evl.fresh_back z1.fh hl) upd_same a1 l1⟩
theorem ex_tupL (ha : EXl K ta env ds) : EX K (tCB (fun xs H Q => ∃ p ys, xs = [.ref p] ∧ ((SqL K H p ys ∧ ∀ l, H l = none → Q (.ref l) (upd H l (.tup ys))) ∨ (SqT K H p ys ∧ Q (.ref p) H))) (tCons ta tNil)) env (.tuple ds) := fun F0 H0 F H σ E Q q =>
  ha E _ fun p vs F1 H1 z1 h1 a1 l1 => ⟨p, vs, rfl, .inl ⟨SqL.of h1, fun l hl => q _ (upd F1 l (.tup vs)) _ (z1.trans (Fz.new z1.fh hl)) (.tup upd_same (DqAll.mono (Evl.Ex.new (Evl.fresh_back z1.fh hl)) _ _ a1) l1)⟩⟩
theorem ex_abs {i : Int} (ha : EX K ta env (.int i)) : EX K (tCB (fun xs H Q => ∃ i, xs = [.int i] ∧ Q (.int (if i < 0 then -i else i)) H) (tCons ta tNil)) env (.int (if i < 0 then -i else i)) := fun F0 H0 F H σ E Q q =>
  ha E _ fun v F1 H1 z1 hv => by
    cases hv
    exact ⟨i, rfl, q _ F1 H1 z1 (.int _)⟩
theorem inV_ints {i : Int} : ∀ {ns : List Int}, inV (.int i) (ns.map V.int) = decide (i ∈ ns)
  | [] => rfl
  | n :: ns => by
    have ih := inV_ints (i := i) (ns := ns)
    unfold inV at ih ⊢
    rw [List.map_cons, List.any_cons, ih]
    show ((n == i) || decide (i ∈ ns)) = decide (i ∈ n :: ns)
    by_cases c : n = i
    · subst c; simp
    · have c' : ¬ i = n := fun z => c z.symm
      simp [c, c']
theorem flat_ints : ∀ {ns : List Int}, (ns.map V.int).all flatV = true
  | [] => rfl
  | n :: ns => by rw [List.map_cons, List.all_cons, flat_ints]; rfl
theorem ex_inL {i : Int} {ns : List Int} (ha : EX K ta env (.int i)) (hb : EXl K tb env (ns.map PyData.int)) : EX K (tOp (rIn K false) ta tb) env (.bool (decide (i ∈ ns))) := fun F0 H0 F H σ E Q q =>
  ha E _ fun v F1 H1 z1 hv => hb (E.step z1) _ fun p ws F2 H2 z2 h1 a1 l1 => by
    cases hv
    have := a1.ints
    subst this
    refine ⟨p, _, rfl, .inl (SqL.of h1), rfl, flat_ints, ?_⟩
    rw [inV_ints]
    exact q _ F2 H2 (z1.trans z2) (.bl _)
theorem ex_ninL {i : Int} {ns : List Int} (ha : EX K ta env (.int i)) (hb : EXl K tb env (ns.map PyData.int)) : EX K (tOp (rIn K true) ta tb) env (.bool (!decide (i ∈ ns))) := fun F0 H0 F H σ E Q q =>
  ha E _ fun v F1 H1 z1 hv => hb (E.step z1) _ fun p ws F2 H2 z2 h1 a1 l1 => by
    cases hv
    have := a1.ints
    subst this
    refine ⟨p, _, rfl, .inl (SqL.of h1), rfl, flat_ints, ?_⟩
    rw [inV_ints]
    exact q _ F2 H2 (z1.trans z2) (.bl _)
def cutA (xs : List α) (lo hi : Option Int) : List α := (xs.drop (HT.sIx xs.length 0 lo)).take (HT.sIx xs.length xs.length hi - HT.sIx xs.length 0 lo)
theorem cutA_map {f : α → β} {xs : List α} {lo hi : Option Int} : cutA (xs.map f) lo hi = (cutA xs lo hi).map f := by
  unfold cutA
  rw [List.length_map, List.map_take, List.map_drop]
theorem cutA_len {xs : List α} {lo hi : Option Int} : (cutA xs lo hi).length ≤ xs.length := by
  unfold cutA
  rw [List.length_take, List.length_drop]
  omega
theorem DqAll.cut {H : Hp} {ws : List V} {lo hi : Option Int} (a : DqAll H ws ds) : DqAll H (cutV ws lo hi) (cutA ds lo hi) := by
  unfold cutV cutA
  rw [a.len]
  exact (a.drop _).take _
theorem eo_none : EO K tNoPart env none := fun F0 H0 F H σ E Q q => q F H (Fz.refl E.fh)
theorem eo_some {i : Int} (h : EX K te env (.int i)) : EO K (tPart te) env (some i) := fun F0 H0 F H σ E Q q => h E _ fun v F1 H1 z1 hv => by
  cases hv
  exact ⟨i, rfl, q F1 H1 z1⟩
theorem exw_sl {tl th : TO} {lo hi : Option Int} {e : α → PyData} {xs : List α} (h : EXl K te env (xs.map e)) (hl : EO K tl env lo) (hh : EO K th env hi) : EXw K (tSl (rSlL K) te tl th) env ((cutA xs lo hi).map e) := fun F0 H0 F H σ E Q q =>
  h E _ fun p vs F1 H1 z1 h1 a1 l1 => hl (E.step z1) _ fun F2 H2 z2 => hh ((E.step z1).step z2) _ fun F3 H3 z3 => by
    have z := (z1.trans z2).trans z3
    refine ⟨p, vs, rfl, SqL.of ((z2.trans z3).hh z1.fh _ _ h1), fun r hr => q r _ F3 _ (z.trans (Fz.add z.fh hr)) (z.hn hr) (Evl.fresh_back z.fh hr) upd_same ?_ ?_⟩
    · rw [← cutA_map]; exact (DqAll.mono (z2.f.trans z3.f) _ _ a1).cut
    · rw [← cutA_map]; exact Nat.le_trans cutA_len l1
theorem exw_slSc {tl th : TO} {lo hi : Option Int} {e : α → PyData} {xs : List α} {i : Nat} (h : env[i]? = some (.sc (xs.map e))) (hl : EO K tl env lo) (hh : EO K th env hi) : EXw K (tSl (rSlL K) (tVar i) tl th) env ((cutA xs lo hi).map e) := fun F0 H0 F H σ E Q q => by
  obtain ⟨o, h1, p, vs, h2, h3, h4, h5⟩ := E.sl i _ h
  subst h2
  refine ⟨_, h1, hl E _ fun F2 H2 z2 => hh (E.step z2) _ fun F3 H3 z3 => ?_⟩
  have z := z2.trans z3
  refine ⟨p, vs, rfl, sq_mono z.fh (sq_mono z.f h3), fun r hr => q r _ F3 _ (z.trans (Fz.add z.fh hr)) (z.hn hr) (Evl.fresh_back z.fh hr) upd_same ?_ ?_⟩
  · rw [← cutA_map]; exact (DqAll.mono z.f _ _ h4).cut
  · rw [← cutA_map]; exact Nat.le_trans cutA_len h5
theorem exw_listRg1 {n : Int} (h : EX K ta env (.int n)) (hn : rngOk n) : EXw K (tLstRg (tRg1 ta)) env ((rng 0 n).map PyData.int) := fun F0 H0 F H σ E Q q => h E _ fun v F1 H1 z1 hv => by
  cases hv
  have l := rng_lim (m := 0) (by decide) hn
  have e : rgV 0 n = (rng 0 n).map V.int := by unfold rgV rng; rw [List.map_map]; rfl
  unfold rngOk at hn
  refine ⟨n, rfl, ⟨by omega, by omega, by omega, by omega, by omega⟩, fun r hr => q r _ F1 _ (z1.trans (Fz.add z1.fh hr)) (z1.hn hr) (Evl.fresh_back z1.fh hr) upd_same ?_ l⟩
  rw [e]
  exact DqAll.ints' _
end
end Rb

set_option Elab.async false
set_option linter.all false
set_option maxRecDepth 100000
set_option maxHeartbeats 2000000
namespace Rb
open PySem PySem.Spec PyProof.Rows L2
abbrev eL {α : Type} (e : α → PyData) (xs : List α) : PyData := .list (xs.map e)
abbrev eT {α : Type} (e : α → PyData) (xs : List α) : PyData := .tuple (xs.map e)
abbrev eN (_ : Unit) : PyData := .none
abbrev eP {α β : Type} (e : α → PyData) (f : β → PyData) (x : α × β) : PyData := .tuple [e x.1, f x.2]
abbrev eP3 {α β γ : Type} (e : α → PyData) (f : β → PyData) (g : γ → PyData) (x : α × β × γ) : PyData := .tuple [e x.1, f x.2.1, g x.2.2]
def eO {α : Type} (e : α → PyData) : Option α → PyData
  | none => .none
  | some x => e x
def grd (p : Prop) [Decidable p] : Option Unit := if p then some () else none
theorem grd_ok {p : Prop} [Decidable p] {u : Unit} (h : grd p = some u) : p := by
  unfold grd at h
  by_cases c : p
  · exact c
  · rw [if_neg c] at h; cases h
theorem grd_true {p : Prop} [Decidable p] (h : p) : grd p = some () := by unfold grd; rw [if_pos h]
instance (i j : Int) : Decidable (CMul i j) := inferInstanceAs (Decidable (_ ∨ _))
instance (i j : Int) : Decidable (CDivW i j) := inferInstanceAs (Decidable (_ ∧ _))
instance (i j : Int) : Decidable (CPow i j) := inferInstanceAs (Decidable (_ ∧ _))
def fuel : Nat := 1000
section
variable {K : Frag} {env env' env1 env2 : List Sl} {d : PyData} {ds es : List PyData} {g : TG} {gs : TGs} {vs : List Nat} {te ti ta tb tl : TE} {wi : TI} {α β S R O O1 : Type} {tt : TT} {ts tu tw : TS} {enc : O → Out} {enc1 : O1 → Out} {m n : Option O} {m1 : Option O1}
theorem compM_pure {t : α → Bool} {f : α → β} : ∀ xs : List α, compM (fun x => some (t x)) (fun x => some (f x)) xs = some ((xs.filter t).map f)
  | [] => rfl
  | x :: xs => by
    unfold compM
    rw [compM_pure xs]
    show (if t x = true then _ else _) = _
    cases h : t x
    · rw [if_neg Bool.false_ne_true, List.filter_cons_of_neg (by rw [h]; exact Bool.false_ne_true)]
    · rw [if_pos rfl, List.filter_cons_of_pos h]; rfl
theorem compM_map {f : α → β} : ∀ xs : List α, compM (fun _ => some true) (fun x => some (f x)) xs = some (xs.map f)
  | [] => rfl
  | x :: xs => by
    unfold compM
    rw [compM_map xs]
    rfl
theorem exw_lcp {e : α → PyData} {e' : β → PyData} {t : α → Bool} {f : α → β} {xs : List α} {envB : α → List Sl} (hi : EI K wi env (xs.map e)) (hg : ∀ x, x ∈ xs → EGc K g (wipeE env vs) (e x) (envB x) vs)
    (ht : ∀ x, x ∈ xs → ET K tt (envB x) (t x)) (he : ∀ x, x ∈ xs → EX K te (envB x) (e' (f x))) : EXw K (tLc wi g tt te vs) env (((xs.filter t).map f).map e') :=
  exw_lc (t := fun x => some (t x)) (f := fun x => some (f x)) hi (compM_pure xs) hg (fun x h => eto_some (ht x h)) (fun x h => exo_some (e := e') (he x h))
theorem et_yes : ET K tYes env true := fun F0 H0 F H σ E Q q => q F H (Fz.refl E.fh)
theorem exw_lcm {e : α → PyData} {e' : β → PyData} {f : α → β} {xs : List α} {envB : α → List Sl} (hi : EI K wi env (xs.map e)) (hg : ∀ x, x ∈ xs → EGc K g (wipeE env vs) (e x) (envB x) vs)
    (he : ∀ x, x ∈ xs → EX K te (envB x) (e' (f x))) : EXw K (tLc wi g tYes te vs) env ((xs.map f).map e') :=
  exw_lc (t := fun x => some true) (f := fun x => some (f x)) hi (compM_map xs) hg (fun x h => eto_some et_yes) (fun x h => exo_some (e := e') (he x h))
def bindR (mm : Option (S ⊕ R)) (k : S → Option O) (g : R → O) : Option O := mm.bind fun x => match x with
  | .inl s => k s
  | .inr r => some (g r)
theorem bx_bindR {envS : S → List Sl} {encR : R → Out} {g : R → O} {mm : Option (S ⊕ R)} {k : S → Option O} (h1 : BX K ts env (encE envS encR) mm) (hg : ∀ r, enc (g r) = encR r) (hf : ∀ r e, encR r ≠ .nx e) (h2 : ∀ s, mm = some (.inl s) → BX K tu (envS s) enc (k s)) :
    BX K (tSeq ts tu) env enc (bindR mm k g) :=
  bx_seq h1 fun x e => by
    cases x with
    | inl s => exact .inl ⟨envS s, rfl, h2 s e⟩
    | inr r => exact .inr ⟨g r, rfl, hg r, hf r⟩
theorem bx_retS {o : O} {d : PyData} (h : EX K te env d) (he : enc o = .rt (.sh d)) : BX K (tSeq (tRet te) tu) env enc (some o) := fun o' ho F0 H0 F H σ D E c => bx_ret h he o' ho { D with nx := tu D } E (by
  cases ho
  rw [he] at c ⊢
  exact c)
theorem bx_retSW {o : O} {ds : List PyData} (h : EXw K te env ds) (he : enc o = .rt (.fr ds)) : BX K (tSeq (tRet te) tu) env enc (some o) := fun o' ho F0 H0 F H σ D E c => bx_retW h he o' ho { D with nx := tu D } E (by
  cases ho
  rw [he] at c ⊢
  exact c)
theorem bx_retO {o : O} {i : Nat} {ds : List PyData} (h : env[i]? = some (.ow ds)) (he : enc o = .rt (.fr ds)) : BX K (tSeq (tRet (tVar i)) tu) env enc (some o) := fun o' ho F0 H0 F H σ D E c => by
  cases ho
  rw [he] at c
  obtain ⟨o1, h1, p, vs, h2, h3, h4, h5, h6, h7⟩ := E.sl i _ h
  subst h2
  exact ⟨_, h1, c F H p vs E.z h3 h4 h5 h6 h7⟩
theorem bx_last (h : BX K ts env enc m) : BX K (tSeq ts tNext) env enc m := h
theorem bx_ifPopNe {e : α → PyData} {i : Nat} {xs ys : List α} {x : Int} {y : Int} {xs' : List Int} (hi : env[i]? = some (.ow (xs'.map PyData.int))) {ys' : List Int} (hy : pop? xs' = some (x, ys')) (he : EX K te (env.set i (.ow (ys'.map PyData.int))) (.int y))
    (h1 : BX K ts (env.set i (.ow (ys'.map PyData.int))) enc m) (h2 : BX K tu (env.set i (.ow (ys'.map PyData.int))) enc n) : BX K (tIfS (tTest (tOp rNe (tBM0 K "list" rPop (tVar i)) te)) ts tu) env enc (if (!decide (x = y)) = true then m else n) := fun o ho F0 H0 F H σ D E c =>
  s_pop hi hy E fun v H' E' hv => he E' _ fun w F2 H2 z2 hw => by
    cases hv; cases hw
    have e : decide (V.int x = V.int y) = decide (x = y) := by
      by_cases c : x = y
      · rw [decide_eq_true c, c, decide_eq_true rfl]
      · rw [decide_eq_false c, decide_eq_false fun z => c (V.int.inj z)]
    refine ⟨rfl, _, rfl, ?_⟩
    rw [e]
    cases q : (!decide (x = y)) with
    | true => rw [q] at ho; exact h1 o ho D (E'.step z2) c
    | false => rw [q] at ho; exact h2 o ho D (E'.step z2) c
end
structure Fn (P : Program) (w : World) (K : Frag) (mg : Str → Option Value) (base : Heap) (x : Str) (k : Nat) (I : List PyData → Rv → Prop) : Prop where
  ex : ∃ f fd ps, FnOk P w K mg base CX0 k f fd ps (Prom I) ∧ mg x = some (.ref f) ∧ PySem.W.keepIn K (.ref f) = true ∧ Binds K fd ps []
theorem pe_fn {X : Cx} {x : Str} {k : Nat} {I : List PyData → Rv → Prop} {e : Expr} {es : List Expr} {t : TA} {p pos : Pos} (G : Fn X.prog X.w X.K X.mg X.base x k I) (hr : Room k X.A) (hg : Gl X x) (ha : PA X (e :: es) t)
    (hs : starEach (e :: es) X.env = (false, eval e X.env) :: starEach es X.env := by rfl) (hpl : (backTo pos (starEach es X.env)).any (·.1) = false := by rfl) (hd : (x == ("__debug__" : Str)) = false := by decide) : PE X (.Call (.Name x p) (e :: es) [] pos) (tCall (Prom I) [] E0 t) := by
  obtain ⟨f, fd, ps, F, hm, hk, hb⟩ := G.ex
  exact pe_call F hr hg hm hk hb .nil pass0 ha hd hs hpl
theorem pe_const {X : Cx} {x : Str} {i : Int} {pos : Pos} (hg : Gl X x) (h : ∃ t, X.mg x = some (.int i t)) (hd : (x == ("__debug__" : Str)) = false := by decide) : PE X (.Name x pos) (tC (.int i)) := by
  obtain ⟨t, h⟩ := h
  exact pe_glob hg h ⟨t, rfl⟩ hd
section
variable {X : Cx} {K : Frag} {tg e e2 l : Expr} {ta tl te : TE} {tA : TA}
theorem ix_listK (h : X.K = K := by rfl) : IxR X (rIxL K) := by subst h; exact ix_list
theorem ix_tupK (h : X.K = K := by rfl) : IxR X (rIxT K) := by subst h; exact ix_tup
theorem op_inK (h : X.K = K := by rfl) : OpR X (compareOp .In) (rIn K false) := by subst h; exact op_in_seq
theorem op_notInK (h : X.K = K := by rfl) : OpR X (compareOp .NotIn) (rIn K true) := by subst h; exact op_notIn_seq
theorem op_eqDK (hu : X.A.units + 64 < cLine) (h : X.K = K := by rfl) : OpR X (compareOp .Eq) (rEqD K) := by subst h; exact op_eqD hu
theorem op_neDK (hu : X.A.units + 64 < cLine) (h : X.K = K := by rfl) : OpR X (compareOp .NotEq) (rNeD K) := by subst h; exact op_neD hu
theorem call_lenK (h : X.K = K := by rfl) : CallR X (.builtin "len") (fun xs H Q => ∃ x n, xs = [x] ∧ LenV K x H n ∧ Q (.int n) H) := by subst h; exact call_len
theorem call_listK (h : X.K = K := by rfl) : CallR X (.type "list") (fun xs H Q => ∃ p ys, xs = [.ref p] ∧ (SqL K H p ys ∨ SqT K H p ys) ∧ ∀ l, H l = none → Q (.ref l) (upd H l (.lst ys))) := by subst h; exact call_list_of
theorem call_tupleK (h : X.K = K := by rfl) : CallR X (.type "tuple") (fun xs H Q => ∃ p ys, xs = [.ref p] ∧ ((SqL K H p ys ∧ ∀ l, H l = none → Q (.ref l) (upd H l (.tup ys))) ∨ (SqT K H p ys ∧ Q (.ref p) H))) := by subst h; exact call_tuple_of
theorem sl_listK (h : X.K = K := by rfl) : SlR X (rSlL K) := by subst h; exact sl_list
theorem pi_listK (hl : PE X l tl) (h : X.K = K := by rfl) : PI X tg l (iList K tl) := by subst h; exact pi_list hl
theorem pi_tupK (hl : PE X l tl) (h : X.K = K := by rfl) : PI X tg l (iTup K tl) := by subst h; exact pi_tup hl
theorem pg_tupK {pos : Pos} {es : List Expr} {k : Nat} {t : TGs} {n : Nat} (hc : X.calm = true) (hh : PGs X es t) (hn : (assignEach es X.env).length = n := by rfl) (hst : (assignEach es X.env).findIdx? (·.1) = none := by rfl) (h : X.K = K := by rfl) : PG X (.Tuple es k pos) (gTup K n t) := by
  subst h; exact pg_tup hc hh hn hst
theorem pg_lstK {pos : Pos} {es : List Expr} {k : Nat} {t : TGs} {n : Nat} (hc : X.calm = true) (hh : PGs X es t) (hn : (assignEach es X.env).length = n := by rfl) (hst : (assignEach es X.env).findIdx? (·.1) = none := by rfl) (h : X.K = K := by rfl) : PG X (.Tuple es k pos) (gLst K n t) := by
  subst h; exact pg_lst hc hh hn hst
theorem pi_enumK {p pos tpos : Pos} {elts : List Expr} {kk : Nat} (hg : Gl X "enumerate") (hm : X.mg "enumerate" = none) (ha : PA X [e] tA) (hs : starEach [e] X.env = [(false, eval e X.env)] := by rfl) (h : X.K = K := by rfl) :
    PI X (.Tuple elts kk tpos) (.Call (.Name "enumerate" p) [e] [] pos) (iEnum K tA) := by subst h; exact pi_enum hg hm ha hs
end
end Rb

set_option Elab.async false
set_option linter.all false
set_option maxRecDepth 100000
set_option maxHeartbeats 2000000
namespace Rb
open PySem PySem.Spec PyProof.Rows L2
structure EnOk {α : Type} [DecidableEq α] (e : α → PyData) (n : Nat) : Prop where
  lay : ∀ x, (e x).canLay0 = true
  dep : ∀ x, (e x).depth ≤ n
  eq : ∀ x y, PyData.eqv (e x) (e y) = decide (x = y)
theorem beq_dec {α : Type} [BEq α] [LawfulBEq α] [DecidableEq α] (x y : α) : (x == y) = decide (x = y) := by
  by_cases c : x = y
  · subst c; simp
  · rw [decide_eq_false c]; simpa using c
theorem EnOk.int : EnOk PyData.int 0 := ⟨fun x => rfl, fun x => Nat.le_refl _, fun x y => by
  show (x == y) = _
  exact beq_dec x y⟩
theorem EnOk.bool : EnOk PyData.bool 0 := ⟨fun x => rfl, fun x => Nat.le_refl _, fun x y => by
  show (x == y) = _
  exact beq_dec x y⟩
section
variable {α β γ δ : Type} [DecidableEq α] [DecidableEq β] [DecidableEq γ] [DecidableEq δ] {e : α → PyData} {f : β → PyData} {g : γ → PyData} {k : δ → PyData} {n m l j : Nat}
theorem EnOk.layAll (h : EnOk e n) : ∀ xs : List α, PyData.canLayAll0 (xs.map e) = true
  | [] => rfl
  | x :: xs => by
    rw [List.map_cons]
    show (PyData.canLay0 (e x) && PyData.canLayAll0 (xs.map e)) = true
    rw [h.lay, h.layAll xs]; rfl
theorem EnOk.depAll (h : EnOk e n) : ∀ xs : List α, PyData.depthAll (xs.map e) ≤ n
  | [] => Nat.zero_le _
  | x :: xs => by
    rw [List.map_cons]
    show max (PyData.depth (e x)) (PyData.depthAll (xs.map e)) ≤ n
    exact Nat.max_le.mpr ⟨h.dep x, h.depAll xs⟩
theorem EnOk.eqAll (h : EnOk e n) : ∀ xs ys : List α, PyData.eqvAll (xs.map e) (ys.map e) = decide (xs = ys)
  | [], [] => rfl
  | [], y :: ys => rfl
  | x :: xs, [] => rfl
  | x :: xs, y :: ys => by
    rw [List.map_cons, List.map_cons]
    show (PyData.eqv (e x) (e y) && PyData.eqvAll (xs.map e) (ys.map e)) = _
    rw [h.eq, h.eqAll xs ys]
    by_cases c : x = y
    · by_cases c2 : xs = ys
      · subst c; subst c2; simp
      · simp [c, c2]
    · simp [c]
theorem EnOk.list (h : EnOk e n) : EnOk (eL e) (n + 1) := ⟨fun x => h.layAll x, fun x => Nat.succ_le_succ (h.depAll x), fun x y => h.eqAll x y⟩
theorem EnOk.tup (h : EnOk e n) : EnOk (eT e) (n + 1) := ⟨fun x => h.layAll x, fun x => Nat.succ_le_succ (h.depAll x), fun x y => h.eqAll x y⟩
theorem EnOk.pair (h : EnOk e n) (h2 : EnOk f m) : EnOk (eP e f) (max n m + 1) := ⟨fun x => by
    show (PyData.canLay0 (e x.1) && (PyData.canLay0 (f x.2) && true)) = true
    rw [h.lay, h2.lay]; rfl, fun x => by
    show max (PyData.depth (e x.1)) (max (PyData.depth (f x.2)) 0) + 1 ≤ _
    have := h.dep x.1
    have := h2.dep x.2
    omega, fun x y => by
    show (PyData.eqv (e x.1) (e y.1) && (PyData.eqv (f x.2) (f y.2) && true)) = _
    rw [h.eq, h2.eq]
    obtain ⟨a, b⟩ := x
    obtain ⟨c, d⟩ := y
    by_cases c1 : a = c <;> by_cases c2 : b = d <;> simp [c1, c2]⟩
theorem EnOk.shaped (h : EnOk e n) (hn : n ≤ 64) (x : α) : SeqAt.shaped (e x) = true := by
  unfold SeqAt.shaped
  rw [h.lay x, decide_eq_true (Nat.le_trans (h.dep x) hn)]; rfl
end
section
variable {K : Frag} {env env' env1 env2 : List Sl} {d d' : PyData} {ds es : List PyData} {g : TG} {gs : TGs} {vs : List Nat} {te ti ta tb tl tc : TE} {wi : TI} {α β S R O O1 : Type} {tt : TT} {ts tu tw : TS} {enc : O → Out} {enc1 : O1 → Out} {m n : Option O} {m1 : Option O1}
theorem ex_eqT [DecidableEq α] {e : α → PyData} {k : Nat} {x y : α} (h : EnOk e k) (ha : EXq K ta env (e x)) (hb : EXq K tb env (e y)) (hk : k ≤ 64 := by decide) : EX K (tOp (rEqD K) ta tb) env (.bool (decide (x = y))) := ex_eqD ha hb (h.shaped hk x) (h.shaped hk y) (h.eq x y)
theorem ex_neT [DecidableEq α] {e : α → PyData} {k : Nat} {x y : α} (h : EnOk e k) (ha : EXq K ta env (e x)) (hb : EXq K tb env (e y)) (hk : k ≤ 64 := by decide) : EX K (tOp (rNeD K) ta tb) env (.bool (!decide (x = y))) := ex_neD ha hb (h.shaped hk x) (h.shaped hk y) (h.eq x y)
theorem ex_is (h : EX K te env d) (e : d = d') : EX K te env d' := by rw [← e]; exact h
theorem exw_catT {e : α → PyData} {xs ys : List α} (ha : EXl K ta env (xs.map e)) (hb : EXl K tb env (ys.map e)) (hl : (xs ++ ys).length ≤ lim) : EXw K (tOp rCat ta tb) env ((xs ++ ys).map e) := by
  rw [List.map_append]
  exact exw_cat ha hb (by rw [← List.map_append, List.length_map]; exact hl)
theorem str_app_len (x y : Str) : (x ++ y).length = x.length + y.length := by
  show (x.cps ++ y.cps).size = x.cps.size + y.cps.size
  exact Array.size_append
theorem ex_addST {x y : Str} (ha : EX K ta env (.str x)) (hb : EX K tb env (.str y)) (hl : x.length + y.length ≤ lim) : EX K (tOp (fun x y H Q => ∃ i j, x = .str i ∧ y = .str j ∧ i.length + j.length ≤ sizeLine ∧ Q (.str (i ++ j)) H) ta tb) env (.str (x ++ y)) :=
  ex_addS ha hb (by rw [str_app_len]; exact hl) hl
def set? (xs : List α) (i : Int) (x : α) : Option (List α) := (ixN xs.length i).map fun j => xs.set j x
theorem eg_setI {e : α → PyData} {k : Nat} {xs ys : List α} {x : α} {i : Int} (hk : env[k]? = some (.ow (xs.map e))) (hi : EX K ti env (.int i)) (h : set? xs i x = some ys) : EG K (gSub (tVar k) ti rSetL) env (e x) (env.set k (.ow (ys.map e))) := by
  unfold set? at h
  obtain ⟨j, h1, h2⟩ := Option.map_eq_some_iff.mp h
  subst h2
  refine eg_sub (j := j) hk hi (by rw [List.length_map]; exact h1) ?_
  rw [List.map_set]
def unp2 : List α → Option (α × α)
  | [a, b] => some (a, b)
  | _ => none
theorem unp2_ok {xs : List α} {q : α × α} (h : unp2 xs = some q) : xs = [q.1, q.2] := by
  unfold unp2 at h; split at h
  · cases h; rfl
  · cases h
theorem bx_asgB {e : α → PyData} {i : Nat} {x : α} {k : α → Option O} (he : EX K te env (e x)) (h : ∀ v, BX K tu (env.set i (.sh (e v))) enc (k v)) : BX K (tSeq (tAsg te (gName i)) tu) env enc (Option.bind (some x) k) :=
  bx_asg he (EGc.eg (egc_name (i := i) (vs := [i]) List.mem_cons_self)) (h x)
theorem bx_asgWB {e : α → PyData} {i : Nat} {x : List α} {k : List α → Option O} (he : EXw K te env (x.map e)) (h : ∀ v, BX K tu (env.set i (.ow (v.map e))) enc (k v)) : BX K (tSeq (tAsg te (gName i)) tu) env enc (Option.bind (some x) k) := bx_asgW he (h x)
theorem bx_ifRetM {encR : R → Out} {g : R → O} {mr : Option R} {b : Bool} (ht : ET K tt env b) (h1 : b = true → BX K ts env encR mr) (hf : ∀ r e, encR r ≠ .nx e) (hg : ∀ r, enc (g r) = encR r) (h2 : b = false → BX K tu env enc n) : BX K (tSeq (tIfS tt ts tNext) tu) env enc (if b = true then mr.map g else n) := fun o ho F0 H0 F H σ D E c =>
  ht E _ fun F1 H1 z1 => by
    cases b with
    | true =>
      obtain ⟨r, e1, e2⟩ := Option.map_eq_some_iff.mp ho
      subst e2
      rw [hg] at c
      refine h1 rfl r e1 { D with nx := tu D } (E.step z1) ?_
      cases q : encR r with
      | nx e => exact absurd q (hf r e)
      | bk e => rw [q] at c; exact c
      | ct e => rw [q] at c; exact c
      | rt r => rw [q] at c; exact c
      | ex e x W => rw [q] at c; exact c
      | re e t => rw [q] at c; exact c
    | false => exact h2 rfl o ho D (E.step z1) c
def spLaw (K : Frag) : Sp := fun vs H Q _ => ∃ (a : Addr) (ns : List Int), vs = [.ref a] ∧ SqL K H a (ns.map V.int) ∧ ns.length ≤ 63 ∧ ∀ H', Q (.bl true) H'
theorem law_ok {P : Program} {w : World} {mg : Str → Option Value} {base : Heap} {x qual : Str} {params : Arguments} {body : List Stmt} {scope : Scope} {f : Addr} {fd : FuncData} {N : List Str} {x0 : Str} {k : Nat} {fm : List Int → Option Bool}
    (F : FunD K x qual params body scope [] [] f fd) (S : FnScope N [x0] scope)
    (hb : ∀ (cdv : Value) (A' : Around) (outer : List Env) (s : Shared) (H : Hp) (E : XK), Room k (A'.deeper (envOfC qual scope s.heap.objs.size f cdv)) →
      ∃ t, PSs (cxOf CX0 P w K mg base N qual scope f cdv A' outer s H E).nox body t ∧ ∀ ns, BX K t (.sc (ns.map PyData.int) :: List.replicate (N.length - 1) .un) (fun b : Bool => .rt (.sh (.bool b))) (fm ns))
    (ht : ∀ ns : List Int, ns.length ≤ 63 → fm ns = some true) : FnOk P w K mg base CX0 (k + 1) f fd [x0] (spLaw K) := by
  refine F.ok S (fun vs H Q E h => ?_) (fun cdv A' outer s H vs Q E hr h => ?_)
  · obtain ⟨a, ns, rfl, _⟩ := h
    rfl
  · obtain ⟨a, ns, rfl, hS, hl, q⟩ := h
    obtain ⟨t, p, b⟩ := hb cdv A' outer s H E hr
    refine ⟨t, PSs.nox p, b ns true (ht ns hl) (F0 := H) (H0 := H) (F := H) (H := H) _ (EnvOk.flat (Fz.refl (Evl.Ex.refl H)) ?_ fun i sl h => ?_) ?_⟩
    · show _ = _
      unfold L2.start
      simp only [List.length_append, List.length_map, List.length_cons, List.length_nil, List.length_replicate]
      omega
    · unfold L2.start
      cases i with
      | zero =>
        simp at h
        subst h
        refine ⟨_, rfl, ⟨a, _, rfl, hS, DqAll.ints' ns, ?_⟩, rfl⟩
        rw [List.length_map]
        exact Nat.le_trans hl (by decide)
      | succ i =>
        rw [List.getElem?_cons_succ] at h
        obtain ⟨h1, h2⟩ := List.getElem?_eq_some_iff.mp h
        rw [List.getElem_replicate] at h2
        subst h2
        rw [List.length_replicate] at h1
        refine ⟨none, ?_, trivial, rfl⟩
        show (some (V.ref a) :: List.replicate (N.length - 1) none)[i + 1]? = _
        rw [List.getElem?_cons_succ, List.getElem?_replicate, if_pos h1]
    · exact fun F1 H1 v z hv => by
        cases hv
        exact q H1
end
end Rb

set_option Elab.async false
set_option linter.all false
set_option maxRecDepth 100000
set_option maxHeartbeats 2000000
namespace Rb
open PySem PySem.Spec PyProof.Rows L2
section
variable {κ β γ : Type} [DecidableEq κ]
def lookA (kvs : List (κ × β)) (k : κ) : Option β := (kvs.find? fun kv => decide (kv.1 = k)).map (·.2)
def putA (kvs : List (κ × β)) (k : κ) (v : β) : List (κ × β) := if (kvs.any fun kv => decide (kv.1 = k)) = true then kvs.map (fun kv => if kv.1 = k then (kv.1, v) else kv) else kvs ++ [(k, v)]
theorem lookA_cons {p : κ × β} {r : List (κ × β)} {k : κ} : lookA (p :: r) k = if p.1 = k then some p.2 else lookA r k := by
  unfold lookA
  rw [List.find?_cons]
  by_cases c : p.1 = k
  · simp [c]
  · simp [c]
theorem KvOk.none {F : Hp} : ∀ {ws : List (κ × V)} {kvs : List (κ × PyData)} {k : κ}, KvOk F ws kvs → lookA kvs k = none → valV ws k = none
  | [], [], k, _, h => rfl
  | [], _ :: _, _, h, _ => by have := h.1; simp at this
  | _ :: _, [], _, h, _ => by have := h.1; simp at this
  | p :: ws, q :: kvs, k, h, hl => by
    obtain ⟨h1, h2⟩ := h
    rw [List.map_cons, List.map_cons] at h1 h2
    injection h1 with e1 e2
    cases h2 with
    | cons a b =>
      rw [lookA_cons] at hl
      by_cases c : q.1 = k
      · rw [if_pos c] at hl; cases hl
      · rw [if_neg c] at hl
        rw [valV_neg (by rw [e1]; exact c)]
        exact KvOk.none (ws := ws) (kvs := kvs) ⟨e2, b⟩ hl
theorem any_keys : ∀ {ws : List (κ × V)} {kvs : List (κ × PyData)} {k : κ}, ws.map (·.1) = kvs.map (·.1) → (ws.any fun kv => decide (kv.1 = k)) = (kvs.any fun kv => decide (kv.1 = k))
  | [], [], k, _ => rfl
  | [], _ :: _, _, h => by simp at h
  | _ :: _, [], _, h => by simp at h
  | p :: ws, q :: kvs, k, h => by
    rw [List.map_cons, List.map_cons] at h
    injection h with e1 e2
    rw [List.any_cons, List.any_cons, any_keys e2, e1]
theorem map_put {F : Hp} {v : V} {d : PyData} (hv : Dq F v d) (k : κ) : ∀ {ws : List (κ × V)} {kvs : List (κ × PyData)}, KvOk F ws kvs → KvOk F (ws.map fun kv => if kv.1 = k then (kv.1, v) else kv) (kvs.map fun kv => if kv.1 = k then (kv.1, d) else kv)
  | [], [], h => h
  | [], _ :: _, h => by have := h.1; simp at this
  | _ :: _, [], h => by have := h.1; simp at this
  | p :: ws, q :: kvs, h => by
    obtain ⟨h1, h2⟩ := h
    rw [List.map_cons, List.map_cons] at h1 h2
    injection h1 with e1 e2
    cases h2 with
    | cons a b =>
      obtain ⟨i1, i2⟩ := map_put hv k (ws := ws) (kvs := kvs) ⟨e2, b⟩
      refine ⟨?_, ?_⟩
      · simp only [List.map_cons]
        rw [i1]
        congr 1
        by_cases c : q.1 = k
        · rw [if_pos c, if_pos (by rw [e1]; exact c)]; exact e1
        · rw [if_neg c, if_neg (by rw [e1]; exact c)]; exact e1
      · simp only [List.map_cons]
        refine .cons ?_ i2
        by_cases c : q.1 = k
        · rw [if_pos c, if_pos (by rw [e1]; exact c)]; exact hv
        · rw [if_neg c, if_neg (by rw [e1]; exact c)]; exact a
theorem KvOk.put {F : Hp} {ws : List (κ × V)} {kvs : List (κ × PyData)} {k : κ} {v : V} {d : PyData} (h : KvOk F ws kvs) (hv : Dq F v d) : KvOk F (putK ws k v) (putA kvs k d) := by
  unfold putK putA
  rw [any_keys h.1]
  split
  · exact map_put hv k h
  · refine ⟨?_, ?_⟩
    · rw [List.map_append, List.map_append, h.1]; rfl
    · rw [List.map_append, List.map_append]; exact h.2.app (.cons hv .nil)
theorem KvOk.len {F : Hp} {ws : List (κ × V)} {kvs : List (κ × PyData)} (h : KvOk F ws kvs) : ws.length = kvs.length := by
  have := congrArg List.length h.1
  rw [List.length_map, List.length_map] at this
  exact this
end
section
variable {K : Frag} {env env' : List Sl} {d : PyData} {te ty ta tb tv : TE} {α β O : Type} [DecidableEq α] {tu : TS} {enc : O → Out} {m : Option O} {i : Nat} {e : β → PyData}
end
end Rb

set_option Elab.async false
set_option linter.all false
set_option maxRecDepth 100000
set_option maxHeartbeats 2000000
namespace Rb
open PySem PySem.Spec PyProof.Rows L2
def IteT (K : Frag) (a : Addr) : It :=
  ⟨fun i H => ∃ (xs : List V) (x : V), SqT K H a xs ∧ xs[i]? = some x, fun i H v H' => ∃ T x, v = .ref T ∧ H T = none ∧ H' = upd H T (.tup [.int (i : Nat), x]) ∧ ∀ xs, SqT K H a xs → xs[i]? = some x, fun i H => ∃ xs : List V, SqT K H a xs ∧ xs.length = i⟩
def IteS (x : Str) : It := ⟨fun i _ => i < x.cps.size, fun i H v H' => ∃ T c, v = .ref T ∧ H T = none ∧ H' = upd H T (.tup [.int (i : Nat), .str ⟨#[c]⟩]) ∧ x.cps[i]? = some c, fun i _ => i = x.cps.size⟩
theorem turn_enumT {P : Program} {w : World} {K : Frag} {elts : List Expr} {kk : Nat} {tpos : Pos} (a e it : Addr) :
    Turn P w K (.Tuple elts kk tpos) (IteT K a) [e, it] e (fun i h => (∃ old, IsEnum h e it ((i : Nat) : Int) old) ∧ h.IsTupleIter it a i ∧ e ≠ it ∧ a ≠ it ∧ a ≠ e) where
  mem := by simp
  obj := fun i h st b hb => by
    obtain ⟨⟨old, he⟩, ⟨o, ho, hc, hd⟩, _⟩ := st
    have e' : b = e ∨ b = it := by simpa using hb
    rcases e' with z | z
    · rw [z]; exact ⟨_, he, fun v q => nomatch q⟩
    · rw [z]; exact ⟨o, ho, fun v q => by rw [hd] at q; cases q⟩
  keep := fun i h h' st k => let ⟨⟨old, he⟩, hi, hne⟩ := st; ⟨⟨old, k e (by simp) _ he⟩, hi.at fun o q => k it (by simp) o q, hne⟩
  item := by
    intro X hP hw hK hc i pins s σ H E I hf st hg
    subst hP hw hK
    obtain ⟨⟨old, he⟩, hit, hne, na, nb⟩ := st
    obtain ⟨xs, x, hq, hx⟩ := hg
    obtain ⟨its, rv, p, hz⟩ := I.tuple hq
    obtain ⟨u, hu, ru⟩ := rv.get hx
    have p' : s.heap.IsTuple a its.toArray := p
    have hel : e < s.heap.objs.size := Heap.lt_size he
    have hil : it < s.heap.objs.size := by obtain ⟨_, q, _⟩ := hit; exact Heap.lt_size q
    have D := Draws.tuple (prog := X.prog) (w := X.w) (A := X.A.in1) (I.ok.hd hc) it a na its.toArray
    refine wpAny_pyNext_enum_itemD (n := its.toArray.size) D he (i := i) ⟨hit, p'⟩ (by have := (List.getElem?_eq_some_iff.mp hu).1; simpa using this) hne (by simp; exact ⟨hne, fun z => nb z.symm⟩) fun y h' tk hy ho hit' hT hsz hk => ?_
    have hyu : y = u := by
      have h1 : its.toArray[i]? = some y := hy
      have h2 : its.toArray[i]? = some u := by simpa using hu
      rw [h1] at h2; exact Option.some.inj h2
    subst hyu
    refine ⟨_, rfl, wpAny_letOwnedTupleGo_enum (s := { s with heap := h', toks := tk + 1 }) ho fun h'' he' sb => ?_⟩
    have hT2 : h''.get? s.heap.objs.size = some { cls := .type "tuple", data := .seq #[.int i tk, y] } := (sb.2 _ (Nat.ne_of_gt hel)).trans hT
    have new : ObjOk X.prog X.w (upd H s.heap.objs.size (.tup [.int (i : Nat), x])) h'' s.heap.objs.size (.tup [.int (i : Nat), x]) :=
      ⟨by show 2 ≤ sizeLine; decide, [.int i tk, y], .cons ⟨_, rfl⟩ (.cons ru .nil), ⟨_, hT2, rfl, _, rfl⟩⟩
    have I1 : Inv X pins σ (upd H s.heap.objs.size (.tup [.int (i : Nat), x])) { s with heap := h'', toks := tk + 1 } :=
      I.turnedNew (ch := [e, it]) (fun b ob hb q => (sb.2 b (fun z => hb (by simp [z]))).trans (hk b ob (fun z => hb (by simp [z])) (fun z => hb (by simp [z])) q)) hf (Nat.le_refl _) new
    refine ⟨.ref s.heap.objs.size, _, I1, rfl, ⟨_, x, rfl, I.hok.fresh (Nat.le_refl _), rfl, fun ys hy => by rw [I.tuple_inj hy hq]; exact hx⟩, ⟨⟨y, ?_⟩, hit'.1.at fun o q => (sb.2 it (Ne.symm hne)).trans q, hne, na, nb⟩, fun b hb => ?_⟩
    · have e1 : ((i + 1 : Nat) : Int) = (i : Int) + 1 := by omega
      rw [e1]; exact he'
    · have hb' : b < s.heap.objs.size := by
        have e' : b = e ∨ b = it := by simpa using hb
        rcases e' with z | z
        · rw [z]; exact hel
        · rw [z]; exact hil
      rw [upd_ne (Nat.ne_of_lt hb')]
      exact (hf b hb).1
  done := by
    intro X hP hw hK hc i pins s σ H E I hf st hg
    subst hP hw hK
    obtain ⟨⟨old, he⟩, hit, hne, na, nb⟩ := st
    obtain ⟨xs, hq, hx⟩ := hg
    obtain ⟨its, rv, p, hz⟩ := I.tuple hq
    have p' : s.heap.IsTuple a its.toArray := p
    obtain ⟨f0, f1, f2, f3, f4, f5⟩ := hf it (by simp)
    have hl := rv.length
    have D := Draws.tuple (prog := X.prog) (w := X.w) (A := X.A.in1) (I.ok.hd hc) it a na its.toArray
    have hi : its.toArray.size = i := by simp; omega
    exact wpAny_pyNext_enum_endD (n := its.toArray.size) D he ⟨by rw [hi]; exact hit, p'⟩ fun h' eb => ⟨rfl, I.turned (t' := s.toks) (fun b o hb q => eb b o hb q) f0 f1 f3 f4 f5⟩
  self := fun A i s Q E st h => let ⟨⟨_, he⟩, _⟩ := st; wpAny_pyIter_enum he h
theorem turn_enumS {P : Program} {w : World} {K : Frag} {elts : List Expr} {kk : Nat} {tpos : Pos} (x : Str) (t : Tok) (e it : Addr) :
    Turn P w K (.Tuple elts kk tpos) (IteS x) [e, it] e (fun i h => (∃ old, IsEnum h e it ((i : Nat) : Int) old) ∧ h.IsStrIter it (strIterType x) x t i ∧ e ≠ it) where
  mem := by simp
  obj := fun i h st b hb => by
    obtain ⟨⟨old, he⟩, ⟨o, ho, hc, hd⟩, _⟩ := st
    have e' : b = e ∨ b = it := by simpa using hb
    rcases e' with z | z
    · rw [z]; exact ⟨_, he, fun v q => nomatch q⟩
    · rw [z]; exact ⟨o, ho, fun v q => by rw [hd] at q; cases q⟩
  keep := fun i h h' st k => let ⟨⟨old, he⟩, ⟨o, ho, r⟩, hne⟩ := st; ⟨⟨old, k e (by simp) _ he⟩, ⟨o, k it (by simp) o ho, r⟩, hne⟩
  item := by
    intro X hP hw hK hc i pins s σ H E I hf st hg
    subst hP hw hK
    obtain ⟨⟨old, he⟩, hit, hne⟩ := st
    have hel : e < s.heap.objs.size := Heap.lt_size he
    have hil : it < s.heap.objs.size := by obtain ⟨_, q, _⟩ := hit; exact Heap.lt_size q
    have D := Draws.text (prog := X.prog) (w := X.w) (A := X.A.in1) (I.ok.hd hc) it x t
    refine wpAny_pyNext_enum_itemD (n := x.cps.size) D he (i := i) hit hg hne (by simp; exact hne) fun y h' tk hy ho hit' hT hsz hk => ?_
    obtain ⟨c, u, hcx, rfl⟩ := hy
    refine ⟨_, rfl, wpAny_letOwnedTupleGo_enum (s := { s with heap := h', toks := tk + 1 }) ho fun h'' he' sb => ?_⟩
    have hT2 := (sb.2 _ (Nat.ne_of_gt hel)).trans hT
    have new : ObjOk X.prog X.w (upd H s.heap.objs.size (.tup [.int (i : Nat), .str ⟨#[c]⟩])) h'' s.heap.objs.size (.tup [.int (i : Nat), .str ⟨#[c]⟩]) :=
      ⟨by show 2 ≤ sizeLine; decide, _, .cons ⟨_, rfl⟩ (.cons ⟨_, rfl⟩ .nil), ⟨_, hT2, rfl, _, rfl⟩⟩
    have I1 : Inv X pins σ (upd H s.heap.objs.size (.tup [.int (i : Nat), .str ⟨#[c]⟩])) { s with heap := h'', toks := tk + 1 } :=
      I.turnedNew (ch := [e, it]) (fun b ob hb q => (sb.2 b (fun z => hb (by simp [z]))).trans (hk b ob (fun z => hb (by simp [z])) (fun z => hb (by simp [z])) q)) hf (Nat.le_refl _) new
    obtain ⟨oi, hoi, ri⟩ := hit'
    refine ⟨.ref s.heap.objs.size, _, I1, rfl, ⟨_, c, rfl, I.hok.fresh (Nat.le_refl _), rfl, hcx⟩, ⟨⟨.str ⟨#[c]⟩ u, ?_⟩, ⟨oi, (sb.2 it (Ne.symm hne)).trans hoi, ri⟩, hne⟩, fun b hb => ?_⟩
    · have e1 : ((i + 1 : Nat) : Int) = (i : Int) + 1 := by omega
      rw [e1]; exact he'
    · have hb' : b < s.heap.objs.size := by
        have e' : b = e ∨ b = it := by simpa using hb
        rcases e' with z | z
        · rw [z]; exact hel
        · rw [z]; exact hil
      rw [upd_ne (Nat.ne_of_lt hb')]
      exact (hf b hb).1
  done := by
    intro X hP hw hK hc i pins s σ H E I hf st hg
    subst hP hw hK
    obtain ⟨⟨old, he⟩, hit, hne⟩ := st
    obtain ⟨f0, f1, f2, f3, f4, f5⟩ := hf it (by simp)
    have D := Draws.text (prog := X.prog) (w := X.w) (A := X.A.in1) (I.ok.hd hc) it x t
    have hg' : i = x.cps.size := hg
    exact wpAny_pyNext_enum_endD (n := x.cps.size) D he (by rw [← hg']; exact hit) fun h' eb => ⟨rfl, I.turned (t' := s.toks) (fun b o hb q => eb b o hb q) f0 f1 f3 f4 f5⟩
  self := fun A i s Q E st h => let ⟨⟨_, he⟩, _⟩ := st; wpAny_pyIter_enum he h
set_option maxHeartbeats 1000000 in
theorem meets_enumerate_newB1 {v : Value} {o : Obj} {H : Heap → Prop} (B : Begins v o H) :
    Meets (Builtin.«enumerate.__new__» ⟨[.type "enumerate", v], []⟩) (fun _ R s => H s.heap ∧
      R (.ok (.ret (.ref (s.heap.push o).objs.size))) { s with heap := (s.heap.push o).push { cls := .type "enumerate", data := .fields #[.none, .bool false, .ref s.heap.objs.size, rawInt 0, .none, .none] } }) :=
  .of_wp fun prog w A R s h => by
    obtain ⟨hp, g, d, tk, os⟩ := s; obtain ⟨h1, h⟩ := h
    have hsub := sub_enumerate
    have q1 : ∀ {A' : Around} {E : Value → Shared → Prop} {Q : Value → Shared → Prop}, Q (.ref hp.objs.size) ⟨hp.push o, g, d, tk, os⟩ → wpAny (model prog w) A' (pyIter v) Q E ⟨hp, g, d, tk, os⟩ :=
      fun q => B.iter prog w _ _ ⟨hp, g, d, tk, os⟩ _ h1 q
    wp_walk using q1
    refine wpAny_stack_any fun st => wpAny_pure ?_
    split
    · rename_i c _ _ _ _ _
      cases (c == Value.type "enumerate")
      · wp_walk using q1
        exact ⟨_, rfl, h⟩
      · wp_walk using q1
        exact ⟨_, rfl, h⟩
    · wp_walk using q1
      exact ⟨_, rfl, h⟩
theorem enum_begins1 {prog : Program} {w : World} {A : Around} {E : Value → Shared → Prop} {s : Shared} {v : Value} {o : Obj} {H : Heap → Prop} {Q : Value → Shared → Prop} (B : Begins v o H) (h1 : H s.heap)
    (h : ∀ h', IsEnum h' (s.heap.objs.size + 1) s.heap.objs.size 0 .none → h'.get? s.heap.objs.size = some o → h'.objs.size = s.heap.objs.size + 2 →
      (∀ b o, s.heap.get? b = some o → h'.get? b = some o) → Q (.ref (s.heap.objs.size + 1)) { s with heap := h' }) :
    wpAny (model prog w) A (call (.type "enumerate") [v]) Q E s := by
  refine callType_new F.called_enumerate (by decide) (F.typeCall_enumerate_1 _) (F.newCall_enumerate_1 _) (fun obj => F.args_object_init_2 obj _) F.entry_enumerate_new
    (meets_enumerate_newB1 B) ⟨h1, ?_⟩
  have hz : (s.heap.push o).objs.size = s.heap.objs.size + 1 := Heap.size_push ..
  show _ ∧ _
  rw [hz]
  have he : IsEnum ((s.heap.push o).push { cls := .type "enumerate", data := .fields #[.none, .bool false, .ref s.heap.objs.size, rawInt 0, .none, .none] }) (s.heap.objs.size + 1) s.heap.objs.size 0 .none := by
    have := Heap.get?_push_size (s.heap.push o) (o := { cls := .type "enumerate", data := .fields #[.none, .bool false, .ref s.heap.objs.size, rawInt 0, .none, .none] }) rfl
    rw [hz] at this; exact this
  refine ⟨⟨_, he, rfl⟩, h _ he (Heap.get?_push_of_some _ (Heap.get?_push_size _ B.free)) (by rw [Heap.size_push, hz]) fun b o x => Heap.get?_push_of_some _ (Heap.get?_push_of_some _ x)⟩
def iEnumT (K : Frag) (ta : TA) : TI := fun σ H R => ta σ H fun vs H1 => ∃ a xs, vs = [.ref a] ∧ SqT K H1 a xs ∧ R (IteT K a) H1
def iEnumS (ta : TA) : TI := fun σ H R => ta σ H fun vs H1 => ∃ x, vs = [.str x] ∧ R (IteS x) H1
section
variable {X : Cx} {K : Frag} {e : Expr} {ta : TA} {p pos tpos : Pos} {elts : List Expr} {kk : Nat}
theorem pi_enumT' (hg : Gl X "enumerate") (hm : X.mg "enumerate" = none) (ha : PA X [e] ta) (hs : starEach [e] X.env = [(false, eval e X.env)] := by rfl) :
    PI X (.Tuple elts kk tpos) (.Call (.Name "enumerate" p) [e] [] pos) (iEnumT X.K ta) := by
  refine ⟨fun pins s σ H R I h => ?_⟩
  refine Call_ (ld_blt I hg hm boot_enumerate (PyProof.Rows.callWith_type1 (thn (ha.run pos pins s σ H _ I h) fun us s1 ⟨vs, H1, I1, r1, q1⟩ => ?_) hs rfl))
  obtain ⟨a, xs, ex, hq, q⟩ := q1
  subst ex
  cases r1 with
  | cons r rr =>
    cases rr
    cases r
    obtain ⟨its, rv, p', hz⟩ := I1.tuple hq
    have p2 : s1.heap.IsTuple a its.toArray := p'
    refine enum_begins1 (begins_tuple a its.toArray) p2 fun h' he hit hsz hk => wpAny_pyIter_enum he ?_
    have I2 : Inv X pins σ H1 { s1 with heap := h' } := I1.kept (t' := s1.toks) hk
    have hal : a < s1.heap.objs.size := p'.lt
    refine ⟨s1.heap.objs.size + 1, [s1.heap.objs.size + 1, s1.heap.objs.size], _, _, H1, rfl, I2, turn_enumT a (s1.heap.objs.size + 1) s1.heap.objs.size, ⟨⟨.none, he⟩, ⟨_, hit, rfl, rfl⟩, Nat.succ_ne_self _, Nat.ne_of_lt hal, Nat.ne_of_lt (Nat.lt_succ_of_lt hal)⟩, fun b hb => ?_, q⟩
    have e' : b = s1.heap.objs.size + 1 ∨ b = s1.heap.objs.size := by simpa using hb
    have hle : s1.heap.objs.size ≤ b := by
      rcases e' with z | z
      · rw [z]; exact Nat.le_add_right _ _
      · rw [z]; exact Nat.le_refl _
    exact I1.fpOk hle (I1.hok.fresh hle)
theorem pi_enumT (hg : Gl X "enumerate") (hm : X.mg "enumerate" = none) (ha : PA X [e] ta) (hs : starEach [e] X.env = [(false, eval e X.env)] := by rfl) (h : X.K = K := by rfl) :
    PI X (.Tuple elts kk tpos) (.Call (.Name "enumerate" p) [e] [] pos) (iEnumT K ta) := by subst h; exact pi_enumT' hg hm ha hs
theorem pi_enumS (hg : Gl X "enumerate") (hm : X.mg "enumerate" = none) (ha : PA X [e] ta) (hs : starEach [e] X.env = [(false, eval e X.env)] := by rfl) :
    PI X (.Tuple elts kk tpos) (.Call (.Name "enumerate" p) [e] [] pos) (iEnumS ta) := by
  refine ⟨fun pins s σ H R I h => ?_⟩
  refine Call_ (ld_blt I hg hm boot_enumerate (PyProof.Rows.callWith_type1 (thn (ha.run pos pins s σ H _ I h) fun us s1 ⟨vs, H1, I1, r1, q1⟩ => ?_) hs rfl))
  obtain ⟨x, ex, q⟩ := q1
  subst ex
  cases r1 with
  | cons r rr =>
    cases rr
    obtain ⟨t, rfl⟩ := r
    refine enum_begins1 (begins_text x t) trivial fun h' he hit hsz hk => wpAny_pyIter_enum he ?_
    have I2 : Inv X pins σ H1 { s1 with heap := h' } := I1.kept (t' := s1.toks) hk
    refine ⟨s1.heap.objs.size + 1, [s1.heap.objs.size + 1, s1.heap.objs.size], _, _, H1, rfl, I2, turn_enumS x t (s1.heap.objs.size + 1) s1.heap.objs.size, ⟨⟨.none, he⟩, ⟨_, hit, rfl, rfl⟩, Nat.succ_ne_self _⟩, fun b hb => ?_, q⟩
    have e' : b = s1.heap.objs.size + 1 ∨ b = s1.heap.objs.size := by simpa using hb
    have hle : s1.heap.objs.size ≤ b := by
      rcases e' with z | z
      · rw [z]; exact Nat.le_add_right _ _
      · rw [z]; exact Nat.le_refl _
    exact I1.fpOk hle (I1.hok.fresh hle)
end
section
variable {K : Frag} {env : List Sl} {ta tb tl te tc : TE} {α β : Type} {e : α → PyData} {f : β → PyData}
def enumF : Int → List α → List (Int × α)
  | _, [] => []
  | i, x :: xs => (i, x) :: enumF (i + 1) xs
def enumI (xs : List α) : List (Int × α) := enumF 0 xs
theorem enumF_len : ∀ (i : Int) (xs : List α), (enumF i xs).length = xs.length
  | _, [] => rfl
  | i, x :: xs => by unfold enumF; rw [List.length_cons, List.length_cons, enumF_len]
theorem enumF_get : ∀ (i : Int) (xs : List α) (j : Nat), (enumF i xs)[j]? = xs[j]?.map fun x => (i + j, x)
  | _, [], j => by simp [enumF]
  | i, x :: xs, 0 => by simp [enumF]
  | i, x :: xs, j + 1 => by
    unfold enumF
    rw [List.getElem?_cons_succ, List.getElem?_cons_succ, enumF_get]
    congr 1
    funext y
    have : i + 1 + (j : Int) = i + ((j + 1 : Nat) : Int) := by omega
    rw [this]
theorem enumI_get (xs : List α) (j : Nat) : (enumI xs)[j]? = xs[j]?.map fun x => ((j : Int), x) := by
  unfold enumI
  rw [enumF_get]
  congr 1
  funext y
  rw [Int.zero_add]
theorem pair_ok {F H : Hp} {T : Addr} {x : V} {d d1 : PyData} {y : V} (e : Ex F H) (hT : H T = none) (hx : Dq F x d) (hy : Dq F y d1) : Fz F H (upd F T (.tup [y, x])) (upd H T (.tup [y, x])) ∧ Dq (upd F T (.tup [y, x])) (.ref T) (.tuple [d1, d]) := by
  have hF : F T = none := Evl.fresh_back e hT
  refine ⟨Fz.new e hT, .tup upd_same (.cons (Dq.mono (Evl.Ex.new hF) _ _ hy) (.cons (Dq.mono (Evl.Ex.new hF) _ _ hx) .nil)) (by show 2 ≤ lim; decide)⟩
theorem iteL {a : Addr} {vs : List V} {ds : List α} {P : Hp → Hp → Prop} (hP : ∀ F H, P F H → Ex F H → H a = some (.lst vs) ∧ DqAll F vs (ds.map e)) : IterP (Ite K a) P ((enumI ds).map (eP PyData.int e)) := by
  refine ⟨fun F H i d p ex hd => ?_, fun F H p ex => ?_⟩
  · obtain ⟨h1, h2⟩ := hP F H p ex
    rw [List.getElem?_map, enumI_get] at hd
    obtain ⟨q, hq, rfl⟩ := Option.map_eq_some_iff.mp hd
    obtain ⟨x, hx, rfl⟩ := Option.map_eq_some_iff.mp hq
    obtain ⟨v, hv, dv⟩ := h2.get (i := i) (d := e x) (by rw [List.getElem?_map, hx]; rfl)
    refine ⟨⟨vs, v, SqL.of h1, hv⟩, fun y H' yy => ?_⟩
    obtain ⟨T, x', rfl, hT, rfl, hx'⟩ := yy
    have e1 := (hx' vs (SqL.of h1)).symm.trans hv
    cases e1
    exact ⟨_, (pair_ok ex hT dv (.int _)).1, (pair_ok ex hT dv (.int _)).2⟩
  · obtain ⟨h1, h2⟩ := hP F H p ex
    refine ⟨vs, SqL.of h1, ?_⟩
    rw [List.length_map]
    unfold enumI
    rw [enumF_len, h2.len, List.length_map]
    exact Nat.le_refl _
theorem iteT {a : Addr} {vs : List V} {ds : List α} {P : Hp → Hp → Prop} (hP : ∀ F H, P F H → Ex F H → H a = some (.tup vs) ∧ DqAll F vs (ds.map e)) : IterP (IteT K a) P ((enumI ds).map (eP PyData.int e)) := by
  refine ⟨fun F H i d p ex hd => ?_, fun F H p ex => ?_⟩
  · obtain ⟨h1, h2⟩ := hP F H p ex
    rw [List.getElem?_map, enumI_get] at hd
    obtain ⟨q, hq, rfl⟩ := Option.map_eq_some_iff.mp hd
    obtain ⟨x, hx, rfl⟩ := Option.map_eq_some_iff.mp hq
    obtain ⟨v, hv, dv⟩ := h2.get (i := i) (d := e x) (by rw [List.getElem?_map, hx]; rfl)
    refine ⟨⟨vs, v, SqT.of h1, hv⟩, fun y H' yy => ?_⟩
    obtain ⟨T, x', rfl, hT, rfl, hx'⟩ := yy
    have e1 := (hx' vs (SqT.of h1)).symm.trans hv
    cases e1
    exact ⟨_, (pair_ok ex hT dv (.int _)).1, (pair_ok ex hT dv (.int _)).2⟩
  · obtain ⟨h1, h2⟩ := hP F H p ex
    refine ⟨vs, SqT.of h1, ?_⟩
    rw [List.length_map]
    unfold enumI
    rw [enumF_len, h2.len, List.length_map]
theorem enum_lim {xs : List α} (h : (xs.map e).length ≤ lim) : ((enumI xs).map (eP PyData.int e)).length ≤ lim := by
  rw [List.length_map] at h ⊢
  unfold enumI
  rw [enumF_len]
  exact h
theorem eis_enumL {xs : List α} (h : EX K tl env (eL e xs)) : EIs K (iEnum K (tCons tl tNil)) env ((enumI xs).map (eP PyData.int e)) := fun F0 H0 F H σ E R r => h E _ fun v F' H' z hv => by
  cases hv with
  | lst h1 h2 h3 => exact ⟨_, _, rfl, SqL.of (z.fh _ _ h1), r _ F' H' z (enum_lim h3) (iteL fun F1 H1 p ex => ⟨ex _ _ (p _ _ h1), DqAll.mono p _ _ h2⟩)⟩
theorem eis_enumT {xs : List α} (h : EX K tl env (eT e xs)) : EIs K (iEnumT K (tCons tl tNil)) env ((enumI xs).map (eP PyData.int e)) := fun F0 H0 F H σ E R r => h E _ fun v F' H' z hv => by
  cases hv with
  | tup h1 h2 h3 => exact ⟨_, _, rfl, SqT.of (z.fh _ _ h1), r _ F' H' z (enum_lim h3) (iteT fun F1 H1 p ex => ⟨ex _ _ (p _ _ h1), DqAll.mono p _ _ h2⟩)⟩
def chrs (x : Str) : List Str := x.cps.toList.map fun c => ⟨#[c]⟩
theorem chrs_len (x : Str) : (chrs x).length = x.length := by unfold chrs; rw [List.length_map, Array.length_toList]; rfl
theorem chrs_get {x : Str} {i : Nat} {s : Str} (h : (chrs x)[i]? = some s) : ∃ c, x.cps[i]? = some c ∧ s = ⟨#[c]⟩ := by
  unfold chrs at h
  rw [List.getElem?_map, Array.getElem?_toList] at h
  obtain ⟨c, h1, h2⟩ := Option.map_eq_some_iff.mp h
  exact ⟨c, h1, h2.symm⟩
theorem eis_enumS {x : Str} (h : EX K tl env (.str x)) : EIs K (iEnumS (tCons tl tNil)) env ((enumI (chrs x)).map (eP PyData.int PyData.str)) := fun F0 H0 F H σ E R r => h E _ fun v F' H' z hv => by
  cases hv with
  | str _ l =>
    refine ⟨x, rfl, r _ F' H' z (enum_lim (by rw [List.length_map, chrs_len]; exact l)) ⟨fun F1 H1 i d p ex hd => ?_, fun F1 H1 p ex => ?_⟩⟩
    · rw [List.getElem?_map, enumI_get] at hd
      obtain ⟨q, hq, rfl⟩ := Option.map_eq_some_iff.mp hd
      obtain ⟨s, hs, rfl⟩ := Option.map_eq_some_iff.mp hq
      obtain ⟨c, hc, rfl⟩ := chrs_get hs
      have hlt : i < x.cps.size := (Array.getElem?_eq_some_iff.mp hc).1
      refine ⟨hlt, fun y H' yy => ?_⟩
      obtain ⟨T, c', rfl, hT, rfl, hc'⟩ := yy
      rw [hc] at hc'; cases hc'
      have dv : Dq F1 (.str ⟨#[c]⟩) (.str ⟨#[c]⟩) := .str _ (by show 1 ≤ lim; decide)
      exact ⟨_, (pair_ok ex hT dv (.int _)).1, (pair_ok ex hT dv (.int _)).2⟩
    · show _ = x.cps.size
      rw [List.length_map]
      unfold enumI
      rw [enumF_len, chrs_len]
      rfl
theorem eis_str {x : Str} (h : EX K te env (.str x)) : EIs K (iStr te) env ((chrs x).map PyData.str) := fun F0 H0 F H σ E R r => h E _ fun v F' H' z hv => by
  cases hv with
  | str _ l =>
    refine ⟨x, rfl, r _ F' H' z (by rw [List.length_map, chrs_len]; exact l) ⟨fun F1 H1 i d p ex hd => ?_, fun F1 H1 p ex => ?_⟩⟩
    · rw [List.getElem?_map] at hd
      obtain ⟨s, hs, rfl⟩ := Option.map_eq_some_iff.mp hd
      obtain ⟨c, hc, rfl⟩ := chrs_get hs
      refine ⟨(Array.getElem?_eq_some_iff.mp hc).1, fun y H' yy => ?_⟩
      obtain ⟨rfl, c', hc', rfl⟩ := yy
      rw [hc] at hc'; cases hc'
      exact ⟨F1, Fz.refl ex, .str _ (by show 1 ≤ lim; decide)⟩
    · show x.cps.size ≤ _
      rw [List.length_map, chrs_len]
      exact Nat.le_refl _
theorem zip_get {xs : List α} {ys : List β} {i : Nat} {p : α × β} (h : (xs.zip ys)[i]? = some p) : xs[i]? = some p.1 ∧ ys[i]? = some p.2 := by
  rw [List.getElem?_zip_eq_some] at h
  exact h
theorem zip_lim {xs : List α} {ys : List β} (h : (xs.map e).length ≤ lim) : ((xs.zip ys).map (eP e f)).length ≤ lim := by
  rw [List.length_map] at h ⊢
  rw [List.length_zip]
  omega
theorem itzL {a b : Addr} {vs ws : List V} {xs : List α} {ys : List β} {P : Hp → Hp → Prop} (hP : ∀ F H, P F H → Ex F H → H a = some (.lst vs) ∧ DqAll F vs (xs.map e) ∧ H b = some (.lst ws) ∧ DqAll F ws (ys.map f)) : IterP (Itz K a b) P ((xs.zip ys).map (eP e f)) := by
  refine ⟨fun F H i d p ex hd => ?_, fun F H p ex => ?_⟩
  · obtain ⟨h1, h2, h3, h4⟩ := hP F H p ex
    rw [List.getElem?_map] at hd
    obtain ⟨q, hq, rfl⟩ := Option.map_eq_some_iff.mp hd
    obtain ⟨hx, hy⟩ := zip_get hq
    obtain ⟨v, hv, dv⟩ := h2.get (i := i) (d := e q.1) (by rw [List.getElem?_map, hx]; rfl)
    obtain ⟨w, hw, dw⟩ := h4.get (i := i) (d := f q.2) (by rw [List.getElem?_map, hy]; rfl)
    refine ⟨⟨vs, ws, v, w, SqL.of h1, SqL.of h3, hv, hw⟩, fun y H' yy => ?_⟩
    obtain ⟨T, x', y', rfl, hT, rfl, hx', hy'⟩ := yy
    have e1 := (hx' vs (SqL.of h1)).symm.trans hv
    have e2 := (hy' ws (SqL.of h3)).symm.trans hw
    cases e1; cases e2
    exact ⟨_, (pair_ok ex hT dw dv).1, (pair_ok ex hT dw dv).2⟩
  · obtain ⟨h1, h2, h3, h4⟩ := hP F H p ex
    refine ⟨vs, ws, SqL.of h1, SqL.of h3, ?_⟩
    have l1 := h2.len
    have l2 := h4.len
    rw [List.length_map] at l1 l2
    rw [List.length_map, List.length_zip]
    omega
theorem ei_zipL {xs : List α} {ys : List β} (ha : EXl K ta env (xs.map e)) (hb : EXl K tb env (ys.map f)) : EI K (RZ.iZipA K (tCons ta (tCons tb tNil))) env ((xs.zip ys).map (eP e f)) := fun F0 H0 F H σ E R r => ha E _ fun p vs F1 H1 z1 h1 h2 h3 => hb (E.step z1) _ fun p' ws F2 H2 z2 h4 h5 h6 =>
  ⟨p, p', vs, ws, rfl, .inl ⟨SqL.of (z2.hh z1.fh _ _ h1), SqL.of h4, r _ F2 H2 (z1.trans z2) (zip_lim h3) (itzL fun F3 H3 q ex => ⟨q.hh z2.fh _ _ (z2.hh z1.fh _ _ h1), DqAll.mono (z2.f.trans q.f) _ _ h2, q.hh z2.fh _ _ h4, DqAll.mono q.f _ _ h5⟩)⟩⟩
end
section
variable {K : Frag} {env : List Sl} {ta tb tl te tc : TE} {α β : Type} {e : α → PyData}
theorem pe_revK {X : Cx} {K : Frag} {ex : Expr} {tx : TE} {k : Nat} {p1 p2 p3 pos : Pos} (he : PE X ex tx) (h : X.K = K := by rfl) : PE X (.Subscript ex (.Slice none none (some (.UnaryOp .USub (.Constant (.int 1) k p1) p2)) p3) pos) (tRevL K tx) := by subst h; exact pe_revL he
theorem exw_rev {xs : List α} (ha : EXl K ta env (xs.map e)) : EXw K (tRevL K ta) env (xs.reverse.map e) := fun F0 H0 F H σ E Q q =>
  ha E _ fun p vs F1 H1 z1 h1 a1 l1 => ⟨p, vs, rfl, SqL.of h1, fun r hr => q r _ F1 _ (z1.trans (Fz.add z1.fh hr)) (z1.hn hr) (Evl.fresh_back z1.fh hr) upd_same (by rw [List.map_reverse]; exact a1.rev) (by rw [List.length_map, List.length_reverse]; rw [List.length_map] at l1; exact l1)⟩
end
end Rb

set_option Elab.async false
set_option linter.all false
set_option maxRecDepth 100000
set_option maxHeartbeats 2000000
namespace Rb
open PySem PySem.Spec PyProof.Rows L2
section
variable {X : Cx} {K : Frag} {tg e e2 l a b : Expr} {ta tb tl te td ty : TE} {tA : TA} {p pos tpos : Pos} {elts : List Expr} {kk : Nat}
theorem pi_zipK (hg : Gl X "zip") (hm : X.mg "zip" = none) (ha : PA X [e, e2] tA)
    (hs : starEach [e, e2] X.env = (false, eval e X.env) :: starEach [e2] X.env := by rfl) (hpl : (backTo pos (starEach [e2] X.env)).any (·.1) = false := by rfl) (h : X.K = K := by rfl) :
    PI X (.Tuple elts kk tpos) (.Call (.Name "zip" p) [e, e2] [] pos) (RZ.iZipA K tA) := by subst h; exact RZ.pi_zipA hg hm ha hs hpl
end
def itemsD : PyData → Option (List PyData) | .list xs => some xs | .tuple xs => some xs | _ => none
def lenD (d : PyData) : Option Int := (itemsD d).map fun xs => (xs.length : Int)
abbrev eD (d : PyData) : PyData := d
section
variable {K : Frag} {env : List Sl} {ta tb : TE} {d d' : PyData}
theorem ex_lenD {n : Int} (ha : EX K ta env d) (h : lenD d = some n) : EX K (tCB (fun ws H Q => ∃ x n, ws = [x] ∧ LenV K x H n ∧ Q (.int n) H) (tCons ta tNil)) env (.int n) := by
  cases d with
  | list xs =>
    cases h
    have := ex_lenL (e := id) (xs := xs) (EX.l (ds := xs.map id) (by rw [List.map_id]; exact ha))
    exact this
  | tuple xs =>
    cases h
    have := ex_lenT (e := id) (xs := xs) (ta := ta) (K := K) (env := env) (by rw [List.map_id]; exact ha)
    exact this
  | _ => cases h
end
def EAq (K : Frag) (ta : TA) (env : List Sl) (ds : List PyData) : Prop := ∀ ⦃F0 H0 F H : Hp⦄ ⦃σ : List (Option V)⦄, EnvOk K F0 H0 F H σ env → ∀ Q : List V → Hp → Prop, (∀ vs F' H', Fz F H F' H' → DqAll H' vs ds → Q vs H') → ta σ H Q
def FlatD (d : PyData) : Prop := ∀ F F' v, Dq F v d → Dq F' v d
theorem flat_int (i : Int) : FlatD (.int i) := fun _ _ v h => by cases h; exact .int i
section
variable {K : Frag} {env : List Sl} {te ta tb : TE} {tr : TA} {d : PyData} {ds : List PyData} {α : Type}
theorem eaq_nil : EAq K tNil env [] := fun F0 H0 F H σ E Q q => q [] F H (Fz.refl E.fh) .nil
theorem eaq_cons (ha : EXq K ta env d) (hr : EAq K tr env ds) : EAq K (tCons ta tr) env (d :: ds) := fun F0 H0 F H σ E Q q =>
  ha E _ fun v F1 H1 z1 h1 => hr (E.step z1) _ fun vs F2 H2 z2 h2 => q _ F2 H2 (z1.trans z2) (.cons (Dq.mono (z2.hh (E.step z1).fh) _ _ h1) h2)
theorem ex_callQ {I : List PyData → Rv → Prop} {E : XK} (ha : EAq K tr env ds) (hI : I ds (.sh d)) (hd : FlatD d) : EX K (tCall (Prom I) [] E tr) env d := fun F0 H0 F H σ E Q q =>
  ha E _ fun vs F1 H1 z1 a1 => by
    rw [List.append_nil]
    have E1 := E.step z1
    refine ⟨H1, ds, _, Evl.Ex.refl H1, a1, hI, fun F2 H2 v z2 hv => q v F1 H2 (z1.trans ⟨Evl.Ex.refl F1, E1.fh.trans (z2.f.trans z2.fh), fun p o h n => ⟨fun _ => n, (z2.f.trans z2.fh) p o h⟩⟩) (hd _ _ _ hv)⟩
def cutP (xs : List α) (lo hi : Option Int) : Prop := ¬ (HT.sIx xs.length 0 lo = 0 ∧ HT.sIx xs.length xs.length hi = xs.length)
instance (xs : List α) (lo hi : Option Int) : Decidable (cutP xs lo hi) := inferInstanceAs (Decidable (¬ _))
end
end Rb

set_option Elab.async false
set_option linter.all false
set_option maxRecDepth 100000
set_option maxHeartbeats 4000000
namespace Rb
open PySem PySem.Spec PyProof.Rows L2
def RetX (K : Frag) (F H : Hp) (Q : VK) (E : XK) : Rv ⊕ Exn → Prop
  | .inl r => RetOk F H Q r
  | .inr x => ∀ F' H', Fz F H F' H' → exW K x F' H' fun c d => E c d H'
def PromX (K : Frag) (I : List PyData → Rv ⊕ Exn → Prop) : Sp := fun vs H Q E => ∃ F ds r, Ex F H ∧ DqAll F vs ds ∧ I ds r ∧ RetX K F H Q E r
def rvX {R : Type} (er : R → Rv) : Except Exn R → Rv ⊕ Exn
  | .ok y => .inl (er y)
  | .error x => .inr x
def ImX {A R : Type} (ea : A → List PyData) (er : R → Rv) (f : A → Option (Except Exn R)) : List PyData → Rv ⊕ Exn → Prop := fun ds r => ∃ a y, ds = ea a ∧ f a = some y ∧ r = rvX er y
def bindX {α O : Type} (m : Option (Except Exn α)) (r : Exn → O) (k : α → Option O) : Option O := m.bind fun y => match y with
  | .error x => some (r x)
  | .ok v => k v
theorem bindX_ok {α O : Type} {m : Option (Except Exn α)} {r : Exn → O} {k : α → Option O} {v : α} (h : m = some (.ok v)) : bindX m r k = k v := by rw [h]; rfl
theorem bindX_err {α O : Type} {m : Option (Except Exn α)} {r : Exn → O} {k : α → Option O} {x : Exn} (h : m = some (.error x)) : bindX m r k = some (r x) := by rw [h]; rfl
def tryM {α O : Type} (m : Option (Except Exn α)) (k : α → Option O) (h : Exn → Option O) : Option O := m.bind fun y => match y with
  | .error x => h x
  | .ok v => k v
abbrev exc (n : Str) : Exn := ⟨n, none⟩
section
variable {K : Frag} {env env' env1 : List Sl} {d : PyData} {ds es : List PyData} {ta tb te : TE} {tr : TA} {W : WX} {α β O S : Type} {ts tu : TS} {enc : O → Out} {m n : Option O} {x : Exn}
theorem ex_callX {I : List PyData → Rv ⊕ Exn → Prop} {E : L2.St → XK} (ha : EA K tr env ds) (hI : I ds (.inl (.sh d))) : EX K (tCallS (PromX K I) E tr) env d := fun F0 H0 F H σ e Q q =>
  ha e _ fun vs F1 H1 z1 a1 => ⟨F1, ds, _, (e.step z1).fh, a1, hI, fun F2 H2 v z2 hv => q v F2 H2 (z1.trans z2) hv⟩
theorem exw_callX {I : List PyData → Rv ⊕ Exn → Prop} {E : L2.St → XK} (ha : EA K tr env ds) (hI : I ds (.inl (.fr es))) : EXw K (tCallS (PromX K I) E tr) env es := fun F0 H0 F H σ e Q q =>
  ha e _ fun vs F1 H1 z1 a1 => ⟨F1, ds, _, (e.step z1).fh, a1, hI, fun F2 H2 p vs z2 hn hf h1 h2 h3 => q p vs F2 H2 (z1.trans z2) (z1.hn hn) hf h1 h2 h3⟩
def ERR (K : Frag) (W : WX) (te : TE) (env : List Sl) (x : Exn) : Prop := ∀ ⦃F0 H0 F H : Hp⦄ ⦃σ : List (Option V)⦄, EnvOk K F0 H0 F H σ env → ∀ Q : VK, (∀ F' H', Fz F H F' H' → exW K x F' H' fun c d => W c d σ H') → te σ H Q
theorem err_callX {I : List PyData → Rv ⊕ Exn → Prop} (ha : EA K tr env ds) (hI : I ds (.inr x)) : ERR K W (tCallS (PromX K I) (WE W) tr) env x := fun F0 H0 F H σ e Q q =>
  ha e _ fun vs F1 H1 z1 a1 => ⟨F1, ds, _, (e.step z1).fh, a1, hI, fun F2 H2 z2 => q F2 H2 (z1.trans z2)⟩
theorem bx_err {o : O} (he : ERR K W te env x) (hn : enc o = .ex env' x W) (hw : Wk env env') (ht : ∀ (D : Ends) (σ : L2.St) (H : Hp), ∃ Q : VK, te σ H Q → ts D σ H) : BX K ts env enc (some o) := fun o' ho F0 H0 F H σ D e c => by
  cases ho
  rw [hn] at c
  obtain ⟨Q, q⟩ := ht D σ H
  exact q (he e Q fun F1 H1 z1 => c F1 H1 σ ((e.step z1).weak hw))
theorem bx_bindX {mm : Option (Except Exn α)} {r : Exn → O} {k : α → Option O} (h1 : ∀ x, mm = some (.error x) → BX K ts env enc (some (r x))) (h2 : ∀ v, mm = some (.ok v) → BX K ts env enc (k v)) : BX K ts env enc (bindX mm r k) := fun o ho => by
  unfold bindX at ho
  obtain ⟨y, e1, e2⟩ := Option.bind_eq_some_iff.mp ho
  cases y with
  | error x => exact h1 x e1 o e2
  | ok v => exact h2 v e1 o e2
theorem bx_raiseS {o : O} {nm : Str} (hn : enc o = .ex env' (exc nm) W) (hw : Wk env env') : BX K (tSeq (fun _ σ H => W (.ref (He.ga K nm)) none σ H) tu) env enc (some o) := fun o' ho F0 H0 F H σ D e c => by
  cases ho
  rw [hn] at c
  exact c F H σ (e.weak hw)
end
theorem fn_okX {A R : Type} {P : Program} {w : World} {K : Frag} {mg : Str → Option Value} {base : Heap} {x qual : Str} {params : Arguments} {body : List Stmt} {scope : Scope} {f : Addr} {fd : FuncData} {N ps : List Str} {k : Nat} {ea : A → List PyData} {er : R → Rv} {fm : A → Option (Except Exn R)} {en : XK → Except Exn R → Out}
    (F : FunD K x qual params body scope [] [] f fd) (S : FnScope N ps scope) (hl : ∀ a, (ea a).length = ps.length) (hn : ∀ E y, (en E (.ok y) = .rt (er y) ∨ (er y = .sh .none ∧ ∃ e, en E (.ok y) = .nx e)))
    (hx : ∀ E y, ∃ e, en E (.error y) = .ex e y fun c d _ H => E c d H)
    (hb : ∀ (cdv : Value) (A' : Around) (outer : List Env) (s : Shared) (H : Hp) (E : XK), Room k (A'.deeper (envOfC qual scope s.heap.objs.size f cdv)) →
      ∃ t, PSs (cxOf (L2N.CX P w) P w K mg base N qual scope f cdv A' outer s H E) body t ∧ ∀ a, BX K t (startE N (ea a)) (en E) (fm a)) : FnOk P w K mg base (L2N.CX P w) (k + 1) f fd ps (PromX K (ImX ea er fm)) := by
  refine F.ok S (fun vs H Q E h => ?_) (fun cdv A' outer s H vs Q E hr h => ?_)
  · obtain ⟨F, ds, r, e, a, ⟨a', y, rfl, _, _⟩, _⟩ := h
    rw [a.len, hl]
  · obtain ⟨F, ds, r, e, a, ⟨a', y, rfl, hy, rfl⟩, q⟩ := h
    obtain ⟨t, p, b⟩ := hb cdv A' outer s H E hr
    refine ⟨t, p, b a' y hy _ (start_ok e a) ?_⟩
    cases y with
    | error y =>
      obtain ⟨e1, h1⟩ := hx E y
      rw [h1]
      exact fun F1 H1 σ1 E1 => q F1 H1 E1.z
    | ok y =>
      rcases hn E y with hn | ⟨hn, e', he⟩
      · rw [hn]; exact q
      · rw [he]
        have q' : RetOk F H Q (er y) := q
        rw [hn] at q'
        exact fun F1 H1 σ1 E1 => q' F1 H1 .non E1.z .non
structure FnX (P : Program) (w : World) (K : Frag) (mg : Str → Option Value) (base : Heap) (x : Str) (k : Nat) (I : List PyData → Rv ⊕ Exn → Prop) : Prop where
  ex : ∃ f fd ps, FnOk P w K mg base (L2N.CX P w) k f fd ps (PromX K I) ∧ mg x = some (.ref f) ∧ PySem.W.keepIn K (.ref f) = true ∧ Binds K fd ps []
section
variable {X : Cx} {K : Frag} {x : Str} {k : Nat} {I : List PyData → Rv ⊕ Exn → Prop} {e : Expr} {es : List Expr} {t : TA} {p pos : Pos} {W : WX}
theorem pe_fnX (G : FnX X.prog X.w K X.mg X.base x k I) (tk : L2N.Takes X W) (hr : Room k X.A) (hg : Gl X x) (ha : PA X (e :: es) t) (hK : X.K = K := by rfl)
    (hs : starEach (e :: es) X.env = (false, eval e X.env) :: starEach es X.env := by rfl) (hpl : (backTo pos (starEach es X.env)).any (·.1) = false := by rfl) (hd : (x == ("__debug__" : Str)) = false := by decide) : PE X (.Call (.Name x p) (e :: es) [] pos) (tCallS (PromX K I) (WE W) t) := by
  subst hK
  obtain ⟨f, fd, ps, F, hm, hk, hb⟩ := G.ex
  exact pe_callS F hr hg hm hk hb (fun σ => L2N.passAt tk σ) ha hd hs hpl
end
structure ExcF (K : Frag) (mg : Str → Option Value) (x : Str) : Prop where
  g : mg x = some (.ref (He.ga K x))
  e : (He.Fa.exc x).ok K = true
theorem ps_raiseX {X : Cx} {K : Frag} {W : WX} {x m : Str} {j : Nat} {p p2 pos pos2 : Pos} (hc : X.calm = true) (T : ExcF K X.mg x) (tk : L2N.Takes X W) (hg : Gl X x) (hK : X.K = K := by rfl) (hd : (x == ("__debug__" : Str)) = false := by decide) :
    PS X (.Raise (some (.Call (.Name x p) [.Constant (.str m) j p2] [] pos)) none pos2) (fun _ σ H => W (.ref (He.ga K x)) none σ H) := by
  subst hK
  have q := He.exc_ok T.e
  exact L2N.ps_raise hc tk (L2N.pmk_own PySem.F.excBase_ValueError q.1 T.g q.2.1 (raises_own q.2.2.1 q.2.2.2) hg hd)
structure ExF (K : Frag) (x : Str) : Prop where
  rib : PySem.W.exmOne K (.ref (He.ga K x)) (.ref (He.ga K "RibbonError")) = some true
  exm : ∀ y, y ∈ exNames → PySem.W.exmOne K (.ref (He.ga K x)) (.ref (He.ga K y)) = some (decide (x = y)) ∧ PySem.W.kitOne K (.ref (He.ga K x)) (.ref (He.ga K y)) = some (decide (x = y))
  ve : PySem.W.kitOne K (.ref (He.ga K x)) (.type "ValueError") = some true
  c : ExcC K (He.ga K x)
theorem exB_ok {K : Frag} (h : exB K = true) {x : Str} (hx : x ∈ exNames) : ExF K x := by
  unfold exB at h
  have h1 := List.all_eq_true.mp h x hx
  simp only [Bool.and_eq_true] at h1
  obtain ⟨⟨⟨⟨⟨⟨⟨⟨⟨⟨a, b⟩, c⟩, d1⟩, d2⟩, d3⟩, d4⟩, d5⟩, d6⟩, d7⟩, d8⟩ := h1
  exact ⟨of_decide_eq_true a, fun y hy => of_decide_eq_true (List.all_eq_true.mp b y hy), of_decide_eq_true c, ⟨of_decide_eq_true d1, of_decide_eq_true d2, of_decide_eq_true d3, d4, of_decide_eq_true d5, of_decide_eq_true d6, of_decide_eq_true d7, of_decide_eq_true d8⟩⟩
section
variable {K : Frag} {env : List Sl} {x : Str}
theorem ex_join {to te : TE} {z : Str} {ys : List Str} (ho : EX K to env (.str z)) (he : EXl K te env (ys.map PyData.str)) (hl : (ys.map (·.length)).sum + ys.length * z.length ≤ lim) (hj : (Txt.join z ys).length ≤ lim) :
    EX K (tM1 (fun x xs H Q => ∃ a p, ∃ ys : List Str, x = .str a ∧ xs = [.ref p] ∧ (SqL K H p (ys.map V.str) ∨ SqT K H p (ys.map V.str)) ∧ (ys.map (·.length)).sum + ys.length * a.length ≤ 16777216 ∧ Q (.str (Txt.join a ys)) H) to te) env (.str (Txt.join z ys)) := fun F0 H0 F H σ E Q q =>
  ho E _ fun v F1 H1 z1 hv => by
    cases hv
    refine ⟨⟨z, rfl⟩, he (E.step z1) _ fun p vs F2 H2 z2 h1 a1 l1 => ?_⟩
    have := a1.strs
    subst this
    exact ⟨z, p, ys, rfl, rfl, .inl (SqL.of h1), Nat.le_trans hl (by decide), q _ F2 H2 (z1.trans z2) (.str _ hj)⟩
end
end Rb

set_option Elab.async false
set_option linter.all false
set_option maxRecDepth 100000
set_option maxHeartbeats 400000
namespace Rb
namespace Hot
open PySem PySem.Spec PyProof.Rows HotX
section
variable {prog : Program} {w : World} {A : Around} {E : Value → Shared → Prop} {s : Shared} {x1 : Addr}
theorem stop {α : Type} {Q : α → Shared → Prop} (hot : HotAt A x1 s.heap) (hE : ∀ h' e, (∀ b o, s.heap.get? b = some o → h'.get? b = some o) → (∃ o, h'.get? e = some o ∧ o.cls = .type "StopIteration") → E (.ref e) { s with heap := h' }) :
    wpAny (model prog w) A (newExc (.type "StopIteration") [] >>= fun e => (raiseNew e : Sem α)) Q E s := by
  obtain ⟨hh, o1, vs1, h1, d1, c1⟩ := hot
  refine wpAny_bind ?_
  simp only [newExc, newTuple]
  refine wpAny_bind (wpAny_newObj_type ?_ (by size_fits))
  refine wpAny_bind (m := firstArgMember _ _) (wpAny_of_eq (a := Value.none) (by first | rfl | (simp only [firstArgMember]; rfl)) ?_)
  refine wpAny_newObj_type ?_ (by size_fits)
  have g := Heap.get?_push_of_some (h := s.heap) { cls := .type "tuple", data := .seq (([] : List Value)).toArray } h1
  refine raiseNew_hot ⟨hh, o1, vs1, Heap.get?_push_of_some _ g, d1, c1⟩ (Nat.ne_of_lt (Heap.lt_size g)) (Heap.get?_push_size _ rfl) rfl (by first | (simp; done) | (simp; omega)) ?_
  refine hE _ _ (fun b o e => ?_) ⟨_, Heap.get?_update_self _ (Heap.get?_push_size _ rfl) rfl, rfl⟩
  have e1 := Heap.get?_push_of_some (h := s.heap) { cls := .type "tuple", data := .seq (([] : List Value)).toArray } e
  rw [Heap.get?_update_other _ _ (Nat.ne_of_gt (Heap.lt_size e1))]
  exact Heap.get?_push_of_some _ e1
theorem HotAt.in1 (hot : HotAt A x1 s.heap) : HotAt A.in1 x1 s.heap := hot
theorem HotAt.but {h' : Heap} {b : Addr} (hot : HotAt A x1 s.heap) (hb : x1 ≠ b) (k : ∀ c o, c ≠ b → s.heap.get? c = some o → h'.get? c = some o) : HotAt A x1 h' := by
  obtain ⟨hh, o1, vs1, h1, d1, c1⟩ := hot
  exact ⟨hh, o1, vs1, k _ _ hb h1, d1, c1⟩
theorem HotAt.ne_list {l it : Addr} {i : Nat} (hot : HotAt A x1 s.heap) (hit : s.heap.IsListIter it l i) : x1 ≠ it := by
  rintro rfl
  obtain ⟨_, o1, vs1, h1, d1, c1⟩ := hot
  obtain ⟨o, ho, _, hd⟩ := hit
  rw [h1] at ho
  cases ho
  rw [d1] at hd
  cases hd
  cases c1
theorem HotAt.ne_tup {t it : Addr} {i : Nat} (hot : HotAt A x1 s.heap) (hit : IsTupIter s.heap it t i) : x1 ≠ it := by
  rintro rfl
  obtain ⟨_, o1, vs1, h1, d1, c1⟩ := hot
  obtain ⟨o, ho, _, hd⟩ := hit
  rw [h1] at ho
  cases ho
  rw [d1] at hd
  cases hd
  cases c1
theorem nextOf_list {it l : Addr} {i : Nat} {items : Array Value} {Q : Value → Shared → Prop} (hot : HotAt A x1 s.heap) (hit : s.heap.IsListIter it l i) (hl : s.heap.IsList l items) (hx : items[i]? = none)
    (hE : ∀ h' e, Heap.ExtBut it s.heap h' → (∃ o, h'.get? e = some o ∧ o.cls = .type "StopIteration") → E (.ref e) { s with heap := h' }) : wpAny (model prog w) A (Builtin.SmallTypes.nextOf (.ref it)) Q E s := by
  have ne := HotAt.ne_list hot hit
  obtain ⟨o, ho, hc, hd⟩ := id hit
  obtain ⟨ol, hol, _, nl, hdl⟩ := hl
  unfold Builtin.SmallTypes.nextOf
  apply wpAny_bind
  refine wpAny_callSpecial?_slot (name := Str.ofString "__next__") hit.typeIs slot_listiter_next (wpAny_call_entry slot_listiter_next hit.typeIs entry_listiter_next ?_ (args_listiter_next _))
  show wpAny _ _ (field (.ref it) 0 >>= _) _ _ s
  apply wpAny_bind
  refine wpAny_field ho hd (x := .ref l) rfl ?_
  show wpAny _ _ (if (Value.ref l == Value.none) = true then _ else _) _ _ s
  rw [if_neg (by intro z; cases z)]
  show wpAny _ _ (field (.ref it) 1 >>= _) _ _ s
  apply wpAny_bind
  refine wpAny_field ho hd (x := .int i 0) rfl ?_
  show wpAny _ _ (seqItems? (.ref l) >>= _) _ _ s
  apply wpAny_bind
  refine wpAny_seqItems hol hdl ?_
  simp only [Int.toNat_natCast, hx]
  apply wpAny_bind
  refine wpAny_rule (wpAny_bind (wpAny_setField ho hd (by simp) ?_))
  have sb := Heap.SameBut.update s.heap it (Obj.mapFields (·.setIfInBounds 0 Value.none))
  show wpAny _ _ (newExc (.type "StopIteration") [] >>= fun e => raiseNew e) _ _ _
  refine stop (x1 := x1) (s := { s with heap := s.heap.update it (Obj.mapFields (·.setIfInBounds 0 Value.none)) }) ?_ fun h' e k he => hE h' e (fun c u hc q => k _ _ (sb.extBut c u hc q)) he
  exact HotAt.but (s := s) hot ne fun c u hc e => sb.extBut c u hc e
theorem next_tup {it t : Addr} {i : Nat} {items : Array Value} {Q : Option Value → Shared → Prop} (hot : HotAt A x1 s.heap) (hit : IsTupIter s.heap it t i) (ht : IsTup s.heap t items) (hx : items[i]? = none)
    (hQ : ∀ h', Heap.ExtBut it s.heap h' → Q none { s with heap := h' }) : wpAny (model prog w) A (pyNext (.ref it)) Q E s := by
  have ne := HotAt.ne_tup hot hit
  obtain ⟨o, ho, hc, hd⟩ := id hit
  obtain ⟨ol, hol, _, nl, hdl⟩ := ht
  unfold pyNext
  apply wpAny_bind
  apply wpAny_attempt
  refine wpAny_callSpecial?_slot (name := Str.ofString "__next__") hit.typeIs slot_tupleiter_next (wpAny_call_entry slot_tupleiter_next hit.typeIs entry_tupleiter_next ?_ (args_tupleiter_next _))
  show wpAny _ _ (field (.ref it) 0 >>= _) _ _ s
  apply wpAny_bind
  refine wpAny_field ho hd (x := .ref t) rfl ?_
  show wpAny _ _ (if (Value.ref t == Value.none) = true then _ else _) _ _ s
  rw [if_neg (by intro z; cases z)]
  show wpAny _ _ (field (.ref it) 1 >>= _) _ _ s
  apply wpAny_bind
  refine wpAny_field ho hd (x := .int i 0) rfl ?_
  show wpAny _ _ (seqItems? (.ref t) >>= _) _ _ s
  apply wpAny_bind
  refine wpAny_seqItems hol hdl ?_
  simp only [Int.toNat_natCast, hx]
  apply wpAny_bind
  refine wpAny_rule (wpAny_bind (wpAny_setField ho hd (by simp) ?_))
  have sb := Heap.SameBut.update s.heap it (Obj.mapFields (·.setIfInBounds 0 Value.none))
  show wpAny _ _ (newExc (.type "StopIteration") [] >>= fun e => raiseNew e) _ _ _
  refine stop (x1 := x1) (s := { s with heap := s.heap.update it (Obj.mapFields (·.setIfInBounds 0 Value.none)) }) ?_ fun h' e k ⟨oe, he, hce⟩ => ?_
  · exact HotAt.but (s := s) hot ne fun c u hc e => sb.extBut c u hc e
  · refine wpAny_bind (wpAny_isInstance (T := "StopIteration") (b := true) ⟨oe, he, hce⟩ isSubtype_stop ?_)
    exact wpAny_pure (hQ _ fun c u hc q => k _ _ (sb.extBut c u hc q))
theorem unpack_tup {t : Addr} {items : Array Value} {targets : List (Bool × (Value → Sem Unit))} {Q : Unit → Shared → Prop} (hot : HotAt A x1 s.heap) (ht : IsTup s.heap t items)
    (hn : targets.length = items.size) (hstar : targets.findIdx? (·.1) = none)
    (h : ∀ h', Heap.ExtBut s.heap.objs.size s.heap h' → wpAny (model prog w) A (assignInOrder (targets.map (·.2)) items.toList) Q E { s with heap := h' }) : wpAny (model prog w) A (unpack (.ref t) targets) Q E s := by
  have hlt : t ≠ s.heap.objs.size := by
    obtain ⟨o, ho, _⟩ := ht
    exact Nat.ne_of_lt (Heap.lt_size ho)
  have hx1 : x1 ≠ s.heap.objs.size := by
    obtain ⟨_, o1, _, h1, _⟩ := hot
    exact Nat.ne_of_lt (Heap.lt_size h1)
  unfold unpack
  rw [hn, hstar]
  refine wpAny_bind (wpAny_holding ?_)
  unfold unpackItems
  apply wpAny_bind
  unfold notIterableAtAll
  refine wpAny_bind (wpAny_specialOf ht.typeIs slot_tuple_iter.lookup (wpAny_pure ?_))
  simp only [Bool.false_eq_true, if_false]
  refine wpAny_bind (wpAny_holding (iter_tuple ht (wpAny_bind (wpAny_holding (draw_tuple hlt items.size 0 _ _ ⟨_, Heap.get?_push_size _ rfl, rfl, rfl⟩ (ht.push _) (by omega) fun h1 it1 s1 => ?_)))))
  have all : List.take items.size (List.drop 0 items.toList) = items.toList := by
    rw [List.drop_zero]
    exact List.take_of_length_le (by simp)
  rw [all, if_neg (by simp)]
  have t1 : IsTup h1 t items := (ht.push _).extBut s1.extBut hlt
  have hot1 : HotAt A x1 h1 := by
    obtain ⟨hh, o1, vs1, g1, d1, c1⟩ := hot
    exact ⟨hh, o1, vs1, s1.extBut _ _ hx1 (Heap.get?_push_of_some _ g1), d1, c1⟩
  refine wpAny_bind (wpAny_holding (next_tup hot1 it1 t1 (by simp) fun h2 e2 => ?_))
  simp only [Option.isSome_none, Bool.false_eq_true, if_false]
  exact wpAny_pure (h h2 fun b o hb e => e2 b o hb (s1.extBut b o hb (Heap.get?_push_of_some _ e)))
theorem next_zip {z TI TO i1 i2 l1 l2 : Addr} {k1 k2 : Nat} {xs ys : Array Value} {a b : Value} {Q : Option Value → Shared → Prop} (hot : HotAt A x1 s.heap) (D : ZipApart z TI TO i1 i2 l1 l2) (hz : IsZip s.heap z TI TO .none) (hTI : IsPair s.heap TI (.ref i1) (.ref i2)) (hTO : IsPair s.heap TO a b)
    (h1 : s.heap.IsListIter i1 l1 k1) (h2 : s.heap.IsListIter i2 l2 k2) (hl1 : s.heap.IsList l1 xs) (hl2 : s.heap.IsList l2 ys) (hend : xs[k1]? = none ∨ ys[k2]? = none)
    (nz : x1 ≠ z) (nTO : x1 ≠ TO) (hQ : ∀ h', (∀ c o, c ≠ z → c ≠ TO → c ≠ i1 → c ≠ i2 → s.heap.get? c = some o → h'.get? c = some o) → Q none { s with heap := h' }) : wpAny (model prog w) A (pyNext (.ref z)) Q E s := by
  have hT : s.TypeIs (.ref z) "zip" := ⟨_, hz, rfl⟩
  have n1 := HotAt.ne_list hot h1
  unfold pyNext
  apply wpAny_bind
  apply wpAny_attempt
  refine wpAny_callSpecial?_slot (name := Str.ofString "__next__") hT F.slot_zip_next (wpAny_call_entry F.slot_zip_next hT F.entry_zip_next ?_ (F.args_zip_next_1 _))
  have leave : ∀ h' e, (∀ c o, c ≠ z → c ≠ TO → c ≠ i1 → c ≠ i2 → s.heap.get? c = some o → h'.get? c = some o) → (∃ o, h'.get? e = some o ∧ o.cls = .type "StopIteration") →
      wpAny (model prog w) A (do if (← isInstance (.ref e) (.type "StopIteration")) then pure none else throw (.ref e) : Sem (Option Value)) Q E { s with heap := h' } := fun h' e k ⟨o, ho, hc⟩ =>
    wpAny_bind (wpAny_isInstance (T := "StopIteration") (b := true) ⟨o, ho, hc⟩ isSubtype_stop (wpAny_pure (hQ _ k)))
  show wpAny _ _ (field (.ref z) 2 >>= _) _ _ _
  apply wpAny_bind
  refine wpAny_field hz rfl (x := .bool false) rfl ?_
  show wpAny _ _ (field (.ref z) 3 >>= _) _ _ _
  apply wpAny_bind
  refine wpAny_field hz rfl (x := .ref TI) rfl ?_
  apply wpAny_bind
  refine wpAny_seqItems hTI rfl ?_
  show wpAny _ _ (Builtin.SmallTypes.ownedTupleIsFree (.ref z) >>= _) _ _ _
  apply wpAny_bind
  unfold Builtin.SmallTypes.ownedTupleIsFree
  apply wpAny_bind
  refine wpAny_field hz rfl (x := .none) rfl (wpAny_pure ?_)
  simp only [if_true]
  apply wpAny_bind
  apply wpAny_rule
  apply wpAny_bind
  refine wpAny_field hz rfl (x := .ref TO) rfl ?_
  apply wpAny_bind
  refine wpAny_setField_rec hz (by simp) fun g1 z1 s1 => ?_
  replace z1 : IsZip g1 z TI TO .ellipsis := z1
  have hot1 : HotAt A x1 g1 := HotAt.but (s := s) hot nz fun c o hc e => s1.extBut c o hc e
  apply wpAny_bind
  simp only [List.zipIdx_cons, List.zipIdx_nil, List.forIn_cons, List.forIn_nil]
  refine wpAny_bind (wpAny_bind (wpAny_onRaise ?_))
  show wpAny _ _ (Builtin.SmallTypes.nextOf (.ref i1) >>= _) _ _ _
  cases hx : xs[k1]? with
  | none =>
    apply wpAny_bind
    refine nextOf_list (s := { s with heap := g1 }) hot1 (h1.extBut s1.extBut D.i1z) (hl1.extBut s1.extBut D.l1z) hx fun g2 e s2 ⟨oe, hoe, hce⟩ => ?_
    have z2 : IsZip g2 z TI TO .ellipsis := s2 _ _ D.i1z.symm z1
    have hez : e ≠ z := by
      rintro rfl
      rw [z2] at hoe
      cases hoe
      simp at hce
    refine wpAny_setField_rec z2 (by simp) fun g3 _ s3 => ?_
    exact leave g3 e (fun c o c1 _ c3 _ q => s3.extBut _ _ c1 (s2 _ _ c3 (s1.extBut _ _ c1 q))) ⟨oe, s3.extBut _ _ hez hoe, hce⟩
  | some x =>
    have hy : ys[k2]? = none := hend.resolve_left fun q => by rw [hx] at q; cases q
    apply wpAny_bind
    refine wpAny_nextOf_list_item (h1.extBut s1.extBut D.i1z) (hl1.extBut s1.extBut D.l1z) hx fun g2 h1' s2 => wpAny_pure ?_
    have TO2 : IsPair g2 TO a b := s2.extBut _ _ D.TOi1 (s1.extBut _ _ D.TOz hTO)
    have hot2 : HotAt A x1 g2 := HotAt.but (s := { s with heap := g1 }) hot1 n1 fun c o hc e => s2.extBut c o hc e
    apply wpAny_bind
    refine wpAny_seqItems TO2 rfl ?_
    apply wpAny_bind
    refine wpAny_updateSeq_pair TO2 fun g3 TO3 s3 => ?_
    have hot3 : HotAt A x1 g3 := HotAt.but (s := { s with heap := g2 }) hot2 nTO fun c o hc e => s3.extBut c o hc e
    refine wpAny_bind (wpAny_letGo (wpAny_pure ?_))
    refine wpAny_bind (wpAny_bind (wpAny_onRaise ?_))
    show wpAny _ _ (Builtin.SmallTypes.nextOf (.ref i2) >>= _) _ _ _
    apply wpAny_bind
    refine nextOf_list (s := { s with heap := g3 }) hot3 (((h2.extBut s1.extBut D.i2z).extBut s2.extBut D.i12.symm).extBut s3.extBut D.TOi2.symm) (((hl2.extBut s1.extBut D.l2z).extBut s2.extBut D.l2i1).extBut s3.extBut D.l2TO) hy fun g4 e s4 ⟨oe, hoe, hce⟩ => ?_
    have z4 : IsZip g4 z TI TO .ellipsis := s4 _ _ D.i2z.symm (s3.extBut _ _ D.TOz.symm (s2.extBut _ _ D.i1z.symm z1))
    have hez : e ≠ z := by
      rintro rfl
      rw [z4] at hoe
      cases hoe
      simp at hce
    refine wpAny_setField_rec z4 (by simp) fun g5 _ s5 => ?_
    exact leave g5 e (fun c o c1 c2 c3 c4 q => s5.extBut _ _ c1 (s4 _ _ c4 (s3.extBut _ _ c2 (s2.extBut _ _ c3 (s1.extBut _ _ c1 q))))) ⟨oe, s5.extBut _ _ hez hoe, hce⟩
theorem HotAt.ne_zip {z TI TO : Addr} {f : Value} (hot : HotAt A x1 s.heap) (hz : IsZip s.heap z TI TO f) : x1 ≠ z := by
  rintro rfl
  obtain ⟨_, o1, vs1, h1, d1, c1⟩ := hot
  have e : some o1 = some _ := h1.symm.trans hz
  cases e
  cases d1
  cases c1
theorem HotAt.ne_pair {T : Addr} {a b : Value} (hot : HotAt A x1 s.heap) (hz : IsPair s.heap T a b) : x1 ≠ T := by
  rintro rfl
  obtain ⟨_, o1, vs1, h1, d1, c1⟩ := hot
  have e : some o1 = some _ := h1.symm.trans hz
  cases e
  cases d1
end
end Hot
open PySem PySem.Spec PyProof.Rows L2 HotX L2H
theorem turn_zipH {P : Program} {w : World} {K : Frag} {elts : List Expr} {kk : Nat} {tpos : Pos} {a b z TI TO i1 i2 : Addr} (D : ZipApart z TI TO i1 i2 a b) :
    TurnH P w K (.Tuple elts kk tpos) (Itz K a b) [z, TI, TO, i1, i2] z (fun i h => IsZip h z TI TO .none ∧ IsPair h TI (.ref i1) (.ref i2) ∧ (∃ x y, IsPair h TO x y) ∧ h.IsListIter i1 a i ∧ h.IsListIter i2 b i) := by
  have T := turn_zip (P := P) (w := w) (K := K) (elts := elts) (kk := kk) (tpos := tpos) D
  refine ⟨T.mem, T.obj, T.keep, ?_, ?_, T.self⟩
  · intro X hP hw hK hc i pins s σ H E I hf st hg
    subst hP hw hK
    obtain ⟨hz, hTI, ⟨x0, y0, hTO⟩, h1, h2⟩ := st
    obtain ⟨xs, ys, x, y, qx, qy, hx, hy⟩ := hg
    obtain ⟨_, rx, px, _⟩ := I.list qx
    obtain ⟨_, ry, py, _⟩ := I.list qy
    obtain ⟨u, hu, ru⟩ := rx.get hx
    obtain ⟨v, hv, rv⟩ := ry.get hy
    have lz : z < s.heap.objs.size := Heap.lt_size hz
    have five : ∀ c, c ∈ [z, TI, TO, i1, i2] → c < s.heap.objs.size := fun c hc => by
      obtain ⟨o, ho, _⟩ := T.obj i s.heap ⟨hz, hTI, ⟨x0, y0, hTO⟩, h1, h2⟩ c hc
      exact Heap.lt_size ho
    refine wpAny_pyNext_zip_item D hz hTI hTO h1 h2 px.isList py.isList (x := u) (y := v) (by simpa using hu) (by simpa using hv) fun g1 z1 TO1 j1 j2 nw sz k1 => ⟨_, rfl, ?_⟩
    refine wpAny_letOwnedTupleGo_zip (s := { s with heap := g1 }) z1 fun g2 z2 s2 => ?_
    have nw2 : g2.get? s.heap.objs.size = some { cls := .type "tuple", data := .seq #[u, v] } := (s2.2 _ (Nat.ne_of_gt lz)).trans nw
    have ob : ObjOk X.prog X.w (upd H s.heap.objs.size (.tup [x, y])) g2 s.heap.objs.size (.tup [x, y]) := ⟨by show 2 ≤ sizeLine; decide, [u, v], .cons ru (.cons rv .nil), ⟨_, nw2, rfl, _, rfl⟩⟩
    have out : ∀ {c : Addr}, c ∉ [z, TI, TO, i1, i2] → c ≠ z ∧ c ≠ TI ∧ c ≠ TO ∧ c ≠ i1 ∧ c ≠ i2 := fun {c} h => by simpa using h
    have J := I.turnedNew (t' := s.toks) (ch := [z, TI, TO, i1, i2]) (h' := g2) (fun c o hb q => (s2.2 c (out hb).1).trans (k1 c o (out hb).1 (out hb).2.2.1 (out hb).2.2.2.1 (out hb).2.2.2.2 q)) hf (Nat.le_refl _) ob
    refine ⟨.ref s.heap.objs.size, _, J, rfl, ⟨_, x, y, rfl, I.hok.fresh (Nat.le_refl _), rfl, fun l hl => by rw [I.list_inj hl qx]; exact hx, fun l hl => by rw [I.list_inj hl qy]; exact hy⟩,
      ⟨z2, (s2.2 _ D.TIz).trans (k1 _ _ D.TIz D.TITO D.TIi1 D.TIi2 hTI), ⟨u, v, (s2.2 _ D.TOz).trans TO1⟩, j1.at fun o q => (s2.2 _ D.i1z).trans q, j2.at fun o q => (s2.2 _ D.i2z).trans q⟩, fun c hm => ?_⟩
    rw [upd_ne (Nat.ne_of_lt (five c hm))]
    exact (hf c hm).1
  · intro X hP hw hK hc i pins s σ H E I hf st hg
    subst hP hw hK
    obtain ⟨hz, hTI, ⟨x0, y0, hTO⟩, h1, h2⟩ := st
    obtain ⟨xs, ys, qx, qy, hend⟩ := hg
    obtain ⟨its, rx, px, _⟩ := I.list qx
    obtain ⟨jts, ry, py, _⟩ := I.list qy
    obtain ⟨x1, hot⟩ := hc.at I
    have lx := rx.length
    have ly := ry.length
    have he : its.toArray[i]? = none ∨ jts.toArray[i]? = none := hend.elim (fun q => .inl (by simp; omega)) fun q => .inr (by simp; omega)
    have out : ∀ {c : Addr}, c ∉ [z, TI, TO, i1, i2] → c ≠ z ∧ c ≠ TI ∧ c ≠ TO ∧ c ≠ i1 ∧ c ≠ i2 := fun {c} h => by simpa using h
    exact Hot.next_zip hot D hz hTI hTO h1 h2 px.isList py.isList he (Hot.HotAt.ne_zip hot hz) (Hot.HotAt.ne_pair hot hTO) fun g k => ⟨rfl, I.turnedL (t' := s.toks) (ch := [z, TI, TO, i1, i2]) (fun c o hb q => k c o (out hb).1 (out hb).2.2.1 (out hb).2.2.2.1 (out hb).2.2.2.2 q) hf⟩
theorem pi_zipH {X : Cx} {K : Frag} {e e2 : Expr} {ta : TA} {p pos tpos : Pos} {elts : List Expr} {kk : Nat} (hg : Gl X "zip") (hm : X.mg "zip" = none) (ha : PA X [e, e2] ta) (hK : X.K = K := by rfl)
    (hs : starEach [e, e2] X.env = (false, eval e X.env) :: starEach [e2] X.env := by rfl) (hpl : (backTo pos (starEach [e2] X.env)).any (·.1) = false := by rfl) :
    PIH X (.Tuple elts kk tpos) (.Call (.Name "zip" p) [e, e2] [] pos) (iZip K ta) := by
  subst hK
  constructor
  intro pins s σ H R I h
  refine Call_ (ld_blt I hg hm PyProof.Rows.boot_zip (PyProof.Rows.callWith_type1 (thn (ha.run pos pins s σ H _ I h) fun us s1 ⟨vs, H1, I1, r1, q1⟩ => ?_) hs hpl))
  obtain ⟨a, b, xs, ys, ex, qx, qy, q⟩ := q1
  subst ex
  cases r1 with
  | cons r2 rr =>
  cases rr with
  | cons r3 rr =>
  cases rr
  cases r2
  cases r3
  obtain ⟨_, _, px, _⟩ := I1.list qx
  obtain ⟨_, _, py, _⟩ := I1.list qy
  have la : a < s1.heap.objs.size := px.lt
  have lb : b < s1.heap.objs.size := py.lt
  refine call_zip_2 px.isList py.isList fun g hz hTI hTO h1 h2 hsz hk => wpAny_pyIter_zip hz ?_
  have I2 : Inv X pins σ H1 { s1 with heap := g } := I1.kept (t' := s1.toks) hk
  refine ⟨s1.heap.objs.size + 4, [s1.heap.objs.size + 4, s1.heap.objs.size + 2, s1.heap.objs.size + 3, s1.heap.objs.size, s1.heap.objs.size + 1], _, _, H1, rfl, I2, turn_zipH (PySem.W.ktu_apart s1.heap.objs.size a b la lb), ⟨hz, hTI, ⟨_, _, hTO⟩, h1, h2⟩, fun c hcm => ?_, q⟩
  have hle : s1.heap.objs.size ≤ c := by
    simp only [List.mem_cons, List.not_mem_nil, or_false] at hcm
    rcases hcm with h | h | h | h | h <;> rw [h] <;> first | exact Nat.le_refl _ | exact Nat.le_add_right _ _
  exact I1.fpOk hle (I1.hok.fresh hle)
theorem pg_tupH {X : Cx} {K : Frag} {pos : Pos} {es : List Expr} {k : Nat} {t : TGs} {n : Nat} (hc : HotC X) (h : PGs X es t) (hn : (assignEach es X.env).length = n := by rfl) (hst : (assignEach es X.env).findIdx? (·.1) = none := by rfl) (hK : X.K = K := by rfl) : PG X (.Tuple es k pos) (gTup K n t) := by
  subst hK
  constructor
  intro pins s σ H v u Q I r hw
  obtain ⟨a, xs, e1, hq, hl, hw⟩ := hw
  subst e1
  obtain rfl : u = Value.ref a := r
  obtain ⟨its, rv, ht, hz⟩ := I.tuple hq
  obtain ⟨x1, hot⟩ := hc.at I
  rw [PyProof.Rows.assign_Tuple]
  refine wpAny_bind (wpAny_standAt (Hot.unpack_tup hot ht (by simp [hn, ← hl, rv.length]) hst fun g hx => ?_))
  have J : Inv X pins σ H { s with heap := g } := I.kept (t' := s.toks) fun b o e => hx b o (Nat.ne_of_lt (Heap.lt_size e)) e
  exact h.run pins _ σ H xs _ Q J (by simpa using rv) hw
abbrev blkH (X : Cx) (s : Shared) (H : Hp) (scope : Scope) (ce : Env) (fp : List Addr) (p : Addr × Obj) : Cx := { X.blk s H scope ce fp with pn := [p] }
theorem blkH_ok {X : Cx} {s : Shared} {H : Hp} {scope : Scope} {ce : Env} {fp : List Addr} {p : Addr × Obj} (ok : (X.blk s H scope ce fp).Ok) : (blkH X s H scope ce fp p).Ok :=
  { mod := ok.mod, kind := ok.kind, glob := ok.glob, blt := ok.blt, above := ok.above, inj := ok.inj, has := ok.has, cab := ok.cab, hd := ok.hd, frames := ok.frames, stk := ok.stk, exf := ok.exf, bs := ok.bs, bsz := ok.bsz, noex := ok.noex, exfs := ok.exfs, funs := ok.funs, frf := ok.frf }
theorem blkH_inv {X : Cx} {s s' : Shared} {H H' : Hp} {scope : Scope} {ce : Env} {fp : List Addr} {p : Addr × Obj} {σ : L2.St} (I : Inv (X.blk s H scope ce fp) [] σ H' s') (h : s'.heap.get? p.1 = some p.2 ∧ H' p.1 = none ∧ p.1 ≠ ce.locals ∧ p.1 ∉ frs X.stack ∧ ∀ v, p.2.data ≠ .cell v) : Inv (blkH X s H scope ce fp p) [] σ H' s' :=
  { ok := blkH_ok I.ok, os := I.os, bare := I.bare, base := I.base, loc := I.loc, cell := I.cell, free := I.free, freeC := I.freeC, hok := I.hok, len := I.len, pin := fun q hq => by
      have e : q = p := by simpa using (show q ∈ [p] ++ ([] : List (Addr × Obj)) from hq)
      rw [e]
      exact h }
theorem lc_hot {X : Cx} {pins : List (Addr × Obj)} {s : Shared} {σ : L2.St} {H : Hp} {Q : VK} {elt tg iter : Expr} {ifs : List Expr} {scope : Scope} {own : List (Str × Nat)} {pos pos' : Pos} {wi : TI} {g : TG} {tt : TT} {te : TE} {Qf : Value → Shared → Prop}
    (hc : HotC X) (hN : X.N.Nodup) (I : Inv X pins σ H s) (hi : PIH X tg iter wi) (ok : BlkOk X.N X.env.scope scope own)
    (hg : ∀ s H C cl fp p, Hot1 X.A p → PG (blkH X s H scope (compEnvC scope cl C X.env) fp p) tg g) (ht : ∀ s H C cl fp p, Hot1 X.A p → PTs (blkH X s H scope (compEnvC scope cl C X.env) fp p) ifs tt) (he : ∀ s H C cl fp p, Hot1 X.A p → PE (blkH X s H scope (compEnvC scope cl C X.env) fp p) elt te)
    (hs : ∀ x, foldedSetIterable iter X.env x = pure x) (h : tLc wi g tt te (own.map (·.2)) σ H Q)
    (fin : ∀ D C s' m H', Inv X pins σ H' s' → Q (.ref D) H' → s'.heap.Ns C m → FpOk X pins H' C → compPost (model X.prog X.w) X.A X.xe none Qf (.ref D) C (.ok .next) s') :
    wpAny (model X.prog X.w) X.A (comprehension (.ListComp elt [⟨tg, iter, ifs, 0⟩] scope pos) scope X.env pos' (newList []) false (eval iter X.env) none) Qf X.xe s := by
  obtain ⟨p, hot, hp⟩ := hc
  have frees : ∀ y ∈ scope.names, y.2 = .free → ∃ c, X.env.cells.lookup y.1 = some c := fun y hy e => (ok.free y hy e).elim (fun k => I.ok.has _ (.inl k)) fun k => I.ok.has _ (.inr k)
  refine wpAny_comprehension_free (use := none) rfl hs (closure_ok frees) ok.kind (fun y hy e => by rw [ok.uniq y hy, e]) ?_
  refine thn (hi.run pins s σ H _ I h) fun xv s1 hx => thn hx fun itv s2 h2 => ?_
  obtain ⟨it, fp, tn, J, H2, e, I2, T, st2, f2, q⟩ := h2
  subst e
  refine wpAny_newObj_type (newEnv_comp ?_) (by show 0 ≤ sizeLine; decide)
  -- the list that is made
  obtain ⟨D, hD⟩ : ∃ D, s2.heap.objs.size = D := ⟨_, rfl⟩
  rw [hD]
  have nD : H2 D = none := I2.hok.fresh (Nat.le_of_eq hD)
  obtain ⟨W, ⟨m0, w0⟩, turn⟩ := q D nD
  obtain ⟨s3, hs3⟩ : ∃ s3 : Shared, ({ s2 with heap := s2.heap.push { cls := .type "list", data := .seq ([] : List Value).toArray } } : Shared) = s3 := ⟨_, rfl⟩
  rw [hs3]
  have e3 : s3.heap = s2.heap.push { cls := .type "list", data := .seq ([] : List Value).toArray } := by rw [← hs3]
  obtain ⟨H3, hH3⟩ : ∃ H3, upd H2 D (.lst []) = H3 := ⟨_, rfl⟩
  rw [hH3] at w0
  have I3 : Inv X pins σ H3 s3 := by
    rw [← hs3, ← hH3]
    refine I2.laid (t' := s2.toks) (fun b o e => Heap.get?_push_of_some _ e) (Nat.le_of_eq hD) ⟨Nat.zero_le _, [], 0, .nil, ?_⟩
    rw [← hD]
    exact Heap.get?_push_size _ rfl
  have small : ∀ b ∈ fp, b < s2.heap.objs.size := fun b hb => by
    obtain ⟨_, e, _⟩ := T.obj _ _ st2 b hb
    exact Heap.lt_size e
  have f3 : ∀ b ∈ fp, FpOk X pins H3 b ∧ b < s3.heap.objs.size := fun b hb => by
    have lt := small b hb
    refine ⟨⟨?_, (f2 b hb).2⟩, by rw [e3, Heap.size_push]; exact Nat.lt_succ_of_lt lt⟩
    rw [← hH3, upd_ne (by rw [← hD]; exact Nat.ne_of_lt lt)]
    exact (f2 b hb).1
  have st3 : tn 0 s3.heap := T.keep _ _ _ st2 fun b _ o e => by rw [e3]; exact Heap.get?_push_of_some _ e
  have pin3 := I3.pin p (List.mem_append_left _ hp)
  have B4 := block_start I3 ok hN f3
  have pg := hg s3 H3 s3.heap.objs.size (cellsFrom (s3.heap.objs.size + 1) scope.names (cloFrom X.env.cells scope.names [])) fp p hot
  have pt := ht s3 H3 s3.heap.objs.size (cellsFrom (s3.heap.objs.size + 1) scope.names (cloFrom X.env.cells scope.names [])) fp p hot
  have pe := he s3 H3 s3.heap.objs.size (cellsFrom (s3.heap.objs.size + 1) scope.names (cloFrom X.env.cells scope.names [])) fp p hot
  show codeAny _ _ (.compStart (.ListComp elt [⟨tg, iter, ifs, 0⟩] scope pos) 0 (.ref it) (.ref D) (compEnvC scope (cellsFrom (s3.heap.objs.size + 1) scope.names (cloFrom X.env.cells scope.names [])) s3.heap.objs.size X.env)) (compPost (model X.prog X.w) X.A X.xe none Qf (.ref D) s3.heap.objs.size) { s3 with heap := pushCells (s3.heap.push { cls := .type "dict", data := .dict #[] }) scope.names }
  obtain ⟨ce, hce⟩ : ∃ ce, compEnvC scope (cellsFrom (s3.heap.objs.size + 1) scope.names (cloFrom X.env.cells scope.names [])) s3.heap.objs.size X.env = ce := ⟨_, rfl⟩
  rw [hce] at B4 pg pt pe ⊢
  have cL : ce.locals = s3.heap.objs.size := by rw [← hce]; rfl
  obtain ⟨s4, hs4⟩ : ∃ s4 : Shared, ({ s3 with heap := pushCells (s3.heap.push { cls := .type "dict", data := .dict #[] }) scope.names } : Shared) = s4 := ⟨_, rfl⟩
  rw [hs4] at B4 ⊢
  have keep4 : ∀ b o, s3.heap.get? b = some o → s4.heap.get? b = some o := fun b o e => by rw [← hs4]; exact pushCells_keeps _ _ _ _ (Heap.get?_push_of_some _ e)
  have I4 : Inv (blkH X s3 H3 scope ce fp p) [] (wipe σ (own.map (·.2))) H3 s4 := blkH_inv B4 ⟨keep4 _ _ pin3.1, pin3.2.1, by rw [cL]; exact Nat.ne_of_lt (Heap.lt_size pin3.1), fun hm => (List.mem_cons.mp (I3.stkSub p.1 hm)).elim pin3.2.2.1 pin3.2.2.2.1, pin3.2.2.2.2⟩
  have hot4 : HotC (blkH X s3 H3 scope ce fp p) := ⟨p, hot, List.mem_cons_self⟩
  have st4 : tn 0 s4.heap := T.keep _ _ _ st3 fun b _ o e => keep4 b o e
  have pfp : ∀ b ∈ fp, p.1 ≠ b := fun b hb => (f3 b hb).1.2.2.2.2.2 p (List.mem_append_left _ hp)
  have stat : ∀ {σ' : L2.St} {H' : Hp} {s' : Shared}, Inv (blkH X s3 H3 scope ce fp p) [] σ' H' s' → (∀ b ∈ fp, H' b = none) → ∀ b ∈ fp, FpOk (blkH X s3 H3 scope ce fp p) [] H' b := fun {σ' H' s'} I' hn b hb =>
    ⟨hn b hb, (I'.ok.exf b hb).1, I'.ok.exfs b hb, .inl hb, fun x c e => (I'.ok.exf b hb).2 x c e, fun q hq => by
      have e : q = p := by simpa using (show q ∈ [p] ++ ([] : List (Addr × Obj)) from hq)
      rw [e]
      exact pfp b hb⟩
  refine codeAny_compStart_list ?_ (T.self X.A 0 _ _ _ st4 ?_) <;>
  · refine compLoop_any (fun n s' => ∃ i H', Inv (blkH X s3 H3 scope ce fp p) [] (wipe σ (own.map (·.2))) H' s' ∧ tn i s'.heap ∧ (∀ b ∈ fp, H' b = none) ∧ W i n H') ?_ m0 ⟨0, H3, I4, st4, fun b hb => (f3 b hb).1.1, w0⟩
    rintro n s5 ⟨i, H5, I5, st5, n5, w5⟩
    rcases turn i n H5 w5 with ⟨stop, qq⟩ | ⟨go, Nx, hNx, step⟩
    · refine thnF (T.done (blkH X s3 H3 scope ce fp p) rfl rfl rfl hot4 i [] s5 _ H5 (fun _ _ => False) I5 (stat I5 n5) st5 stop) fun r s6 ⟨hr, I6⟩ => ?_
      subst hr
      have I7 : Inv X pins σ H5 s6 := I3.call' (ch := fp) I6.os I6.base I6.hok I6.bare fun b hb => ⟨(f3 b hb).1.2.2.2.1, (f3 b hb).1.2.1, (f3 b hb).1.2.2.2.2.1, (f3 b hb).1.2.2.2.2.2⟩
      have nC : H5 s3.heap.objs.size = none := by rw [← cL]; exact I6.free
      obtain ⟨m, hn, _⟩ := I6.loc
      have hn : s6.heap.Ns s3.heap.objs.size m := by rw [← cL]; exact hn
      exact fin D s3.heap.objs.size s6 m H5 I7 qq hn (I3.fpOk (Nat.le_refl _) nC)
    · refine thnF (T.item (blkH X s3 H3 scope ce fp p) rfl rfl rfl hot4 i [] s5 _ H5 (fun _ _ => False) I5 (stat I5 n5) st5 go) fun r s6 ⟨u, hr, h6⟩ => ?_
      subst hr
      refine thnF h6 fun _ s7 ⟨x, H7, I7, r7, y7, st7, n7⟩ => ?_
      refine thnF (pg.run _ s7 _ H7 x u _ (I7.pinned (stat I7 n7) (T.obj _ _ st7)) r7 (step x H7 y7)) fun _ s8 ⟨σ8, H8, I8, hw8, q8⟩ => ?_
      refine thnF (pt.run _ s8 σ8 H8 _ I8 q8) fun b s9 ⟨H9, I9, q9⟩ => ?_
      have again : ∀ {s' : Shared} {H' : Hp}, Inv (blkH X s3 H3 scope ce fp p) ([] ++ pinsAt fp s7.heap) σ8 H' s' → Nx H' → ∃ m, m < n ∧ ∃ i H', Inv (blkH X s3 H3 scope ce fp p) [] (wipe σ (own.map (·.2))) H' s' ∧ tn i s'.heap ∧ (∀ b ∈ fp, H' b = none) ∧ W i m H' := fun {s' H'} I' nx => by
        obtain ⟨m', hm, w'⟩ := hNx H' nx
        have held : ∀ b ∈ fp, ∀ o, s7.heap.get? b = some o → s'.heap.get? b = some o ∧ H' b = none := fun b hb o e => by
          have z := I'.pin (b, o) (List.mem_append_right _ (List.mem_append_right _ (mem_pinsAt hb e)))
          exact ⟨z.1, z.2.1⟩
        have len : (wipe σ (own.map (·.2))).length = σ8.length := by rw [← hw8, wipe_length]
        refine ⟨m', hm, i + 1, H', (I'.unpinned (pins := [])).weak len (fun j v e => ?_), T.keep _ _ _ st7 fun b hb o e => (held b hb o e).1, fun b hb => ?_, w'⟩
        · rw [← hw8] at e
          exact (wipe_some e).1
        · obtain ⟨o, e, _⟩ := T.obj _ _ st7 b hb
          exact (held b hb o e).2
      cases b with
      | false =>
        simp only [Bool.false_eq_true, if_false] at q9 ⊢
        exact again I9 q9
      | true =>
        simp only [if_true] at q9 ⊢
        refine thnF (pe.run _ s9 σ8 H9 _ I9 q9) fun z s10 ⟨yv, H10, I10, r10, acc, hD10, hz10, nx⟩ => ?_
        exact app_ok (X := blkH X s3 H3 scope ce fp p) I10 hD10 hz10 r10 fun s11 I11 => again I11 nx
theorem pe_lcH {X : Cx} {elt tg iter : Expr} {ifs : List Expr} {scope : Scope} {own : List (Str × Nat)} {pos : Pos} {wi : TI} {g : TG} {tt : TT} {te : TE} (hc : HotC X) (hN : X.N.Nodup) (hi : PIH X tg iter wi) (ok : BlkOk X.N X.env.scope scope own)
    (hg : ∀ s H C cl fp p, Hot1 X.A p → PG (blkH X s H scope (compEnvC scope cl C X.env) fp p) tg g) (ht : ∀ s H C cl fp p, Hot1 X.A p → PTs (blkH X s H scope (compEnvC scope cl C X.env) fp p) ifs tt) (he : ∀ s H C cl fp p, Hot1 X.A p → PE (blkH X s H scope (compEnvC scope cl C X.env) fp p) elt te)
    (hs : ∀ x, foldedSetIterable iter X.env x = pure x := by intro _; rfl) : PE X (.ListComp elt [⟨tg, iter, ifs, 0⟩] scope pos) (tLc wi g tt te (own.map (·.2))) := by
  constructor
  intro pins s σ H Q I h
  rw [eval_ListComp]
  refine lc_hot hc hN I hi ok hg ht he hs h fun D C s' m H' J q hn f => ⟨m, hn, fun g sb => ?_⟩
  obtain ⟨f0, f1, f2, f3, f4, f5⟩ := f
  exact ⟨.ref D, H', J.turned (t' := s'.toks) (fun b o hb e => (sb.2 b hb).trans e) f0 f1 f3 f4 f5, rfl, q⟩
end Rb

set_option Elab.async false
set_option linter.all false
set_option maxRecDepth 100000
set_option maxHeartbeats 400000
namespace Rb
open PySem PySem.Spec PyProof.Rows L2 HotX L2H
theorem run_hot {P : Program} {w : World} {K : Frag} {mg : Str → Option Value} {base : Heap} {x qual : Str} {params : Arguments} {body : List Stmt} {scope : Scope} {f : Addr} {fd : FuncData} {N ps : List Str} {k : Nat} {A : Around} {outer : List Env} {s : Shared} {H : Hp} {us : List Value} {vs : List V} {Q : VK} {p : Addr × Obj}
    (F : FunD K x qual params body scope [] [] f fd) (S : FnScope N ps scope) (hr : RoomH (k + 1) A) (hot : Hot1 A p) (hpin : PinOk outer H s p) (e0 : Env0 P w K mg base A outer s H) (hb : BindsTo s fd ⟨us, []⟩ (ps.zip us)) (r : Vals vs us) (hl : vs.length = ps.length)
    (hq : ∀ cdv, RoomH k (A.deeper (envOfC qual scope s.heap.objs.size f cdv)) → ∃ t, PSs (cxH CX0 P w K mg base N qual scope f cdv A outer s H E0 p) body t ∧ t { nx := fun _ H' => Q .non H', rt := Q } (L2.start N vs) H) :
    codeAny (model P w) A (.call (.ref f) ⟨us, []⟩) (CR CX0 outer P w H s Q E0) s := by
  obtain ⟨oc, od, dV, kV, doc, pm, an, cdv, ct, osl, rfl, lk, hcd, _, _⟩ := F.ex
  have KX : K.In s.heap := e0.mod.kin.keeps fun b o e => (e0.bs b o e).1
  have lim : s.heap.NoLimit := e0.mod.nolimit.keeps fun b o e => (e0.bs b o e).1
  refine codeAny_call_function hr.depth (KX _ _ lk) rfl S.co S.gen rfl (PySem.W.codeRec_of KX hcd) (hb _ _ _ _ ?_)
  refine wpAny_newFunctionEnv_cells S.kind (fun y hy => ?_) fun env he s1 st => ?_
  · obtain ⟨n, v⟩ := y
    exact (S.par n (List.of_mem_zip hy).1).imp id fun q => ⟨q, PySem.W.cellsFrom_some _ _ _ (.inl q)⟩
  · subst he
    refine ⟨lim.keeps st.toInCall.keep, codeAny_func ?_⟩
    obtain ⟨t, ht, h⟩ := hq cdv (hr.deeper _)
    have J := inv_startH (CX := CX0) (E := E0) S hpin e0 hl r st
    refine wpAny_mono (ht.run [] s1 (L2.start N vs) H _ J h) (fun fl s' e => ?_) fun _ _ e => e
    match fl, e with
    | .ret u, ⟨v, σ', H', I', rv, q⟩ => exact ⟨v, H', I'.os, I'.bare, I'.base, I'.hok, rv, q⟩
    | .next, ⟨σ', H', I', q⟩ => exact ⟨V.non, H', I'.os, I'.bare, I'.base, I'.hok, rfl, q⟩
    | .brk, ⟨_, _, _, q⟩ => exact q.elim
    | .cont, ⟨_, _, _, q⟩ => exact q.elim
structure XoOk (K : Frag) (n : Str) (d : Option Addr) (oe : Obj) : Prop where
  cls : oe.cls = .ref (He.ga K n)
  dct : oe.dict = d
  dat : ∃ vs, oe.data = .fields vs
def XdH (H : Hp) : Option Addr → Prop
  | none => True
  | some dd => ∃ fs, H dd = some (.xd fs)
theorem XdOk.h {F H : Hp} (e : Ex F H) : ∀ {d : Option (Addr × Str × PyData)}, XdOk F H d → XdH H (d.map (·.1))
  | none, _ => trivial
  | some (_, _, _), h => let ⟨_, _, k⟩ := h.at e; ⟨_, k⟩
def rIsX (K : Frag) (p : Addr × Obj) : List V → Hp → VK → Prop := fun xs H Q => ∃ (n : Str) (d : Option Addr) (c : V) (cv : Value) (b : Bool), xs = [.ref p.1, c] ∧ XoOk K n d p.2 ∧ XdH H d ∧ ExcC K (He.ga K n) ∧ (∀ u, RelV c u → u = cv) ∧ PySem.W.kitOne K (.ref (He.ga K n)) cv = some b ∧ Q (.bl b) H
theorem inst_of {P : Program} {w : World} {K : Frag} {H : Hp} {h : Heap} {a : Addr} {o : Obj} {n : Str} {d : Option Addr} (hok : HOk P w H h) (hget : h.get? a = some o) (hx : XoOk K n d o) (hd : XdH H d) : ∃ od, PySem.W.InstAt h a o (He.ga K n) od := by
  have hno : PySem.W.notCls o = true := by
    obtain ⟨vs, hv⟩ := hx.dat
    unfold PySem.W.notCls
    rw [hv] <;> rfl
  cases d with
  | none => exact ⟨none, hget, hx.cls, hno, by rw [hx.dct]; trivial⟩
  | some dd =>
    obtain ⟨fs, hf⟩ := hd
    have ho : ObjOk P w H h dd (.xd fs) := hok dd _ hf
    obtain ⟨mA, hns, _⟩ := ho
    obtain ⟨od, h1, _⟩ := lookIn_ns hns
    exact ⟨some od, hget, hx.cls, hno, by rw [hx.dct]; exact h1⟩
theorem call_isX {X : Cx} {K : Frag} {p : Addr × Obj} (hp : p ∈ X.pn) (hK : X.K = K := by rfl) : CallR X (.builtin "isinstance") (rIsX K p) := by
  subst hK
  intro pins s σ H xs us Q I r h
  obtain ⟨n, d, c, cv, b, ev, hx, hd, T, hcv, hk, q⟩ := h
  subst ev
  obtain ⟨od, J⟩ := inst_of I.hok (I.pin p (List.mem_append_left _ hp)).1 hx hd
  have hcl : (PySem.W.clsIn X.K (He.ga X.K n)).isSome = true := by
    have hd := T.hd
    unfold PySem.W.hasDictIn at hd
    obtain ⟨cd, hc, _⟩ := PySem.W.any_some hd
    rw [hc]; rfl
  cases r with
  | cons r1 rr =>
  cases rr with
  | cons r2 rr =>
  cases rr
  cases r1
  obtain rfl := hcv _ r2
  exact PySem.W.kia_one (PySem.W.kitx_exc hcl T.hg T.hk T.hs T.ha T.hn T.ht T.hm) I.kIn J hk (fun z => nomatch z) fun tk => ⟨.bl b, H, I.kept (t' := tk) fun _ _ z => z, rfl, q⟩
section
variable {K : Frag} {env : List Sl} {x : Str} {p : Addr × Obj} {xd : Option (Addr × Str × PyData)}
theorem ex_isX {i : Nat} {y : Str} (hi : env[i]? = some (.xo p.1 xd)) (hp : XoOk K x (xd.map (·.1)) p.2) (hx : ExF K x) (hy : y ∈ exNames) : EX K (tCB (rIsX K p) (tCons (tVar i) (tCons (tC (.ref (He.ga K y))) tNil))) env (.bool (decide (x = y))) := fun F0 H0 F H σ E Q q => by
  obtain ⟨o, h1, h2⟩ := E.sl i _ hi
  obtain ⟨h2, h3⟩ : o = some (.ref p.1) ∧ XdOk F H xd := h2
  subst h2
  exact ⟨_, h1, x, _, _, .ref (He.ga K y), _, rfl, hp, h3.h E.fh, hx.c, fun u r => r, (hx.exm y hy).2, q _ F H (Fz.refl E.fh) (.bl _)⟩
theorem ex_isVE {i : Nat} (hi : env[i]? = some (.xo p.1 xd)) (hp : XoOk K x (xd.map (·.1)) p.2) (hx : ExF K x) : EX K (tCB (rIsX K p) (tCons (tVar i) (tCons (tC (.ty "ValueError")) tNil))) env (.bool true) := fun F0 H0 F H σ E Q q => by
  obtain ⟨o, h1, h2⟩ := E.sl i _ hi
  obtain ⟨h2, h3⟩ : o = some (.ref p.1) ∧ XdOk F H xd := h2
  subst h2
  exact ⟨_, h1, x, _, _, .type "ValueError", _, rfl, hp, h3.h E.fh, hx.c, fun u r => r, hx.ve, q _ F H (Fz.refl E.fh) (.bl _)⟩
end
structure KinOk (P : Program) (w : World) (K : Frag) (mg : Str → Option Value) (x : Str) (k : Nat) : Prop where
  ex : ∃ (f : Addr) (fd : FuncData) (x0 : Str) (qual : Str) (params : Arguments) (body : List Stmt) (scope : Scope) (N : List Str), mg x = some (.ref f) ∧ FunD K x qual params body scope [] [] f fd ∧ FnScope N [x0] scope ∧ Binds K fd [x0] [] ∧
    ∀ (base : Heap) (cdv : Value) (A : Around) (outer : List Env) (s : Shared) (H : Hp) (p : Addr × Obj) (xd : Option (Addr × Str × PyData)) (n : Str), RoomH k (A.deeper (envOfC qual scope s.heap.objs.size f cdv)) → Hot1 A p → XoOk K n (xd.map (·.1)) p.2 → n ∈ exNames →
      ∃ t, PSs (cxH CX0 P w K mg base N qual scope f cdv A outer s H E0 p) body t ∧ BX K t (.xo p.1 xd :: List.replicate (N.length - 1) .un) (fun z : Str => .rt (.sh (.str z))) (some n)
theorem kin_start {N : List Str} {F H : Hp} {a : Addr} {K : Frag} {xd : Option (Addr × Str × PyData)} (e : Ex F H) (hd : XdOk F H xd) : EnvOk K F H F H (L2.start N [.ref a]) (.xo a xd :: List.replicate (N.length - 1) .un) := by
  refine EnvOk.flat (Fz.refl e) ?_ fun i sl h => ?_
  · unfold L2.start
    simp only [List.length_append, List.length_map, List.length_cons, List.length_nil, List.length_replicate]
    omega
  · unfold L2.start
    cases i with
    | zero =>
      simp at h
      subst h
      exact ⟨_, rfl, ⟨rfl, hd⟩, rfl⟩
    | succ i =>
      rw [List.getElem?_cons_succ] at h
      obtain ⟨h1, h2⟩ := List.getElem?_eq_some_iff.mp h
      rw [List.getElem_replicate] at h2
      subst h2
      rw [List.length_replicate] at h1
      refine ⟨none, ?_, trivial, rfl⟩
      show (some (V.ref a) :: List.replicate (N.length - 1) none)[i + 1]? = _
      rw [List.getElem?_cons_succ, List.getElem?_replicate, if_pos h1]
def tKin (K : Frag) (a : Addr) (cls : Value) (d : Option Addr) (te : TE) : TE := fun σ H Q => te σ H fun v H1 => v = .ref a ∧ ∃ (n : Str) (F : Hp) (xd : Option (Addr × Str × PyData)), n ∈ exNames ∧ cls = .ref (He.ga K n) ∧ d = xd.map (·.1) ∧ XdOk F H1 xd ∧ Ex F H1 ∧ ∀ F' H', Fz F H1 F' H' → Q (.str n) H'
theorem pe_kin {X : Cx} {K : Frag} {a : Addr} {oe : Obj} {cls : Value} {d : Option Addr} {pn : List (Addr × Obj)} {x : Str} {k : Nat} {ve : Expr} {te : TE} {p pos : Pos}
    (G : KinOk X.prog X.w K X.mg x k) (hr : Room (k + 1) X.A) (hg : Gl (X.suite a ((a, oe) :: pn)) x) (hz : L2N.Zn cls d oe) (hf : ∃ vs, oe.data = .fields vs)
    (he : PE (X.suite a ((a, oe) :: pn)) ve te) (hK : X.K = K := by rfl) (hd : (x == ("__debug__" : Str)) = false := by decide)
    (hs : starEach (ve :: []) (X.suite a ((a, oe) :: pn)).env = (false, eval ve (X.suite a ((a, oe) :: pn)).env) :: starEach [] (X.suite a ((a, oe) :: pn)).env := by rfl)
    (hpl : (backTo pos (starEach [] (X.suite a ((a, oe) :: pn)).env)).any (·.1) = false := by rfl) :
    PE (X.suite a ((a, oe) :: pn)) (.Call (.Name x p) [ve] [] pos) (tKin K a cls d te) := by
  subst hK
  obtain ⟨f, fd, x0, qual, params, body, scope, N, hm, FD, S, hb, W⟩ := G.ex
  have ha : PA (X.suite a ((a, oe) :: pn)) [ve] (tCons te tNil) := pa_cons he pa_nil hs
  constructor
  intro pins s σ H Q I h
  apply wpAny_Call_Name_kw
  refine ld_glob I hg hm ?_ hd
  refine PySem.W.callWith_K (h₀ := X.base) I.ok.mod.kin FD.kp (thn (ha.run pos pins s σ H (fun vs H1 => vs = [.ref a] ∧ ∃ (n : Str) (F : Hp) (xd : Option (Addr × Str × PyData)), n ∈ exNames ∧ cls = .ref (He.ga X.K n) ∧ d = xd.map (·.1) ∧ XdOk F H1 xd ∧ Ex F H1 ∧ ∀ F' H', Fz F H1 F' H' → Q (.str n) H') I ?_) fun us s1 hh => ?_) hs hpl
  · have mono : ∀ (Q1 Q2 : VK), Q1 = Q2 → te σ H Q1 → te σ H Q2 := fun _ _ e h => e ▸ h
    refine mono _ _ ?_ h
    funext v H1
    exact propext ⟨fun ⟨h1, h2⟩ => ⟨by rw [h1], h2⟩, fun ⟨h1, h2⟩ => ⟨by injection h1, h2⟩⟩
  · obtain ⟨vs, H1, I1, r1, ev, n, F, xd, hn, ec, ed, ex, e, q⟩ := hh
    subst ev
    refine ⟨I1.kIn, ?_⟩
    have pin := I1.pin (a, oe) (List.mem_append_left _ List.mem_cons_self)
    obtain ⟨ws, hw⟩ := hf
    have hot : Hot1 (X.suite a ((a, oe) :: pn)).A (a, oe) := ⟨rfl, ws, hw, hz.2.2 ws hw⟩
    have xo : XoOk X.K n (xd.map (·.1)) oe := ⟨by rw [hz.1, ec], by rw [hz.2.1, ed], ws, hw⟩
    have rh : RoomH (k + 1) (X.suite a ((a, oe) :: pn)).A := ⟨hr.dp, hr.un⟩
    have hpin : PinOk (X.suite a ((a, oe) :: pn)).stack H1 s1 (a, oe) := ⟨pin.1, pin.2.1, fun hm => (List.mem_cons.mp (I1.stkSub a hm)).elim pin.2.2.1 pin.2.2.2.1, pin.2.2.2.2⟩
    have bi := hb s1 us I1.kIn (by rw [List.append_nil, ← r1.length]; rfl)
    rw [List.append_nil] at bi
    show wpAny _ _ (call (.ref f) us) _ _ _
    refine wpAny_call (codeAny_mono (run_hot (K := X.K) (Q := Q) FD S rh hot hpin I1.env0 bi r1 rfl fun cdv hr' => ?_) fun r s' hq => ?_)
    · obtain ⟨t, ht, b⟩ := W X.base cdv _ _ s1 H1 (a, oe) xd n hr' hot xo hn
      exact ⟨t, ht, b n rfl _ (kin_start e ex) fun F1 H2 v z hv => by
        cases hv
        exact q F1 H2 z⟩
    · cases r with
      | error u => exact hq.elim
      | ok fl =>
        cases fl with
        | ret u => exact I1.after hq
        | next => exact hq.elim
        | brk => exact hq.elim
        | cont => exact hq.elim
def ExA (x : Exn) (F H : Hp) (d : Option Addr) : Prop := match x.arg with
  | none => d = none
  | some q => ∃ dd v, d = some dd ∧ H dd = some (.xd [(q.1, v)]) ∧ Dq F v q.2
def BH (K : Frag) (i : Nat) (x : Exn) (ts : Addr → Value → Option Addr → TS) (env : List Sl) {O : Type} (enc : O → Out) (m : Option O) : Prop := ∀ o, m = some o → ∀ (a : Addr) (d : Option Addr) ⦃F0 H0 F H : Hp⦄ ⦃σ : List (Option V)⦄ (D : Ends),
  EnvOk K F0 H0 F H σ env → σ[i]? = some (some (.ref a)) → ExA x F H d → Cont K F0 H0 D (enc o) → ts a (.ref (He.ga K x.name)) d D σ H
section
variable {K : Frag} {env env' envS envX : List Sl} {α β O S : Type} {ts tu : TS} {enc : O → Out} {m : Option O} {tb : WX → TS} {tx : Addr → Value → Option Addr → TS} {Wout : WX} {c : Value} {i : Nat}
def encB (envS : S → List Sl) (envX : List Sl) (W : WX) : Except Exn S → Out
  | .ok s => .nx (envS s)
  | .error x => .ex envX x W
theorem Cont.clear {F0 H0 : Hp} {D : Ends} {o : Out} (hf : o.fin ∨ ∃ e, o = .nx e ∧ e.set i .un = e) (C : Cont K F0 H0 D o) : Cont K F0 H0 { nx := fun σ' H' => D.nx (σ'.set i none) H', rt := D.rt, bk := fun σ' H' => D.bk (σ'.set i none) H', ct := fun σ' H' => D.ct (σ'.set i none) H' } o := by
  rcases hf with hf | ⟨e, rfl, he⟩
  · exact Cont.fin (D := D) (by rfl) hf C
  · intro F1 H1 σ1 E1
    have := E1.forget i none
    rw [he] at this
    exact C F1 H1 _ this
def kinM (x : Exn) : Option Str := if x.name ∈ exNames then some x.name else none
theorem kinM_ok {x : Exn} {n : Str} (h : kinM x = some n) : n = x.name ∧ n ∈ exNames := by
  unfold kinM at h
  split at h
  · rename_i c; cases h; exact ⟨rfl, c⟩
  · cases h
theorem kinM_exc {n : Str} (h : n ∈ exNames) : kinM (exc n) = some n := by
  show (if n ∈ exNames then some n else none) = some n
  rw [if_pos h]
abbrev xoSl (a dd : Addr) (x : Exn) : Sl := .xo a (x.arg.map fun q => (dd, q.1, q.2))
abbrev xoD (dd : Addr) (x : Exn) : Option Addr := x.arg.map fun _ => dd
theorem ex_kin {x : Exn} {n : Str} {i : Nat} {a dd : Addr} (hi : env[i]? = some (xoSl a dd x)) (h : kinM x = some n) : EX K (tKin K a (.ref (He.ga K x.name)) (xoD dd x) (tVar i)) env (.str n) := fun F0 H0 F H σ E Q q => by
  obtain ⟨hn, hm⟩ := kinM_ok h
  subst hn
  obtain ⟨o, h1, h2⟩ := E.sl i _ hi
  obtain ⟨h2, h3⟩ : o = some (.ref a) ∧ XdOk F H _ := h2
  subst h2
  have hl : x.name.length ≤ lim := by
    have : ∀ y, y ∈ exNames → y.length ≤ lim := by decide +kernel
    exact this _ hm
  refine ⟨_, h1, rfl, x.name, F, _, hm, rfl, ?_, h3, E.fh, fun F' H' z => q _ F' H' z (.str _ hl)⟩
  show (x.arg.map fun _ => dd) = _
  cases x.arg <;> rfl
theorem bh_of {x : Exn} {tx : Addr → Value → Option Addr → TS} (hi : i < env.length) (h : ∀ a dd, BX K (tx a (.ref (He.ga K x.name)) (xoD dd x)) (env.set i (xoSl a dd x)) enc m) : BH K i x tx env enc m := fun o ho a d F0 H0 F H σ D E hs hA C => by
  have key : ∃ dd, d = xoD dd x ∧ XdOk F H (x.arg.map fun q => (dd, q.1, q.2)) := by
    unfold ExA at hA
    cases r : x.arg with
    | none => rw [r] at hA; exact ⟨0, by rw [hA]; show none = (x.arg.map fun _ => 0); rw [r]; rfl, trivial⟩
    | some p =>
      rw [r] at hA
      obtain ⟨dd, v, e1, e2, e3⟩ := hA
      exact ⟨dd, by rw [e1]; show some dd = (x.arg.map fun _ => dd); rw [r]; rfl, XdOk.of E.fh e3 e2⟩
  obtain ⟨dd, e1, e2⟩ := key
  subst e1
  have E2 := E.set0 i (some (.ref a)) (s := xoSl a dd x) ⟨⟨rfl, e2⟩, rfl⟩
  have es : σ.set i (some (.ref a)) = σ := by
    obtain ⟨l, g⟩ := List.getElem?_eq_some_iff.mp hs
    rw [← g, List.set_getElem_self]
  rw [es] at E2
  exact h a dd o ho D E2 C
end
section
variable {X : Cx} {K : Frag} {x n : Str} {i k : Nat} {a : Addr} {oe : Obj} {cls c : Value} {d : Option Addr} {pn : List (Addr × Obj)} {p pos np pos' : Pos} {body suite : List Stmt} {b₀ : Stmt} {tb : WX → TS} {tx : Addr → Value → Option Addr → TS} {Wout : WX}
theorem takes_none : L2N.Takes X (fun _ _ _ _ => False) := fun _ _ x => by
  obtain ⟨_, _, _, _, _, _, _, _, _, _, _, _, _, _, _, _, z⟩ := x
  exact z.elim
end
section
variable {K : Frag} {env : List Sl} {ta tb : TE} {α β : Type} {e : α → PyData} {f : β → PyData}
theorem ei_zipH {xs : List α} {ys : List β} (ha : EXl K ta env (xs.map e)) (hb : EXl K tb env (ys.map f)) : EI K (iZip K (tCons ta (tCons tb tNil))) env ((xs.zip ys).map (eP e f)) := fun F0 H0 F H σ E R r => ha E _ fun p vs F1 H1 z1 h1 h2 h3 => hb (E.step z1) _ fun p' ws F2 H2 z2 h4 h5 h6 =>
  ⟨p, p', vs, ws, rfl, SqL.of (z2.hh z1.fh _ _ h1), SqL.of h4, r _ F2 H2 (z1.trans z2) (zip_lim h3) (itzL fun F3 H3 q ex => ⟨q.hh z2.fh _ _ (z2.hh z1.fh _ _ h1), DqAll.mono (z2.f.trans q.f) _ _ h2, q.hh z2.fh _ _ h4, DqAll.mono q.f _ _ h5⟩)⟩
end
abbrev joinOk (z : Str) (ys : List Str) : Prop := (ys.map (·.length)).sum + ys.length * z.length ≤ lim ∧ (Txt.join z ys).length ≤ lim
section
variable {X : Cx} {K : Frag} {o e : Expr} {apos pos : Pos} {to te : TE} {env : List Sl}
theorem pe_joinK (ho : PE X o to) (he : PE X e te) (hK : X.K = K := by rfl) (hs : starEach [e] X.env = [(false, eval e X.env)] := by rfl) (hbase : attributeBase o "join" X.env (eval o X.env) = eval o X.env := by rfl) (hline : (apos.endLine == pos.line) = true := by rfl) :
    PE X (.Call (.Attribute o "join" apos) [e] [] pos) (tM1 (fun x xs H Q => ∃ a p, ∃ ys : List Str, x = .str a ∧ xs = [.ref p] ∧ (SqL K H p (ys.map V.str) ∨ SqT K H p (ys.map V.str)) ∧
      (ys.map (·.length)).sum + ys.length * a.length ≤ 16777216 ∧ Q (.str (Txt.join a ys)) H) to te) := by
  subst hK
  exact pe_join ho he hs hbase hline
theorem ex_joinG {z : Str} {ys : List Str} (ho : EX K to env (.str z)) (he : EXl K te env (ys.map PyData.str)) (h : joinOk z ys) :
    EX K (tM1 (fun x xs H Q => ∃ a p, ∃ ys : List Str, x = .str a ∧ xs = [.ref p] ∧ (SqL K H p (ys.map V.str) ∨ SqT K H p (ys.map V.str)) ∧ (ys.map (·.length)).sum + ys.length * a.length ≤ 16777216 ∧ Q (.str (Txt.join a ys)) H) to te) env (.str (Txt.join z ys)) := ex_join ho he h.1 h.2
end
end Rb

set_option Elab.async false
set_option linter.all false
set_option maxRecDepth 100000
set_option maxHeartbeats 400000
namespace Rb
open PySem PySem.Spec PyProof.Rows L2 HotX L2H
section
variable {K : Frag} {env : List Sl} {t u tt : TT} {te : TE} {ts tu : TS} {S O : Type} {enc : O → Out} {m n : S → Option O}
end
section
variable {K : Frag} {env : List Sl} {ta tb : TE}
end
structure EnQ {α : Type} [DecidableEq α] (e : α → PyData) (n : Nat) : Prop where
  dep : ∀ x, (e x).depth ≤ n
  eq : ∀ x y, PyData.eqv (e x) (e y) = decide (x = y)
section
variable {α β γ : Type} [DecidableEq α] [DecidableEq β] [DecidableEq γ] {e : α → PyData} {f : β → PyData} {g : γ → PyData} {n m l : Nat}
theorem EnQ.of (h : EnOk e n) : EnQ e n := ⟨h.dep, h.eq⟩
theorem EnQ.str : EnQ PyData.str 0 := ⟨fun x => Nat.le_refl _, fun x y => by
  show (x == y) = decide (x = y)
  by_cases c : x = y
  · rw [decide_eq_true c]; exact beq_iff_eq.mpr c
  · rw [decide_eq_false c]; exact beq_eq_false_iff_ne.mpr c⟩
theorem EnQ.depAll (h : EnQ e n) : ∀ xs : List α, PyData.depthAll (xs.map e) ≤ n
  | [] => Nat.zero_le _
  | x :: xs => by
    rw [List.map_cons]
    show max (PyData.depth (e x)) (PyData.depthAll (xs.map e)) ≤ n
    exact Nat.max_le.mpr ⟨h.dep x, h.depAll xs⟩
theorem EnQ.eqAll (h : EnQ e n) : ∀ xs ys : List α, PyData.eqvAll (xs.map e) (ys.map e) = decide (xs = ys)
  | [], [] => rfl
  | [], y :: ys => rfl
  | x :: xs, [] => rfl
  | x :: xs, y :: ys => by
    rw [List.map_cons, List.map_cons]
    show (PyData.eqv (e x) (e y) && PyData.eqvAll (xs.map e) (ys.map e)) = _
    rw [h.eq, h.eqAll xs ys]
    by_cases c : x = y
    · by_cases c2 : xs = ys
      · subst c; subst c2; simp
      · simp [c, c2]
    · simp [c]
theorem EnQ.list (h : EnQ e n) : EnQ (eL e) (n + 1) := ⟨fun x => Nat.succ_le_succ (h.depAll x), fun x y => h.eqAll x y⟩
theorem EnQ.tup (h : EnQ e n) : EnQ (eT e) (n + 1) := ⟨fun x => Nat.succ_le_succ (h.depAll x), fun x y => h.eqAll x y⟩
theorem EnQ.pair (h : EnQ e n) (h2 : EnQ f m) : EnQ (eP e f) (max n m + 1) := ⟨fun x => by
    show max (PyData.depth (e x.1)) (max (PyData.depth (f x.2)) 0) + 1 ≤ _
    have := h.dep x.1
    have := h2.dep x.2
    omega, fun x y => by
    show (PyData.eqv (e x.1) (e y.1) && (PyData.eqv (f x.2) (f y.2) && true)) = _
    rw [h.eq, h2.eq]
    obtain ⟨a, b⟩ := x
    obtain ⟨c, d⟩ := y
    by_cases c1 : a = c <;> by_cases c2 : b = d <;> simp [c1, c2]⟩
theorem EnQ.shaped (h : EnQ e n) (hn : n ≤ 64) (x : α) (hl : (e x).canLay0 = true) : SeqAt.shaped (e x) = true := by
  unfold SeqAt.shaped
  rw [hl, decide_eq_true (Nat.le_trans (h.dep x) hn)]; rfl
end
section
variable {K : Frag} {env : List Sl} {ta tb : TE} {α : Type}
end
end Rb

set_option Elab.async false
set_option linter.all false
set_option maxRecDepth 100000
set_option maxHeartbeats 400000
namespace Rb
open PySem PySem.Spec PyProof.Rows L2 HotX L2H
section
variable {K : Frag} {env : List Sl} {ta tb : TE} {d e : PyData}
theorem ex_neDG (sd : SeqAt.shaped d = true) (se : SeqAt.shaped e = true) (ha : EXq K ta env d) (hb : EXq K tb env e) : EX K (tOp (rNeD K) ta tb) env (.bool (!PyData.eqv d e)) := ex_neD ha hb sd se rfl
end
end Rb

set_option Elab.async false
set_option linter.all false
set_option maxRecDepth 100000
set_option maxHeartbeats 400000
namespace Rb
open PySem PySem.Spec PyProof.Rows L2 HotX L2H
section
variable {K : Frag} {env env1 env2 env' : List Sl} {ta tb te tx ty : TE} {ts tu : TS} {d e : PyData} {ds es : List PyData} {g1 g2 : TG} {α β O : Type} {enc : O → Out} {m : Option O}
def ixDc (d : PyData) (i : Int) : Option PyData := match d with
  | .tuple ds => atI ds i
  | _ => none
theorem ex_ixD {i : Int} (ha : EX K ta env d) (hb : EX K tb env (.int i)) (h : ixDc d i = some e) : EX K (tOp (rIxT K) ta tb) env e := by
  unfold ixDc at h
  cases d with
  | tuple ds => exact ex_ixT ha hb h
  | _ => cases h
end
section
variable {K : Frag} {env : List Sl} {ds : List PyData}
end
section
variable {X : Cx} {a b c d : Expr} {ta tb tc td : TE} {pos : Pos}
end
section
variable {K : Frag} {env : List Sl} {ta tb tc td : TE}
end
def decI : PyData → Option Int
  | .int i => some i
  | _ => none
def decS : PyData → Option Str
  | .str i => some i
  | _ => none
theorem decI_ok {d : PyData} {i : Int} (h : decI d = some i) : d = PyData.int i := by
  unfold decI at h
  cases d <;> cases h
  rfl
theorem decS_ok {d : PyData} {i : Str} (h : decS d = some i) : d = PyData.str i := by
  unfold decS at h
  cases d <;> cases h
  rfl
section
variable {K : Frag} {env : List Sl} {ta tb te : TE} {d : PyData} {ds es : List PyData}
end
end Rb

set_option Elab.async false
set_option linter.all false
set_option maxRecDepth 100000
set_option maxHeartbeats 400000
namespace Rb
open PySem PySem.Spec PyProof.Rows L2 HotX L2H
section
variable {K : Frag} {env : List Sl} {ta tb : TE}
end
section
variable {K : Frag} {env : List Sl} {ta : TE} {α : Type} {e : α → PyData} {m : Option α}
theorem isNone_eO (hn : ∀ x, isNone (e x) = false) : isNone (eO e m) = m.isNone := by
  cases m with
  | none => rfl
  | some x => exact hn x
theorem ex_isNO (ha : EX K ta env (eO e m)) (hn : ∀ x, isNone (e x) = false := by intro _; rfl) : EX K (tOp (fun x y H Q => y = .non ∧ Q (.bl (decide (x = .non))) H) ta (tC .non)) env (.bool m.isNone) := by
  have := ex_isN ha
  rw [isNone_eO hn] at this
  exact this
theorem ex_notNO (ha : EX K ta env (eO e m)) (hn : ∀ x, isNone (e x) = false := by intro _; rfl) : EX K (tOp (fun x y H Q => y = .non ∧ Q (.bl (!decide (x = .non))) H) ta (tC .non)) env (.bool (!m.isNone)) := by
  have := ex_notN ha
  rw [isNone_eO hn] at this
  exact this
end
end Rb

set_option Elab.async false
set_option linter.all false
set_option maxRecDepth 100000
set_option maxHeartbeats 4000000
namespace Rb
open PySem PySem.Spec PyProof.Rows L2
structure OexF (K : Frag) (f x : Str) : Prop where
  c : OexC K (He.ga K x)
  ini : PySem.W.findIn K (.ref (He.ga K x)) "__init__" = some (some (.ref (He.ma K (He.ga K x) "__init__")))
  ty : PySem.W.typeIn K (.ref (He.ma K (He.ga K x) "__init__")) = some (.type "function")
  no : PySem.W.findIn K (.ref (He.ga K x)) f = some none
  xf : XfC K (He.ga K x)
theorem oexB_ok {K : Frag} {f x : Str} (h : oexB K f x = true) : OexF K f x := by
  unfold oexB at h
  simp only [Bool.and_eq_true] at h
  obtain ⟨h0, h1, h2, h3, h4, h5, h6, h7, h8⟩ := h
  refine ⟨⟨?_, of_decide_eq_true h1, of_decide_eq_true h2, of_decide_eq_true h3, h4⟩, of_decide_eq_true h5, of_decide_eq_true h6, of_decide_eq_true h7, xfB_ok h8⟩
  split at h0
  · rename_i d q s hl
    split at h0
    · rename_i z l k0 k1 k2 k3 g k5 hm hs
      simp only [Bool.and_eq_true, decide_eq_true_eq, Bool.not_eq_true'] at h0
      obtain ⟨e1, e2, e3, e4, e5⟩ := h0
      obtain ⟨nm, bs, mro, ns, qn, hd, sn, sub, ab, col, del⟩ := q
      dsimp only at hm e3 e4
      subst hm
      subst e3
      subst e4
      subst e1
      subst e2
      have es : s = #[k0, k1, k2, k3, some (.builtin "ValueError.__new__"), k5] := by
        obtain ⟨s⟩ := s
        simp only at hs
        rw [hs]
      subst es
      exact ⟨nm, qn, ns, bs, l, sn, sub, ab, col, d, k0, k1, k2, k3, k5, hl, e5⟩
    · cases h0
  · cases h0
def spIni (f : Str) (K : Frag) : Sp := fun vs H Q _ => ∃ (a C : Addr) (v : V), vs = [.ref a, v] ∧ OexC K C ∧ PySem.W.findIn K (.ref C) f = some none ∧ H a = some (exo a C none) ∧ ∀ dx, H dx = none → dx ≠ a → Q .non (upd (upd H dx (exd dx [(f, v)])) a (exo a C (some dx)))
structure ExI (P : Program) (w : World) (K : Frag) (mg : Str → Option Value) (base : Heap) (f x : Str) : Prop where
  g : mg x = some (.ref (He.ga K x))
  o : OexF K f x
  fn : ∃ fd, FnOk P w K mg base CX0 1 (He.ma K (He.ga K x) "__init__") fd ["self", f] (spIni f K) ∧ Binds K fd ["self", f] []
theorem ini_ok {P : Program} {w : World} {K : Frag} {mg : Str → Option Value} {base : Heap} {f qual : Str} {params : Arguments} {body : List Stmt} {scope : Scope} {a : Addr} {fd : FuncData}
    (F : FunD K "__init__" qual params body scope [] [] a fd) (S : FnScope ["self", f] ["self", f] scope)
    (hb : ∀ (cdv : Value) (A : Around) (outer : List Env) (s : Shared) (H : Hp) (E : XK), PSs (cxOf CX0 P w K mg base ["self", f] qual scope a cdv A outer s H E) body (tSeq (tOst K f (tVar 0) (tVar 1)) tNext)) : FnOk P w K mg base CX0 1 a fd ["self", f] (spIni f K) := by
  refine F.ok S (fun vs H Q E h => ?_) (fun cdv A outer s H vs Q E hr h => ?_)
  · obtain ⟨_, _, _, e, _⟩ := h
    rw [e]; rfl
  · obtain ⟨b, C, v, rfl, T, hno, hb1, q⟩ := h
    refine ⟨_, hb cdv A outer s H E, ?_⟩
    exact ⟨v, rfl, .ref b, rfl, b, C, rfl, T, hno, .inl ⟨hb1, fun dx n ne => q dx n ne⟩⟩
theorem pmk_ini {X : Cx} {x : Str} {C fI : Addr} {k : Nat} {fd : FuncData} {ps : List Str} {sp : Sp} {e : Expr} {ta : TA} {p pos : Pos} (T : OexC X.K C) (iC : PySem.W.findIn X.K (.ref C) "__init__" = some (some (.ref fI)))
    (tI : PySem.W.typeIn X.K (.ref fI) = some (.type "function")) (F1 : FnOk X.prog X.w X.K X.mg X.base CX0 k fI fd ps sp) (hr : Room (k + 1) X.A) (hb : Binds X.K fd ps []) (hg : Gl X x) (hm : X.mg x = some (.ref C)) (ha : PA X [e] ta)
    (hdb : (x == ("__debug__" : Str)) = false := by decide) (he : starEach [e] X.env = (false, eval e X.env) :: starEach [] X.env := by rfl) (hpl : (backTo pos (starEach [] X.env)).any (·.1) = false := by rfl) :
    L2N.PMk X (.Call (.Name x p) [e] [] pos) (tMkO C sp [] ta) := fun pins st σ H Q J h => by
  obtain ⟨cn, qn, nsA, bss, l, sno, sbs, abs, cl, dx0, j0, j1, j2, j3, j5, hC, hl⟩ := T.cls
  refine wpAny_Call_Name_kw (ld_glob J hg hm ?_ hdb)
  refine PySem.W.callWith_K (h₀ := X.base) J.ok.mod.kin T.kC ?_ he hpl
  refine thn (ha.run pos pins st σ H _ J h) ?_
  rintro us ⟨hp, gs, dw, tk, os⟩ ⟨vs, H1, J1, r1, hz, q1⟩
  refine ⟨J1.kIn, ?_⟩
  show wpAny _ _ (call (.ref C) us) _ _ _
  -- the new object's place
  generalize hae : hp.objs.size + 1 = a
  have ha1 : hp.objs.size ≤ a := by omega
  have hn : H1 a = none := J1.hok.fresh ha1
  have hq := q1 a hn
  rw [List.append_nil] at hq
  have kp : ∀ b o, hp.get? b = some o → ((hp.push (PySem.W.kdv_tup us)).push (PySem.HandSPX.excO C hp.objs.size)).get? b = some o := fun b o z => Heap.get?_push_of_some _ (Heap.get?_push_of_some _ z)
  have here : ((hp.push (PySem.W.kdv_tup us)).push (PySem.HandSPX.excO C hp.objs.size)).get? a = some (PySem.HandSPX.excO C hp.objs.size) := by subst hae; heap_get
  have J2 := J1.laid (t' := tk) (a := a) (o := exo a C none) kp ha1 (exo_ok here)
  have r2 : Vals (V.ref a :: vs) (Value.ref a :: us) := .cons rfl r1
  have len : (Value.ref a :: us ++ []).length = ps.length := by
    rw [List.append_nil, ← r2.length]
    exact F1.len _ _ _ _ hq
  have b2 := hb _ (Value.ref a :: us) J2.kIn len
  rw [List.append_nil] at b2
  have sz : us.length ≤ sizeLine := by
    have := Paired.length r1
    rw [sizeLine_eq]
    omega
  refine wpAny_call (PySem.HandSPX.call_own F.excBase_ValueError (fun Y => PySem.HandSPX.refsVE_contains Y l hl) (J1.kIn _ _ hC) (PySem.W.looks_findIn J1.kIn iC) (fun self => PySem.W.bind_fn J1.kIn self tI) sz ?_)
  have run := F1.run _ X.stack _ _ ⟨Value.ref a :: us, []⟩ (Value.ref a :: us) _ _ (fun _ _ _ => False) (hr.make C us []) (J2.env0.make C us []) b2 r2 hq
  subst hae
  refine codeAny_mono run fun r st' hr' => ?_
  cases r with
  | error er => exact hr'.elim
  | ok fl =>
    cases fl with
    | ret u =>
      obtain ⟨v, H2, os2, bare2, un2, hok2, rv, ev, d, fs, ea, ed, hd1, q2⟩ := hr'
      subst ev
      obtain ⟨h2, g2, d2, t2, os'⟩ := st'
      obtain ⟨t0, G, J3, kG, ge, hoe, na⟩ := mk_end0 (d2 := d2) (t2 := t2) J1 ha1 kp un2 hok2 os2 bare2 ea ed hd1
      exact ⟨rv, hp.objs.size + 1, _, _, ⟨G, g2, d2, t2, os'⟩, _, .ref C, some d, rfl, J3, kG, ge, hoe, ⟨rfl, rfl, fun ws hw => by cases hw; rfl⟩, rfl, rfl, na, rfl, bare2, raises_own T.exC T.tyC, q2⟩
    | next => exact hr'.elim
    | brk => exact hr'.elim
    | cont => exact hr'.elim
section
variable {X : Cx} {K : Frag} {W : WX} {f x : Str} {e : Expr} {ta : TA} {p pos pos2 : Pos}
theorem ps_raiseF (hc : X.calm = true) (T : ExI X.prog X.w K X.mg X.base f x) (tk : L2N.Takes X W) (hr : Room 2 X.A) (hg : Gl X x) (ha : PA X [e] ta) (hK : X.K = K := by rfl) (hdb : (x == ("__debug__" : Str)) = false := by decide)
    (he : starEach [e] X.env = (false, eval e X.env) :: starEach [] X.env := by rfl) (hpl : (backTo pos (starEach [] X.env)).any (·.1) = false := by rfl) :
    PS X (.Raise (some (.Call (.Name x p) [e] [] pos)) none pos2) (fun _ σ H => tMkO (He.ga K x) (spIni f K) [] ta σ H fun c d H' => W c d σ H') := by
  subst hK
  obtain ⟨fd, F1, hb⟩ := T.fn
  exact L2N.ps_raise hc tk (pmk_ini T.o.c T.o.ini T.o.ty F1 hr hb hg T.g ha hdb he hpl)
end
section
variable {K : Frag} {env env' envX : List Sl} {d : PyData} {ta : TA} {W : WX} {α β O S : Type} {ts tu : TS} {enc : O → Out} {m n : Option O} {f x : Str}
theorem made_heap {H : Hp} {a C d : Addr} {f : Str} {v : V} (ha : H a = none) (hd : d ≠ a) :
    upd (del (upd (upd (upd H a (exo a C none)) d (exd d [(f, v)])) a (exo a C (some d))) a) d (.xd [(f, v)]) = upd H d (.xd [(f, v)]) := by
  funext b
  by_cases e : b = d
  · subst e; rw [upd_same, upd_same]
  · rw [upd_ne e, upd_ne e]
    by_cases e2 : b = a
    · subst e2; rw [del_same, ha]
    · rw [del_ne e2, upd_ne e2, upd_ne e, upd_ne e2]
theorem bx_raiseF {o : O} (hO : OexF K f x) (ha : EA K ta env [d]) (hn : enc o = .ex env' ⟨x, some (f, d)⟩ W) (hw : Wk env env') :
    BX K (tSeq (fun _ σ H => tMkO (He.ga K x) (spIni f K) [] ta σ H fun c d H' => W c d σ H') tu) env enc (some o) := fun o' ho F0 H0 F H σ D E c => by
  cases ho
  rw [hn] at c
  refine ha E _ fun vs F1 H1 z1 a1 => ?_
  cases a1 with
  | @cons v _ _ _ hv a2 =>
  cases a2
  refine ⟨by show 1 ≤ 1000; decide, fun a na => ?_⟩
  refine ⟨a, He.ga K x, v, rfl, hO.c, hO.no, upd_same, fun dx hdx ne => ?_⟩
  have h1 : H1 dx = none := by rw [upd_ne ne] at hdx; exact hdx
  refine ⟨rfl, dx, _, upd_same, by rw [upd_ne ne, upd_same], h1, ?_⟩
  rw [made_heap na ne]
  have z2 := z1.trans (Fz.add (o := .xd [(f, v)]) z1.fh h1)
  exact c F1 _ σ ((E.step z2).weak hw) dx v upd_same hv
end
abbrev Cl : Type := Value × Nat × (Addr → Value → Option Addr → TS)
def wCl (K : Frag) (Wout : WX) (D : Ends) : List Cl → WX
  | [] => Wout
  | (c, i, tx) :: r => fun cls d σ H => ∃ b, PySem.W.exmOne K cls c = some b ∧
      (b = true → ∀ a, H a = none → tx a cls d { nx := fun σ' H' => D.nx (σ'.set i none) H', rt := D.rt, bk := fun σ' H' => D.bk (σ'.set i none) H', ct := fun σ' H' => D.ct (σ'.set i none) H' } (σ.set i (some (.ref a))) H) ∧
      (b = false → wCl K Wout D r cls d σ H)
inductive ClOk (X : Cx) : List ExceptHandler → List Cl → Prop
  | nil : ClOk X [] []
  | cons {x n : Str} {c : Value} {i : Nat} {tx : Addr → Value → Option Addr → TS} {s0 : Stmt} {ss : List Stmt} {q q' : Pos} {hs : List ExceptHandler} {l : List Cl} (hi : X.N[i]? = some n) (hk : X.env.kindOf n = some .local) (hc : Names X x c)
      (hx : ∀ (a : Addr) (oe : Obj) (cls : Value) (d : Option Addr) (pn : List (Addr × Obj)), L2N.Zn cls d oe → (∃ vs, oe.data = .fields vs) → PSs (X.suite a ((a, oe) :: pn)) (s0 :: ss) (tx a cls d)) (r : ClOk X hs l) :
      ClOk X (.ExceptHandler (some (.Name x q)) (some n) (s0 :: ss) q' :: hs) ((c, i, tx) :: l)
def tTryCl (K : Frag) (tb : WX → TS) (cl : List Cl) (Wout : WX) : TS := fun D σ H => tb (wCl K Wout D cl) D σ H
theorem ps_tryCl0 {X : Cx} {body : List Stmt} {h₀ : ExceptHandler} {hds : List ExceptHandler} {cl : List Cl} {pos : Pos} {tb : WX → TS} {Wout : WX} (hs : X.stack = X.env :: X.outer) (hf : X.env.frame = some X.env.locals) (hN : X.N.Nodup) (tk : L2N.Takes X Wout)
    (hb : ∀ (W : WX) (pn : List (Addr × Obj)) (xe : Value → Shared → Prop), L2N.Takes (X.tr pn xe) W → PassesOwn (model X.prog X.w) X.A X.env xe → PSs (X.tr pn xe) body (tb W))
    (hh : ClOk X (h₀ :: hds) cl) : PS X (.Try body (h₀ :: hds) [] [] pos) (fun D σ H => tb (wCl X.K Wout D cl) D σ H) := by
  refine ⟨fun pins st σ H D I h => ?_⟩
  have ok := I.ok
  have fr : X.A.frames = some (X.env :: X.outer) := by rw [ok.frames, hs]
  refine wpAny_Try_except ?_
  have run := (hb (wCl X.K Wout D cl) (X.pn ++ pins) (fun e s1 => wpAny (model X.prog X.w) X.A (noteFrame e X.env) (fun _ s2 => wpAny (model X.prog X.w) X.A (setFlight e none) (fun _ s3 =>
    wpAny (model X.prog X.w) X.A (handleBy e X.env (h₀ :: hds)) (SP X pins D) X.xe s3) X.xe s2) X.xe s1) (fun u s' xx => ?_) PassesOwn.looking).run [] st σ H D (I.toTry _) h
  · refine wpAny_mono run (fun fl s1 hsp => ?_) fun _ _ z => z
    cases fl with
    | next => obtain ⟨σ', H', J', q⟩ := hsp; exact wpAny_execs_nil ⟨σ', H', J'.ofTry ok, q⟩
    | brk => obtain ⟨σ', H', J', q⟩ := hsp; exact ⟨σ', H', J'.ofTry ok, q⟩
    | cont => obtain ⟨σ', H', J', q⟩ := hsp; exact ⟨σ', H', J'.ofTry ok, q⟩
    | ret u => obtain ⟨v, σ', H', J', r, q⟩ := hsp; exact ⟨v, σ', H', J'.ofTry ok, r, q⟩
  · -- an exception leaves the body
    obtain ⟨a, B, sI, pins', σ', H', cls, d, rfl, J', nb, up, sky, na, os, ag, wish⟩ := xx
    have J : Inv X pins σ' H' sI := J'.ofTry ok
    rw [show (X.tr (X.pn ++ pins) _).stack = X.env :: X.outer from hs] at sky
    show wpAny (model X.prog X.w) X.A (noteFrame (.ref a) X.env) _ _ _
    refine L2N.Sky.land L2N.Zn.steady fr hf sky fun hL flL upL => ?_
    have upA := up.trans upL
    have JL : Inv X pins σ' H' { s' with heap := hL } := J.landed nb flL.1 upA os ag
    obtain ⟨oL, vL, geL, zL, daL⟩ := flL.there
    have out : a ∉ frs (X.env :: X.outer) := fun hm => by
      obtain ⟨_, o', e', nf⟩ := flL.2.2.1.mem hm
      rw [geL] at e'
      cases e'
      exact nf _ daL
    have nL : a ≠ X.env.locals := fun z => out (List.mem_filterMap.mpr ⟨X.env, List.mem_cons_self, by rw [hf, z]⟩)
    have nF : a ∉ X.fs := fun hm => by
      obtain ⟨e, m1, m2⟩ := List.mem_filterMap.mp hm
      exact out (List.mem_filterMap.mpr ⟨e, List.mem_cons_of_mem _ m1, m2⟩)
    have SL := JL.suite geL daL na nL nF
    have LT : PySem.W.Looks (model X.prog X.w) hL (typeOf (.ref a)) cls := fun A Q E s k q => wpAny_typeOf_ref (k _ _ geL) (by rw [zL.1]; exact q)
    have all : ∀ {hs' : List ExceptHandler} {l' : List Cl}, ClOk X hs' l' → wCl X.K Wout D l' cls d σ' H' → wpAny (model X.prog X.w) X.A (handleBy (.ref a) X.env hs') (SP X pins D) X.xe { s' with heap := hL } := by
      intro hs' l' hk
      induction hk with
      | nil =>
        intro wout
        refine wpAny_handleBy_nil ?_
        obtain ⟨_, _, _, oT, vT, T, _, _, gT, _, dT, f1, _⟩ := id flL
        unfold PySem.passOn
        refine wpAny_bind (wpAny_field gT dT f1 ?_)
        rw [if_neg (show ¬ ((Value.ref T == Value.none) = true) from by simp)]
        have go : wpAny (model X.prog X.w) X.A (setFlight (.ref a) X.env.frame) (fun _ s4 => wpAny (model X.prog X.w) X.A (throw (.ref a) : Sem Flow) (SP X pins D) X.xe s4) X.xe { s' with heap := hL } := by
          rw [hf]
          exact HandSPX.setFlight_upZ flL fun h4 hh4 up4 => wpAny_throw (tk _ _ ⟨a, B, sI, pins, σ', H', cls, d, rfl, J, nb, upA.trans up4, .inr (.inr (by rw [hs]; exact hh4)), na, os, ag, wout⟩)
        first
          | exact wpAny_bind (wpAny_pure (wpAny_bind go))
          | exact wpAny_bind go
      | @cons x n c i tx s0 ss q q' hs2 l2 hi hk1 hc hx r ih =>
        intro ⟨b, hb1, yes, no⟩
        refine wpAny_handleBy_cons (codeAny_handlers_test ?_) (by intro z; cases z)
        have name : ∀ {Q : Value → Shared → Prop} {E : Value → Shared → Prop}, Q c { s' with heap := hL } → wpAny (model X.prog X.w) (X.A.mark (some (.ref a))) (eval (.Name x q) X.env) Q E { s' with heap := hL } := fun {Q E} z => by
          obtain ⟨hg, hdb, hm | ⟨hm, hv, hn⟩⟩ := hc
          · exact ld_glob (X := X.suite a ((a, oL) :: (X.pn ++ pins))) SL hg hm z hdb
          · exact ld_blt (X := X.suite a ((a, oL) :: (X.pn ++ pins))) SL hg hm hv z hn hdb
        refine name ((PySem.W.exm_one (M := model X.prog X.w) JL.kIn LT hb1).here ?_)
        cases b with
        | false =>
          show wpAny _ X.A (handleBy (.ref a) X.env hs2) _ _ _
          exact ih (no rfl)
        | true =>
          refine codeAny_handlers_suite_as (HandSPX.lands_againZ flL fun h4 fl4 up4 => ?_)
          have J4 : Inv X pins σ' H' { s' with heap := h4 } := J.landed nb fl4.1 (upA.trans up4) os ag
          obtain ⟨o4, v4, ge4, z4, da4⟩ := fl4.there
          refine store_ok (X := X.suite a ((a, o4) :: (X.pn ++ pins))) (v := .ref a) (J4.suite ge4 da4 na nL nF) hN hi (.inl hk1) rfl (fun s5 S5 => ?_) (.inr hk1)
          refine wpAny_mono ((hx a o4 cls d (X.pn ++ pins) z4 ⟨_, da4⟩).run [] s5 _ H' _ S5 (yes rfl a na)) (fun fl s6 hsp => ?_) (fun _ _ z => z.elim)
          have over : ∀ {σ6 : L2.St} {H6 : Hp} {Q : Shared → Prop}, Inv (X.suite a ((a, o4) :: (X.pn ++ pins))) [] σ6 H6 s6 → (∀ s7, Inv X pins (σ6.set i none) H6 s7 → Q s7) →
              wpAny (model X.prog X.w) X.A (do bindName X.env n .none; unbindBehindTheSuite X.env n q') (fun _ s7 => Q s7) X.xe s6 := fun {σ6 H6 Q} S6 hq => gone_ok (S6.unsuite ok) hN hi hk1 hq
          cases fl with
          | next => obtain ⟨σ6, H6, S6, q6⟩ := hsp; exact over S6 fun s7 J7 => ⟨_, _, J7, q6⟩
          | brk => obtain ⟨σ6, H6, S6, q6⟩ := hsp; exact over S6 fun s7 J7 => ⟨_, _, J7, q6⟩
          | cont => obtain ⟨σ6, H6, S6, q6⟩ := hsp; exact over S6 fun s7 J7 => ⟨_, _, J7, q6⟩
          | ret u => obtain ⟨v6, σ6, H6, S6, r6, q6⟩ := hsp; exact over S6 fun s7 J7 => ⟨_, _, _, J7, r6, q6⟩
    exact all hh wish
theorem ps_tryCl {X : Cx} {K : Frag} {body : List Stmt} {h₀ : ExceptHandler} {hds : List ExceptHandler} {cl : List Cl} {pos : Pos} {tb : WX → TS} {Wout : WX} (hs : X.stack = X.env :: X.outer) (hf : X.env.frame = some X.env.locals) (hN : X.N.Nodup) (tk : L2N.Takes X Wout)
    (hb : ∀ (W : WX) (pn : List (Addr × Obj)) (xe : Value → Shared → Prop), L2N.Takes (X.tr pn xe) W → PassesOwn (model X.prog X.w) X.A X.env xe → PSs (X.tr pn xe) body (tb W))
    (hh : ClOk X (h₀ :: hds) cl) (hK : X.K = K := by rfl) : PS X (.Try body (h₀ :: hds) [] [] pos) (tTryCl K tb cl Wout) := by
  subst hK
  exact ps_tryCl0 hs hf hN tk hb hh
section
variable {K : Frag} {env env' envS envX : List Sl} {α β O S : Type} {ts tu : TS} {enc : O → Out} {m n : Option O} {tx : Addr → Value → Option Addr → TS} {Wout : WX} {i : Nat} {x : Exn} {cl : List Cl}
def HC (K : Frag) (Wout : WX) (cl : List Cl) (envX : List Sl) (enc : O → Out) (x : Exn) (m : Option O) : Prop := ∀ o, m = some o → ∀ ⦃F0 H0 F H : Hp⦄ ⦃σ : List (Option V)⦄ (D : Ends), EnvOk K F0 H0 F H σ envX → Cont K F0 H0 D (enc o) →
  ∀ d, ExA x F H d → wCl K Wout D cl (.ref (He.ga K x.name)) d σ H
def ribM (x : Exn) (m : Option O) : Option O := if x.name ∈ exNames then m else none
theorem hc_hit {c : Value} {r : List Cl} {o : O} {F0 H0 F H : Hp} {σ : List (Option V)} {D : Ends} {d : Option Addr} (hl : i < envX.length) (he : (enc o).fin ∨ ∃ e, enc o = .nx e ∧ e.set i .un = e) (hm : PySem.W.exmOne K (.ref (He.ga K x.name)) c = some true)
    (h : BH K i x tx (envX.set i .un) enc (some o)) (E : EnvOk K F0 H0 F H σ envX) (C : Cont K F0 H0 D (enc o)) (hA : ExA x F H d) : wCl K Wout D ((c, i, tx) :: r) (.ref (He.ga K x.name)) d σ H := by
  refine ⟨true, hm, fun _ a _ => ?_, fun z => nomatch z⟩
  exact h o rfl a d _ (E.setU i) (by rw [List.getElem?_set, if_pos rfl, if_pos (by rw [E.len]; exact hl)]) hA (Cont.clear he C)
theorem hc_all {m1 : Option O} {r : List Cl} (hE : exB K = true) (hl : i < envX.length) (he : ∀ o, (enc o).fin ∨ ∃ e, enc o = .nx e ∧ e.set i .un = e) (h1 : BH K i x tx (envX.set i .un) enc m1) :
    HC K Wout ((.ref (He.ga K "RibbonError"), i, tx) :: r) envX enc x (ribM x m1) := fun o ho F0 H0 F H σ D E C d hA => by
  unfold ribM at ho
  split at ho
  · rename_i hx
    subst ho
    exact hc_hit hl (he o) (exB_ok hE hx).rib h1 E C hA
  · cases ho
theorem bx_tryCl {envS : S → List Sl} {mm : Option (Except Exn S)} {k : S → Option O} {h : Exn → Option O} {tb : WX → TS} (hb : ∀ W, BX K (tb W) env (encB envS envX W) mm) (hk : ∀ s, mm = some (.ok s) → BX K tNext (envS s) enc (k s))
    (hh : ∀ x, mm = some (.error x) → HC K Wout cl envX enc x (h x)) : BX K (tTryCl K tb cl Wout) env enc (tryM mm k h) := fun o ho F0 H0 F H σ D E C => by
  unfold tryM at ho
  obtain ⟨y, e1, e2⟩ := Option.bind_eq_some_iff.mp ho
  cases y with
  | ok s => exact hb _ (.ok s) e1 D E fun F1 H1 σ1 E1 => hk s e1 o e2 D E1 C
  | error x =>
    refine hb _ (.error x) e1 D E fun F1 H1 σ1 E1 => ?_
    have go := hh x e1 o e2 D E1 C
    unfold ExA at go
    unfold exW
    split
    · rename_i q
      rw [q] at go
      exact go none rfl
    · rename_i q1 q
      rw [q] at go
      exact fun dd v hd hv => go (some dd) ⟨dd, v, rfl, hd, hv⟩
end
end Rb

set_option Elab.async false
set_option linter.all false
set_option maxRecDepth 100000
set_option maxHeartbeats 4000000
namespace Rb
open PySem PySem.Spec PyProof.Rows L2
section
variable {K : Frag} {env : List Sl} {ta tb : TE}
end
section
variable {K : Frag} {env : List Sl} {α β : Type} {e : β → PyData} {i : Nat}
end
section
variable {K : Frag} {env : List Sl} {O : Type} {ta tb tc : TE} {tu : TS} {enc : O → Out} {m : Option O}
end
section
variable {K : Frag} {env : List Sl} {α O : Type} {e : α → PyData} {te : TE} {tr : TA} {tu : TS} {ds : List PyData} {enc : O → Out}
end
end Rb

set_option Elab.async false
set_option linter.all false
set_option maxRecDepth 100000
set_option maxHeartbeats 4000000
namespace Rb
open PySem PySem.Spec PyProof.Rows L2
section
variable {P : Program} {w : World} {A : Around} {E : Value → Shared → Prop} {s : Shared}
end
section
variable {K : Frag} {env : List Sl} {ta : TE}
end
end Rb

set_option Elab.async false
set_option linter.all false
set_option maxRecDepth 100000
set_option maxHeartbeats 4000000
namespace Rb
open PySem PySem.Spec PyProof.Rows L2
section
variable {prog : Program} {w : World} {A : Around} {E : Value → Shared → Prop} {s : Shared}
theorem tups_sortable {d : Nat} {B : Int} {a : Addr} {vs : List Value} (hd : 1 ≤ d) (h2 : 2 ≤ vs.length) (x : TS.TupsOk s.heap d B vs) (r : Value → Int) (hr : ∀ v, v ∈ vs → ∀ ns, TS.TupInts s.heap v ns → r v = TS.code B ns)
    (ha : ∀ o, s.heap.get? a = some o → o.cls ≠ .type "tuple") : SrtO.SortableO prog w A s a vs (fun v u => decide (r v < r u)) := by
  intro h' keep
  have k : ∀ b o, s.heap.get? b = some o → o.cls = .type "tuple" → h'.get? b = some o := fun b o e c => keep b o (fun z => ha o (by rw [← z]; exact e) c) e
  have x' : TS.TupsOk h' d B vs := x.keeps k
  have hr' : ∀ v, v ∈ vs → ∀ ns, TS.TupInts h' v ns → r v = TS.code B ns := fun v hv ns t => by
    obtain ⟨ms, t0, _⟩ := x v hv
    have e : ns = ms := t.ints.symm.trans (t0.keeps k).ints
    rw [e]
    exact hr v hv ms t0
  obtain ⟨fs, kk, hl, hi⟩ := TS.firsts_of hd vs x'
  refine ⟨_, fun Q E hq => PySem.W.kat_kind (s := { s with heap := h' }) (T := Value.type "int") kk (by omega) (fun f hf => ?_) rfl hq, ?_⟩
  · obtain ⟨n, t, rfl⟩ := hi f hf
    exact PySem.W.Looks.of_pure rfl
  · intro p q hp hq
    obtain ⟨ns, tp, lp, bp⟩ := x' _ hp
    obtain ⟨ms, tq, lq, bq⟩ := x' _ hq
    have ep := hr' _ hp _ tp
    have eq := hr' _ hq _ tq
    obtain ⟨a1, xs, e1, ⟨o, ho, hc, n, hdt⟩, i⟩ := tp
    obtain ⟨a2, ys, e2, ⟨o', ho', hc', n', hdt'⟩, i'⟩ := tq
    have fin : (fun (b : Bool) (s' : Shared) => s' = { s with heap := h' } ∧ b = SrtO.lt2 (fun v u => decide (r v < r u)) p q) (decide (TS.code B ns < TS.code B ms)) { s with heap := h' } := by
      refine ⟨rfl, ?_⟩
      show _ = decide (r p.1 < r q.1)
      rw [ep, eq]
    rw [e1, e2]
    refine PySem.W.kat_lt ho hdt ho' hdt' ?_
    have sz : decide (xs.size < ys.size) = false := by
      have l1 := i.length
      have l2 := i'.length
      rw [Array.length_toList] at l1 l2
      exact decide_eq_false (by omega)
    rw [sz]
    exact TS.lex_ints 0 i i' (by omega) bp bq fin
theorem swo_code (r : Value → Int) : SrtO.Swo (fun v u => decide (r v < r u)) := by
  refine ⟨fun x y h => ?_, fun x y z h1 h2 => ?_⟩
  · have := of_decide_eq_true h
    exact decide_eq_false (by omega)
  · have := of_decide_eq_false h1
    have := of_decide_eq_false h2
    exact decide_eq_false (by omega)
end
def rSortTO (K : Frag) (B : Int) : List V → Hp → VK → Prop := fun vs H Q => ∃ (a : Addr) (xs : List V) (d : Nat), vs = [V.ref a] ∧ 1 ≤ d ∧ SqL K H a xs ∧ (∀ x ∈ xs, ∃ ns, TupI K H x ns ∧ ns.length = d ∧ TS.Bd B ns) ∧
  ∀ (ys : List V) (p : Addr), ys.Perm xs → ys.Pairwise (fun x y => ∀ n m, TupI K H x n → TupI K H y m → TS.code B n ≤ TS.code B m) → H p = none → Q (.ref p) (upd H p (.lst ys))
theorem cr_sortTO' {X : Cx} {B : Int} : CallR X (.builtin "sorted") (rSortTO X.K B) := by
  intro pins s σ H vs us Q I r h
  obtain ⟨a, xs, d, rfl, hd, hs, hx, q⟩ := h
  obtain ⟨its, rv, hl, hz⟩ := I.list hs
  rw [Vals.ref1 r]
  obtain ⟨e1, e2⟩ := bkV_refs rv fun x m => by
    obtain ⟨ns, ⟨t, e, _⟩, _⟩ := hx x m
    exact ⟨t, e⟩
  have ok : TS.TupsOk s.heap d B its := fun v hv => by
    obtain ⟨t, rfl⟩ := e2 v hv
    have hm : V.ref t ∈ xs := by
      rw [e1]
      exact List.mem_map.mpr ⟨_, hv, rfl⟩
    obtain ⟨ns, ⟨t', e, ht⟩, hn, hb⟩ := hx _ hm
    cases e
    exact ⟨ns, tupI_raw I ht, hn, hb⟩
  have hz2 : its.length ≤ sizeLine := by rw [← rv.length]; exact hz
  refine SrtO.sorted_ord (swo_code fun v => TS.code B (TS.intsOf s.heap v)) hl.isList hz2 (fun h2 h1 a' hoL kk => ?_) fun out h1 h2 => ?_
  · have k : ∀ b o, s.heap.get? b = some o → o.cls = .type "tuple" → h1.get? b = some o := fun b o e _ => (kk b o e).2
    refine tups_sortable (s := { s with heap := h1 }) hd h2 (ok.keeps k) _ (fun v hv ns t => ?_) fun o e c => ?_
    · obtain ⟨ns0, t0, _⟩ := ok v hv
      have e : ns = ns0 := t.ints.symm.trans (t0.keeps k).ints
      rw [e]
      show TS.code B (TS.intsOf s.heap v) = _
      rw [t0.ints]
    · have e' : seqObj "list" its.toArray 0 = o := Option.some.inj (hoL.symm.trans e)
      rw [← e'] at c
      have c' : Value.type "list" = Value.type "tuple" := c
      injection c' with c''
      exact absurd c'' (by decide)
  · obtain ⟨ep, he'⟩ := PyProof.Rows.sortedAll_at s.heap its out.toArray
    have h3 : ∀ u ∈ out, ∃ a, u = Value.ref a := fun u hu => e2 u (h2.perm.mem_iff.mp hu)
    have hp : (out.map bkV).Perm xs := by
      rw [e1]
      exact h2.perm.map bkV
    have hlen : (out.map bkV).length ≤ sizeLine := by
      rw [hp.length_eq]
      exact hz
    refine ⟨.ref _, upd H (s.heap.objs.size + 1) (.lst (out.map bkV)), I.laid (t' := s.toks) (fun _ _ => PyProof.Rows.sortedAll_old) (Nat.le_succ _) ⟨hlen, out, ep, bkV_vals h3, he'⟩, rfl, q _ _ hp ?_ (I.hok.fresh (Nat.le_succ _))⟩
    rw [List.pairwise_map]
    refine List.Pairwise.imp (fun {u v} huv n m hn hm => ?_) h1
    obtain ⟨t, et, ht⟩ := hn
    obtain ⟨t', et', ht'⟩ := hm
    have eu := bkV_ref et
    have ev := bkV_ref et'
    have i1 : TS.intsOf s.heap u = n := by
      rw [eu]
      exact (tupI_raw I ht).ints
    have i2 : TS.intsOf s.heap v = m := by
      rw [ev]
      exact (tupI_raw I ht').ints
    have huv := of_decide_eq_false huv
    rw [i1, i2] at huv
    omega
theorem cr_sortTO {X : Cx} {K : Frag} (h : X.K = K := by rfl) : CallR X (.builtin "sorted") (rSortTO K 64) := by subst h; exact cr_sortTO'
section
variable {α : Type} {le : α → α → Bool}
def insG (le : α → α → Bool) (x : α) : List α → List α
  | [] => [x]
  | y :: ys => if le x y = true then x :: y :: ys else y :: insG le x ys
def sortG (le : α → α → Bool) : List α → List α
  | [] => []
  | x :: xs => insG le x (sortG le xs)
theorem insG_perm {x : α} : ∀ {ys : List α}, (insG le x ys).Perm (x :: ys)
  | [] => List.Perm.refl _
  | y :: ys => by
    unfold insG
    split
    · exact List.Perm.refl _
    · exact ((insG_perm (ys := ys)).cons y).trans (List.Perm.swap x y ys)
theorem sortG_perm : ∀ {xs : List α}, (sortG le xs).Perm xs
  | [] => List.Perm.refl _
  | x :: xs => (insG_perm).trans ((sortG_perm (xs := xs)).cons x)
theorem insG_up (tot : ∀ x y, le x y = true ∨ le y x = true) (tr : ∀ x y z, le x y = true → le y z = true → le x z = true) {x : α} : ∀ {ys : List α}, ys.Pairwise (fun a b => le a b = true) → (insG le x ys).Pairwise (fun a b => le a b = true)
  | [], _ => List.pairwise_singleton _ _
  | y :: ys, h => by
    obtain ⟨h1, h2⟩ := List.pairwise_cons.mp h
    unfold insG
    split
    · rename_i c
      refine List.pairwise_cons.mpr ⟨fun z hz => ?_, h⟩
      rcases List.mem_cons.mp hz with e | e
      · rw [e]; exact c
      · exact tr x y z c (h1 z e)
    · rename_i c
      refine List.pairwise_cons.mpr ⟨fun z hz => ?_, insG_up tot tr h2⟩
      rcases List.mem_cons.mp (insG_perm.mem_iff.mp hz) with e | e
      · rw [e]; exact (tot x y).resolve_left c
      · exact h1 z e
theorem sortG_up (tot : ∀ x y, le x y = true ∨ le y x = true) (tr : ∀ x y z, le x y = true → le y z = true → le x z = true) : ∀ xs : List α, (sortG le xs).Pairwise (fun a b => le a b = true)
  | [] => List.Pairwise.nil
  | x :: xs => insG_up tot tr (sortG_up tot tr xs)
theorem up_one : ∀ {xs ys : List α}, (∀ x y, x ∈ xs → y ∈ xs → le x y = true → le y x = true → x = y) → xs.Pairwise (fun a b => le a b = true) → ys.Pairwise (fun a b => le a b = true) → xs.Perm ys → xs = ys
  | [], ys, _, _, _, p => (List.Perm.eq_nil p.symm).symm
  | x :: xs, [], _, _, _, p => absurd p.length_eq (by simp)
  | x :: xs, y :: ys, an, h1, h2, p => by
    obtain ⟨a1, a2⟩ := List.pairwise_cons.mp h1
    obtain ⟨b1, b2⟩ := List.pairwise_cons.mp h2
    have e : x = y := by
      rcases List.mem_cons.mp (p.mem_iff.mpr (List.mem_cons_self (a := y) (l := ys))) with c | c
      · exact c.symm
      · rcases List.mem_cons.mp (p.mem_iff.mp (List.mem_cons_self (a := x) (l := xs))) with d | d
        · exact d
        · exact an x y List.mem_cons_self (List.mem_cons_of_mem _ c) (a1 y c) (b1 x d)
    subst e
    rw [up_one (fun u v hu hv => an u v (List.mem_cons_of_mem _ hu) (List.mem_cons_of_mem _ hv)) a2 b2 p.cons_inv]
end
section
variable {K : Frag} {env : List Sl} {ta : TE}
end
def leC (x y : List Int) : Bool := decide (TS.code 64 x ≤ TS.code 64 y)
def sortC (xs : List (List Int)) : List (List Int) := sortG leC xs
def alike (xs : List (List Int)) : Bool := xs.all fun x => decide (1 ≤ x.length) && decide (x.length = (xs.headD []).length) && x.all fun i => decide (0 ≤ i) && decide (i < 64)
theorem alike_ok {xs : List (List Int)} (h : alike xs = true) : ∀ x, x ∈ xs → 1 ≤ x.length ∧ x.length = (xs.headD []).length ∧ TS.Bd 64 x := fun x hx => by
  have := List.all_eq_true.mp h x hx
  simp only [Bool.and_eq_true, decide_eq_true_eq] at this
  refine ⟨this.1.1, this.1.2, fun i hi => ?_⟩
  have := List.all_eq_true.mp this.2 i hi
  simpa using this
theorem alike_of {xs : List (List Int)} {d : Nat} (hd : 1 ≤ d) (h : ∀ x, x ∈ xs → x.length = d ∧ ∀ i, i ∈ x → 0 ≤ i ∧ i < 64) : alike xs = true := by
  refine List.all_eq_true.mpr fun x hx => ?_
  have hh : (xs.headD []).length = d := by
    cases xs with
    | nil => cases hx
    | cons y ys => exact (h y List.mem_cons_self).1
  simp only [Bool.and_eq_true, decide_eq_true_eq, List.all_eq_true]
  exact ⟨⟨by rw [(h x hx).1]; exact hd, by rw [(h x hx).1, hh]⟩, fun i hi => (h x hx).2 i hi⟩
theorem code_inj {B : Int} : ∀ {x y : List Int}, x.length = y.length → TS.Bd B x → TS.Bd B y → TS.code B x = TS.code B y → x = y
  | [], [], _, _, _, _ => rfl
  | [], _ :: _, l, _, _, _ => by simp at l
  | _ :: _, [], l, _, _, _ => by simp at l
  | a :: x, b :: y, l, h1, h2, e => by
    have l' : x.length = y.length := by simpa using l
    rcases Int.lt_trichotomy a b with c | c | c
    · have := TS.code_lt l' h1.tail h2.tail c; omega
    · subst c
      have e2 : TS.code B x = TS.code B y := by
        have : a * B ^ x.length + TS.code B x = a * B ^ y.length + TS.code B y := e
        rw [l'] at this
        omega
      rw [code_inj l' h1.tail h2.tail e2]
    · have := TS.code_lt l'.symm h2.tail h1.tail c; omega
theorem leC_tot (x y : List Int) : leC x y = true ∨ leC y x = true := by
  unfold leC; rw [decide_eq_true_eq, decide_eq_true_eq]; omega
theorem leC_tr (x y z : List Int) (h1 : leC x y = true) (h2 : leC y z = true) : leC x z = true := by
  unfold leC at *; rw [decide_eq_true_eq] at *; omega
theorem sortC_up (xs : List (List Int)) : (sortC xs).Pairwise (fun a b => leC a b = true) := sortG_up leC_tot leC_tr xs
theorem sortC_one {xs ys : List (List Int)} (ok : alike xs = true) (p : ys.Perm xs) (h : ys.Pairwise (fun a b => TS.code 64 a ≤ TS.code 64 b)) : ys = sortC xs :=
  up_one (fun x y hx hy h1 h2 => by
    have a := alike_ok ok x (p.mem_iff.mp hx)
    have b := alike_ok ok y (p.mem_iff.mp hy)
    have h1 := of_decide_eq_true h1
    have h2 := of_decide_eq_true h2
    exact code_inj (by rw [a.2.1, b.2.1]) a.2.2 b.2.2 (by omega)) (h.imp fun {a b} z => decide_eq_true z) (sortC_up xs) (p.trans sortG_perm.symm)
theorem DqAll.perm {F : Hp} {α : Type} {e : α → PyData} : ∀ {vs ys : List V}, ys.Perm vs → ∀ {xs : List α}, DqAll F vs (xs.map e) → ∃ zs : List α, zs.Perm xs ∧ DqAll F ys (zs.map e) := fun {vs ys} p => by
  induction p with
  | nil => exact fun {xs} h => ⟨xs, List.Perm.refl _, h⟩
  | cons v p ih =>
    intro xs h
    cases xs with
    | nil => cases h
    | cons x xs =>
      cases h with
      | cons h1 h2 =>
        obtain ⟨zs, q, d⟩ := ih h2
        exact ⟨x :: zs, q.cons x, .cons h1 d⟩
  | swap v u p =>
    intro xs h
    match xs, h with
    | x :: y :: xs, .cons h1 (.cons h2 h3) => exact ⟨y :: x :: xs, List.Perm.swap x y xs, .cons h2 (.cons h1 h3)⟩
  | trans p1 p2 ih1 ih2 =>
    intro xs h
    obtain ⟨zs, q, d⟩ := ih2 h
    obtain ⟨ws, q2, d2⟩ := ih1 d
    exact ⟨ws, q2.trans q, d2⟩
theorem Dq.tupI {K : Frag} {F H : Hp} {v : V} {x : List Int} (hF : ∀ a o, F a = some o → H a = some o) (h : Dq F v (eT PyData.int x)) : TupI K H v x := by
  cases h with
  | tup h1 h2 h3 =>
    have := h2.ints
    subst this
    exact ⟨_, rfl, SqT.of (hF _ _ h1)⟩
section
variable {K : Frag} {env : List Sl} {ta : TE}
theorem exw_sortC {xs : List (List Int)} (ha : EXl K ta env (xs.map (eT PyData.int))) (ok : alike xs = true) : EXw K (tCB (rSortTO K 64) (tCons ta tNil)) env ((sortC xs).map (eT PyData.int)) := fun F0 H0 F H σ E Q q =>
  ha E _ fun p vs F1 H1 z1 h1 a1 l1 => by
    have fh := (E.step z1).fh
    have mem : ∀ x, x ∈ vs → ∃ ns, ns ∈ xs ∧ Dq F1 x (eT PyData.int ns) := fun x hx => by
      obtain ⟨i, hi⟩ := List.mem_iff_getElem?.mp hx
      obtain ⟨d, hd1, hd2⟩ := DqAll.getV a1 hi
      rw [List.getElem?_map] at hd1
      obtain ⟨ns, hn, rfl⟩ := Option.map_eq_some_iff.mp hd1
      exact ⟨ns, List.mem_of_getElem? hn, hd2⟩
    refine ⟨p, vs, (xs.headD [0]).length, rfl, ?_, SqL.of h1, fun x hx => ?_, fun ys l hp hs hl => ?_⟩
    · cases xs with
      | nil => exact Nat.le_refl _
      | cons y ys => exact (alike_ok ok y List.mem_cons_self).1
    · obtain ⟨ns, hn, hq⟩ := mem x hx
      have := alike_ok ok ns hn
      refine ⟨ns, hq.tupI fh, ?_, this.2.2⟩
      rw [this.2.1]
      cases xs with
      | nil => cases hn
      | cons y ys => rfl
    · obtain ⟨zs, pz, dz⟩ := DqAll.perm hp a1
      have up : zs.Pairwise (fun a b => TS.code 64 a ≤ TS.code 64 b) := by
        have go : ∀ {ys : List V} {zs : List (List Int)}, DqAll F1 ys (zs.map (eT PyData.int)) → ys.Pairwise (fun x y => ∀ n m, TupI K H1 x n → TupI K H1 y m → TS.code 64 n ≤ TS.code 64 m) → zs.Pairwise (fun a b => TS.code 64 a ≤ TS.code 64 b) := fun {ys} => by
          induction ys with
          | nil =>
            intro zs h _
            cases zs with
            | nil => exact List.Pairwise.nil
            | cons z zs => cases h
          | cons y ys ih =>
            intro zs h hp
            cases zs with
            | nil => exact List.Pairwise.nil
            | cons z zs =>
              cases h with
              | cons g1 g2 =>
                obtain ⟨p1, p2⟩ := List.pairwise_cons.mp hp
                refine List.pairwise_cons.mpr ⟨fun w hw => ?_, ih g2 p2⟩
                obtain ⟨i, hi⟩ := List.mem_iff_getElem?.mp hw
                obtain ⟨u, hu, hq⟩ := DqAll.get g2 (show (zs.map (eT PyData.int))[i]? = some (eT PyData.int w) by rw [List.getElem?_map, hi]; rfl)
                exact p1 u (List.mem_of_getElem? hu) z w (g1.tupI fh) (hq.tupI fh)
        exact go dz hs
      have e := sortC_one ok pz up
      subst e
      have hF : F1 l = none := Evl.fresh_back fh hl
      exact q l _ F1 _ (z1.trans (Fz.add fh hl)) (z1.hn hl) hF upd_same dz (by rw [List.length_map] at l1 ⊢; rw [pz.length_eq]; exact l1)
end
section
variable {K : Frag} {env : List Sl} {α O : Type} {ds : List PyData} {tu : TS} {enc : O → Out} {m : Option O} {to te : TE}
end
end Rb

set_option Elab.async false
set_option linter.all false
set_option maxRecDepth 100000
set_option maxHeartbeats 2000000
namespace Rb
open PySem PySem.Spec PyProof.Rows L2
section
variable {K : Frag} {env env' env1 : List Sl} {ta tb te tx ty td : TE} {α β S R O : Type} {ts tu : TS} {tt : TT} {enc : O → Out} {m n : Option O} {i : Nat} {d : PyData} {ds es : List PyData} {wi : TI} {g : TG}
def repOkL (xs : List α) (k : Int) : Prop := k < 2 ^ 62 ∧ -(2 ^ 62) ≤ k ∧ xs.length * k.toNat ≤ lim
instance (xs : List α) (k : Int) : Decidable (repOkL xs k) := inferInstanceAs (Decidable (_ ∧ _ ∧ _))
end
end Rb

set_option Elab.async false
set_option linter.all false
set_option maxRecDepth 100000
set_option maxHeartbeats 2000000
namespace Rb
namespace HTx
open PySem PySem.Spec PyProof.Rows HT
section
variable {prog : Program} {w : World} {A : Around} {E : Value → Shared → Prop} {s : Shared}
end
end HTx
open PySem PySem.Spec PyProof.Rows L2
end Rb

set_option Elab.async false
set_option linter.all false
set_option maxRecDepth 100000
set_option maxHeartbeats 2000000
namespace Rb
open PySem PySem.Spec PyProof.Rows L2
mutual
theorem Tr.uniq {F H : Hp} : ∀ {v : V} {t : OT} {A B : List Addr}, Tr F H v t A → Tr F H v t B → A = B
  | _, _, _, _, .d _, h => by cases h; rfl
  | _, _, _, _, .lst _ _ _, h => by cases h; rfl
  | _, _, _, _, .dk _ _ _, h => by cases h; rfl
  | _, _, _, _, .obj h1 h2 _ h4, h => by
    cases h with
    | obj k1 k2 _ k4 =>
      rw [h1] at k1
      cases k1
      rw [TrAll.uniq h4 k4]
  | _, _, _, _, .rc h1 _ h3, h => by
    cases h with
    | rc k1 _ k3 =>
      rw [h1] at k1
      cases k1
      rw [TrAll.uniq h3 k3]
  | _, _, _, _, .arr h1 h2 _, h => by
    cases h with
    | arr k1 k2 _ =>
      rw [h1] at k1
      cases k1
      rw [TrAll.uniq h2 k2]
  | _, _, _, _, .val, h => by cases h; rfl
  | _, _, _, _, .tup h1 h2 _, h => by
    cases h with
    | tup k1 k2 _ =>
      rw [h1] at k1
      cases k1
      rw [TrAll.uniq h2 k2]
  | _, _, _, _, .pin h1, h => by
    cases h with
    | pin k1 => exact Tr.uniq h1 k1
theorem TrAll.uniq {F H : Hp} : ∀ {vs : List V} {ts : List OT} {A B : List Addr}, TrAll F H vs ts A → TrAll F H vs ts B → A = B
  | _, _, _, _, .nil, h => by cases h; rfl
  | _, _, _, _, .cons h1 h2, h => by
    cases h with
    | cons k1 k2 => rw [Tr.uniq h1 k1, TrAll.uniq h2 k2]
end
def slT (v : V) (t : OT) : Sl := match v with
  | .ref p => .tb p t
  | _ => .tr t
theorem slT_ok {K : Frag} {H0 F H : Hp} {v : V} {t : OT} {A : List Addr} : SlA K H0 F H (some v) A (slT v t) ↔ Tr F H v t A ∧ A.Nodup ∧ ∀ a, a ∈ A → F a = none ∧ H0 a = none := by
  cases v with
  | ref p =>
    show (some (V.ref p) = some (V.ref p) ∧ Tr F H (.ref p) t A ∧ A.Nodup ∧ ∀ a, a ∈ A → F a = none ∧ H0 a = none) ↔ _
    exact ⟨fun h => h.2, fun h => ⟨rfl, h⟩⟩
  | _ =>
    show (∃ w, some _ = some w ∧ Tr F H w t A ∧ A.Nodup ∧ ∀ a, a ∈ A → F a = none ∧ H0 a = none) ↔ _
    constructor
    · rintro ⟨w, e, h⟩
      cases e
      exact h
    · intro h
      exact ⟨_, rfl, h⟩
theorem tr_ok {K : Frag} {H0 F H : Hp} {v : V} {t : OT} {A : List Addr} : SlA K H0 F H (some v) A (.tr t) ↔ Tr F H v t A ∧ A.Nodup ∧ ∀ a, a ∈ A → F a = none ∧ H0 a = none := by
  show (∃ w, some v = some w ∧ Tr F H w t A ∧ A.Nodup ∧ ∀ a, a ∈ A → F a = none ∧ H0 a = none) ↔ _
  constructor
  · rintro ⟨w, e, h⟩
    cases e
    exact h
  · intro h
    exact ⟨_, rfl, h⟩
def Sl.up : Sl → OT → Sl
  | .tb p _, u => .tb p u
  | _, u => .tr u
def Sl.isT : Sl → OT → Prop
  | .tb _ t, u => t = u
  | .tr t, u => t = u
  | _, _ => False
theorem isT_at {K : Frag} {H0 F H : Hp} {o : Option V} {A : List Addr} {s : Sl} {t : OT} (h : s.isT t) (a : SlA K H0 F H o A s) : ∃ v, o = some v ∧ Tr F H v t A ∧ A.Nodup ∧ ∀ a, a ∈ A → F a = none ∧ H0 a = none := by
  cases s with
  | tr u => cases h; exact a
  | tb p u => cases h; exact ⟨_, a.1, a.2⟩
  | _ => cases h
section
variable {K : Frag} {F0 H0 F H F' H' : Hp} {σ : List (Option V)} {env env' : List Sl}
theorem push_env {env : List Sl} {r : Sl} {j : Nat} {s : Sl} (h : (env ++ [r])[j]? = some s) : (j < env.length ∧ env[j]? = some s) ∨ (j = env.length ∧ s = r) := by
  by_cases c : j < env.length
  · rw [List.getElem?_append_left c] at h
    exact .inl ⟨c, h⟩
  · rw [List.getElem?_append_right (by omega)] at h
    obtain ⟨l, e⟩ := List.getElem?_eq_some_iff.mp h
    rw [List.length_singleton] at l
    have : j = env.length := by omega
    subst this
    refine .inr ⟨rfl, ?_⟩
    simp at e
    exact e.symm
theorem EnvOk.ret (E : EnvOk K F0 H0 F H σ env) {C : List Addr} (e : Ex F F') (fh : Ex F' H') (k : ∀ a u, H a = some u → F a = none → a ∉ C → (NoTup u → F' a = none) ∧ H' a = some u)
    {i : Nat} {s t : Sl} {o : Option V} (hi : env[i]? = some s) (ho : σ[i]? = some o) (hc : ∀ A, SlA K H0 F H o A s → ∀ c, c ∈ C → c ∈ A) {B : List Addr} (hb : ∀ b, b ∈ B → H b = none ∨ b ∈ C) (ht : SlA K H0 F' H' o B t)
    {v : V} {r : Sl} {D : List Addr} (hd : ∀ b, b ∈ D → H b = none ∨ b ∈ C) (hr : SlA K H0 F' H' (some v) D r) (dis : ∀ b, b ∈ B → b ∉ D) : EnvOk K F0 H0 F' H' (σ ++ [some v]) (env.set i t ++ [r]) := by
  have P := E.put i o (B := B) (C := C) e fh k (.inr ⟨s, o, hi, ho, hc⟩) hb ht
  rw [set_self ho] at P
  obtain ⟨As0, a0, d0⟩ := E.as
  have il : i < env.length := (List.getElem?_eq_some_iff.mp hi).1
  -- the same places as in put, with D behind
  have cA : ∀ c, c ∈ C → c ∈ As0 i := fun c m => by
    obtain ⟨o', h1, h2⟩ := a0 i s hi
    rw [ho] at h1
    cases h1
    exact hc _ h2 c m
  have keep : ∀ j s', j ≠ i → env[j]? = some s' → ∃ o', σ[j]? = some o' ∧ SlA K H0 F' H' o' (As0 j) s' := fun j s' n hj => by
    obtain ⟨o', h1, h2⟩ := a0 j s' hj
    refine ⟨o', h1, h2.keep e k (fun c m => ?_) fun c m mc => ?_⟩
    · obtain ⟨o2, h3, h4⟩ := a0 i s hi
      have := h4.free c (cA c m)
      exact ⟨this.2.1, fun u hu => by
        obtain ⟨_, _, u', hu', nx⟩ := this
        rw [hu] at hu'; cases hu'
        exact nx⟩
    · exact n (d0 j i s' s c hj hi m (cA c mc))
  have far : ∀ j s' p, j ≠ i → env[j]? = some s' → p ∈ As0 j → (H p = none ∨ p ∈ C) → False := fun j s' p n hj m z => by
    obtain ⟨o', h1, h2⟩ := a0 j s' hj
    rcases z with z | z
    · obtain ⟨_, _, u, hu, _⟩ := h2.free p m
      rw [z] at hu; cases hu
    · exact n (d0 j i s' s p hj hi m (cA p z))
  refine ⟨P.z, by simp [E.len], fun j => if j = env.length then D else if j = i then B else As0 j, fun j s' h => ?_, fun j l s' t' p hj hl mj ml => ?_⟩
  · rcases push_env h with ⟨c, h⟩ | ⟨c, rfl⟩
    · rw [List.length_set] at c
      have nj : j ≠ env.length := by omega
      rw [List.getElem?_append_left (by rw [E.len]; exact c)]
      dsimp only
      rw [if_neg nj]
      rcases set_env h with ⟨rfl, rfl, _⟩ | ⟨n, h⟩
      · exact ⟨o, ho, by rw [if_pos rfl]; exact ht⟩
      · rw [if_neg n]
        exact keep j s' n h
    · rw [List.length_set] at c
      refine ⟨some v, ?_, ?_⟩
      · rw [c, ← E.len, List.getElem?_append_right (Nat.le_refl _)]
        simp
      · dsimp only
        rw [if_pos c]
        exact hr
  · dsimp only at mj ml
    rcases push_env hj with ⟨cj, hj⟩ | ⟨cj, ej⟩
    · rw [List.length_set] at cj
      rw [if_neg (show j ≠ env.length by omega)] at mj
      rcases push_env hl with ⟨cl, hl⟩ | ⟨cl, el⟩
      · rw [List.length_set] at cl
        rw [if_neg (show l ≠ env.length by omega)] at ml
        rcases set_env hj with ⟨rfl, _, _⟩ | ⟨nj, hj2⟩
        · rw [if_pos rfl] at mj
          rcases set_env hl with ⟨rfl, _, _⟩ | ⟨nl, hl2⟩
          · rfl
          · rw [if_neg nl] at ml
            exact (far l t' p nl hl2 ml (hb p mj)).elim
        · rw [if_neg nj] at mj
          rcases set_env hl with ⟨rfl, _, _⟩ | ⟨nl, hl2⟩
          · rw [if_pos rfl] at ml
            exact (far j s' p nj hj2 mj (hb p ml)).elim
          · rw [if_neg nl] at ml
            exact d0 j l s' t' p hj2 hl2 mj ml
      · rw [List.length_set] at cl
        rw [if_pos cl] at ml
        rcases set_env hj with ⟨rfl, _, _⟩ | ⟨nj, hj2⟩
        · rw [if_pos rfl] at mj
          exact (dis p mj ml).elim
        · rw [if_neg nj] at mj
          exact (far j s' p nj hj2 mj (hd p ml)).elim
    · rw [List.length_set] at cj
      rw [if_pos cj] at mj
      rcases push_env hl with ⟨cl, hl⟩ | ⟨cl, el⟩
      · rw [List.length_set] at cl
        rw [if_neg (show l ≠ env.length by omega)] at ml
        rcases set_env hl with ⟨rfl, _, _⟩ | ⟨nl, hl2⟩
        · rw [if_pos rfl] at ml
          exact (dis p ml mj).elim
        · rw [if_neg nl] at ml
          exact (far l t' p nl hl2 ml (hd p mj)).elim
      · rw [List.length_set] at cl
        rw [cj, cl]
theorem EnvOk.push (E : EnvOk K F0 H0 F H σ env) (z : Fz F H F' H') {v : Option V} {r : Sl} {D : List Addr} (hd : ∀ b, b ∈ D → H b = none) (hr : SlA K H0 F' H' v D r) : EnvOk K F0 H0 F' H' (σ ++ [v]) (env ++ [r]) := by
  obtain ⟨As, a, d⟩ := (E.step z).as
  obtain ⟨As0, a0, d0⟩ := E.as
  have P := E.step z
  have keep : ∀ j s', env[j]? = some s' → ∃ o', σ[j]? = some o' ∧ SlA K H0 F' H' o' (As0 j) s' ∧ ∀ p, p ∈ As0 j → H p ≠ none := fun j s' hj => by
    obtain ⟨o', h1, h2⟩ := a0 j s' hj
    refine ⟨o', h1, h2.keep (C := []) z.f (fun p u hp hf _ => z.own' p u hp hf) (fun _ m => by cases m) (fun _ _ m => by cases m), fun p m y => ?_⟩
    obtain ⟨_, _, u, hu, _⟩ := h2.free p m
    rw [y] at hu; cases hu
  refine ⟨P.z, by simp [E.len], fun j => if j = env.length then D else As0 j, fun j s' h => ?_, fun j l s' t' p hj hl mj ml => ?_⟩
  · rcases push_env h with ⟨c, h⟩ | ⟨c, rfl⟩
    · rw [List.getElem?_append_left (by rw [E.len]; exact c)]
      dsimp only
      rw [if_neg (show j ≠ env.length by omega)]
      obtain ⟨o', h1, h2, _⟩ := keep j s' h
      exact ⟨o', h1, h2⟩
    · refine ⟨v, ?_, ?_⟩
      · rw [c, ← E.len, List.getElem?_append_right (Nat.le_refl _)]
        simp
      · dsimp only
        rw [if_pos c]
        exact hr
  · dsimp only at mj ml
    rcases push_env hj with ⟨cj, hj⟩ | ⟨cj, ej⟩
    · rw [if_neg (show j ≠ env.length by omega)] at mj
      rcases push_env hl with ⟨cl, hl⟩ | ⟨cl, el⟩
      · rw [if_neg (show l ≠ env.length by omega)] at ml
        exact d0 j l s' t' p hj hl mj ml
      · rw [if_pos cl] at ml
        exact ((keep j s' hj).choose_spec.2.2 p mj (hd p ml)).elim
    · rw [if_pos cj] at mj
      rcases push_env hl with ⟨cl, hl⟩ | ⟨cl, el⟩
      · rw [if_neg (show l ≠ env.length by omega)] at ml
        exact ((keep l t' hl).choose_spec.2.2 p ml (hd p mj)).elim
      · rw [cj, cl]
theorem EnvOk.pop {v : Option V} {r : Sl} (E : EnvOk K F0 H0 F H (σ ++ [v]) (env ++ [r])) : EnvOk K F0 H0 F H σ env := by
  obtain ⟨As, a, d⟩ := E.as
  have l : σ.length = env.length := by have := E.len; simp at this; exact this
  have up : ∀ {j : Nat} {s : Sl}, env[j]? = some s → (env ++ [r])[j]? = some s := fun {j s} h => by
    rw [List.getElem?_append_left (List.getElem?_eq_some_iff.mp h).1]; exact h
  refine ⟨E.z, l, As, fun j s h => ?_, fun i j s t p h1 h2 => d i j s t p (up h1) (up h2)⟩
  obtain ⟨o, h1, h2⟩ := a j s (up h)
  have jl : j < σ.length := by rw [l]; exact (List.getElem?_eq_some_iff.mp h).1
  rw [List.getElem?_append_left jl] at h1
  exact ⟨o, h1, h2⟩
theorem EnvOk.last {v : V} {r : Sl} (E : EnvOk K F0 H0 F H (σ ++ [some v]) (env ++ [r])) : ∃ D, SlA K H0 F H (some v) D r := by
  obtain ⟨As, a, d⟩ := E.as
  have l : σ.length = env.length := by have := E.len; simp at this; exact this
  obtain ⟨o, h1, h2⟩ := a env.length r (by rw [List.getElem?_append_right (Nat.le_refl _)]; simp)
  rw [← l, List.getElem?_append_right (Nat.le_refl _)] at h1
  simp at h1
  subst h1
  exact ⟨_, h2⟩
end
end Rb

set_option Elab.async false
set_option linter.all false
set_option maxRecDepth 100000
set_option maxHeartbeats 2000000
namespace Rb
open PySem PySem.Spec PyProof.Rows L2
inductive Ag where
  | d (d : PyData)
  | ro (t : OT)
  | mu (t : OT)
def Ag.isMu : Ag → Bool
  | .mu _ => true
  | _ => false
def Ag.pre (v : V) : Ag → Sl
  | .d q => .sh q
  | .ro t => .ro t
  | .mu t => slT v t
def pres : List V → List Ag → List Sl
  | v :: vs, a :: as => a.pre v :: pres vs as
  | _, _ => []
def posts : List V → List Ag → List OT → List Sl
  | v :: vs, .mu _ :: as, u :: us => slT v u :: posts vs as us
  | _ :: vs, _ :: as, us => .un :: posts vs as us
  | _, _, _ => []
def mus : List Ag → List OT
  | .mu t :: as => t :: mus as
  | _ :: as => mus as
  | [] => []
theorem pres_len : ∀ {vs : List V} {as : List Ag}, vs.length = as.length → (pres vs as).length = as.length
  | [], [], _ => rfl
  | v :: vs, a :: as, h => by
    show (pres vs as).length + 1 = as.length + 1
    rw [pres_len (by simpa using h)]
  | [], _ :: _, h => by cases h
  | _ :: _, [], h => by cases h
theorem pres_get : ∀ {vs : List V} {as : List Ag} {j : Nat} {v : V} {a : Ag}, vs[j]? = some v → as[j]? = some a → (pres vs as)[j]? = some (a.pre v)
  | v :: vs, a :: as, 0, _, _, h1, h2 => by cases h1; cases h2; rfl
  | v :: vs, a :: as, j + 1, _, _, h1, h2 => by
    show (pres vs as)[j]? = _
    exact pres_get (by simpa using h1) (by simpa using h2)
  | [], _, _, _, _, h1, _ => by simp at h1
  | _ :: _, [], _, _, _, _, h2 => by simp at h2
theorem posts_len : ∀ {vs : List V} {as : List Ag} {us : List OT}, vs.length = as.length → (posts vs as us).length = as.length
  | [], [], us, _ => by unfold posts; rfl
  | v :: vs, .mu t :: as, u :: us, h => by
    show (posts vs as us).length + 1 = as.length + 1
    rw [posts_len (by simpa using h)]
  | v :: vs, .mu t :: as, [], h => by
    show (posts vs as []).length + 1 = as.length + 1
    rw [posts_len (by simpa using h)]
  | v :: vs, .d t :: as, us, h => by
    show (posts vs as us).length + 1 = as.length + 1
    rw [posts_len (by simpa using h)]
  | v :: vs, .ro t :: as, us, h => by
    show (posts vs as us).length + 1 = as.length + 1
    rw [posts_len (by simpa using h)]
  | [], _ :: _, _, h => by cases h
  | _ :: _, [], _, h => by cases h
inductive Rt where
  | t (t : OT)
  | un
def RetE (K : Frag) (F H0 : Hp) (vs : List V) (as : List Ag) (Q : VK) (E : XK) : (Rt × List OT) ⊕ Exn → Prop
  | .inl (.t t, us) => ∀ F' H' v, EnvOk K F H0 F' H' (vs.map some ++ [some v]) (posts vs as us ++ [.tr t]) → Q v H'
  | .inl (.un, us) => ∀ F' H' v, EnvOk K F H0 F' H' (vs.map some) (posts vs as us) → Q v H'
  | .inr x => ∀ F' H', EnvOk K F H0 F' H' (vs.map some) (posts vs as (mus as)) → exW K x F' H' fun c d => E c d H'
def PromE (K : Frag) (I : List Ag → (Rt × List OT) ⊕ Exn → Prop) : Sp := fun vs H Q E => ∃ F H0 as r, vs.length = as.length ∧ EnvOk K F H0 F H (vs.map some) (pres vs as) ∧ I as r ∧ RetE K F H0 vs as Q E r
def ImE {A R : Type} (ea : A → List Ag) (er : R → Rt) (ou : R → List OT) (f : A → Option (Except Exn R)) : List Ag → (Rt × List OT) ⊕ Exn → Prop := fun as r => ∃ a y, as = ea a ∧ f a = some y ∧ r = (match y with
  | .ok y => .inl (er y, ou y)
  | .error x => .inr x)
inductive Sr where
  | d (d : PyData)
  | ro (i : Nat) (t : OT)
  | mu (i : Nat) (t : OT)
def Sr.ag : Sr → Ag
  | .d q => .d q
  | .ro _ t => .ro t
  | .mu _ t => .mu t
def SrV (F : Hp) (σ : List (Option V)) (v : V) : Sr → Prop
  | .d d => Dq F v d
  | .ro i _ => σ[i]? = some (some v)
  | .mu i _ => σ[i]? = some (some v)
def AllS (F : Hp) (σ : List (Option V)) : List V → List Sr → Prop
  | [], [] => True
  | v :: vs, s :: ss => SrV F σ v s ∧ AllS F σ vs ss
  | _, _ => False
theorem SrV.mono {F F' : Hp} {σ : List (Option V)} (e : Ex F F') {v : V} : ∀ {s : Sr}, SrV F σ v s → SrV F' σ v s
  | .d _, h => Dq.mono' e h
  | .ro _ _, h => h
  | .mu _ _, h => h
theorem AllS.len {F : Hp} {σ : List (Option V)} : ∀ {vs : List V} {ss : List Sr}, AllS F σ vs ss → vs.length = ss.length
  | [], [], _ => rfl
  | v :: vs, s :: ss, h => by rw [List.length_cons, List.length_cons, AllS.len h.2]
  | [], _ :: _, h => h.elim
  | _ :: _, [], h => h.elim
theorem AllS.get {F : Hp} {σ : List (Option V)} : ∀ {vs : List V} {ss : List Sr} {j : Nat} {s : Sr}, AllS F σ vs ss → ss[j]? = some s → ∃ v, vs[j]? = some v ∧ SrV F σ v s
  | v :: vs, s :: ss, 0, _, h, e => by cases e; exact ⟨v, rfl, h.1⟩
  | v :: vs, s :: ss, j + 1, _, h, e => by
    obtain ⟨w, e1, e2⟩ := AllS.get h.2 (by simpa using e)
    exact ⟨w, by simpa using e1, e2⟩
  | [], [], _, _, _, e => by simp at e
  | [], _ :: _, _, _, h, _ => h.elim
  | _ :: _, [], _, _, h, _ => h.elim
def EAg (K : Frag) (ta : TA) (env : List Sl) (ss : List Sr) : Prop := ∀ ⦃F0 H0 F H : Hp⦄ ⦃σ : List (Option V)⦄, EnvOk K F0 H0 F H σ env → ∀ Q : List V → Hp → Prop, (∀ vs F' H', Fz F H F' H' → AllS F' σ vs ss → Q vs H') → ta σ H Q
def Stands (s : Sl) (t : OT) : Prop := s.isT t ∨ s = .ro t
def SrOk (env : List Sl) : Sr → Prop
  | .d _ => True
  | .ro i t => ∃ s, env[i]? = some s ∧ Stands s t
  | .mu i t => ∃ s, env[i]? = some s ∧ s.isT t
section
variable {K : Frag} {F0 H0 F H F' H' : Hp} {σ : List (Option V)} {env env' : List Sl} {te ta : TE} {tr : TA} {ss : List Sr} {d : PyData}
theorem eag_nil : EAg K tNil env [] := fun F0 H0 F H σ E Q q => q [] F H (Fz.refl E.fh) trivial
theorem eag_d (ha : EX K te env d) (hr : EAg K tr env ss) : EAg K (tCons te tr) env (.d d :: ss) := fun F0 H0 F H σ E Q q =>
  ha E _ fun v F1 H1 z1 h1 => hr (E.step z1) _ fun vs F2 H2 z2 h2 => q _ F2 H2 (z1.trans z2) ⟨Dq.mono' z2.f h1, h2⟩
def less (H : Hp) (A : List Addr) : Hp := fun a => if a ∈ A then none else H a
theorem callee (E : EnvOk K F0 H0 F H σ env) {vs : List V} (a : AllS F σ vs ss) (ok : ∀ (j : Nat) (s : Sr), ss[j]? = some s → SrOk env s) (A : List Addr) (z : ∀ c, c ∈ A → H0 c = none) (far : ∀ (i : Nat) (t : OT) (j : Nat), ss[j]? = some (.ro i t) → ∀ (o : Option V) (s : Sl) (B : List Addr), env[i]? = some s → σ[i]? = some o → SlA K H0 F H o B s → ∀ b, b ∈ B → b ∉ A)
    (As : Nat → List Addr) (hm : ∀ (j i : Nat) (t : OT), ss[j]? = some (.mu i t) → ∃ v, vs[j]? = some v ∧ SlA K (less H A) F H (some v) (As j) (slT v t)) (hn : ∀ (j : Nat) (s : Sr), ss[j]? = some s → s.ag.isMu = false → As j = []) (ha : ∀ (i j : Nat) (s t : Sr) (p : Addr), ss[i]? = some s → ss[j]? = some t → p ∈ As i → p ∈ As j → i = j) :
    EnvOk K F (less H A) F H (vs.map some) (pres vs (ss.map Sr.ag)) := by
  have len := a.len
  have pl : (pres vs (ss.map Sr.ag)).length = ss.length := by rw [pres_len (by rw [List.length_map, len]), List.length_map]
  have get : ∀ j sl, (pres vs (ss.map Sr.ag))[j]? = some sl → ∃ s v, ss[j]? = some s ∧ vs[j]? = some v ∧ SrV F σ v s ∧ sl = s.ag.pre v := fun j sl h => by
    have jl : j < ss.length := by rw [← pl]; exact (List.getElem?_eq_some_iff.mp h).1
    have hs : ss[j]? = some ss[j] := List.getElem?_eq_getElem jl
    obtain ⟨v, h1, h2⟩ := a.get hs
    refine ⟨_, v, hs, h1, h2, ?_⟩
    rw [pres_get h1 (by rw [List.getElem?_map, hs]; rfl)] at h
    cases h
    rfl
  refine ⟨⟨Evl.Ex.refl F, E.fh, fun p o hp hf => ⟨fun _ => hf, ?_⟩⟩, by rw [List.length_map, pl, len], As, fun j sl h => ?_, fun i j s t p h1 h2 => ?_⟩
  · unfold less at hp
    by_cases c : p ∈ A
    · rw [if_pos c] at hp; cases hp
    · rw [if_neg c] at hp; exact hp
  · obtain ⟨s, v, h1, h2, h3, rfl⟩ := get j sl h
    refine ⟨some v, by rw [List.getElem?_map, h2]; rfl, ?_⟩
    cases s with
    | d d =>
      rw [hn j _ h1 rfl]
      exact ⟨⟨v, rfl, h3⟩, rfl⟩
    | mu i t =>
      obtain ⟨w, e1, e2⟩ := hm j i t h1
      rw [h2] at e1
      cases e1
      exact e2
    | ro i t =>
      rw [hn j _ h1 rfl]
      obtain ⟨s, hi, st⟩ := ok j _ h1
      obtain ⟨Bs, ba, _⟩ := E.as
      obtain ⟨o, e1, e2⟩ := ba i s hi
      have h3 : σ[i]? = some (some v) := h3
      rw [h3] at e1
      cases e1
      have fa := far i t j h1 _ s _ hi h3 e2
      rcases st with st | rfl
      · obtain ⟨w, e, T, nd, fr⟩ := isT_at st e2
        cases e
        refine ⟨⟨v, Bs i, rfl, T, fun b hb => ⟨(fr b hb).1, ?_⟩⟩, rfl⟩
        obtain ⟨u, hu, _⟩ := T.at b hb
        exact ⟨u, by unfold less; rw [if_neg (fa b hb)]; exact hu⟩
      · obtain ⟨⟨w, B, e, T, fr⟩, _⟩ := e2
        cases e
        refine ⟨⟨v, B, rfl, T, fun b hb => ⟨(fr b hb).1, ?_⟩⟩, rfl⟩
        obtain ⟨u, hu, _⟩ := T.at b hb
        obtain ⟨_, u0, hu0⟩ := fr b hb
        refine ⟨u, ?_⟩
        unfold less
        rw [if_neg fun m => by rw [z b m] at hu0; cases hu0]
        exact hu
  · obtain ⟨s', v, q1, _⟩ := get i s h1
    obtain ⟨t', w, q2, _⟩ := get j t h2
    exact ha i j s' t' p q1 q2
theorem call0 (E : EnvOk K F0 H0 F H σ env) {vs : List V} (a : AllS F σ vs ss) (ok : ∀ (j : Nat) (s : Sr), ss[j]? = some s → SrOk env s) (nm : ∀ (j : Nat) (s : Sr), ss[j]? = some s → s.ag.isMu = false) :
    EnvOk K F (less H []) F H (vs.map some) (pres vs (ss.map Sr.ag)) :=
  callee E a ok [] (fun _ m => by cases m) (fun _ _ _ _ _ _ _ _ _ _ _ _ m => by cases m) (fun _ => []) (fun j i t h => by cases nm j _ h) (fun _ _ _ _ => rfl) fun _ _ _ _ _ _ _ m => by cases m
theorem less_nil : less H [] = H := by
  funext a
  unfold less
  rw [if_neg (by simp)]
end
end Rb

set_option Elab.async false
set_option linter.all false
set_option maxRecDepth 100000
set_option maxHeartbeats 2000000
namespace Rb
open PySem PySem.Spec PyProof.Rows L2
def EXe (K : Frag) (te : TE) (env : List Sl) (t : OT) (env' : List Sl) : Prop := ∀ ⦃F0 H0 F H : Hp⦄ ⦃σ : List (Option V)⦄, EnvOk K F0 H0 F H σ env → ∀ Q : VK, (∀ v F' H', Ex F F' → EnvOk K F0 H0 F' H' (σ ++ [some v]) (env' ++ [.tr t]) → Q v H') → te σ H Q
def EXn (K : Frag) (te : TE) (env env' : List Sl) : Prop := ∀ ⦃F0 H0 F H : Hp⦄ ⦃σ : List (Option V)⦄, EnvOk K F0 H0 F H σ env → ∀ Q : VK, (∀ v F' H', Ex F F' → EnvOk K F0 H0 F' H' σ env' → Q v H') → te σ H Q
def EXt (K : Frag) (te : TE) (env : List Sl) (t : OT) : Prop := ∀ ⦃F0 H0 F H : Hp⦄ ⦃σ : List (Option V)⦄, EnvOk K F0 H0 F H σ env → ∀ Q : VK, (∀ v F' H' B, Fz F H F' H' → Tr F' H' v t B → B.Nodup → (∀ b, b ∈ B → H b = none ∧ F' b = none) → Q v H') → te σ H Q
def ERRe (K : Frag) (W : WX) (te : TE) (env : List Sl) (x : Exn) : Prop := ∀ ⦃F0 H0 F H : Hp⦄ ⦃σ : List (Option V)⦄, EnvOk K F0 H0 F H σ env → ∀ Q : VK, (∀ F' H', EnvOk K F0 H0 F' H' σ env → exW K x F' H' fun c d => W c d σ H') → te σ H Q
section
variable {K : Frag} {env env' env1 : List Sl} {t u : OT} {d : PyData} {ds : List PyData} {te ta tb : TE} {tr : TA} {ss : List Sr} {W : WX} {x : Exn} {ts : TS} {O : Type} {enc : O → Out}
theorem EXe.n (h : EXe K te env t env') : EXn K te env env' := fun F0 H0 F H σ E Q q => h E Q fun v F' H' e E' => q v F' H' e E'.pop
theorem EX.thing (h : EX K te env d) : EXt K te env (.d d) := fun F0 H0 F H σ E Q q => h E Q fun v F' H' z hv => q v F' H' [] z (.d hv) .nil fun _ m => by cases m
theorem EXw.thing (h : EXw K te env ds) : EXt K te env (.lst ds) := fun F0 H0 F H σ E Q q => h E Q fun p vs F' H' z hn hf h1 h2 h3 => q (.ref p) F' H' [p] z (.lst h1 h2 h3) (by simp) fun b m => by
  obtain rfl := List.mem_singleton.mp m
  exact ⟨hn, hf⟩
theorem EXt.e (h : EXt K te env t) : EXe K te env t env := fun F0 H0 F H σ E Q q => h E Q fun v F' H' B z T nd fr => q v F' H' z.f (E.push z (D := B) (fun b m => (fr b m).1) (tr_ok.mpr ⟨T, nd, fun b m => ⟨(fr b m).2, E.z.hn (fr b m).1⟩⟩))
theorem EXt.sh (h : EXt K te env (.d d)) : EX K te env d := fun F0 H0 F H σ E Q q => h E Q fun v F' H' B z T _ _ => by
  cases T with
  | d hd => exact q v F' H' z hd
theorem EX.n (h : EX K te env d) : EXn K te env env := h.thing.e.n
theorem ERR.e (h : ERR K W te env x) : ERRe K W te env x := fun F0 H0 F H σ E Q q => h E Q fun F' H' z => q F' H' (E.step z)
variable {I : List Ag → (Rt × List OT) ⊕ Exn → Prop} {Ek : L2.St → XK}
section
variable {i : Nat} {s : Sl} {C : Addr} {m : Str} {ns : List Str} {us : List OT} {sp : Sp}
end
def tMakeS (C : Addr) (sp : Sp) (E : L2.St → XK) (t : TA) : TE := fun σ H Q => t σ H fun vs H1 => ∀ x dx, H1 x = none → H1 dx = none → dx ≠ x → sp (.ref x :: vs) (upd (upd H1 dx (.own x)) x (.ins C dx [])) (fun v H2 => v = .non ∧ Q (.ref x) H2) (E σ)
theorem EnvOk.front {F0 H0 F H H' : Hp} {σ : List (Option V)} (E : EnvOk K F0 H0 F H σ env) (z : Fz F H F H') {v : Option V} {r : Sl} {D : List Addr} (hd : ∀ b, b ∈ D → H b = none) (hr : SlA K H0 F H' v D r) : EnvOk K F0 H0 F H' (v :: σ) (r :: env) := by
  obtain ⟨As0, a0, d0⟩ := E.as
  have P := E.step z
  have keep : ∀ j s', env[j]? = some s' → ∃ o', σ[j]? = some o' ∧ SlA K H0 F H' o' (As0 j) s' ∧ ∀ p, p ∈ As0 j → H p ≠ none := fun j s' hj => by
    obtain ⟨o', h1, h2⟩ := a0 j s' hj
    refine ⟨o', h1, h2.keep (C := []) z.f (fun p u hp hf _ => z.own' p u hp hf) (fun _ m => by cases m) (fun _ _ m => by cases m), fun p m y => ?_⟩
    obtain ⟨_, _, u, hu, _⟩ := h2.free p m
    rw [y] at hu; cases hu
  refine ⟨P.z, by simp [E.len], fun j => match j with
    | 0 => D
    | j + 1 => As0 j, fun j s' h => ?_, fun j l s' t' p hj hl mj ml => ?_⟩
  · cases j with
    | zero => cases h; exact ⟨v, rfl, hr⟩
    | succ j =>
      obtain ⟨o', h1, h2, _⟩ := keep j s' (by simpa using h)
      exact ⟨o', by simpa using h1, h2⟩
  · cases j with
    | zero =>
      cases l with
      | zero => rfl
      | succ l => exact ((keep l t' (by simpa using hl)).choose_spec.2.2 p ml (hd p mj)).elim
    | succ j =>
      cases l with
      | zero => exact ((keep j s' (by simpa using hj)).choose_spec.2.2 p mj (hd p ml)).elim
      | succ l => rw [d0 j l s' t' p (by simpa using hj) (by simpa using hl) mj ml]
theorem ext_make {C : Addr} {r : OT} (ha : EAg K tr env ss) (ok : ∀ (j : Nat) (s : Sr), ss[j]? = some s → SrOk env s) (nm : ∀ (j : Nat) (s : Sr), ss[j]? = some s → s.ag.isMu = false) (hI : I (.mu (.obj C [] []) :: ss.map Sr.ag) (.inl (.t (.d .none), [r]))) : EXt K (tMakeS C (PromE K I) Ek tr) env r := fun F0 H0 F H σ E Q q =>
  ha E _ fun vs F1 H1 z1 a1 x dx nx nd ne => by
    have E1 := E.step z1
    have c := call0 E1 a1 ok nm
    rw [less_nil] at c
    have zz : Fz F1 H1 F1 (upd (upd H1 dx (.own x)) x (.ins C dx [])) := by
      have z2 := Fz.add (F := F1) (o := HO.own x) E1.fh nd
      refine z2.trans (Fz.add z2.fh (by rw [upd_ne fun z => ne z.symm]; exact nx))
    have c2 := c.front zz (v := some (.ref x)) (r := slT (.ref x) (.obj C [] [])) (D := [x, dx]) (fun b m => by
      simp only [List.mem_cons, List.not_mem_nil, or_false] at m
      rcases m with rfl | rfl
      · exact nx
      · exact nd) (slT_ok.mpr ⟨.obj upd_same (by rw [upd_ne ne, upd_same]) rfl .nil, by simp [ne.symm], fun b m => by
      simp only [List.mem_cons, List.not_mem_nil, or_false] at m
      rcases m with rfl | rfl
      · exact ⟨Evl.fresh_back E1.fh nx, nx⟩
      · exact ⟨Evl.fresh_back E1.fh nd, nd⟩⟩)
    refine ⟨F1, H1, .mu (.obj C [] []) :: ss.map Sr.ag, _, by rw [List.length_cons, List.length_cons, List.length_map, a1.len], c2, hI, fun F2 H2 w E2 => ?_⟩
    have z3 : Fz F1 H1 F2 H2 := E2.z
    obtain ⟨D, hD⟩ := E2.last
    have w0 : w = .non := by
      have := (tr_ok.mp hD).1
      cases this with
      | d hd => cases hd; rfl
    obtain ⟨As, a, _⟩ := E2.as
    obtain ⟨o, p1, p2⟩ := a 0 (slT (.ref x) r) rfl
    have p1 : some (some (V.ref x)) = some o := p1
    cases p1
    have TB := slT_ok.mp p2
    exact ⟨w0, q (.ref x) F2 H2 (As 0) (z1.trans z3) TB.1 TB.2.1 fun b m => ⟨z1.hn (TB.2.2 b m).2, (TB.2.2 b m).1⟩⟩
theorem err_make {C : Addr} (ha : EAg K tr env ss) (ok : ∀ (j : Nat) (s : Sr), ss[j]? = some s → SrOk env s) (nm : ∀ (j : Nat) (s : Sr), ss[j]? = some s → s.ag.isMu = false) (hI : I (.mu (.obj C [] []) :: ss.map Sr.ag) (.inr x)) : ERR K W (tMakeS C (PromE K I) (WE W) tr) env x := fun F0 H0 F H σ E Q q =>
  ha E _ fun vs F1 H1 z1 a1 y dx nx nd ne => by
    have E1 := E.step z1
    have c := call0 E1 a1 ok nm
    rw [less_nil] at c
    have zz : Fz F1 H1 F1 (upd (upd H1 dx (.own y)) y (.ins C dx [])) := by
      have z2 := Fz.add (F := F1) (o := HO.own y) E1.fh nd
      refine z2.trans (Fz.add z2.fh (by rw [upd_ne fun z => ne z.symm]; exact nx))
    have c2 := c.front zz (v := some (.ref y)) (r := slT (.ref y) (.obj C [] [])) (D := [y, dx]) (fun b m => by
      simp only [List.mem_cons, List.not_mem_nil, or_false] at m
      rcases m with rfl | rfl
      · exact nx
      · exact nd) (slT_ok.mpr ⟨.obj upd_same (by rw [upd_ne ne, upd_same]) rfl .nil, by simp [ne.symm], fun b m => by
      simp only [List.mem_cons, List.not_mem_nil, or_false] at m
      rcases m with rfl | rfl
      · exact ⟨Evl.fresh_back E1.fh nx, nx⟩
      · exact ⟨Evl.fresh_back E1.fh nd, nd⟩⟩)
    exact ⟨F1, H1, .mu (.obj C [] []) :: ss.map Sr.ag, _, by rw [List.length_cons, List.length_cons, List.length_map, a1.len], c2, hI, fun F2 H2 E2 => q F2 H2 (z1.trans E2.z)⟩
variable {tw tu : TS} {m : Option O}
theorem Wk.push {e e' : List Sl} (w : Wk e e') {s : Sl} : Wk (e ++ [s]) (e' ++ [s]) := by
  induction w with
  | nil => exact .same .nil
  | same _ ih => exact .same ih
  | un _ ih => exact .un ih
  | tb _ ih => exact .tb ih
end
end Rb

set_option Elab.async false
set_option linter.all false
set_option maxRecDepth 100000
set_option maxHeartbeats 2000000
namespace Rb
open PySem PySem.Spec PyProof.Rows L2
section
variable {X : Cx} {CX : CXT} {k : Nat} {f C : Addr} {fd : FuncData} {ps : List Str} {sp : Sp} {E : L2.St → XK} {x m : Str} {p pos apos : Pos} {e o : Expr} {es : List Expr} {ta : TE} {t : TA}
theorem run_makeS {pins : List (Addr × Obj)} {σ : L2.St} {H : Hp} {s : Shared} {Q : VK} {us : List Value} {vs : List V} (M : Mk X.K C f) (F : FnOk X.prog X.w X.K X.mg X.base CX k f fd ps sp) (hr : Room (k + 1) X.A) (hb : Binds X.K fd ps [])
    (hx : PassesAt CX X σ (E σ)) (I : Inv X pins σ H s) (r : Vals vs us)
    (h : ∀ x dx, H x = none → H dx = none → dx ≠ x → sp (.ref x :: vs) (upd (upd H dx (.own x)) x (.ins C dx [])) (fun v H2 => v = .non ∧ Q (.ref x) H2) (E σ)) :
    wpAny (model X.prog X.w) X.A (call (.ref C) us) (EP X pins σ Q) X.xe s := by
  have hq := h (s.heap.objs.size + 1) s.heap.objs.size (I.hok.fresh (Nat.le_succ _)) (I.hok.fresh (Nat.le_refl _)) (Nat.ne_of_lt (Nat.lt_succ_self _))
  have I2 := Inv.made (C := C) I
  have r2 : Vals (V.ref (s.heap.objs.size + 1) :: vs) (Value.ref (s.heap.objs.size + 1) :: us) := .cons rfl r
  have hl : (Value.ref (s.heap.objs.size + 1) :: us).length = ps.length := by
    have e := r2.length
    rw [F.len _ _ _ _ hq] at e
    exact e.symm
  have b := hb _ (Value.ref (s.heap.objs.size + 1) :: us) I2.kIn (by rw [List.append_nil]; exact hl)
  rw [List.append_nil] at b
  refine wpAny_call (make_map (f := f) I.kIn M.makes M.init (beq_iff_eq.mp M.fn) (codeAny_mono (F.run _ X.stack _ _ ⟨Value.ref (s.heap.objs.size + 1) :: us, []⟩ (Value.ref (s.heap.objs.size + 1) :: us) _ _ (E σ) (hr.make C us [])
    (I2.env0.make C us []) b r2 hq) fun r s' hq' => ?_))
  cases r with
  | error e => exact hx pins _ _ e s' I2 hq'
  | ok fl =>
    cases fl with
    | ret u =>
      obtain ⟨v, H', I3, rv, ev, q3⟩ := I2.after hq'
      subst ev
      exact ⟨rv, ⟨V.ref (s.heap.objs.size + 1), H', I3, rfl, q3⟩⟩
    | next => exact False.elim hq'
    | brk => exact False.elim hq'
    | cont => exact False.elim hq'
theorem pe_makeS (M : Mk X.K C f) (F : FnOk X.prog X.w X.K X.mg X.base CX k f fd ps sp) (hr : Room (k + 1) X.A) (hg : Gl X x) (hm : X.mg x = some (.ref C)) (hb : Binds X.K fd ps []) (hx : ∀ σ, PassesAt CX X σ (E σ))
    (ha : PA X (e :: es) t) (hdb : (x == ("__debug__" : Str)) = false := by decide) (he : starEach (e :: es) X.env = (false, eval e X.env) :: starEach es X.env := by rfl) (hpl : (backTo pos (starEach es X.env)).any (·.1) = false := by rfl) :
    PE X (.Call (.Name x p) (e :: es) [] pos) (tMakeS C sp E t) := by
  refine ⟨fun pins s σ H Q I h => ?_⟩
  refine wpAny_Call_Name_kw (ld_glob I hg hm ?_ hdb)
  refine PySem.W.callWith_K (h₀ := X.base) I.ok.mod.kin M.kp (thn (ha.run pos pins s σ H _ I h) fun us s1 ⟨vs, H1, I1, r, q⟩ => ⟨I1.kIn, ?_⟩) he hpl
  exact run_makeS M F hr hb (hx σ) I1 r q
end
structure FnE (P : Program) (w : World) (K : Frag) (mg : Str → Option Value) (base : Heap) (x : Str) (k : Nat) (I : List Ag → (Rt × List OT) ⊕ Exn → Prop) : Prop where
  ex : ∃ f fd ps, FnOk P w K mg base (L2N.CX P w) k f fd ps (PromE K I) ∧ mg x = some (.ref f) ∧ PySem.W.keepIn K (.ref f) = true ∧ Binds K fd ps []
structure MtE (P : Program) (w : World) (K : Frag) (mg : Str → Option Value) (base : Heap) (C m : Str) (k : Nat) (I : List Ag → (Rt × List OT) ⊕ Exn → Prop) : Prop where
  ex : ∃ f fd ps, FnOk P w K mg base (L2N.CX P w) k f fd ps (PromE K I) ∧ Cls K (He.ga K C) ∧ Meth K (He.ga K C) m f ∧ Binds K fd ps []
structure MkE (P : Program) (w : World) (K : Frag) (mg : Str → Option Value) (base : Heap) (C : Str) (k : Nat) (I : List Ag → (Rt × List OT) ⊕ Exn → Prop) : Prop where
  ex : ∃ f fd ps, FnOk P w K mg base (L2N.CX P w) k f fd ps (PromE K I) ∧ Mk K (He.ga K C) f ∧ mg C = some (.ref (He.ga K C)) ∧ Binds K fd ps []
section
variable {X : Cx} {K : Frag} {x C m : Str} {k : Nat} {I : List Ag → (Rt × List OT) ⊕ Exn → Prop} {e o : Expr} {es : List Expr} {t : TA} {ta : TE} {p pos apos : Pos} {W : WX}
theorem pe_mkE (G : MkE X.prog X.w K X.mg X.base C k I) (tk : L2N.Takes X W) (hr : Room (k + 1) X.A) (hg : Gl X C) (ha : PA X (e :: es) t) (hK : X.K = K := by rfl)
    (hs : starEach (e :: es) X.env = (false, eval e X.env) :: starEach es X.env := by rfl) (hpl : (backTo pos (starEach es X.env)).any (·.1) = false := by rfl) (hd : (C == ("__debug__" : Str)) = false := by decide) : PE X (.Call (.Name C p) (e :: es) [] pos) (tMakeS (He.ga K C) (PromE K I) (WE W) t) := by
  subst hK
  obtain ⟨f, fd, ps, F, M, hm, hb⟩ := G.ex
  exact pe_makeS M F hr hg hm hb (fun σ => L2N.passAt tk σ) ha hd hs hpl
end
def OT.node : OT → Prop
  | .d _ => False
  | .val _ => False
  | _ => True
theorem node_ref {F H : Hp} {v : V} {t : OT} {A : List Addr} (h : t.node) (T : Tr F H v t A) : ∃ p, v = .ref p := by
  cases T with
  | d _ => cases h
  | val => cases h
  | _ => exact ⟨_, rfl⟩
section
variable {K : Frag} {F0 H0 F H : Hp} {σ : List (Option V)} {env : List Sl}
theorem EnvOk.pad (E : EnvOk K F0 H0 F H σ env) : ∀ n, EnvOk K F0 H0 F H (σ ++ List.replicate n none) (env ++ List.replicate n .un)
  | 0 => by simpa using E
  | n + 1 => by
    have := (E.pad n).push (Fz.refl E.fh) (v := none) (r := .un) (D := []) (fun _ m => by cases m) ⟨trivial, rfl⟩
    rw [List.replicate_succ', List.replicate_succ', ← List.append_assoc, ← List.append_assoc]
    exact this
theorem posts_at : ∀ {vs : List V} {as : List Ag} {us : List OT} {j : Nat} {s : Sl}, (posts vs as us)[j]? = some s → s = .un ∨ ∃ v t u, vs[j]? = some v ∧ as[j]? = some (.mu t) ∧ s = slT v u
  | [], as, us, j, s, h => by unfold posts at h; simp at h
  | v :: vs, [], us, j, s, h => by unfold posts at h; simp at h
  | v :: vs, .d q :: as, us, 0, s, h => by cases h; exact .inl rfl
  | v :: vs, .ro q :: as, us, 0, s, h => by cases h; exact .inl rfl
  | v :: vs, .mu q :: as, [], 0, s, h => by cases h; exact .inl rfl
  | v :: vs, .mu q :: as, u :: us, 0, s, h => by cases h; exact .inr ⟨v, q, u, rfl, rfl, rfl⟩
  | v :: vs, .d q :: as, us, j + 1, s, h => by
    have h : (posts vs as us)[j]? = some s := h
    rcases posts_at h with h | ⟨v', t, u, a, b, c⟩
    · exact .inl h
    · exact .inr ⟨v', t, u, by simpa using a, by simpa using b, c⟩
  | v :: vs, .ro q :: as, us, j + 1, s, h => by
    have h : (posts vs as us)[j]? = some s := h
    rcases posts_at h with h | ⟨v', t, u, a, b, c⟩
    · exact .inl h
    · exact .inr ⟨v', t, u, by simpa using a, by simpa using b, c⟩
  | v :: vs, .mu q :: as, [], j + 1, s, h => by
    have h : (posts vs as [])[j]? = some s := h
    rcases posts_at h with h | ⟨v', t, u, a, b, c⟩
    · exact .inl h
    · exact .inr ⟨v', t, u, by simpa using a, by simpa using b, c⟩
  | v :: vs, .mu q :: as, u :: us, j + 1, s, h => by
    have h : (posts vs as us)[j]? = some s := h
    rcases posts_at h with h | ⟨v', t, u, a, b, c⟩
    · exact .inl h
    · exact .inr ⟨v', t, u, by simpa using a, by simpa using b, c⟩
theorem end_ok {vs : List V} {as : List Ag} {us : List OT} {n : Nat} (hl : vs.length = as.length) (hv : ∀ (j : Nat) (t : OT) (v : V), as[j]? = some (.mu t) → vs[j]? = some v → ∃ p, v = .ref p) (E : EnvOk K F0 H0 F H σ (posts vs as us ++ List.replicate n Sl.un)) : EnvOk K F0 H0 F H (vs.map some) (posts vs as us) := by
  obtain ⟨As, a, d⟩ := E.as
  have pl : (posts vs as us).length = vs.length := by rw [posts_len hl, hl]
  have up : ∀ {j : Nat} {s : Sl}, (posts vs as us)[j]? = some s → (posts vs as us ++ List.replicate n Sl.un)[j]? = some s := fun {j s} h => by
    rw [List.getElem?_append_left (List.getElem?_eq_some_iff.mp h).1]; exact h
  refine ⟨E.z, by rw [List.length_map, pl], As, fun j s h => ?_, fun i j s t p h1 h2 => d i j s t p (up h1) (up h2)⟩
  obtain ⟨o, h1, h2⟩ := a j s (up h)
  have jl : j < vs.length := by rw [← pl]; exact (List.getElem?_eq_some_iff.mp h).1
  have g : (vs.map some)[j]? = some (some vs[j]) := by rw [List.getElem?_map, List.getElem?_eq_getElem jl]; rfl
  refine ⟨_, g, ?_⟩
  rcases posts_at h with rfl | ⟨v, t, u, e1, e2, rfl⟩
  · exact ⟨trivial, h2.2⟩
  · obtain ⟨p, rfl⟩ := hv j t v e2 e1
    rw [List.getElem?_eq_getElem jl] at e1
    have e1 := Option.some.inj e1
    rw [e1]
    have h2 : SlA K H0 F H o (As j) (.tb p u) := h2
    have e := h2.1
    subst e
    exact h2
theorem end_okT {vs : List V} {as : List Ag} {us : List OT} {n : Nat} {v : V} {t : OT} (hl : vs.length = as.length) (hv : ∀ (j : Nat) (t : OT) (v : V), as[j]? = some (.mu t) → vs[j]? = some v → ∃ p, v = .ref p) (E : EnvOk K F0 H0 F H (σ ++ [some v]) ((posts vs as us ++ List.replicate n Sl.un) ++ [.tr t])) : EnvOk K F0 H0 F H (vs.map some ++ [some v]) (posts vs as us ++ [.tr t]) := by
  have E1 := end_ok hl hv E.pop
  obtain ⟨As, a, d⟩ := E.as
  have sl : σ.length = (posts vs as us ++ List.replicate n Sl.un).length := by have := E.len; simp at this; rw [List.length_append, List.length_replicate]; omega
  have pl : (posts vs as us).length = vs.length := by rw [posts_len hl, hl]
  have up : ∀ {j : Nat} {s : Sl}, (posts vs as us)[j]? = some s → ((posts vs as us ++ List.replicate n Sl.un) ++ [Sl.tr t])[j]? = some s := fun {j s} h => by
    have jl := (List.getElem?_eq_some_iff.mp h).1
    rw [List.getElem?_append_left (by rw [List.length_append]; omega), List.getElem?_append_left jl]; exact h
  have gl : ((posts vs as us ++ List.replicate n Sl.un) ++ [Sl.tr t])[(posts vs as us ++ List.replicate n Sl.un).length]? = some (Sl.tr t) := by
    rw [List.getElem?_append_right (Nat.le_refl _)]; simp
  refine ⟨E.z, by simp [pl], fun j => if j = vs.length then As (posts vs as us ++ List.replicate n Sl.un).length else As j, fun j s h => ?_, fun i j s u p h1 h2 m1 m2 => ?_⟩
  · rcases push_env h with ⟨c, h⟩ | ⟨c, rfl⟩
    · rw [pl] at c
      rw [List.getElem?_append_left (by rw [List.length_map]; exact c)]
      dsimp only
      rw [if_neg (show j ≠ vs.length by omega)]
      obtain ⟨o, h1, h2⟩ := a j s (up h)
      have g : (vs.map some)[j]? = some (some vs[j]) := by rw [List.getElem?_map, List.getElem?_eq_getElem c]; rfl
      refine ⟨_, g, ?_⟩
      rcases posts_at h with rfl | ⟨v', t', u', e1, e2, rfl⟩
      · exact ⟨trivial, h2.2⟩
      · obtain ⟨p, rfl⟩ := hv j t' v' e2 e1
        rw [List.getElem?_eq_getElem c] at e1
        have e1 := Option.some.inj e1
        rw [e1]
        have h2 : SlA K H0 F H o (As j) (.tb p u') := h2
        have e := h2.1
        subst e
        exact h2
    · rw [pl] at c
      refine ⟨some v, by rw [c, List.getElem?_append_right (by rw [List.length_map]; exact Nat.le_refl _), List.length_map, Nat.sub_self]; rfl, ?_⟩
      dsimp only
      rw [if_pos c]
      obtain ⟨o, h1, h2⟩ := a _ _ gl
      rw [← sl, List.getElem?_append_right (Nat.le_refl _)] at h1
      simp at h1
      subst h1
      exact h2
  · dsimp only at m1 m2
    have big : ∀ {j : Nat} {s : Sl}, (posts vs as us)[j]? = some s → j ≠ (posts vs as us ++ List.replicate n Sl.un).length := fun {j s} h z => by
      have := (List.getElem?_eq_some_iff.mp h).1
      rw [List.length_append] at z
      omega
    rcases push_env h1 with ⟨c1, h1⟩ | ⟨c1, e1⟩
    · rw [pl] at c1
      rw [if_neg (show i ≠ vs.length by omega)] at m1
      rcases push_env h2 with ⟨c2, h2⟩ | ⟨c2, e2⟩
      · rw [pl] at c2
        rw [if_neg (show j ≠ vs.length by omega)] at m2
        exact d i j s u p (up h1) (up h2) m1 m2
      · rw [pl] at c2
        rw [if_pos c2] at m2
        exact (big h1 (d i _ s _ p (up h1) gl m1 m2)).elim
    · rw [pl] at c1
      rw [if_pos c1] at m1
      rcases push_env h2 with ⟨c2, h2⟩ | ⟨c2, e2⟩
      · rw [pl] at c2
        rw [if_neg (show j ≠ vs.length by omega)] at m2
        exact (big h2 (d j _ u _ p (up h2) gl m2 m1)).elim
      · rw [pl] at c2
        rw [c1, c2]
end
def startA (N : List Str) (vs : List V) (as : List Ag) : List Sl := pres vs as ++ List.replicate (N.length - as.length) .un
def endA (N : List Str) (vs : List V) (as : List Ag) (us : List OT) : List Sl := posts vs as us ++ List.replicate (N.length - as.length) .un
def OutE (N : List Str) (vs : List V) (as : List Ag) (us : List OT) (o : Out) : Rt → Prop
  | .t t => o = .re (endA N vs as us) (some t) ∨ (t = .d .none ∧ o = .nx (endA N vs as us))
  | .un => o = .re (endA N vs as us) none ∨ o = .nx (endA N vs as us)
def RefsAt (vs : List V) (as : List Ag) : Prop := vs.length = as.length ∧ ∀ (j : Nat) (t : OT) (v : V), as[j]? = some (.mu t) → vs[j]? = some v → ∃ p, v = .ref p
theorem fn_okE {A R : Type} {P : Program} {w : World} {K : Frag} {mg : Str → Option Value} {base : Heap} {x qual : Str} {params : Arguments} {body : List Stmt} {scope : Scope} {f : Addr} {fd : FuncData} {N ps : List Str} {k : Nat} {ea : A → List Ag} {er : R → Rt} {ou : R → List OT} {fm : A → Option (Except Exn R)} {en : List V → A → XK → Except Exn R → Out}
    (F : FunD K x qual params body scope [] [] f fd) (S : FnScope N ps scope) (hl : ∀ a, (ea a).length = ps.length) (hnd : ∀ (a : A) (t : OT), Ag.mu t ∈ ea a → t.node) (hn : ∀ vs a E y, RefsAt vs (ea a) → OutE N vs (ea a) (ou y) (en vs a E (.ok y)) (er y))
    (hx : ∀ vs a E y, RefsAt vs (ea a) → en vs a E (.error y) = .ex (endA N vs (ea a) (mus (ea a))) y fun c d _ H => E c d H)
    (hb : ∀ (cdv : Value) (A' : Around) (outer : List Env) (s : Shared) (H : Hp) (E : XK), Room k (A'.deeper (envOfC qual scope s.heap.objs.size f cdv)) →
      ∃ t, PSs (cxOf (L2N.CX P w) P w K mg base N qual scope f cdv A' outer s H E) body t ∧ ∀ vs a, RefsAt vs (ea a) → BX K t (startA N vs (ea a)) (en vs a E) (fm a)) : FnOk P w K mg base (L2N.CX P w) (k + 1) f fd ps (PromE K (ImE ea er ou fm)) := by
  refine F.ok S (fun vs H Q E h => ?_) (fun cdv A' outer s H vs Q E hr h => ?_)
  · obtain ⟨F, H0, as, r, e, _, ⟨a', y, rfl, _, _⟩, _⟩ := h
    rw [e, hl]
  · obtain ⟨F, H0, as, r, e, E0, ⟨a', y, rfl, hy, rfl⟩, q⟩ := h
    obtain ⟨t, p, b⟩ := hb cdv A' outer s H E hr
    have st : EnvOk K F H0 F H (L2.start N vs) (startA N vs (ea a')) := by
      have := E0.pad (N.length - vs.length)
      unfold startA
      rw [← e]
      exact this
    have hv : ∀ (j : Nat) (t : OT) (v : V), (ea a')[j]? = some (.mu t) → vs[j]? = some v → ∃ p, v = .ref p := fun j t v h1 h2 => by
      obtain ⟨o, g1, g2⟩ := E0.sl j _ (pres_get h2 h1)
      rw [List.getElem?_map, h2] at g1
      cases g1
      obtain ⟨A, hA⟩ := g2.a
      exact node_ref (hnd a' t (List.mem_of_getElem? h1)) (slT_ok.mp hA).1
    refine ⟨t, p, b vs a' ⟨e, hv⟩ y hy _ st ?_⟩
    cases y with
    | error y =>
      rw [hx vs a' E y ⟨e, hv⟩]
      exact fun F1 H1 σ1 E1 => q F1 H1 (end_ok e hv E1)
    | ok y =>
      have hn := hn vs a' E y ⟨e, hv⟩
      have q : RetE K F H0 vs (ea a') Q E (.inl (er y, ou y)) := q
      generalize er y = r at hn q
      cases r with
      | t r =>
        rcases hn with h | ⟨rfl, h⟩
        · rw [h]
          exact fun F1 H1 σ1 v E1 => q F1 H1 v (end_okT e hv E1)
        · rw [h]
          exact fun F1 H1 σ1 E1 => q F1 H1 .non ((end_ok e hv E1).push (Fz.refl E1.fh) (D := []) (fun _ m => by cases m) (tr_ok.mpr ⟨.d .non, .nil, fun _ m => by cases m⟩))
      | un =>
        rcases hn with h | h
        · rw [h]
          exact fun F1 H1 σ1 v E1 => q F1 H1 v (end_ok e hv E1)
        · rw [h]
          exact fun F1 H1 σ1 E1 => q F1 H1 .non (end_ok e hv E1)
end Rb

set_option Elab.async false
set_option linter.all false
set_option maxRecDepth 100000
set_option maxHeartbeats 2000000
namespace Rb
open PySem PySem.Spec PyProof.Rows L2
def putN (f : Str) : List Str → List Str
  | n :: ns => if n = f then n :: ns else n :: putN f ns
  | [] => [f]
def putO (f : Str) (t : OT) : List Str → List OT → List OT
  | n :: ns, u :: us => if n = f then t :: us else u :: putO f t ns us
  | _, _ => [t]
theorem put_tree {F H : Hp} {f : Str} {y : V} {t : OT} {B : List Addr} (T : Tr F H y t B) : ∀ {fs : List (Str × V)} {us : List OT} {A : List Addr}, TrAll F H (fs.map (·.2)) us A →
    (putF f y fs).map (·.1) = putN f (fs.map (·.1)) ∧ ∃ A', TrAll F H ((putF f y fs).map (·.2)) (putO f t (fs.map (·.1)) us) A' ∧ (∀ a, a ∈ A' → a ∈ A ∨ a ∈ B) ∧ (A.Nodup → B.Nodup → (∀ a, a ∈ A → a ∉ B) → A'.Nodup)
  | [], _, _, h => by
    cases h
    refine ⟨rfl, B ++ [], .cons T .nil, fun a m => .inr (by simpa using m), fun _ nb _ => by simpa using nb⟩
  | (g, x) :: r, _, _, h => by
    cases h with
    | cons h1 h2 =>
      rename_i u us A1 A2
      show (if g = f then (g, y) :: r else (g, x) :: putF f y r).map (·.1) = (if g = f then g :: r.map (·.1) else g :: putN f (r.map (·.1))) ∧ ∃ A', TrAll F H ((if g = f then (g, y) :: r else (g, x) :: putF f y r).map (·.2)) (if g = f then t :: us else u :: putO f t (r.map (·.1)) us) A' ∧ _ ∧ _
      by_cases c : g = f
      · rw [if_pos c, if_pos c, if_pos c]
        refine ⟨rfl, B ++ A2, .cons T h2, fun a m => ?_, fun na nb d => ?_⟩
        · rcases List.mem_append.mp m with m | m
          · exact .inr m
          · exact .inl (List.mem_append_right _ m)
        · exact List.nodup_append.mpr ⟨nb, (List.nodup_append.mp na).2.1, fun a m b m2 e => d b (List.mem_append_right _ m2) (by rw [← e]; exact m)⟩
      · rw [if_neg c, if_neg c, if_neg c]
        obtain ⟨e, A', T', h3, h4⟩ := put_tree T h2
        refine ⟨by rw [List.map_cons, e], A1 ++ A', .cons h1 T', fun a m => ?_, fun na nb d => ?_⟩
        · rcases List.mem_append.mp m with m | m
          · exact .inl (List.mem_append_left _ m)
          · rcases h3 a m with z | z
            · exact .inl (List.mem_append_right _ z)
            · exact .inr z
        · obtain ⟨n1, n2, n3⟩ := List.nodup_append.mp na
          refine List.nodup_append.mpr ⟨n1, h4 n2 nb fun a m => d a (List.mem_append_right _ m), fun a m b m2 e => ?_⟩
          subst e
          rcases h3 a m2 with z | z
          · exact n3 a m a z rfl
          · exact d a (List.mem_append_left _ m) z
section
variable {K : Frag} {env env' : List Sl} {d : PyData} {ds : List PyData} {te tv : TE} {ts tu : TS} {O : Type} {enc : O → Out} {m : Option O} {i : Nat} {s : Sl} {C p : Addr} {ns : List Str} {us : List OT} {f : Str} {t : OT}
theorem s_store {F0 H0 F H : Hp} {σ : List (Option V)} {D : Ends} (E : EnvOk K F0 H0 F H σ env) (hi : env[i]? = some (.tb p (.obj C ns us))) (hv : EXt K tv env t) (hc : Cls K C) (hn : NoAttr K C f) (hl : ns.length < 1000)
    (k : ∀ F' H', EnvOk K F0 H0 F' H' σ (env.set i (.tb p (.obj C (putN f ns) (putO f t ns us)))) → D.nx σ H') : sFld K (tVar i) tv f D σ H :=
  hv E _ fun y F1 H1 B z T nd fr => by
    have E1 := E.step z
    obtain ⟨As, a, _⟩ := E1.as
    obtain ⟨o, e1, e2⟩ := a i _ hi
    obtain ⟨rfl, T0, nd0, fr0⟩ := e2
    have T00 := T0
    generalize hA : As i = A9 at T0
    cases T0 with
    | obj k1 k2 k3 k4 =>
      rename_i dx fs A0
      subst k3
      refine ⟨_, e1, p, C, dx, fs, rfl, k1, hc, hn, by rw [List.length_map] at hl; exact hl, ?_⟩
      have eA : p :: dx :: A0 = As i := hA.symm
      rw [← eA] at nd0 fr0
      obtain ⟨np, nq⟩ := List.nodup_cons.mp nd0
      obtain ⟨nr, ns'⟩ := List.nodup_cons.mp nq
      have pF : F1 p = none := (fr0 p List.mem_cons_self).1
      -- what was owned stands in H
      have old : ∀ b, b ∈ As i → H b ≠ none := fun b hb => by
        obtain ⟨o2, g1, g2⟩ := E.sl i _ hi
        obtain ⟨A2, hA2⟩ := g2.a
        obtain ⟨g3, g4, _, _⟩ := hA2
        have : A2 = As i := by
          have up : Tr F1 H1 (.ref p) (.obj C (fs.map (·.1)) us) A2 := g4.keep z.f fun b hb u hu => z.hh E.fh b u hu
          exact Tr.uniq up T00
        rw [← this] at hb
        obtain ⟨u, hu, _⟩ := g4.at b hb
        rw [hu]
        exact fun w => nomatch w
      have dis : ∀ b, b ∈ B → b ∉ As i := fun b hb h => old b h (fr b hb).1
      have keepB : Tr F1 (upd H1 p (.ins C dx (putF f y fs))) y t B := T.keep (Evl.Ex.refl F1) fun b hb u hu => by
        rw [upd_ne fun w => dis b hb (by rw [w, ← eA]; exact List.mem_cons_self)]; exact hu
      have keepA : TrAll F1 (upd H1 p (.ins C dx (putF f y fs))) (fs.map (·.2)) us A0 := k4.keep (Evl.Ex.refl F1) fun b hb u hu => by
        rw [upd_ne fun w => np (by rw [← w]; exact List.mem_cons_of_mem _ hb)]; exact hu
      obtain ⟨g1, A', g2, g3, g4⟩ := put_tree keepB keepA (f := f)
      have nA' := g4 ns' nd fun b m mb => dis b mb (by rw [← eA]; exact List.mem_cons_of_mem _ (List.mem_cons_of_mem _ m))
      have sub : ∀ b, b ∈ p :: dx :: A' → H1 b = none ∨ b ∈ As i ∨ b ∈ B := fun b m => by
        rcases List.mem_cons.mp m with rfl | m
        · exact .inr (.inl (by rw [← eA]; exact List.mem_cons_self))
        · rcases List.mem_cons.mp m with rfl | m
          · exact .inr (.inl (by rw [← eA]; exact List.mem_cons_of_mem _ List.mem_cons_self))
          · rcases g3 b m with w | w
            · exact .inr (.inl (by rw [← eA]; exact List.mem_cons_of_mem _ (List.mem_cons_of_mem _ w)))
            · exact .inr (.inr w)
      refine k F1 _ ?_
      -- from the start of the statement
      refine E.mutT (A := As i) (B := p :: dx :: A') (fun b u q => ?_) z.f hi (by rw [e1]) (fun A2 hA2 c mc => ?_) (fun b u hb hf' nb => ?_) (fun b m => ?_) ?_
      · rw [upd_ne (ne_of_none q pF)]; exact z.fh b u q
      · obtain ⟨g5, g6, _, _⟩ := hA2
        have up : Tr F1 H1 (.ref p) (.obj C (fs.map (·.1)) us) A2 := g6.keep z.f fun b hb u hu => z.hh E.fh b u hu
        rw [Tr.uniq up T00]
        exact mc
      · have := z.own' b u hb hf'
        refine ⟨this.1, ?_⟩
        rw [upd_ne fun w => nb (by rw [w, ← eA]; exact List.mem_cons_self)]
        exact this.2
      · rcases sub b m with w | w | w
        · exact .inl (z.hn w)
        · exact .inr w
        · exact .inl (fr b w).1
      · refine ⟨rfl, .obj upd_same (by rw [upd_ne fun w => np (by rw [← w]; exact List.mem_cons_self)]; exact k2) g1 g2, ?_, fun b m => ?_⟩
        · refine List.nodup_cons.mpr ⟨fun m => ?_, List.nodup_cons.mpr ⟨fun m => ?_, nA'⟩⟩
          · rcases List.mem_cons.mp m with w | m
            · exact np (by rw [w]; exact List.mem_cons_self)
            · rcases g3 p m with w | w
              · exact np (List.mem_cons_of_mem _ w)
              · exact dis p w (by rw [← eA]; exact List.mem_cons_self)
          · rcases g3 dx m with w | w
            · exact nr w
            · exact dis dx w (by rw [← eA]; exact List.mem_cons_of_mem _ List.mem_cons_self)
        · rcases sub b m with w | w | w
          · exfalso
            rcases List.mem_cons.mp m with rfl | m
            · rw [k1] at w; cases w
            · rcases List.mem_cons.mp m with rfl | m
              · rw [k2] at w; cases w
              · obtain ⟨u, hu, _⟩ := g2.at b m
                have nb : b ≠ p := fun y => by rw [y, k1] at w; cases w
                rw [upd_ne nb, w] at hu
                cases hu
          · rw [← eA] at w; exact fr0 b w
          · exact ⟨(fr b w).2, E.z.hn (fr b w).1⟩
theorem bx_store (hi : env[i]? = some (.tb p (.obj C ns us))) (hv : EXt K tv env t) (hc : Cls K C) (hn : NoAttr K C f) (hl : ns.length < 1000) (h : BX K tu (env.set i (.tb p (.obj C (putN f ns) (putO f t ns us)))) enc m) : BX K (tSeq (sFld K (tVar i) tv f) tu) env enc m := fun o ho F0 H0 F H σ D E c =>
  s_store (D := { D with nx := tu D }) E hi hv hc hn hl fun F' H' E' => h o ho D E' c
end
end Rb

set_option Elab.async false
set_option linter.all false
set_option maxRecDepth 100000
set_option maxHeartbeats 2000000
namespace Rb
open PySem PySem.Spec PyProof.Rows L2
def EXu (K : Frag) (te : TE) (env : List Sl) : Prop := ∀ ⦃F0 H0 F H : Hp⦄ ⦃σ : List (Option V)⦄, EnvOk K F0 H0 F H σ env → ∀ Q : VK, (∀ v F' H', Fz F H F' H' → Q v H') → te σ H Q
section
variable {K : Frag} {env env' : List Sl} {d : PyData} {ds : List PyData} {t : OT} {te : TE} {tr : TA} {ts tu : TS} {O : Type} {enc : O → Out} {m : Option O}
theorem EX.unseen (h : EX K te env d) : EXu K te env := fun F0 H0 F H σ E Q q => h E Q fun v F' H' z _ => q v F' H' z
theorem EXw.unseen (h : EXw K te env ds) : EXu K te env := fun F0 H0 F H σ E Q q => h E Q fun p vs F' H' z _ _ _ _ _ => q (.ref p) F' H' z
theorem EXt.unseen (h : EXt K te env t) : EXu K te env := fun F0 H0 F H σ E Q q => h E Q fun v F' H' B z _ _ _ => q v F' H' z
theorem exu_callX {I : List PyData → Rv ⊕ Exn → Prop} {Ek : L2.St → XK} (ha : EA K tr env ds) (hI : I ds (.inl .un)) : EXu K (tCallS (PromX K I) Ek tr) env := fun F0 H0 F H σ e Q q =>
  ha e _ fun vs F1 H1 z1 a1 => ⟨F1, ds, _, (e.step z1).fh, a1, hI, fun F2 H2 v z2 => q v F2 H2 (z1.trans z2)⟩
theorem bx_retU {o : O} (h : EXu K te env) (he : enc o = .rt .un) : BX K (tRet te) env enc (some o) := fun o' ho F0 H0 F H σ D E c => by
  cases ho
  rw [he] at c
  exact h E _ fun v F' H' z => c F' H' v (E.z.trans z)
theorem bx_exprU (h : EXu K te env) (hr : BX K tu env enc m) : BX K (tSeq (tDrop te) tu) env enc m := fun o ho F0 H0 F H σ D E c =>
  h E _ fun v F' H' z => hr o ho D (E.step z) c
end
theorem pres_d : ∀ {ws : List V} {ds : List PyData}, ws.length = ds.length → pres ws (ds.map Ag.d) = ds.map Sl.sh
  | [], [], _ => rfl
  | w :: ws, d :: ds, h => by
    show Sl.sh d :: pres ws (ds.map Ag.d) = Sl.sh d :: ds.map Sl.sh
    rw [pres_d (by simpa using h)]
  | [], _ :: _, h => by cases h
  | _ :: _, [], h => by cases h
theorem posts_d {us : List OT} : ∀ {ws : List V} {ds : List PyData}, ws.length = ds.length → posts ws (ds.map Ag.d) us = List.replicate ds.length .un
  | [], [], _ => by unfold posts; rfl
  | w :: ws, d :: ds, h => by
    show Sl.un :: posts ws (ds.map Ag.d) us = List.replicate (ds.length + 1) .un
    rw [posts_d (by simpa using h), List.replicate_succ]
  | [], _ :: _, h => by cases h
  | _ :: _, [], h => by cases h
theorem mus_d : ∀ {ds : List PyData}, mus (ds.map Ag.d) = []
  | [] => rfl
  | d :: ds => mus_d (ds := ds)
theorem fn_okS {A R : Type} {P : Program} {w : World} {K : Frag} {mg : Str → Option Value} {base : Heap} {x qual : Str} {params : Arguments} {body : List Stmt} {scope : Scope} {f : Addr} {fd : FuncData} {N ps : List Str} {k : Nat} {t0 : A → OT} {da : A → List PyData} {er : R → Rt} {ou : R → OT} {fm : A → Option (Except Exn R)} {en : Addr → A → XK → Except Exn R → Out} {n : Nat}
    (F : FunD K x qual params body scope [] [] f fd) (S : FnScope N ps scope) (hl : ∀ a, (da a).length + 1 = ps.length) (hN : N.length = n + 1) (hn1 : ps.length ≤ n + 1) (hnd : ∀ a, (t0 a).node)
    (hn : ∀ p a E y, (match er y with
      | .t t => en p a E (.ok y) = .re (.tb p (ou y) :: List.replicate n .un) (some t) ∨ (t = .d .none ∧ en p a E (.ok y) = .nx (.tb p (ou y) :: List.replicate n .un))
      | .un => en p a E (.ok y) = .re (.tb p (ou y) :: List.replicate n .un) none ∨ en p a E (.ok y) = .nx (.tb p (ou y) :: List.replicate n .un)))
    (hx : ∀ p a E y, en p a E (.error y) = .ex (.tb p (t0 a) :: List.replicate n .un) y fun c d _ H => E c d H)
    (hb : ∀ (cdv : Value) (A' : Around) (outer : List Env) (s : Shared) (H : Hp) (E : XK), Room k (A'.deeper (envOfC qual scope s.heap.objs.size f cdv)) →
      ∃ t, PSs (cxOf (L2N.CX P w) P w K mg base N qual scope f cdv A' outer s H E) body t ∧ ∀ p a, BX K t (.tb p (t0 a) :: ((da a).map .sh ++ List.replicate (n - (da a).length) .un)) (en p a E) (fm a)) :
    FnOk P w K mg base (L2N.CX P w) (k + 1) f fd ps (PromE K (ImE (fun a => .mu (t0 a) :: (da a).map Ag.d) er (fun y => [ou y]) fm)) := by
  have endS : ∀ (p : Addr) (ws : List V) (a : A) (u : OT), ws.length = (da a).length → endA N (.ref p :: ws) (.mu (t0 a) :: (da a).map Ag.d) [u] = .tb p u :: List.replicate n .un := fun p ws a u h => by
    show Sl.tb p u :: (posts ws ((da a).map Ag.d) [] ++ List.replicate (N.length - ((da a).map Ag.d).length.succ) .un) = _
    rw [posts_d h, List.length_map, hN, List.replicate_append_replicate]
    congr 2
    have := hl a
    omega
  refine fn_okE (en := fun vs a E y => match vs with
    | .ref p :: _ => en p a E y
    | _ => .rt .un) F S (fun a => by rw [List.length_cons, List.length_map]; exact hl a) (fun a t m => ?_) (fun vs a E y hv => ?_) (fun vs a E y hv => ?_) fun cdv A' outer s H E hr => ?_
  · rcases List.mem_cons.mp m with h | h
    · cases h; exact hnd a
    · obtain ⟨d, _, h⟩ := List.mem_map.mp h
      cases h
  · obtain ⟨l, r⟩ := hv
    match vs, l, r with
    | v :: ws, l, r =>
    obtain ⟨p, rfl⟩ := r 0 _ v rfl rfl
    have l : ws.length = (da a).length := by simpa using l
    have q := hn p a E y
    have es := endS p ws a (ou y) l
    generalize er y = r' at q ⊢
    cases r' with
    | t t =>
      show (_ = Out.re (endA N _ _ _) (some t) ∨ (t = .d .none ∧ _ = Out.nx (endA N _ _ _)))
      rw [es]
      exact q
    | un =>
      show (_ = Out.re (endA N _ _ _) none ∨ _ = Out.nx (endA N _ _ _))
      rw [es]
      exact q
  · obtain ⟨l, r⟩ := hv
    match vs, l, r with
    | v :: ws, l, r =>
    obtain ⟨p, rfl⟩ := r 0 _ v rfl rfl
    have l : ws.length = (da a).length := by simpa using l
    show en p a E (.error y) = .ex (endA N (.ref p :: ws) (.mu (t0 a) :: (da a).map Ag.d) (t0 a :: mus ((da a).map Ag.d))) y _
    rw [mus_d, endS p ws a _ l]
    exact hx p a E y
  · obtain ⟨t, pt, b⟩ := hb cdv A' outer s H E hr
    refine ⟨t, pt, fun vs a hv => ?_⟩
    obtain ⟨l, r⟩ := hv
    match vs, l, r with
    | v :: ws, l, r =>
    obtain ⟨p, rfl⟩ := r 0 _ v rfl rfl
    have l : ws.length = (da a).length := by simpa using l
    have e : startA N (.ref p :: ws) (.mu (t0 a) :: (da a).map Ag.d) = .tb p (t0 a) :: ((da a).map .sh ++ List.replicate (n - (da a).length) .un) := by
      show Sl.tb p (t0 a) :: (pres ws ((da a).map Ag.d) ++ List.replicate (N.length - ((da a).map Ag.d).length.succ) .un) = _
      rw [pres_d l, List.length_map, hN]
      congr 3
      omega
    rw [e]
    exact b p a
end Rb

set_option Elab.async false
set_option linter.all false
set_option maxRecDepth 100000
set_option maxHeartbeats 2000000
namespace Rb
open PySem PySem.Spec PyProof.Rows L2
section
variable {K : Frag} {env env' : List Sl} {d : PyData} {ds : List PyData} {te ty td tv tx : TE} {ts tu : TS} {O : Type} {enc : O → Out} {m : Option O} {i : Nat} {C p : Addr} {ns : List Str} {us : List OT} {f : Str}
theorem dict_at {F H : Hp} {v : V} {kvs : List (Key × PyData)} (h : Dq F v (.dict (kvs.map kvD))) (e : Ex F H) : ∃ a ob xs, v = .ref a ∧ H a = some (.frz ob (.dK xs)) ∧ KvOk F xs kvs ∧ DkL kvs := by
  generalize hd : PyData.dict (kvs.map kvD) = d at h
  cases h with
  | dct h1 h2 h3 h4 h5 =>
    rename_i a o xs kvs' ps
    cases hd
    have inj : ∀ (xs ys : List (Key × PyData)), xs.map kvD = ys.map kvD → xs = ys := fun xs => by
      induction xs with
      | nil => intro ys h; cases ys with
        | nil => rfl
        | cons _ _ => cases h
      | cons x xs ih =>
        intro ys h
        cases ys with
        | nil => cases h
        | cons y ys =>
          rw [List.map_cons, List.map_cons] at h
          obtain ⟨h1, h2⟩ := List.cons.inj h
          rw [ih ys h2]
          obtain ⟨k, d⟩ := x
          obtain ⟨k', d'⟩ := y
          have e1 : kD k = kD k' := congrArg Prod.fst h1
          have e2 : d = d' := congrArg Prod.snd h1
          have : k = k' := by
            cases k <;> cases k' <;> first | (cases e1; rfl) | cases e1
          rw [this, e2]
    have := inj _ _ h5
    subst this
    exact ⟨a, o, xs, rfl, e _ _ h1, ⟨h2, h3⟩, h4⟩
  | _ => cases hd
variable {kvs : List (Key × PyData)} {k : Key}
end
end Rb

set_option Elab.async false
set_option linter.all false
set_option maxRecDepth 100000
set_option maxHeartbeats 2000000
namespace Rb
open PySem PySem.Spec PyProof.Rows L2
section
variable {K : Frag} {env env' : List Sl} {d d1 d2 : PyData} {ds : List PyData} {ts tu : TS} {O : Type} {enc : O → Out} {m : Option O} {i : Nat} {C p : Addr} {ns : List Str} {us : List OT} {f g h : Str}
end
def OkAll (env : List Sl) : List Sr → Prop
  | [] => True
  | s :: ss => SrOk env s ∧ OkAll env ss
theorem OkAll.at {env : List Sl} : ∀ {ss : List Sr}, OkAll env ss → ∀ (j : Nat) (s : Sr), ss[j]? = some s → SrOk env s
  | s :: ss, h, 0, _, e => by cases e; exact h.1
  | s :: ss, h, j + 1, u, e => OkAll.at h.2 j u (by simpa using e)
  | [], _, _, _, e => by simp at e
end Rb

set_option Elab.async false
set_option linter.all false
set_option maxRecDepth 100000
set_option maxHeartbeats 2000000
namespace Rb
open PySem PySem.Spec PyProof.Rows L2
section
variable {K : Frag} {env : List Sl} {td : TE} {kvs : List (Key × PyData)} {ts tu : TS} {O : Type} {enc : O → Out} {m : Option O} {te : TE}
end
end Rb

set_option Elab.async false
set_option linter.all false
set_option maxRecDepth 100000
set_option maxHeartbeats 2000000
namespace Rb
open PySem PySem.Spec PyProof.Rows L2
section
variable {K : Frag} {env env' : List Sl} {ts tu : TS} {O : Type} {enc : O → Out} {m : Option O} {i : Nat} {C p : Addr} {ns : List Str} {us : List OT} {f : Str} {kvs : List (Key × PyData)}
end
end Rb

set_option Elab.async false
set_option linter.all false
set_option maxRecDepth 100000
set_option maxHeartbeats 2000000
namespace Rb
open PySem PySem.Spec PyProof.Rows L2
abbrev Known := List (Str × List Int)
abbrev Piles := List (Str × (List PyData × Int))
abbrev LoftS := Int × Known × Piles × List (Known × Piles) × List (Known × Piles)
end Rb

set_option Elab.async false
set_option linter.all false
set_option maxRecDepth 100000
set_option maxHeartbeats 2000000
namespace Rb
open PySem PySem.Spec PyProof.Rows L2
section
variable {K : Frag} {env env' : List Sl} {d : PyData} {ds : List PyData} {ta tb te td ty tx : TE} {tr : TA} {α β : Type}
theorem ext_dnew : EXt K tDNewK env (.dk []) := fun F0 H0 F H σ E Q q p hp => q (.ref p) F (upd H p (.dK [])) [p] (Fz.add E.fh hp) (.dk upd_same ⟨rfl, .nil⟩ ⟨Nat.zero_le _, fun _ m => by cases m⟩) (by simp) fun b m => by
  obtain rfl := List.mem_singleton.mp m
  exact ⟨hp, Evl.fresh_back E.fh hp⟩
def Dv (F H : Hp) (p : Addr) (u : HO) : Prop := (∃ ob, F p = some (.frz ob u)) ∨ (F p = none ∧ H p = some u)
theorem Dv.step {F H F' H' : Hp} {p : Addr} {u : HO} (z : Fz F H F' H') (nt : NoTup u) : Dv F H p u → Dv F' H' p u
  | .inl ⟨ob, h⟩ => .inl ⟨ob, z.f _ _ h⟩
  | .inr ⟨a, b⟩ => .inr (z.own p u b a nt)
theorem Dv.rd {F H : Hp} {p : Addr} {u : HO} (e : Ex F H) : Dv F H p u → Rd H p u
  | .inl ⟨ob, h⟩ => .inr ⟨ob, e _ _ h⟩
  | .inr ⟨a, b⟩ => .inl b
def EXk (K : Frag) (te : TE) (env : List Sl) (kvs : List (Key × PyData)) : Prop := ∀ ⦃F0 H0 F H : Hp⦄ ⦃σ : List (Option V)⦄, EnvOk K F0 H0 F H σ env → ∀ Q : VK, (∀ p xs F' H', Fz F H F' H' → Dv F' H' p (.dK xs) → KvOk F' xs kvs → DkL kvs → Q (.ref p) H') → te σ H Q
theorem EX.k {kvs : List (Key × PyData)} (h : EX K te env (.dict (kvs.map kvD))) : EXk K te env kvs := fun F0 H0 F H σ E Q q => h E _ fun v F' H' z hv => by
  obtain ⟨a, ob, xs, rfl, g1, g2, g3⟩ := dict_at hv (Evl.Ex.refl F')
  exact q a xs F' H' z (.inl ⟨ob, g1⟩) g2 g3
variable [DecidableEq α]
section
variable {kf : α → Key} (inj : ∀ a b, kf a = kf b → a = b) {e : β → PyData} {xs : List (α × β)} {k : α} {x : β}
include inj
end
omit [DecidableEq α]
variable {kf : α → Key} {e : β → PyData} {xs : List (α × β)}
end
end Rb

set_option autoImplicit false
set_option Elab.async false
set_option linter.all false
set_option maxRecDepth 100000
set_option maxHeartbeats 2000000
namespace Rb
open PySem PySem.Spec PyProof.Rows L2
abbrev GSt := Int × Known × Piles
section
variable {K : Frag} {env env' : List Sl} {td ty : TE} {g : GSt}
end
section
variable {K : Frag} {F0 H0 F H : Hp} {σ : List (Option V)} {env env' : List Sl} {i : Nat} {s : Sl} {ns : List Key} {us : List OT} {p : Addr} {k : Key} {t : OT} {kvs : List (Key × PyData)}
end
section
variable {K : Frag} {env env' : List Sl} {i : Nat} {s : Sl} {ns : List Key} {us : List OT} {p : Addr} {k : Key} {t : OT} {kvs : List (Key × PyData)} {tk ty tv : TE} {d : PyData} {g : GSt} {ts tu : TS} {O : Type} {enc : O → Out} {m : Option O}
def dropA {κ β : Type} [DecidableEq κ] (xs : List (κ × β)) (k : κ) : List (κ × β) := xs.filter fun kv => decide (kv.1 ≠ k)
theorem KvOk.drop {κ : Type} [DecidableEq κ] {F : Hp} {k : κ} : ∀ {ws : List (κ × V)} {kvs : List (κ × PyData)}, KvOk F ws kvs → KvOk F (dropK ws k) (dropA kvs k)
  | [], [], h => h
  | [], _ :: _, h => by have := h.1; simp at this
  | _ :: _, [], h => by have := h.1; simp at this
  | w :: ws, x :: kvs, h => by
    obtain ⟨h1, h2⟩ := h
    rw [List.map_cons, List.map_cons] at h1 h2
    injection h1 with e1 e2
    cases h2 with
    | cons a b =>
      have ih := KvOk.drop (k := k) (ws := ws) (kvs := kvs) ⟨e2, b⟩
      unfold dropK dropA at ih ⊢
      rw [List.filter_cons, List.filter_cons]
      by_cases c : x.1 = k
      · have c' : w.1 = k := e1.trans c
        simp only [c, c', ne_eq, not_true, decide_false, Bool.false_eq_true, if_false]
        exact ih
      · have c' : ¬ w.1 = k := fun z => c (e1.symm.trans z)
        simp only [c, c', ne_eq, not_false_iff, decide_true, if_true]
        exact ⟨by rw [List.map_cons, List.map_cons, e1, ih.1], .cons a ih.2⟩
end
end Rb

set_option autoImplicit false
set_option Elab.async false
set_option linter.all false
set_option maxRecDepth 100000
set_option maxHeartbeats 2000000
namespace Rb
open PySem PySem.Spec PyProof.Rows L2
section
variable {K : Frag} {env env' env1 env2 : List Sl} {d e : PyData} {ds : List PyData} {te ta tb tv : TE} {tr : TA} {t u : OT} {tt : TT} {tk : TE} {ts tu tw : TS} {O R S : Type} {enc : O → Out} {m n : Option O} {i j : Nat} {p : Addr} {g : GSt} {W : WX} {tg : TG}
theorem EnvOk.open {F0 H0 F H : Hp} {σ : List (Option V)} (E : EnvOk K F0 H0 F H σ env) (hi : env[i]? = some (.tr t)) (hn : t.node) : ∃ p, EnvOk K F0 H0 F H σ (env.set i (.tb p t)) := by
  obtain ⟨As, a, b⟩ := E.as
  obtain ⟨o1, e1, e2⟩ := a i _ hi
  obtain ⟨v, rfl, T, nd, fr⟩ := e2
  obtain ⟨p, rfl⟩ := node_ref hn T
  refine ⟨p, E.z, by rw [List.length_set, E.len], As, fun j s h => ?_, fun j l s s' a' hj hl => ?_⟩
  · rcases set_env h with ⟨rfl, rfl, _⟩ | ⟨_, h⟩
    · exact ⟨_, e1, rfl, T, nd, fr⟩
    · exact a j s h
  · have get : ∀ (j : Nat) (s : Sl), (env.set i (.tb p t))[j]? = some s → ∃ s0, env[j]? = some s0 := fun j s h => by
      have := (List.getElem?_eq_some_iff.mp h).1
      rw [List.length_set] at this
      exact ⟨_, List.getElem?_eq_getElem this⟩
    obtain ⟨s0, h0⟩ := get j s hj
    obtain ⟨s1, h1⟩ := get l s' hl
    exact b j l s0 s1 a' h0 h1
def EXd (K : Frag) (te : TE) (env : List Sl) (d : PyData) (env' : List Sl) : Prop := ∀ ⦃F0 H0 F H : Hp⦄ ⦃σ : List (Option V)⦄, EnvOk K F0 H0 F H σ env → ∀ Q : VK, (∀ v F' H', Ex F F' → EnvOk K F0 H0 F' H' σ env' → Dq F' v d → Q v H') → te σ H Q
def ETd (K : Frag) (tt : TT) (env : List Sl) (b : Bool) (env' : List Sl) : Prop := ∀ ⦃F0 H0 F H : Hp⦄ ⦃σ : List (Option V)⦄, EnvOk K F0 H0 F H σ env → ∀ Q : Bool → Hp → Prop, (∀ F' H', Ex F F' → EnvOk K F0 H0 F' H' σ env' → Q b H') → tt σ H Q
theorem EX.dd (h : EX K te env d) : EXd K te env d env := fun F0 H0 F H σ E Q q => h E Q fun v F' H' z hv => q v F' H' z.f (E.step z) hv
theorem EXe.dd (h : EXe K te env (.d d) env') : EXd K te env d env' := fun F0 H0 F H σ E Q q => h E Q fun v F' H' e E' => by
  obtain ⟨B, hB⟩ := E'.last
  have T := (tr_ok.mp hB).1
  cases T with
  | d hd => exact q v F' H' e E'.pop hd
theorem EXd.ee (h : EXd K te env d env') : EXe K te env (.d d) env' := fun F0 H0 F H σ E Q q => h E Q fun v F' H' e E' hd => q v F' H' e (E'.push (Fz.refl E'.fh) (D := []) (fun _ m => by cases m) (tr_ok.mpr ⟨.d hd, .nil, fun _ m => by cases m⟩))
theorem EXd.nn (h : EXd K te env d env') : EXn K te env env' := h.ee.n
theorem ET.dd {b : Bool} (h : ET K tt env b) : ETd K tt env b env := fun F0 H0 F H σ E Q q => h E Q fun F' H' z => q F' H' z.f (E.step z)
end
end Rb

set_option autoImplicit false
set_option Elab.async false
set_option linter.all false
set_option maxRecDepth 100000
set_option maxHeartbeats 2000000
namespace Rb
open PySem PySem.Spec PyProof.Rows L2
structure LoftF (K : Frag) : Prop where
  cl : Cls K (He.ga K "Loft")
  width : NoAttr K (He.ga K "Loft") "width"
  known : NoAttr K (He.ga K "Loft") "known"
  piles : NoAttr K (He.ga K "Loft") "piles"
  past : NoAttr K (He.ga K "Loft") "past"
  ahead : NoAttr K (He.ga K "Loft") "ahead"
section
variable {K : Frag} {env env' env1 : List Sl} {d : PyData} {ds : List PyData} {te ta tb tv td : TE} {tr : TA} {t u : OT} {ts tu : TS} {O : Type} {enc : O → Out} {m : Option O} {i j : Nat} {p : Addr} {s : Sl} {q : LoftS}
theorem EXt.w (h : EXt K te env (.lst ds)) : EXw K te env ds := fun F0 H0 F H σ E Q q => h E Q fun v F' H' B z T nd fr => by
  cases T with
  | lst h1 h2 h3 => exact q _ _ F' H' z (fr _ (List.mem_singleton.mpr rfl)).1 (fr _ (List.mem_singleton.mpr rfl)).2 h1 h2 h3
variable {W : WX} {x : Exn}
end
section
variable {X : Cx} {K : Frag} {x C m : Str} {k : Nat} {I : List Ag → (Rt × List OT) ⊕ Exn → Prop} {e o : Expr} {es : List Expr} {t : TA} {ta : TE} {p pos apos : Pos}
end
end Rb

set_option autoImplicit false
set_option Elab.async false
set_option linter.all false
set_option maxRecDepth 100000
set_option maxHeartbeats 2000000
namespace Rb
open PySem PySem.Spec PyProof.Rows L2
section
variable {K : Frag} {env : List Sl} {ta tb tc te : TE} {d : PyData} {ds : List PyData}
end
section
variable {K : Frag} {W : WX} {env env' : List Sl} {te ty td : TE} {x : Exn} {O : Type} {enc : O → Out} {tu : TS} {g : TG} {o : O}
theorem bx_errRet (he : ERR K W te env x) (hn : enc o = .ex env' x W) (hw : Wk env env') : BX K (tSeq (tRet te) tu) env enc (some o) := bx_err he hn hw fun _ _ _ => ⟨_, fun h => h⟩
theorem bx_errAsg (he : ERR K W te env x) (hn : enc o = .ex env' x W) (hw : Wk env env') : BX K (tSeq (tAsg te g) tu) env enc (some o) := bx_err he hn hw fun _ _ _ => ⟨_, fun h => h⟩
theorem bx_errDrop (he : ERR K W te env x) (hn : enc o = .ex env' x W) (hw : Wk env env') : BX K (tSeq (tDrop te) tu) env enc (some o) := bx_err he hn hw fun _ _ _ => ⟨_, fun h => h⟩
end
end Rb

set_option Elab.async false
set_option linter.all false
set_option maxRecDepth 100000
set_option maxHeartbeats 4000000
namespace Rb
open PySem PySem.Spec PyProof.Rows L2
abbrev Cu : Type := Value × (Addr → Value → Option Addr → TS)
section
variable {K : Frag} {env env' envS envX : List Sl} {α β O S : Type} {ts tu : TS} {enc : O → Out} {Wout : WX} {x : Exn} {cl : List Cu}
end
section
variable {K : Frag} {env : List Sl} {α O : Type} {tl te : TE} {tu : TS} {enc : O → Out} {m : Option O} {e : α → PyData} {xs ys : List α} {x : α}
end
section
variable {X : Cx} {a b c d : Expr} {ta tb tc td : TE} {pos : Pos}
end
section
variable {K : Frag} {env : List Sl} {te : TE} {α : Type}
end
section
end
section
variable {K : Frag} {env : List Sl} {α β : Type} {wi : TI} {g : TG} {te : TE} {tt : TT} {vs : List Nat}
end
end Rb

set_option Elab.async false
set_option linter.all false
set_option maxRecDepth 100000
set_option maxHeartbeats 2000000
namespace Rb
def FT (m : Int) (x : Int → Int) : Prop := ∀ p, 0 ≤ p → p < m → 0 ≤ x p ∧ x p < m ∧ x p ≠ p ∧ x (x p) = p
def ring (c : Int) (x : Int → Int) : Int := if x c = c + 1 then 1 else 0
end Rb

set_option Elab.async false
set_option linter.all false
set_option maxRecDepth 100000
set_option maxHeartbeats 2000000
namespace Rb
open L2
theorem mem_rng {lo hi p : Int} : p ∈ rng lo hi ↔ lo ≤ p ∧ p < hi := by
  unfold rng
  rw [List.mem_map]
  constructor
  · rintro ⟨i, hi, rfl⟩
    rw [List.mem_range] at hi
    omega
  · intro ⟨h1, h2⟩
    exact ⟨(p - lo).toNat, by rw [List.mem_range]; omega, by omega⟩
theorem atI_eq {α : Type} {xs : List α} {p : Int} (h0 : 0 ≤ p) (h1 : p < (xs.length : Int)) : atI xs p = xs[p.toNat]? := by
  unfold atI ixN
  rw [if_pos h0, if_pos h1]
  rfl
theorem rng_get {lo hi : Int} {i : Nat} (h : (i : Int) < hi - lo) : (rng lo hi)[i]? = some (lo + i) := by
  unfold rng
  rw [List.getElem?_map, List.getElem?_range (by omega)]
  rfl
def lst (m : Int) (x : Int → Int) : List Int := (rng 0 m).map x
theorem lst_len (m : Int) (x : Int → Int) : (lst m x).length = m.toNat := by unfold lst; rw [List.length_map, rng_len, Int.sub_zero]
theorem atI_lst {m : Int} {x : Int → Int} {p : Int} (h0 : 0 ≤ p) (h1 : p < m) : atI (lst m x) p = some (x p) := by
  rw [atI_eq h0 (by rw [lst_len]; omega)]
  unfold lst
  rw [List.getElem?_map, rng_get (by omega)]
  show some (x (0 + ((p.toNat : Nat) : Int))) = some (x p)
  congr 2
  omega
theorem lst_ext {m : Int} {x y : Int → Int} (h : ∀ p, 0 ≤ p → p < m → x p = y p) : lst m x = lst m y := by
  unfold lst
  exact List.map_congr_left fun p hp => h p (mem_rng.mp hp).1 (mem_rng.mp hp).2
theorem set_lst {m : Int} {x : Int → Int} {p v : Int} (h0 : 0 ≤ p) (h1 : p < m) : set? (lst m x) p v = some (lst m fun q => if q = p then v else x q) := by
  unfold set? ixN
  rw [lst_len, if_pos h0, if_pos (by omega)]
  show some _ = some _
  congr 1
  apply List.ext_getElem?
  intro i
  rw [List.getElem?_set]
  unfold lst
  by_cases e : p.toNat = i
  · subst e
    rw [if_pos rfl, if_pos (by rw [List.length_map, rng_len]; omega), List.getElem?_map, rng_get (by omega)]
    show some v = some (if 0 + ((p.toNat : Nat) : Int) = p then v else _)
    rw [if_pos (by omega)]
  · rw [if_neg e, List.getElem?_map, List.getElem?_map]
    by_cases hi : (i : Int) < m - 0
    · rw [rng_get hi]
      show some (x (0 + (i : Int))) = some (if 0 + (i : Int) = p then v else x (0 + (i : Int)))
      rw [if_neg (by omega)]
    · have : (rng 0 m)[i]? = none := by
        rw [List.getElem?_eq_none_iff, rng_len]
        omega
      rw [this]
      rfl
section
variable {α β S : Type}
theorem forS_cons {f : S → α → Option S} {s : S} {x : α} {xs : List α} : forS f s (x :: xs) = (f s x).bind fun s' => forS f s' xs := rfl
theorem app_ok {xs : List α} {x : α} (h : xs.length < lim) : app? xs x = some (xs ++ [x]) := by unfold app?; rw [if_pos h]
theorem rngOk_of {n : Int} (h0 : -50000 ≤ n) (h1 : n ≤ 50000) : rngOk n := ⟨h0, h1⟩
end
inductive Runs (u l : Int → Int) (n : Int) : Bool → Int → Int → List Int → Prop
  | stopL {p : Int} : n ≤ l p → Runs u l n true p (l p) []
  | stopU {p : Int} : u p < n → Runs u l n false p (u p) []
  | goL {p e : Int} {ms : List Int} : l p < n → Runs u l n false (l p + n) e ms → Runs u l n true p e (l p :: ms)
  | goU {p e : Int} {ms : List Int} : n ≤ u p → Runs u l n true (u p - n) e ms → Runs u l n false p e ((u p - n) :: ms)
def Bd (m : Int) (x : Int → Int) : Prop := ∀ p, 0 ≤ p → p < m → 0 ≤ x p ∧ x p < m
end Rb

set_option Elab.async false
set_option linter.all false
set_option maxRecDepth 100000
set_option maxHeartbeats 4000000
namespace Rb
def Btw (ps : Int → Int) (u v w : Int) : Prop := (ps u < ps w ∧ ps w < ps v) ∨ (ps v < ps w ∧ ps w < ps u)
structure Pm (A : Int → Prop) (ps t : Int → Int) : Prop where
  ft : ∀ p, A p → A (t p) ∧ t p ≠ p ∧ t (t p) = p
  nc : ∀ p q, A p → A q → q ≠ p → q ≠ t p → (Btw ps p (t p) q ↔ Btw ps p (t p) (t q))
def glue (t : Int → Int) (a b : Int) : Int → Int := fun p => if t a = b then t p else if p = t a then t b else if p = t b then t a else t p
end Rb

set_option Elab.async false
set_option linter.all false
set_option maxRecDepth 100000
set_option maxHeartbeats 4000000
namespace Rb
def rd (n p : Int) : Int := if p < n then p else 3 * n - 1 - p
def Fr (n : Int) (x : Int → Int) : Prop := Pm (fun p => 0 ≤ p ∧ p < 2 * n) (rd n) x
theorem Fr.ft {n : Int} {x : Int → Int} (h : Fr n x) : FT (2 * n) x := fun p a b => by
  obtain ⟨⟨h1, h2⟩, h3, h4⟩ := Pm.ft h p ⟨a, b⟩
  exact ⟨h1, h2, h3, h4⟩
def two (n : Int) (x y : Int → Int) : Int → Int := fun p => if p < 2 * n then x p else y (p - 2 * n) + 2 * n
def Al (n k : Int) (p : Int) : Prop := 0 ≤ p ∧ p < 4 * n ∧ ¬ (n + k ≤ p ∧ p < 2 * n) ∧ ¬ (2 * n + k ≤ p ∧ p < 3 * n)
def gl (n : Int) (s : (Int → Int) × Int) (k : Int) : (Int → Int) × Int := (glue s.1 (2 * n + k) (n + k), s.2 + if s.1 (2 * n + k) = n + k then 1 else 0)
def gls (n : Int) (x y : Int → Int) : Nat → (Int → Int) × Int
  | 0 => (two n x y, 0)
  | j + 1 => gl n (gls n x y j) (n - 1 - j)
theorem Pm.imp {A B : Int → Prop} {ps t : Int → Int} (h : Pm A ps t) (e : ∀ p, B p ↔ A p) : Pm B ps t :=
  ⟨fun p hp => by obtain ⟨a, b⟩ := h.ft p ((e p).mp hp); exact ⟨(e _).mpr a, b⟩, fun p q hp hq => h.nc p q ((e p).mp hp) ((e q).mp hq)⟩
def back (n r : Int) : Int := if r < n then r else r - 2 * n
def forth (n p : Int) : Int := if p < n then p else p + 2 * n
def comp (n : Int) (x y : Int → Int) (p : Int) : Int := back n ((gls n x y n.toNat).1 (forth n p))
def crings (n : Int) (x y : Int → Int) : Int := (gls n x y n.toNat).2
end Rb

set_option Elab.async false
set_option linter.all false
set_option maxRecDepth 100000
set_option maxHeartbeats 4000000
namespace Rb
def In (n k q : Int) : Prop := (n + k ≤ q ∧ q < 2 * n) ∨ (2 * n + k ≤ q ∧ q < 3 * n)
def cr (n q : Int) : Int := if q < 2 * n then q + n else q - n
def pg (n q : Int) : Int := if q < 2 * n then q - n else q - 2 * n
inductive Rk (T : Int → Int) (n k : Int) : Int → Int → List Int → Prop
  | stop {c : Int} : ¬ In n k (T c) → Rk T n k c (T c) []
  | go {c e : Int} {ms : List Int} : In n k (T c) → Rk T n k (cr n (T c)) e ms → Rk T n k c e (pg n (T c) :: ms)
theorem Rk.down {T : Int → Int} {n k c e : Int} {ms : List Int} (h : Rk T n (k + 1) c e ms) (he : ¬ In n k e) : Rk T n k c e ms := by
  induction h with
  | @stop c h => exact .stop he
  | @go c e ms h r ih => exact .go (by unfold In at *; omega) (ih he)
theorem Rk.join {T : Int → Int} {n k c e e' : Int} {ms ms' : List Int} (h : Rk T n (k + 1) c e ms) (he : In n k e) (r : Rk T n k (cr n e) e' ms') : Rk T n k c e' (ms ++ pg n e :: ms') := by
  induction h with
  | @stop c h => exact .go he r
  | @go c e ms h r' ih => exact .go (by unfold In at *; omega) (ih he r)
theorem Rk.inner {T : Int → Int} {n k c e : Int} {ms : List Int} (k0 : 0 ≤ k) (h : Rk T n k c e ms) : ∀ i, i ∈ ms → k ≤ i ∧ i < n := by
  induction h with
  | stop h => intro i hi; cases hi
  | @go c e ms h r ih =>
    intro i hi
    rcases List.mem_cons.mp hi with z | z
    · subst z; unfold In at h; unfold pg; grind
    · exact ih i z
structure Nbr (T : Int → Int) (n c e : Int) (ms : List Int) : Prop where
  up : ∀ i, i ∈ ms → (T (2 * n + i) = c ∨ T (2 * n + i) = e ∨ ∃ j, j ∈ ms ∧ T (2 * n + i) = 2 * n + j)
  lo : ∀ i, i ∈ ms → (T (n + i) = c ∨ T (n + i) = e ∨ ∃ j, j ∈ ms ∧ T (n + i) = n + j)
  st : T c = e ∨ ∃ j, j ∈ ms ∧ (T c = n + j ∨ T c = 2 * n + j)
structure T2 (n : Int) (T : Int → Int) : Prop where
  inv : ∀ q, 0 ≤ q → q < 4 * n → T (T q) = q
  up : ∀ q, 0 ≤ q → q < 2 * n → 0 ≤ T q ∧ T q < 2 * n
  lo : ∀ q, 2 * n ≤ q → q < 4 * n → 2 * n ≤ T q ∧ T q < 4 * n
theorem Rk.nbr {T : Int → Int} {n k c e : Int} {ms : List Int} (hT : T2 n T) (k0 : 0 ≤ k) (h : Rk T n k c e ms) : 0 ≤ c → c < 4 * n → Nbr T n c e ms := by
  induction h with
  | @stop c h => exact fun _ _ => ⟨fun i hi => (by cases hi), fun i hi => (by cases hi), .inl rfl⟩
  | @go c e ms h r ih =>
    intro c0 c1
    have hj : (T c < 2 * n ∧ T c = n + pg n (T c) ∧ cr n (T c) = 2 * n + pg n (T c)) ∨ (2 * n ≤ T c ∧ T c = 2 * n + pg n (T c) ∧ cr n (T c) = n + pg n (T c)) := by unfold In at h; unfold pg cr; grind
    have hb : 0 ≤ pg n (T c) ∧ pg n (T c) < n := by unfold In at h; unfold pg; grind
    have hi := hT.inv c c0 c1
    have I := r.inner k0
    have q := ih (by omega) (by omega)
    generalize pg n (T c) = j at *
    generalize cr n (T c) = c' at *
    refine ⟨fun i hm => ?_, fun i hm => ?_, .inr ⟨j, List.mem_cons_self, by omega⟩⟩
    · have bi : 0 ≤ i ∧ i < n := by
        rcases List.mem_cons.mp hm with z | z
        · omega
        · have := I i z; omega
      have u := hT.lo (2 * n + i) (by omega) (by omega)
      rcases List.mem_cons.mp hm with z | z
      · subst z
        rcases hj with ⟨h1, h2, h3⟩ | ⟨h1, h2, h3⟩
        · rw [← h3] at u ⊢
          rcases q.st with s | ⟨j', m, s⟩
          · exact .inr (.inl s)
          · have := I j' m
            exact .inr (.inr ⟨j', List.mem_cons_of_mem _ m, by omega⟩)
        · rw [← h2]; exact .inl hi
      · rcases q.up i z with s | s | ⟨j', m, s⟩
        · exact .inr (.inr ⟨j, List.mem_cons_self, by omega⟩)
        · exact .inr (.inl s)
        · exact .inr (.inr ⟨j', List.mem_cons_of_mem _ m, s⟩)
    · have bi : 0 ≤ i ∧ i < n := by
        rcases List.mem_cons.mp hm with z | z
        · omega
        · have := I i z; omega
      have u := hT.up (n + i) (by omega) (by omega)
      rcases List.mem_cons.mp hm with z | z
      · subst z
        rcases hj with ⟨h1, h2, h3⟩ | ⟨h1, h2, h3⟩
        · rw [← h2]; exact .inl hi
        · rw [← h3] at u ⊢
          rcases q.st with s | ⟨j', m, s⟩
          · exact .inr (.inl s)
          · have := I j' m
            exact .inr (.inr ⟨j', List.mem_cons_of_mem _ m, by omega⟩)
      · rcases q.lo i z with s | s | ⟨j', m, s⟩
        · exact .inr (.inr ⟨j, List.mem_cons_self, by omega⟩)
        · exact .inr (.inl s)
        · exact .inr (.inr ⟨j', List.mem_cons_of_mem _ m, s⟩)
inductive Con (f g : Int → Int) : Int → Int → Prop
  | refl {i : Int} : Con f g i i
  | f {i j : Int} : Con f g i j → Con f g i (f j)
  | g {i j : Int} : Con f g i j → Con f g i (g j)
theorem Con.trans {f g : Int → Int} {i j l : Int} (h : Con f g i j) (r : Con f g j l) : Con f g i l := by
  induction r with
  | refl => exact h
  | f _ ih => exact ih.f
  | g _ ih => exact ih.g
def fT (T : Int → Int) (n i : Int) : Int := T (2 * n + i) - 2 * n
def gT (T : Int → Int) (n i : Int) : Int := T (n + i) - n
theorem Rk.con {T : Int → Int} {n k c e : Int} {ms : List Int} (hT : T2 n T) (k0 : 0 ≤ k) (h : Rk T n k c e ms) : ∀ i0, 0 ≤ i0 → i0 < n → (c = n + i0 ∨ c = 2 * n + i0) → ∀ i, i ∈ ms → Con (fT T n) (gT T n) i0 i := by
  induction h with
  | @stop c h => intro i0 _ _ _ i hi; cases hi
  | @go c e ms h r ih =>
    intro i0 b0 b1 hc i hm
    have hj : (T c < 2 * n ∧ T c = n + pg n (T c) ∧ cr n (T c) = 2 * n + pg n (T c)) ∨ (2 * n ≤ T c ∧ T c = 2 * n + pg n (T c) ∧ cr n (T c) = n + pg n (T c)) := by unfold In at h; unfold pg cr; grind
    have hb : 0 ≤ pg n (T c) ∧ pg n (T c) < n := by unfold In at h; unfold pg; grind
    have IH := ih (pg n (T c)) hb.1 hb.2 (by omega)
    generalize pg n (T c) = j at *
    have one : Con (fT T n) (gT T n) i0 j := by
      rcases hc with z | z
      · subst z
        have u := hT.up (n + i0) (by omega) (by omega)
        have e : j = gT T n i0 := by unfold gT; omega
        rw [e]; exact .g .refl
      · subst z
        have u := hT.lo (2 * n + i0) (by omega) (by omega)
        have e : j = fT T n i0 := by unfold fT; omega
        rw [e]; exact .f .refl
    rcases List.mem_cons.mp hm with z | z
    · subst z; exact one
    · exact one.trans (IH i z)
inductive Cnt (f g : Int → Int) : (Int → Prop) → Int → Prop
  | nil {D : Int → Prop} : (∀ i, ¬ D i) → Cnt f g D 0
  | ring {D D' W : Int → Prop} {r c : Int} : W r → (∀ i, W i → D i ∧ W (f i) ∧ W (g i) ∧ Con f g r i) → (∀ i, D' i ↔ D i ∧ ¬ W i) → Cnt f g D' c → Cnt f g D (c + 1)
theorem Cnt.imp {f g : Int → Int} {D E : Int → Prop} {c : Int} (h : Cnt f g D c) (e : ∀ i, D i ↔ E i) : Cnt f g E c := by
  have : D = E := funext fun i => propext (e i)
  rw [← this]; exact h
end Rb

set_option Elab.async false
set_option linter.all false
set_option maxRecDepth 100000
set_option maxHeartbeats 4000000
namespace Rb
structure Gs (T : Int → Int) (n k : Int) (t : Int → Int) (P : Int → List Int) (c : Int) : Prop where
  ft : ∀ p, Al n k p → Al n k (t p) ∧ t p ≠ p ∧ t (t p) = p
  rk : ∀ p, Al n k p → Rk T n k p (t p) (P p)
  nd : ∀ p, Al n k p → (P p).Nodup
  rev : ∀ p, Al n k p → ∀ i, i ∈ P (t p) ↔ i ∈ P p
  dj : ∀ p q, Al n k p → Al n k q → q ≠ p → q ≠ t p → ∀ i, i ∈ P p → i ∉ P q
  cnt : Cnt (fT T n) (gT T n) (fun i => k ≤ i ∧ i < n ∧ ∀ p, Al n k p → i ∉ P p) c
theorem al_not_in {n k p : Int} (h : Al n k p) : ¬ In n k p := by unfold Al at h; unfold In; omega
theorem Gs.start {T : Int → Int} {n : Int} (hn : 0 ≤ n) (hT : T2 n T) (hne : ∀ q, 0 ≤ q → q < 4 * n → T q ≠ q) : Gs T n n T (fun _ => []) 0 := by
  have tb : ∀ q, 0 ≤ q → q < 4 * n → 0 ≤ T q ∧ T q < 4 * n := fun q a b => by
    by_cases c : q < 2 * n
    · have := hT.up q a c; omega
    · have := hT.lo q (by omega) b; omega
  refine ⟨fun p hp => ?_, fun p hp => .stop ?_, fun p hp => .nil, fun p hp i => Iff.rfl, fun p q hp hq _ _ i hi => (by cases hi), .nil fun i hi => by omega⟩
  · unfold Al at hp
    have a := tb p (by omega) (by omega)
    exact ⟨by unfold Al; omega, hne p (by omega) (by omega), hT.inv p (by omega) (by omega)⟩
  · unfold In; omega
theorem Gs.step {T t : Int → Int} {n k c : Int} {P : Int → List Int} (hT : T2 n T) (k0 : 0 ≤ k) (k1 : k < n) (h : Gs T n (k + 1) t P c) :
    ∃ P', Gs T n k (glue t (2 * n + k) (n + k)) P' (c + if t (2 * n + k) = n + k then 1 else 0) := by
  have aA : Al n (k + 1) (2 * n + k) := by unfold Al; omega
  have bA : Al n (k + 1) (n + k) := by unfold Al; omega
  have ab : 2 * n + k ≠ n + k := by omega
  have inA : In n k (2 * n + k) := by unfold In; omega
  have inB : In n k (n + k) := by unfold In; omega
  have crA : cr n (2 * n + k) = n + k := by unfold cr; rw [if_neg (by omega)]; omega
  have crB : cr n (n + k) = 2 * n + k := by unfold cr; rw [if_pos (by omega)]; omega
  have pgA : pg n (2 * n + k) = k := by unfold pg; rw [if_neg (by omega)]; omega
  have pgB : pg n (n + k) = k := by unfold pg; rw [if_pos (by omega)]; omega
  have split : ∀ p, Al n k p ↔ Al n (k + 1) p ∧ p ≠ 2 * n + k ∧ p ≠ n + k := fun p => by unfold Al; omega
  have nin : ∀ p, Al n (k + 1) p → p ≠ 2 * n + k → p ≠ n + k → ¬ In n k p := fun p hp x y => al_not_in ((split p).mpr ⟨hp, x, y⟩)
  have kno : ∀ p, Al n (k + 1) p → k ∉ P p := fun p hp z => by have := (h.rk p hp).inner (by omega) k z; omega
  have fa := h.ft _ aA
  have fb := h.ft _ bA
  generalize ha : 2 * n + k = a at *
  generalize hb : n + k = b at *
  by_cases ct : t a = b
  · have et : glue t a b = t := by funext p; unfold glue; rw [if_pos ct]
    rw [et, if_pos ct]
    have tba : t b = a := by rw [← ct]; exact fa.2.2
    have ne : ∀ p, Al n k p → t p ≠ a ∧ t p ≠ b := fun p hp => by
      have q := (split p).mp hp
      have f := h.ft p q.1
      refine ⟨fun z => q.2.2 ?_, fun z => q.2.1 ?_⟩
      · rw [← f.2.2, z, ct]
      · rw [← f.2.2, z, tba]
    refine ⟨P, fun p hp => ?_, fun p hp => ?_, fun p hp => h.nd p ((split p).mp hp).1, fun p hp => h.rev p ((split p).mp hp).1, fun p q hp hq => h.dj p q ((split p).mp hp).1 ((split q).mp hq).1, ?_⟩
    · have f := h.ft p ((split p).mp hp).1
      exact ⟨(split _).mpr ⟨f.1, ne p hp⟩, f.2⟩
    · have f := h.ft p ((split p).mp hp).1
      exact (h.rk p ((split p).mp hp).1).down (nin _ f.1 (ne p hp).1 (ne p hp).2)
    · have ra := h.rk a aA
      rw [ct] at ra
      have N := ra.nbr hT (by omega) (by omega) (by omega)
      have I := ra.inner (by omega)
      have C := ra.con hT (by omega) k k0 k1 (by omega)
      refine .ring (W := fun i => i = k ∨ i ∈ P a) (r := k) (.inl rfl) (fun i hi => ⟨⟨?_, ?_, fun p hp => ?_⟩, ?_, ?_, ?_⟩) (fun i => ?_) h.cnt
      · rcases hi with z | z
        · omega
        · have := I i z; omega
      · rcases hi with z | z
        · omega
        · have := I i z; omega
      · have q := (split p).mp hp
        rcases hi with z | z
        · rw [z]; exact kno p q.1
        · exact h.dj a p aA q.1 q.2.1 (by rw [ct]; exact q.2.2) i z
      · rcases hi with z | z
        · subst z
          have u := hT.lo a (by omega) (by omega)
          have e : fT T n i = T a - 2 * n := by unfold fT; rw [ha]
          rcases N.st with s | ⟨j, m, s⟩
          · omega
          · right
            have := I j m
            have : fT T n i = j := by omega
            rw [this]; exact m
        · have b1 := I i z
          have u := hT.lo (2 * n + i) (by omega) (by omega)
          rcases N.up i z with s | s | ⟨j, m, s⟩
          · left; unfold fT; omega
          · omega
          · right
            have : fT T n i = j := by unfold fT; omega
            rw [this]; exact m
      · rcases hi with z | z
        · subst z
          have u := hT.up b (by omega) (by omega)
          have e : gT T n i = T b - n := by unfold gT; rw [hb]
          -- the last peg met before b
          have rb := h.rk b bA
          rw [tba] at rb
          have Nb := rb.nbr hT (by omega) (by omega) (by omega)
          have Ib := rb.inner (by omega)
          rcases Nb.st with s | ⟨j, m, s⟩
          · omega
          · right
            have := Ib j m
            have e2 : gT T n i = j := by omega
            rw [e2]
            exact (h.rev a aA j).mp (by rw [ct]; exact m)
        · have b1 := I i z
          have u := hT.up (n + i) (by omega) (by omega)
          rcases N.lo i z with s | s | ⟨j, m, s⟩
          · omega
          · left; unfold gT; omega
          · right
            have : gT T n i = j := by unfold gT; omega
            rw [this]; exact m
      · rcases hi with z | z
        · rw [z]; exact .refl
        · exact C i z
      · constructor
        · rintro ⟨x, y, z⟩
          refine ⟨⟨by omega, y, fun p hp => z p ((split p).mp hp).1⟩, fun w => ?_⟩
          rcases w with w | w
          · omega
          · exact z a aA w
        · rintro ⟨⟨x, y, z⟩, w⟩
          refine ⟨by have : i ≠ k := fun e => w (.inl e); omega, y, fun p hp m => ?_⟩
          by_cases pa : p = a
          · subst pa; exact w (.inr m)
          · by_cases pb : p = b
            · subst pb
              have := (h.rev a aA i).mp (by rw [ct]; exact m)
              exact w (.inr this)
            · exact z p ((split p).mpr ⟨hp, pa, pb⟩) m
  · have et : ∀ p, glue t a b p = if p = t a then t b else if p = t b then t a else t p := fun p => by unfold glue; rw [if_neg ct]
    rw [if_neg ct, Int.add_zero]
    have tab : t a ≠ t b := fun z => ab (by rw [← fa.2.2, z, fb.2.2])
    have tbna : t b ≠ a := fun z => ct (by rw [← z]; exact fb.2.2)
    let P' : Int → List Int := fun p => if p = t a then P p ++ k :: P b else if p = t b then P p ++ k :: P a else P p
    have e1 : P' (t a) = P (t a) ++ k :: P b := if_pos rfl
    have e2 : P' (t b) = P (t b) ++ k :: P a := by show (if t b = t a then _ else if t b = t b then _ else _) = _; rw [if_neg (Ne.symm tab), if_pos rfl]
    have e3 : ∀ p, p ≠ t a → p ≠ t b → P' p = P p := fun p x y => by show (if p = t a then _ else if p = t b then _ else _) = _; rw [if_neg x, if_neg y]
    have g1 : glue t a b (t a) = t b := by rw [et, if_pos rfl]
    have g2 : glue t a b (t b) = t a := by rw [et, if_neg (Ne.symm tab), if_pos rfl]
    have g3 : ∀ p, p ≠ t a → p ≠ t b → glue t a b p = t p := fun p x y => by rw [et, if_neg x, if_neg y]
    have ta : Al n k (t a) := (split _).mpr ⟨fa.1, fa.2.1, ct⟩
    have tb : Al n k (t b) := (split _).mpr ⟨fb.1, tbna, fb.2.1⟩
    have other : ∀ p, Al n k p → p ≠ t a → p ≠ t b → t p ≠ a ∧ t p ≠ b ∧ t p ≠ t a ∧ t p ≠ t b := fun p hp x y => by
      have q := (split p).mp hp
      have f := h.ft p q.1
      refine ⟨fun z => x ?_, fun z => y ?_, fun z => q.2.1 ?_, fun z => q.2.2 ?_⟩
      · rw [← z, f.2.2]
      · rw [← z, f.2.2]
      · rw [← f.2.2, z, fa.2.2]
      · rw [← f.2.2, z, fb.2.2]
    have mA : ∀ i, i ∈ P' (t a) ↔ i ∈ P a ∨ i = k ∨ i ∈ P b := fun i => by rw [e1, List.mem_append, List.mem_cons, h.rev a aA]
    have mB : ∀ i, i ∈ P' (t b) ↔ i ∈ P b ∨ i = k ∨ i ∈ P a := fun i => by rw [e2, List.mem_append, List.mem_cons, h.rev b bA]
    have dAB : ∀ i, i ∈ P a → i ∉ P b := h.dj a b aA bA (Ne.symm ab) (fun z => ct z.symm)
    have dO : ∀ p, Al n k p → p ≠ t a → p ≠ t b → ∀ i, i ∈ P p → i ∉ P a ∧ i ≠ k ∧ i ∉ P b := fun p hp x y i hi => by
      have q := (split p).mp hp
      have o := other p hp x y
      exact ⟨h.dj p a q.1 aA (Ne.symm q.2.1) (Ne.symm o.1) i hi, fun z => kno p q.1 (z ▸ hi), h.dj p b q.1 bA (Ne.symm q.2.2) (Ne.symm o.2.1) i hi⟩
    refine ⟨P', fun p hp => ?_, fun p hp => ?_, fun p hp => ?_, fun p hp => ?_, fun p q hp hq nq nt i hi hi2 => ?_, h.cnt.imp fun i => ?_⟩
    · by_cases p1 : p = t a
      · subst p1; rw [g1, g2]; exact ⟨tb, Ne.symm tab, rfl⟩
      · by_cases p2 : p = t b
        · subst p2; rw [g2, g1]; exact ⟨ta, tab, rfl⟩
        · have o := other p hp p1 p2
          have f := h.ft p ((split p).mp hp).1
          rw [g3 p p1 p2, g3 (t p) o.2.2.1 o.2.2.2]
          exact ⟨(split _).mpr ⟨f.1, o.1, o.2.1⟩, f.2⟩
    · by_cases p1 : p = t a
      · subst p1; rw [g1, e1]
        have r := h.rk (t a) fa.1
        rw [fa.2.2] at r
        have := r.join inA (by rw [crA]; exact (h.rk b bA).down (nin _ fb.1 tbna fb.2.1))
        rw [pgA] at this
        exact this
      · by_cases p2 : p = t b
        · subst p2; rw [g2, e2]
          have r := h.rk (t b) fb.1
          rw [fb.2.2] at r
          have := r.join inB (by rw [crB]; exact (h.rk a aA).down (nin _ fa.1 fa.2.1 ct))
          rw [pgB] at this
          exact this
        · have o := other p hp p1 p2
          rw [g3 p p1 p2, e3 p p1 p2]
          have q := (split p).mp hp
          exact (h.rk p q.1).down (nin _ (h.ft p q.1).1 o.1 o.2.1)
    · by_cases p1 : p = t a
      · subst p1; rw [e1]
        refine List.nodup_append.mpr ⟨h.nd _ fa.1, List.nodup_cons.mpr ⟨kno b bA, h.nd b bA⟩, fun i hi j hj e => ?_⟩
        subst e
        rw [h.rev a aA] at hi
        rcases List.mem_cons.mp hj with z | z
        · exact kno a aA (z ▸ hi)
        · exact dAB i hi z
      · by_cases p2 : p = t b
        · subst p2; rw [e2]
          refine List.nodup_append.mpr ⟨h.nd _ fb.1, List.nodup_cons.mpr ⟨kno a aA, h.nd a aA⟩, fun i hi j hj e => ?_⟩
          subst e
          rw [h.rev b bA] at hi
          rcases List.mem_cons.mp hj with z | z
          · exact kno b bA (z ▸ hi)
          · exact dAB i z hi
        · rw [e3 p p1 p2]; exact h.nd p ((split p).mp hp).1
    · intro i
      by_cases p1 : p = t a
      · subst p1; rw [g1, mB, mA]; grind
      · by_cases p2 : p = t b
        · subst p2; rw [g2, mA, mB]; grind
        · have o := other p hp p1 p2
          rw [g3 p p1 p2, e3 p p1 p2, e3 (t p) o.2.2.1 o.2.2.2]
          exact h.rev p ((split p).mp hp).1 i
    · by_cases p1 : p = t a
      · subst p1
        rw [g1] at nt
        rw [e3 q nq nt] at hi2
        have := dO q hq nq nt i hi2
        rcases (mA i).mp hi with z | z | z
        · exact this.1 z
        · exact this.2.1 z
        · exact this.2.2 z
      · by_cases p2 : p = t b
        · subst p2
          rw [g2] at nt
          rw [e3 q nt nq] at hi2
          have := dO q hq nt nq i hi2
          rcases (mB i).mp hi with z | z | z
          · exact this.2.2 z
          · exact this.2.1 z
          · exact this.1 z
        · rw [g3 p p1 p2] at nt
          rw [e3 p p1 p2] at hi
          have D := dO p hp p1 p2 i hi
          by_cases q1 : q = t a
          · subst q1
            rcases (mA i).mp hi2 with z | z | z
            · exact D.1 z
            · exact D.2.1 z
            · exact D.2.2 z
          · by_cases q2 : q = t b
            · subst q2
              rcases (mB i).mp hi2 with z | z | z
              · exact D.2.2 z
              · exact D.2.1 z
              · exact D.1 z
            · rw [e3 q q1 q2] at hi2
              exact h.dj p q ((split p).mp hp).1 ((split q).mp hq).1 nq nt i hi hi2
    · constructor
      · rintro ⟨x, y, z⟩
        refine ⟨by omega, y, fun p hp m => ?_⟩
        by_cases p1 : p = t a
        · subst p1
          rcases (mA i).mp m with w | w | w
          · exact z a aA w
          · omega
          · exact z b bA w
        · by_cases p2 : p = t b
          · subst p2
            rcases (mB i).mp m with w | w | w
            · exact z b bA w
            · omega
            · exact z a aA w
          · rw [e3 p p1 p2] at m
            exact z p ((split p).mp hp).1 m
      · rintro ⟨x, y, z⟩
        have zA := z _ ta
        rw [mA] at zA
        have nk : i ≠ k := fun e => zA (.inr (.inl e))
        refine ⟨by omega, y, fun p hp m => ?_⟩
        by_cases pa : p = a
        · subst pa; exact zA (.inl m)
        · by_cases pb : p = b
          · subst pb; exact zA (.inr (.inr m))
          · have hp' := (split p).mpr ⟨hp, pa, pb⟩
            by_cases p1 : p = t a
            · subst p1; exact zA (.inl ((h.rev a aA i).mp m))
            · by_cases p2 : p = t b
              · subst p2; exact zA (.inr (.inr ((h.rev b bA i).mp m)))
              · exact z p hp' (by rw [e3 p p1 p2]; exact m)
end Rb

set_option Elab.async false
set_option linter.all false
set_option maxRecDepth 100000
set_option maxHeartbeats 4000000
namespace Rb
theorem nodup_le : ∀ {l m : List Int}, l.Nodup → (∀ i, i ∈ l → i ∈ m) → l.length ≤ m.length
  | [], m, _, _ => Nat.zero_le _
  | a :: l, m, h, hs => by
    have ha := hs a List.mem_cons_self
    obtain ⟨h1, h2⟩ := List.nodup_cons.mp h
    have := nodup_le (l := l) (m := m.erase a) h2 fun i hi => by
      refine (List.mem_erase_of_ne ?_).mpr (hs i (List.mem_cons_of_mem _ hi))
      rintro rfl; exact h1 hi
    rw [List.length_erase_of_mem ha] at this
    have : 0 < m.length := List.length_pos_of_mem ha
    rw [List.length_cons]
    omega
theorem nodup_rng {l : List Int} {n : Int} (h : l.Nodup) (hs : ∀ i, i ∈ l → 0 ≤ i ∧ i < n) : l.length ≤ n.toNat := by
  have := nodup_le (m := rng 0 n) h fun i hi => mem_rng.mpr (hs i hi)
  rw [rng_len, Int.sub_zero] at this
  exact this
theorem Con.congr {f g f' g' : Int → Int} {W : Int → Prop} {r i : Int} (hr : W r) (hW : ∀ i, W i → W (f i) ∧ W (g i) ∧ f i = f' i ∧ g i = g' i) (h : Con f g r i) : W i ∧ Con f' g' r i := by
  induction h with
  | refl => exact ⟨hr, .refl⟩
  | f _ ih =>
    have := hW _ ih.1
    exact ⟨this.1, this.2.2.1 ▸ ih.2.f⟩
  | g _ ih =>
    have := hW _ ih.1
    exact ⟨this.2.1, this.2.2.2 ▸ ih.2.g⟩
theorem Cnt.congr {f g f' g' : Int → Int} {D : Int → Prop} {c : Int} (h : Cnt f g D c) : (∀ i, D i → f i = f' i ∧ g i = g' i) → Cnt f' g' D c := by
  induction h with
  | nil h => intro _; exact .nil h
  | ring hr hw hd _ ih =>
    intro e
    refine .ring hr (fun i hi => ?_) hd (ih fun i hi => e i ((hd i).mp hi).1)
    have q := hw i hi
    have e' := e i q.1
    exact ⟨q.1, e'.1 ▸ q.2.1, e'.2 ▸ q.2.2.1, (q.2.2.2.congr hr fun j hj => ⟨(hw j hj).2.1, (hw j hj).2.2.1, e j (hw j hj).1⟩).2⟩
structure Inv2 (f g : Int → Int) (D : Int → Prop) : Prop where
  f : ∀ i, D i → D (f i) ∧ f i ≠ i ∧ f (f i) = i
  g : ∀ i, D i → D (g i) ∧ g i ≠ i ∧ g (g i) = i
theorem Con.mem {f g : Int → Int} {W : Int → Prop} {i j : Int} (h : Con f g i j) (hi : W i) (hW : ∀ i, W i → W (f i) ∧ W (g i)) : W j := by
  induction h with
  | refl => exact hi
  | f _ ih => exact (hW _ ih).1
  | g _ ih => exact (hW _ ih).2
theorem Con.symm {f g : Int → Int} {D : Int → Prop} {i j : Int} (v : Inv2 f g D) (h : Con f g i j) (hi : D i) : Con f g j i := by
  induction h with
  | refl => exact .refl
  | @f j h ih =>
    have dj : D j := h.mem hi fun i hi => ⟨(v.f i hi).1, (v.g i hi).1⟩
    have e := (v.f j dj).2.2
    have : Con f g (f j) (f (f j)) := .f .refl
    rw [e] at this
    exact this.trans ih
  | @g j h ih =>
    have dj : D j := h.mem hi fun i hi => ⟨(v.f i hi).1, (v.g i hi).1⟩
    have e := (v.g j dj).2.2
    have : Con f g (g j) (g (g j)) := .g .refl
    rw [e] at this
    exact this.trans ih
structure Ring (f g : Int → Int) (D W : Int → Prop) (r0 : Int) : Prop where
  r : W r0
  all : ∀ i, W i → D i ∧ W (f i) ∧ W (g i) ∧ Con f g r0 i
theorem Ring.same {f g : Int → Int} {D W V : Int → Prop} {r s i : Int} (v : Inv2 f g D) (a : Ring f g D W r) (b : Ring f g D V s) (h1 : W i) (h2 : V i) (j : Int) (hj : W j) : V j := by
  have c1 := (a.all i h1).2.2.2
  have c2 := (a.all j hj).2.2.2
  exact ((c1.symm v (a.all r a.r).1).trans c2).mem h2 fun k hk => ⟨(b.all k hk).2.1, (b.all k hk).2.2.1⟩
theorem Inv2.less {f g : Int → Int} {D W D' : Int → Prop} {r : Int} (v : Inv2 f g D) (a : Ring f g D W r) (hd : ∀ i, D' i ↔ D i ∧ ¬ W i) : Inv2 f g D' := by
  refine ⟨fun i hi => ?_, fun i hi => ?_⟩
  · obtain ⟨h1, h2⟩ := (hd i).mp hi
    have q := v.f i h1
    refine ⟨(hd _).mpr ⟨q.1, fun z => h2 ?_⟩, q.2⟩
    have := (a.all _ z).2.1
    rw [q.2.2] at this; exact this
  · obtain ⟨h1, h2⟩ := (hd i).mp hi
    have q := v.g i h1
    refine ⟨(hd _).mpr ⟨q.1, fun z => h2 ?_⟩, q.2⟩
    have := (a.all _ z).2.2.1
    rw [q.2.2] at this; exact this
theorem Cnt.less {f g : Int → Int} {D : Int → Prop} {c : Int} (h : Cnt f g D c) : Inv2 f g D → ∀ {V D' : Int → Prop} {s : Int}, Ring f g D V s → (∀ i, D' i ↔ D i ∧ ¬ V i) → Cnt f g D' (c - 1) := by
  induction h with
  | nil h => intro v V D' s b hd; exact absurd (b.all s b.r).1 (h s)
  | @ring D D1 W r c hr hw hd1 h1 ih =>
    intro v V D' s b hd
    have a : Ring f g D W r := ⟨hr, hw⟩
    have e : c + 1 - 1 = c := by omega
    rw [e]
    by_cases m : ∃ i, W i ∧ V i
    · obtain ⟨i, m1, m2⟩ := m
      refine h1.imp fun j => ?_
      rw [hd1, hd]
      exact ⟨fun z => ⟨z.1, fun w => z.2 (b.same v a m2 m1 j w)⟩, fun z => ⟨z.1, fun w => z.2 (a.same v b m1 m2 j w)⟩⟩
    · have nm : ∀ i, W i → ¬ V i := fun i h1 h2 => m ⟨i, h1, h2⟩
      have b1 : Ring f g D1 V s := ⟨b.r, fun i hi => ⟨(hd1 i).mpr ⟨(b.all i hi).1, fun w => nm i w hi⟩, (b.all i hi).2⟩⟩
      have q := ih (v.less a hd1) b1 (D' := fun i => D1 i ∧ ¬ V i) (fun i => Iff.rfl)
      have e2 : c = c - 1 + 1 := by omega
      rw [e2]
      refine .ring (W := W) hr (fun i hi => ⟨(hd i).mpr ⟨(hw i hi).1, nm i hi⟩, (hw i hi).2⟩) (fun i => ?_) q
      show D1 i ∧ ¬ V i ↔ _
      rw [hd1, hd]
      exact ⟨fun z => ⟨⟨z.1.1, z.2⟩, z.1.2⟩, fun z => ⟨⟨z.1.1, z.2⟩, z.1.2⟩⟩
theorem Cnt.zero {f g : Int → Int} {D : Int → Prop} {c : Int} (h : Cnt f g D c) (hn : ∀ i, ¬ D i) : c = 0 := by
  cases h with
  | nil _ => rfl
  | ring hr hw _ _ => exact absurd (hw _ hr).1 (hn _)
end Rb

set_option Elab.async false
set_option linter.all false
set_option maxRecDepth 100000
set_option maxHeartbeats 4000000
namespace Rb
open PySem L2
theorem rng_nil {lo hi : Int} (h : hi ≤ lo) : rng lo hi = [] := by
  unfold rng
  have : (hi - lo).toNat = 0 := by omega
  rw [this]; rfl
theorem rng_cons {lo hi : Int} (h : lo < hi) : rng lo hi = lo :: rng (lo + 1) hi := by
  unfold rng
  have : (hi - lo).toNat = (hi - (lo + 1)).toNat + 1 := by omega
  rw [this, List.range_succ_eq_map, List.map_cons, List.map_map]
  congr 1
  · omega
  · apply List.map_congr_left
    intro i _
    show lo + ((i + 1 : Nat) : Int) = lo + 1 + (i : Int)
    omega
section
variable {α β S R : Type}
theorem forR_cons {f : S → α → Option (S ⊕ R)} {s : S} {x : α} {xs : List α} : forR f s (x :: xs) = (f s x).bind fun o => match o with | .inl s' => forR f s' xs | .inr r => some (.inr r) := rfl
theorem pop_snoc {xs : List α} {x : α} : pop? (xs ++ [x]) = some (x, xs) := by
  unfold pop?
  rw [List.getLast?_concat, List.dropLast_concat]
  rfl
end
structure Opn (E : Int → Int) (p : Int) (Q : List Int) : Prop where
  srt : Q.Pairwise (· < ·)
  mem : ∀ q, q ∈ Q ↔ 0 ≤ q ∧ q < p ∧ p ≤ E q
theorem Opn.push {E : Int → Int} {m p : Int} {Q : List Int} (h : Opn E p Q) (hE : FT m E) (p0 : 0 ≤ p) (p1 : p < m) (u : p < E p) : Opn E (p + 1) (Q ++ [p]) := by
  refine ⟨List.pairwise_append.mpr ⟨h.srt, List.pairwise_singleton _ _, fun a ha b hb => ?_⟩, fun q => ?_⟩
  · have := (h.mem a).mp ha
    have : b = p := by simpa using hb
    omega
  · rw [List.mem_append, h.mem, List.mem_singleton]
    constructor
    · rintro (⟨a, b, c⟩ | rfl)
      · have := hE q a (by omega)
        have : E q ≠ p := fun z => by rw [z] at this; omega
        omega
      · omega
    · rintro ⟨a, b, c⟩
      by_cases e : q = p
      · exact .inr e
      · exact .inl ⟨a, by omega, by omega⟩
theorem Opn.pop {E : Int → Int} {m p : Int} {Q : List Int} (h : Opn E p Q) (hE : FT m E) (p0 : 0 ≤ p) (p1 : p < m) (u : E p < p) :
    ∃ Q' q, Q = Q' ++ [q] ∧ (E q = p → Opn E (p + 1) Q') ∧ (E q = p ↔ ∀ r, E p < r → r < p → E r < p) := by
  have hp := hE p p0 p1
  have me : E p ∈ Q := (h.mem _).mpr ⟨hp.1, u, by omega⟩
  have ne : Q ≠ [] := List.ne_nil_of_mem me
  have eq := (List.dropLast_concat_getLast ne).symm
  generalize Q.getLast ne = q at eq
  generalize Q.dropLast = Q' at eq
  subst eq
  have hq := (h.mem q).mp (by simp)
  obtain ⟨s1, s2, s3⟩ := List.pairwise_append.mp h.srt
  have last : ∀ r, r ∈ Q' → r < q := fun r hr => s3 r hr q (by simp)
  have inj : ∀ r s, 0 ≤ r → r < m → 0 ≤ s → s < m → E r = E s → r = s := fun r s a b c d e => by
    have x := hE r a b
    have y := hE s c d
    rw [← x.2.2.2, e, y.2.2.2]
  refine ⟨Q', q, rfl, fun e => ⟨s1, fun r => ?_⟩, fun e r r1 r2 => ?_, fun k => ?_⟩
  · have hm := h.mem r
    rw [List.mem_append, List.mem_singleton] at hm
    constructor
    · intro hr
      have := hm.mp (.inl hr)
      have l := last r hr
      have : E r ≠ p := fun z => by
        have := inj r q this.1 (by omega) hq.1 (by omega) (by rw [z, e])
        omega
      omega
    · rintro ⟨a, b, c⟩
      by_cases rp : r = p
      · subst rp; omega
      · rcases hm.mpr ⟨a, by omega, by omega⟩ with z | z
        · exact z
        · subst z; omega
  · have eq : q = E p := by rw [← e]; exact ((hE q hq.1 (by omega)).2.2.2).symm
    refine Int.not_le.mp fun c => ?_
    have : r ∈ Q' ++ [q] := (h.mem r).mpr ⟨by omega, r2, c⟩
    rcases List.mem_append.mp this with z | z
    · have := last r z; omega
    · have : r = q := by simpa using z
      omega
  · have le : E p ≤ q := by
      rcases List.mem_append.mp me with z | z
      · have := last _ z; omega
      · have : E p = q := by simpa using z
        omega
    by_cases c : E p = q
    · rw [← c]; exact hp.2.2.2
    · have := k q (by omega) hq.2.1
      omega
end Rb

set_option Elab.async false
set_option linter.all false
set_option maxRecDepth 100000
set_option maxHeartbeats 4000000
namespace Rb
open PySem L2
section
variable {κ β : Type} [DecidableEq κ]
end
end Rb

set_option Elab.async false
set_option linter.all false
set_option maxRecDepth 100000
set_option maxHeartbeats 4000000
namespace Rb
theorem forR_go {α S R : Type} {f : S → α → Option (S ⊕ R)} {s s' : S} {x : α} {xs : List α} (h : f s x = some (.inl s')) : forR f s (x :: xs) = forR f s' xs := by
  rw [forR_cons, h]; rfl
theorem forR_all {α S R : Type} {f : S → α → Option (S ⊕ R)} {s : S} : ∀ {xs : List α}, (∀ x, x ∈ xs → f s x = some (.inl s)) → forR f s xs = some (.inl s)
  | [], _ => rfl
  | x :: xs, h => by
    rw [forR_go (h x List.mem_cons_self)]
    exact forR_all fun y hy => h y (List.mem_cons_of_mem _ hy)
def plainF (n : Int) (p : Int) : Int := if p < n then p + n else p - n
theorem Fr.turn {n : Int} {x f g : Int → Int} (h : Fr n x) (hf : ∀ p, 0 ≤ p → p < 2 * n → 0 ≤ f p ∧ f p < 2 * n ∧ g (f p) = p) (hg : ∀ p, 0 ≤ p → p < 2 * n → 0 ≤ g p ∧ g p < 2 * n ∧ f (g p) = p)
    (hb : ∀ a b c d, (0 ≤ a ∧ a < 2 * n) → (0 ≤ b ∧ b < 2 * n) → (0 ≤ c ∧ c < 2 * n) → (0 ≤ d ∧ d < 2 * n) → a ≠ c → a ≠ d → b ≠ c → b ≠ d → (Btw (rd n) a b c ↔ Btw (rd n) a b d) → (Btw (rd n) (f a) (f b) (f c) ↔ Btw (rd n) (f a) (f b) (f d))) : Fr n (fun p => f (x (g p))) := by
  refine ⟨fun p hp => ?_, fun p q hp hq np nt => ?_⟩
  · have a := hg p hp.1 hp.2
    have b := h.ft _ a.1 a.2.1
    have c := hf _ b.1 b.2.1
    refine ⟨⟨c.1, c.2.1⟩, fun z => b.2.2.1 ?_, ?_⟩
    · rw [← c.2.2, z]
    · show f (x (g (f (x (g p))))) = p
      rw [c.2.2, b.2.2.2, a.2.2]
  · have a := hg p hp.1 hp.2
    have b := h.ft _ a.1 a.2.1
    have a' := hg q hq.1 hq.2
    have b' := h.ft _ a'.1 a'.2.1
    have m1 : g p ≠ g q := fun z => np (by rw [← a'.2.2, ← z, a.2.2])
    have m2 : x (g p) ≠ g q := fun z => nt (by rw [z, a'.2.2])
    have m3 : g p ≠ x (g q) := fun z => m2 (by rw [z, b'.2.2.2])
    have m4 : x (g p) ≠ x (g q) := fun z => m1 (by rw [← b.2.2.2, z, b'.2.2.2])
    have := hb (g p) (x (g p)) (g q) (x (g q)) ⟨a.1, a.2.1⟩ ⟨b.1, b.2.1⟩ ⟨a'.1, a'.2.1⟩ ⟨b'.1, b'.2.1⟩ m1 m3 m2 m4 (Pm.nc h (g p) (g q) ⟨a.1, a.2.1⟩ ⟨a'.1, a'.2.1⟩ (Ne.symm m1) (Ne.symm m2))
    rw [a.2.2, a'.2.2] at this
    exact this
end Rb
namespace Rb
end Rb
namespace Rb
open PySem L2
def thr (n : Int) (x : Int → Int) : Int := (((rng 0 n).filter fun p => decide (x p ≥ n)).length : Int)
end Rb

set_option Elab.async false
set_option linter.all false
set_option maxRecDepth 100000
set_option maxHeartbeats 4000000
namespace Rb
open PySem L2
def sh (m b r : Int) : Int := (r + b) % m
end Rb

set_option Elab.async false
set_option linter.all false
set_option maxRecDepth 100000
set_option maxHeartbeats 4000000
namespace Rb
def Iv (A : Int → Prop) (t : Int → Int) : Prop := ∀ p, A p → A (t p) ∧ t p ≠ p ∧ t (t p) = p
theorem Iv.glue {A : Int → Prop} {t : Int → Int} {a b : Int} (h : Iv A t) (ha : A a) (hb : A b) (hab : a ≠ b) : Iv (fun p => A p ∧ p ≠ a ∧ p ≠ b) (glue t a b) := by
  intro p ⟨hp, pa, pb⟩
  have fa := h a ha
  have fb := h b hb
  have fp := h p hp
  unfold Rb.glue
  grind
def gst (s : (Int → Int) × Int) (q : Int × Int) : (Int → Int) × Int := (glue s.1 q.1 q.2, s.2 + if s.1 q.1 = q.2 then 1 else 0)
def glL (L : List (Int × Int)) (s : (Int → Int) × Int) : (Int → Int) × Int := L.foldl gst s
theorem glL_cons {q : Int × Int} {L : List (Int × Int)} {s : (Int → Int) × Int} : glL (q :: L) s = glL L (gst s q) := rfl
theorem glL_app {L M : List (Int × Int)} {s : (Int → Int) × Int} : glL (L ++ M) s = glL M (glL L s) := List.foldl_append
theorem glL_congr {A : Int → Prop} : ∀ {L : List (Int × Int)} {s s' : (Int → Int) × Int}, (∀ q, q ∈ L → A q.1 ∧ A q.2) → (∀ p, A p → s.1 p = s'.1 p) → s.2 = s'.2 → (∀ p, A p → (glL L s).1 p = (glL L s').1 p) ∧ (glL L s).2 = (glL L s').2
  | [], s, s', _, h, e => ⟨h, e⟩
  | q :: L, s, s', hA, h, e => by
    have a := hA q List.mem_cons_self
    rw [glL_cons, glL_cons]
    refine glL_congr (fun r hr => hA r (List.mem_cons_of_mem _ hr)) (fun p hp => ?_) ?_
    · show glue s.1 q.1 q.2 p = glue s'.1 q.1 q.2 p
      unfold glue
      rw [h p hp, h _ a.1, h _ a.2]
    · show s.2 + _ = s'.2 + _
      rw [e, h _ a.1]
end Rb

set_option Elab.async false
set_option linter.all false
set_option maxRecDepth 100000
set_option maxHeartbeats 4000000
namespace Rb
def AL (u v : Int) : Nat → List (Int × Int)
  | 0 => []
  | j + 1 => (u + j, v + j) :: AL u v j
theorem mem_AL {u v : Int} {q : Int × Int} : ∀ {j : Nat}, q ∈ AL u v j ↔ ∃ k : Int, 0 ≤ k ∧ k < j ∧ q = (u + k, v + k)
  | 0 => by
    refine ⟨fun z => (by cases z), ?_⟩
    rintro ⟨k, a, b, _⟩
    omega
  | j + 1 => by
    unfold AL
    rw [List.mem_cons, mem_AL]
    constructor
    · rintro (z | ⟨k, a, b, c⟩)
      · exact ⟨j, by omega, by omega, z⟩
      · exact ⟨k, a, by omega, c⟩
    · rintro ⟨k, a, b, c⟩
      by_cases e : k = j
      · subst e; exact .inl c
      · exact .inr ⟨k, a, by omega, c⟩
theorem gls_AL {n : Int} {x y : Int → Int} : ∀ {j : Nat}, (j : Int) ≤ n → gls n x y j = glL (AL (3 * n - j) (2 * n - j) j) (two n x y, 0)
  | 0, _ => rfl
  | j + 1, h => by
    have e : ∀ (u v : Int) (j : Nat), AL u v (j + 1) = AL (u + 1) (v + 1) j ++ [(u, v)] := fun u v j => by
      induction j with
      | zero =>
        show [(u + ((0 : Nat) : Int), v + ((0 : Nat) : Int))] = [(u, v)]
        simp
      | succ j ih =>
        show (u + ((j + 1 : Nat) : Int), v + ((j + 1 : Nat) : Int)) :: AL u v (j + 1) = (u + 1 + (j : Int), v + 1 + (j : Int)) :: AL (u + 1) (v + 1) j ++ [(u, v)]
        rw [ih, List.cons_append]
        have e1 : u + ((j + 1 : Nat) : Int) = u + 1 + (j : Int) := by omega
        have e2 : v + ((j + 1 : Nat) : Int) = v + 1 + (j : Int) := by omega
        rw [e1, e2]
    rw [e, glL_app]
    have e1 : 3 * n - ((j + 1 : Nat) : Int) + 1 = 3 * n - j := by omega
    have e2 : 2 * n - ((j + 1 : Nat) : Int) + 1 = 2 * n - j := by omega
    rw [e1, e2, ← gls_AL (by omega)]
    show gl n (gls n x y j) _ = gst (gls n x y j) _
    unfold gl gst
    have e3 : 3 * n - ((j + 1 : Nat) : Int) = 2 * n + (n - 1 - j) := by omega
    have e4 : 2 * n - ((j + 1 : Nat) : Int) = n + (n - 1 - j) := by omega
    rw [e3, e4]
theorem gls_all {n : Int} {x y : Int → Int} (hn : 0 ≤ n) : gls n x y n.toNat = glL (AL (2 * n) n n.toNat) (two n x y, 0) := by
  rw [gls_AL (by omega)]
  have e1 : 3 * n - (n.toNat : Int) = 2 * n := by omega
  have e2 : 2 * n - (n.toNat : Int) = n := by omega
  rw [e1, e2]
theorem AL_in {n : Int} {q : Int × Int} (h : q ∈ AL (2 * n) n n.toNat) : ∃ k : Int, 0 ≤ k ∧ k < n ∧ q = (2 * n + k, n + k) := by
  obtain ⟨k, a, b, c⟩ := mem_AL.mp h
  exact ⟨k, a, by omega, c⟩
end Rb

set_option Elab.async false
set_option linter.all false
set_option maxRecDepth 100000
set_option maxHeartbeats 4000000
namespace Rb
theorem inA4 {n : Int} : ∀ q, q ∈ AL (2 * n) n n.toNat → (0 ≤ q.1 ∧ q.1 < 4 * n) ∧ 0 ≤ q.2 ∧ q.2 < 4 * n := fun q hq => by
  obtain ⟨k, a, b, rfl⟩ := AL_in hq
  simp only
  omega
def cls (n : Int) (x : Int → Int) : Int := (glL (AL n 0 n.toNat) (x, 0)).2
theorem FT.iv {n : Int} {x : Int → Int} (hx : FT (2 * n) x) : Iv (fun p => 0 ≤ p ∧ p < 2 * n) x := fun p hp => by
  have := hx p hp.1 hp.2
  exact ⟨⟨this.1, this.2.1⟩, this.2.2⟩
end Rb

set_option Elab.async false
set_option linter.all false
set_option maxRecDepth 100000
set_option maxHeartbeats 4000000
namespace Rb
open L2
theorem comp_congr {n : Int} {x y x' y' : Int → Int} (hn : 0 ≤ n) (hx : ∀ p, 0 ≤ p → p < 2 * n → x p = x' p) (hy : ∀ p, 0 ≤ p → p < 2 * n → y p = y' p) :
    (∀ p, 0 ≤ p → p < 2 * n → comp n x y p = comp n x' y' p) ∧ crings n x y = crings n x' y' := by
  have r := glL_congr (A := fun p => 0 ≤ p ∧ p < 4 * n) (L := AL (2 * n) n n.toNat) (s := (two n x y, 0)) (s' := (two n x' y', 0)) inA4 (fun p hp => by
    show two n x y p = two n x' y' p
    unfold two
    by_cases c : p < 2 * n
    · rw [if_pos c, if_pos c, hx p hp.1 c]
    · rw [if_neg c, if_neg c, hy (p - 2 * n) (by omega) (by omega)]) rfl
  rw [← gls_all hn, ← gls_all hn] at r
  refine ⟨fun p p0 p1 => ?_, r.2⟩
  show back n _ = back n _
  rw [r.1 (forth n p) ⟨by unfold forth; split <;> omega, by unfold forth; split <;> omega⟩]
def stk (n : Int) (fs : List (Int → Int)) : (Int → Int) × Int := fs.foldl (fun s x => (comp n s.1 x, s.2 + crings n s.1 x)) (plainF n, 0)
def Lk (n : Int) (s t : (Int → Int) × Int) : Prop := (∀ p, 0 ≤ p → p < 2 * n → s.1 p = t.1 p) ∧ s.2 = t.2
theorem Lk.refl {n : Int} (s : (Int → Int) × Int) : Lk n s s := ⟨fun _ _ _ => rfl, rfl⟩
theorem Lk.symm {n : Int} {s t : (Int → Int) × Int} (h : Lk n s t) : Lk n t s := ⟨fun p a b => (h.1 p a b).symm, h.2.symm⟩
theorem Lk.trans {n : Int} {s t u : (Int → Int) × Int} (h : Lk n s t) (g : Lk n t u) : Lk n s u := ⟨fun p a b => (h.1 p a b).trans (g.1 p a b), h.2.trans g.2⟩
def tw (n : Int) (s t : (Int → Int) × Int) : (Int → Int) × Int := (comp n s.1 t.1, crings n s.1 t.1 + s.2 + t.2)
theorem Lk.tw {n : Int} {s t s' t' : (Int → Int) × Int} (hn : 0 ≤ n) (h : Lk n s s') (g : Lk n t t') : Lk n (tw n s t) (tw n s' t') := by
  have c := comp_congr hn h.1 g.1
  refine ⟨c.1, ?_⟩
  show crings n s.1 t.1 + s.2 + t.2 = crings n s'.1 t'.1 + s'.2 + t'.2
  rw [c.2, h.2, g.2]
theorem Lk.lst {n : Int} {s t : (Int → Int) × Int} (h : Lk n s t) : (lst (2 * n) s.1, s.2) = (lst (2 * n) t.1, t.2) := by
  rw [lst_ext h.1, h.2]
structure WayG (f g : Int → Int) (L0 : List Int) (p0 : Int) (L : List Int) (q : Int) : Prop where
  nd : L.Nodup
  sub : ∀ i, i ∈ L → i ∈ L0
  hp : p0 ∈ L0 ∧ p0 ∉ L
  hq : q ∈ L0 ∧ q ∉ L ∧ q ≠ p0
  hf : ∀ i, i ∈ L0 → i ∉ L → f i ∉ L
  hg : ∀ i, i ∈ L0 → i ∉ L → i ≠ p0 → i ≠ q → g i ∉ L ∧ g i ≠ p0 ∧ g i ≠ q
  con : ∀ i, i ∈ L0 → i ∉ L → Con f g p0 i
end Rb

set_option Elab.async false
set_option linter.all false
set_option maxRecDepth 100000
set_option maxHeartbeats 4000000
namespace Rb
open L2
theorem Cnt.uniq {f g : Int → Int} {D : Int → Prop} {c : Int} (h : Cnt f g D c) : Inv2 f g D → ∀ {c' : Int}, Cnt f g D c' → c = c' := by
  induction h with
  | nil hn => intro _ c' h'; exact (h'.zero hn).symm
  | @ring D D' W r c hr hw hd _ ih =>
    intro v c' h'
    have rg : Ring f g D W r := ⟨hr, hw⟩
    have := ih (v.less rg hd) (h'.less v rg hd)
    omega
structure Mid (n : Int) (x y x' y' : Int → Int) : Prop where
  u : ∀ i, 0 ≤ i → i < n → (n ≤ x (n + i) → x' (n + i) = x (n + i)) ∧ (x (n + i) < n → x' (n + i) < n)
  l : ∀ i, 0 ≤ i → i < n → (y i < n → y' i = y i) ∧ (n ≤ y i → n ≤ y' i)
theorem Mid.symm {n : Int} {x y x' y' : Int → Int} (h : Mid n x y x' y') : Mid n x' y' x y := by
  refine ⟨fun i a b => ?_, fun i a b => ?_⟩
  · have := h.u i a b
    by_cases c : n ≤ x (n + i)
    · have := this.1 c; exact ⟨fun _ => this.symm, fun z => by omega⟩
    · have := this.2 (by omega); exact ⟨fun z => by omega, fun _ => by omega⟩
  · have := h.l i a b
    by_cases c : y i < n
    · have := this.1 c; exact ⟨fun _ => this.symm, fun z => by omega⟩
    · have := this.2 (by omega); exact ⟨fun z => by omega, fun _ => by omega⟩
end Rb

set_option Elab.async false
set_option linter.all false
set_option maxRecDepth 100000
set_option maxHeartbeats 4000000
namespace Rb
open L2
structure Hf (n : Int) (h : Int → Int) : Prop where
  iv : ∀ p, 0 ≤ p → p < n → 0 ≤ h p ∧ h p < n ∧ h (h p) = p
  nc : ∀ p, 0 ≤ p → p < n → h p < p → ∀ r, h p < r → r < p → h r < p
  op : ∀ p, 0 ≤ p → p < n → h p = p → ∀ q, 0 ≤ q → q < p → h q < p
theorem Hf.congr {n : Int} {h g : Int → Int} (H : Hf n h) (e : ∀ p, 0 ≤ p → p < n → g p = h p) : Hf n g := by
  refine ⟨fun p a b => ?_, fun p a b c r d f => ?_, fun p a b c q d f => ?_⟩
  · have i := H.iv p a b
    rw [e p a b, e _ i.1 i.2.1]
    exact i
  · rw [e p a b] at c d
    rw [e r (by have := H.iv p a b; omega) (by omega)]
    exact H.nc p a b c r d f
  · rw [e p a b] at c
    rw [e q d (by omega)]
    exact H.op p a b c q d f
def upF (n : Int) (x : Int → Int) (p : Int) : Int := if x p < n then x p else p
theorem Fr.up {n : Int} {x : Int → Int} (f : Fr n x) : Hf n (upF n x) := by
  have ft := f.ft
  refine ⟨fun p a b => ?_, fun p a b c r d e => ?_, fun p a b c q d e => ?_⟩
  · have h := ft p a (by omega)
    unfold upF
    by_cases c : x p < n
    · rw [if_pos c, h.2.2.2, if_pos b]; omega
    · rw [if_neg c, if_neg c]; omega
  · have h := ft p a (by omega)
    unfold upF at *
    by_cases g : x p < n
    · rw [if_pos g] at c d
      have hr := ft r (by omega) (by omega)
      have nc := f.nc p r ⟨a, by omega⟩ ⟨by omega, by omega⟩ (by omega) (by omega)
      unfold Btw rd at nc
      split <;> grind
    · rw [if_neg g] at c; omega
  · have h := ft p a (by omega)
    unfold upF at *
    have hq := ft q d (by omega)
    by_cases g : x p < n
    · rw [if_pos g] at c; omega
    · by_cases k : x q < n
      · rw [if_pos k]
        have ne : x q ≠ p := fun z => by rw [← z, hq.2.2.2] at g; omega
        have nc := f.nc q p ⟨d, by omega⟩ ⟨a, by omega⟩ (by omega) (by omega)
        unfold Btw rd at nc
        grind
      · rw [if_neg k]; omega
end Rb

set_option Elab.async false
set_option linter.all false
set_option maxRecDepth 100000
set_option maxHeartbeats 0
namespace Rb.M_k07
open PySem PySem.Spec PyProof.Rows L2 Rb
def p_ask_pegs (v_pegs : Int) : Option Unit :=
  (if (!((decide ((1 : Int) ≤ v_pegs)) && (decide (v_pegs ≤ (10 : Int))))) = true then none else (some ()))
def x_ask_pegs (v_pegs : Int) : Option (Except Exn Unit) :=
  (if (!((decide ((1 : Int) ≤ v_pegs)) && (decide (v_pegs ≤ (10 : Int))))) = true then (some ((Except.error (α := Unit)) (exc "BadPegs"))) else (some (Except.ok ())))
def x_mk_Loft (v_pegs : Int) : Option (Except Exn Int) := bindX (x_ask_pegs v_pegs) Except.error fun _ => some (.ok v_pegs)
def x_mk_Desk (v_pegs : Int) : Option (Except Exn Int) := bindX (x_mk_Loft v_pegs) Except.error fun w => some (.ok w)
def p_turned_round (v_pegs : Int) (v_place : Int) : Option Int :=
  (if (decide (v_place < v_pegs)) = true then (some v_place) else (some ((((3 : Int) * v_pegs) - (1 : Int)) - v_place)))
def p_in_round (v_frame : (List Int)) : Option (List Int) :=
  (Option.bind (some (((v_frame.length : Int) / (2 : Int)) : Int)) fun v_pegs_1 => (Option.bind (grd (rngOk ((2 : Int) * v_pegs_1))) fun g2 => (Option.bind (compM (fun (x3 : Int) => (some true)) (fun (x3 : Int) => (Option.bind (p_turned_round v_pegs_1 x3) fun u4 => (Option.bind (atI v_frame u4) fun u5 => (Option.bind (p_turned_round v_pegs_1 u5) fun u6 => (some u6))))) (rng 0 ((2 : Int) * v_pegs_1))) fun u7 => (some u7))))
def p_in_round_L (v_frame : (List Int)) : Option (List Int) :=
  (Option.bind (some (((v_frame.length : Int) / (2 : Int)) : Int)) fun v_pegs_1 => (Option.bind (grd (rngOk ((2 : Int) * v_pegs_1))) fun g2 => (Option.bind (compM (fun (x3 : Int) => (some true)) (fun (x3 : Int) => (Option.bind (p_turned_round v_pegs_1 x3) fun u4 => (Option.bind (atI v_frame u4) fun u5 => (Option.bind (p_turned_round v_pegs_1 u5) fun u6 => (some u6))))) (rng 0 ((2 : Int) * v_pegs_1))) fun u7 => (some u7))))
def p_out_of_round (v_ends : (List Int)) : Option (List Int) :=
  (Option.bind (some (((v_ends.length : Int) / (2 : Int)) : Int)) fun v_pegs_1 => (Option.bind (grd (rngOk ((2 : Int) * v_pegs_1))) fun g2 => (Option.bind (compM (fun (x3 : Int) => (some true)) (fun (x3 : Int) => (Option.bind (p_turned_round v_pegs_1 x3) fun u4 => (Option.bind (atI v_ends u4) fun u5 => (Option.bind (p_turned_round v_pegs_1 u5) fun u6 => (some u6))))) (rng 0 ((2 : Int) * v_pegs_1))) fun u7 => (some u7))))
def p_are_ties_for1 (v_frame : (List Int)) (s_1 : Unit) (x1 : (Int × Int)) : Option ((Unit) ⊕ Bool) :=
  (Option.bind (Option.bind (some (!((decide ((0 : Int) ≤ x1.2)) && (decide (x1.2 < (v_frame.length : Int)))))) fun a => if a = true then some true else (Option.bind (some (decide (x1.2 = x1.1))) fun a => if a = true then some true else (Option.bind (atI v_frame x1.2) fun u2 => (some (!(decide (u2 = x1.1))))))) fun c3 => (if c3 = true then ((some false)).map Sum.inr else (some (Sum.inl ()))))
def p_are_ties (v_frame : (List Int)) : Option Bool :=
  (if ((decide ((v_frame.length : Int) < (2 : Int))) || ((decide ((v_frame.length : Int) > ((2 : Int) * (10 : Int)))) || (decide (((v_frame.length : Int) % (2 : Int)) = (1 : Int))))) = true then (some false) else (bindR (R := Bool) (forR (p_are_ties_for1 v_frame) () (enumI v_frame)) (fun (s4 : Unit) => (some true)) id))
def p_nested_for1  (s_1 : (List Int)) (x1 : (Int × Int)) : Option (((List Int)) ⊕ Bool) :=
  (if (decide (x1.2 > x1.1)) = true then (Option.bind (app? s_1 x1.2) fun u2 => (some (Sum.inl u2))) else (Option.bind (pop? s_1) fun u3 => (if (!decide (u3.1 = x1.1)) = true then (some (Sum.inr false)) else (some (Sum.inl u3.2)))))
def p_nested (v_ends : (List Int)) : Option Bool :=
  (bindR (R := Bool) (forR p_nested_for1 ([] : (List Int)) (enumI v_ends)) (fun (s4 : (List Int)) => (some true)) id)
def p_is_frame (v_frame : (List Int)) : Option Bool :=
  (Option.bind (p_are_ties v_frame) fun u1 => (Option.bind (Option.bind (some u1) fun a => if a = true then (Option.bind (p_in_round v_frame) fun u2 => (Option.bind (p_nested u2) fun u3 => (some u3))) else some false) fun c4 => (some c4)))
def p_ask_frame (v_frame : (List Int)) : Option Unit :=
  (Option.bind (p_is_frame v_frame) fun u1 => (if (!u1) = true then none else (some ())))
def x_ask_frame (v_frame : (List Int)) : Option (Except Exn Unit) :=
  (Option.bind (p_is_frame v_frame) fun u1 => (if (!u1) = true then (some ((Except.error (α := Unit)) (exc "BadFrame"))) else (some (Except.ok ()))))
def p_plain (v_pegs : Int) : Option (List Int) :=
  (Option.bind (p_ask_pegs v_pegs) fun u1 => (Option.bind (grd (rngOk ((2 : Int) * v_pegs))) fun g2 => (Option.bind (compM (fun (x3 : Int) => (some true)) (fun (x3 : Int) => (Option.bind (grd ((0 : Int) < ((2 : Int) * v_pegs))) fun g4 => (some ((x3 + v_pegs) % ((2 : Int) * v_pegs))))) (rng 0 ((2 : Int) * v_pegs))) fun u5 => (some u5))))
def x_plain (v_pegs : Int) : Option (Except Exn (List Int)) :=
  (bindX (x_ask_pegs v_pegs) (Except.error (α := (List Int))) fun u1 => (Option.bind (grd (rngOk ((2 : Int) * v_pegs))) fun g2 => (Option.bind (compM (fun (x3 : Int) => (some true)) (fun (x3 : Int) => (Option.bind (grd ((0 : Int) < ((2 : Int) * v_pegs))) fun g4 => (some ((x3 + v_pegs) % ((2 : Int) * v_pegs))))) (rng 0 ((2 : Int) * v_pegs))) fun u5 => (some (Except.ok u5)))))
def p_from_brackets_for1  (s_1 : (List Int) × (List Int)) (x3 : (Int × Str)) : Option ((List Int) × (List Int)) :=
  (if (decide (x3.2 = (Str.ofString "("))) = true then (Option.bind (app? s_1.2 x3.1) fun u4 => (some (s_1.1, u4))) else (if ((!(decide (x3.2 = (Str.ofString ")")))) || (decide (s_1.2 = ([] : (List Int))))) = true then none else (Option.bind (pop? s_1.2) fun u5 => (Option.bind (set? s_1.1 x3.1 u5.1) fun u6 => (Option.bind (set? u6 u5.1 x3.1) fun u7 => (some (u7, u5.2)))))))
def p_from_brackets (v_text : Str) : Option (List Int) :=
  (Option.bind (some (((chrs v_text).map fun (x1 : Str) => (0 : Int)) : (List Int))) fun v_ends_2 => (Option.bind (forS p_from_brackets_for1 (v_ends_2, ([] : (List Int))) (enumI (chrs v_text))) fun (s8 : (List Int) × (List Int)) => (if ((!(decide (s8.2 = ([] : (List Int))))) || (!((decide ((1 : Int) ≤ ((v_text.length : Int) / (2 : Int)))) && (decide (((v_text.length : Int) / (2 : Int)) ≤ (10 : Int)))))) = true then none else (Option.bind (p_out_of_round s8.1) fun u9 => (some u9)))))
def p_followed_while1_c (v_upper : (List Int)) (v_lower : (List Int)) (v_pegs : Int) (s_1 : Int × Bool × (List Int)) : Option Bool :=
  (some true)
def p_followed_while1 (v_upper : (List Int)) (v_lower : (List Int)) (v_pegs : Int) (s_1 : Int × Bool × (List Int)) : Option ((Int × Bool × (List Int)) ⊕ (Int × (List Int))) :=
  (Option.bind (if s_1.2.1 = true then (Option.bind (atI v_lower s_1.1) fun u2 => (some u2)) else (Option.bind (atI v_upper s_1.1) fun u3 => (some u3))) fun c4 => (if ((s_1.2.1 && (decide (c4 ≥ v_pegs))) || ((!s_1.2.1) && (decide (c4 < v_pegs)))) = true then ((some (c4, s_1.2.2))).map Sum.inr else (Option.bind (app? s_1.2.2 (if s_1.2.1 = true then c4 else (c4 - v_pegs))) fun u5 => (Option.bind (some ((if s_1.2.1 = true then (c4 + v_pegs) else (c4 - v_pegs)) : Int)) fun v_peg_6 => (Option.bind (some ((!s_1.2.1) : Bool)) fun v_below_7 => (some (Sum.inl (v_peg_6, v_below_7, u5))))))))
def p_followed (v_upper : (List Int)) (v_lower : (List Int)) (v_peg : Int) (v_below : Bool) : Option (Int × (List Int)) :=
  (Option.bind (some (((v_upper.length : Int) / (2 : Int)) : Int)) fun v_pegs_1 => (bindR (R := (Int × (List Int))) (whR (p_followed_while1_c v_upper v_lower v_pegs_1) (p_followed_while1 v_upper v_lower v_pegs_1) fuel (v_peg, v_below, ([] : (List Int)))) (fun (s8 : Int × Bool × (List Int)) => none) id))
def p_rings_left_while2_c (v_upper : (List Int)) (v_lower : (List Int)) (v_pegs : Int) (s_2 : (List Int) × Int) : Option Bool :=
  (some (decide (s_2.2 ∈ s_2.1)))
def p_rings_left_while2 (v_upper : (List Int)) (v_lower : (List Int)) (v_pegs : Int) (s_2 : (List Int) × Int) : Option ((List Int) × Int) :=
  (Option.bind (rem? s_2.1 s_2.2) fun u7 => (Option.bind (atI v_lower s_2.2) fun u8 => (Option.bind (rem? u7 u8) fun u9 => (Option.bind (atI v_upper (v_pegs + u8)) fun u10 => (Option.bind (some ((u10 - v_pegs) : Int)) fun v_peg_11 => (some (u9, v_peg_11)))))))
def p_rings_left_while1_c (v_upper : (List Int)) (v_lower : (List Int)) (v_pegs : Int) (s_1 : Int × (List Int)) : Option Bool :=
  (some (!(decide (s_1.2 = ([] : (List Int))))))
def p_rings_left_while1 (v_upper : (List Int)) (v_lower : (List Int)) (v_pegs : Int) (s_1 : Int × (List Int)) : Option (Int × (List Int)) :=
  (Option.bind (some ((s_1.1 + (1 : Int)) : Int)) fun v_found_5 => (Option.bind (atI s_1.2 (0 : Int)) fun u6 => (Option.bind (whS (p_rings_left_while2_c v_upper v_lower v_pegs) (p_rings_left_while2 v_upper v_lower v_pegs) fuel (s_1.2, u6)) fun (s12 : (List Int) × Int) => (some (v_found_5, s12.1)))))
def p_rings_left (v_upper : (List Int)) (v_lower : (List Int)) (v_seen : (List Int)) : Option Int :=
  (Option.bind (some (((v_upper.length : Int) / (2 : Int)) : Int)) fun v_pegs_1 => (Option.bind (grd (rngOk v_pegs_1)) fun g2 => (Option.bind (some ((((rng 0 v_pegs_1).filter fun (x3 : Int) => (!(decide (x3 ∈ v_seen)))).map fun (x3 : Int) => x3) : (List Int))) fun v_left_4 => (Option.bind (whS (p_rings_left_while1_c v_upper v_lower v_pegs_1) (p_rings_left_while1 v_upper v_lower v_pegs_1) fuel ((0 : Int), v_left_4)) fun (s13 : Int × (List Int)) => (some s13.1)))))
def p_put_together_for1 (v_upper : (List Int)) (v_lower : (List Int)) (v_pegs : Int) (s_1 : (List Int) × (List Int)) (x3 : Int) : Option ((List Int) × (List Int)) :=
  (Option.bind (p_followed v_upper v_lower x3 (decide (x3 ≥ v_pegs))) fun u4 => (Option.bind (app? s_1.1 u4.1) fun u5 => (Option.bind (ext? s_1.2 u4.2) fun u6 => (some (u5, u6)))))
def p_put_together (v_upper : (List Int)) (v_lower : (List Int)) : Option ((List Int) × Int) :=
  (Option.bind (some (((v_upper.length : Int) / (2 : Int)) : Int)) fun v_pegs_1 => (Option.bind (grd (rngOk ((2 : Int) * v_pegs_1))) fun g2 => (Option.bind (forS (p_put_together_for1 v_upper v_lower v_pegs_1) (([] : (List Int)), ([] : (List Int))) (rng 0 ((2 : Int) * v_pegs_1))) fun (s7 : (List Int) × (List Int)) => (Option.bind (p_rings_left v_upper v_lower s7.2) fun u8 => (some (s7.1, u8))))))
def p_stacked_for1  (s_1 : Unit) (x2 : (List Int)) : Option (Unit) :=
  (Option.bind (p_ask_frame x2) fun u3 => (some ()))
def p_stacked_for2 (v_pegs : Int) (s_2 : Unit) (x5 : (List Int)) : Option (Unit) :=
  (if (!(decide ((x5.length : Int) = ((2 : Int) * v_pegs)))) = true then none else (some ()))
def p_stacked_for3  (s_3 : (List Int) × Int) (x7 : (List Int)) : Option ((List Int) × Int) :=
  (Option.bind (p_put_together s_3.1 x7) fun u8 => (Option.bind (some ((s_3.2 + u8.2) : Int)) fun v_rings_9 => (some (u8.1, v_rings_9))))
def p_stacked (v_pegs : Int) (v_frames : (List (List Int))) : Option ((List Int) × Int) :=
  (Option.bind (p_plain v_pegs) fun u1 => (Option.bind (forS p_stacked_for1 () v_frames) fun (s4 : Unit) => (Option.bind (forS (p_stacked_for2 v_pegs) () v_frames) fun (s6 : Unit) => (Option.bind (forS p_stacked_for3 (u1, (0 : Int)) v_frames) fun (s10 : (List Int) × Int) => (some (s10.1, s10.2))))))
def x_stacked_for1  (s_1 : Unit) (x2 : (List Int)) : Option ((Unit) ⊕ (Except Exn ((List Int) × Int))) :=
  (bindX (x_ask_frame x2) (fun e => Sum.inr (Except.error e)) fun u3 => (some (Sum.inl ())))
def x_stacked_for2 (v_pegs : Int) (s_2 : Unit) (x5 : (List Int)) : Option ((Unit) ⊕ (Except Exn ((List Int) × Int))) :=
  (if (!(decide ((x5.length : Int) = ((2 : Int) * v_pegs)))) = true then ((some ((Except.error (α := ((List Int) × Int))) (exc "BadPegs")))).map Sum.inr else (some (Sum.inl ())))
def x_stacked_for3  (s_3 : (List Int) × Int) (x7 : (List Int)) : Option ((List Int) × Int) :=
  (Option.bind (p_put_together s_3.1 x7) fun u8 => (Option.bind (some ((s_3.2 + u8.2) : Int)) fun v_rings_9 => (some (u8.1, v_rings_9))))
def x_stacked (v_pegs : Int) (v_frames : (List (List Int))) : Option (Except Exn ((List Int) × Int)) :=
  (bindX (x_plain v_pegs) (Except.error (α := ((List Int) × Int))) fun u1 => (bindR (R := (Except Exn ((List Int) × Int))) (forR x_stacked_for1 () v_frames) (fun (s4 : Unit) => (bindR (R := (Except Exn ((List Int) × Int))) (forR (x_stacked_for2 v_pegs) () v_frames) (fun (s6 : Unit) => (Option.bind (forS x_stacked_for3 (u1, (0 : Int)) v_frames) fun (s10 : (List Int) × Int) => (some (Except.ok (s10.1, s10.2))))) id)) id))
def p_ask_hook (v_pegs : Int) (v_number : Int) : Option Unit :=
  (if (!((decide ((0 : Int) ≤ v_number)) && (decide (v_number < (v_pegs - (1 : Int)))))) = true then none else (some ()))
def x_ask_hook (v_pegs : Int) (v_number : Int) : Option (Except Exn Unit) :=
  (if (!((decide ((0 : Int) ≤ v_number)) && (decide (v_number < (v_pegs - (1 : Int)))))) = true then (some ((Except.error (α := Unit)) (exc "BadHook"))) else (some (Except.ok ())))
def p_ask_row_for1 (v_pegs : Int) (s_1 : Unit) (x2 : Int) : Option (Unit) :=
  (Option.bind (p_ask_hook v_pegs x2) fun u3 => (some ()))
def p_ask_row (v_pegs : Int) (v_row : (List Int)) : Option Unit :=
  (Option.bind (p_ask_pegs v_pegs) fun u1 => (Option.bind (forS (p_ask_row_for1 v_pegs) () v_row) fun (s4 : Unit) => (some ())))
def x_ask_row_for1 (v_pegs : Int) (s_1 : Unit) (x2 : Int) : Option ((Unit) ⊕ Exn) :=
  (bindX (x_ask_hook v_pegs x2) Sum.inr fun u3 => (some (Sum.inl ())))
def x_ask_row (v_pegs : Int) (v_row : (List Int)) : Option (Except Exn Unit) :=
  (bindX (x_ask_pegs v_pegs) (Except.error (α := Unit)) fun u1 => (bindR (R := Exn) (forR (x_ask_row_for1 v_pegs) () v_row) (fun (s4 : Unit) => (some (Except.ok ()))) (Except.error (α := Unit))))
def p_hook_for1  (s_1 : (List Int)) (x4 : Int) : Option ((List Int)) :=
  (Option.bind (set? s_1 x4 (x4 + (1 : Int))) fun u5 => (Option.bind (set? u5 (x4 + (1 : Int)) x4) fun u6 => (some u6)))
def p_hook (v_pegs : Int) (v_number : Int) : Option (List Int) :=
  (Option.bind (p_ask_pegs v_pegs) fun u1 => (Option.bind (p_ask_hook v_pegs v_number) fun u2 => (Option.bind (p_plain v_pegs) fun u3 => (Option.bind (forS p_hook_for1 u3 [v_number, (v_pegs + v_number)]) fun (s7 : (List Int)) => (some s7)))))
def p_hook_hooks_for1  (s_1 : (List Int)) (x4 : Int) : Option ((List Int)) :=
  (Option.bind (set? s_1 x4 (x4 + (1 : Int))) fun u5 => (Option.bind (set? u5 (x4 + (1 : Int)) x4) fun u6 => (some u6)))
def p_hook_hooks (v_pegs : Int) (v_number : Int) : Option (List Int) :=
  (Option.bind (p_ask_pegs v_pegs) fun u1 => (Option.bind (p_ask_hook v_pegs v_number) fun u2 => (Option.bind (p_plain v_pegs) fun u3 => (Option.bind (forS p_hook_hooks_for1 u3 [v_number, (v_pegs + v_number)]) fun (s7 : (List Int)) => (some s7)))))
def x_hook_hooks_for1  (s_1 : (List Int)) (x4 : Int) : Option ((List Int)) :=
  (Option.bind (set? s_1 x4 (x4 + (1 : Int))) fun u5 => (Option.bind (set? u5 (x4 + (1 : Int)) x4) fun u6 => (some u6)))
def x_hook_hooks (v_pegs : Int) (v_number : Int) : Option (Except Exn (List Int)) :=
  (bindX (x_ask_pegs v_pegs) (Except.error (α := (List Int))) fun u1 => (bindX (x_ask_hook v_pegs v_number) (Except.error (α := (List Int))) fun u2 => (Option.bind (p_plain v_pegs) fun u3 => (Option.bind (forS x_hook_hooks_for1 u3 [v_number, (v_pegs + v_number)]) fun (s7 : (List Int)) => (some (Except.ok s7))))))
def p_made_for1 (v_pegs : Int) (s_1 : (List Int) × Int) (x3 : Int) : Option ((List Int) × Int) :=
  (Option.bind (p_hook_hooks v_pegs x3) fun u4 => (Option.bind (p_put_together s_1.1 u4) fun u5 => (Option.bind (some ((s_1.2 + u5.2) : Int)) fun v_rings_6 => (some (u5.1, v_rings_6)))))
def p_made (v_pegs : Int) (v_row : (List Int)) : Option ((List Int) × Int) :=
  (Option.bind (p_ask_row v_pegs v_row) fun u1 => (Option.bind (p_plain v_pegs) fun u2 => (Option.bind (forS (p_made_for1 v_pegs) (u2, (0 : Int)) v_row) fun (s7 : (List Int) × Int) => (some (s7.1, s7.2)))))
def x_made_for1 (v_pegs : Int) (s_1 : (List Int) × Int) (x3 : Int) : Option (((List Int) × Int) ⊕ (Except Exn ((List Int) × Int))) :=
  (Option.bind (p_hook_hooks v_pegs x3) fun u4 => (Option.bind (p_put_together s_1.1 u4) fun u5 => (Option.bind (some ((s_1.2 + u5.2) : Int)) fun v_rings_6 => (some (Sum.inl (u5.1, v_rings_6))))))
def x_made (v_pegs : Int) (v_row : (List Int)) : Option (Except Exn ((List Int) × Int)) :=
  (bindX (x_ask_row v_pegs v_row) (Except.error (α := ((List Int) × Int))) fun u1 => (Option.bind (p_plain v_pegs) fun u2 => (bindR (R := (Except Exn ((List Int) × Int))) (forR (x_made_for1 v_pegs) (u2, (0 : Int)) v_row) (fun (s7 : (List Int) × Int) => (some (Except.ok (s7.1, s7.2)))) id)))
def p_ways_on_for1  (s_1 : (List Int)) (x3 : Int) : Option ((List Int)) :=
  (Option.bind (grd ((s_1 ++ ([(0 : Int), (0 : Int)])).length ≤ lim)) fun g4 => (Option.bind (some ((s_1 ++ ([(0 : Int), (0 : Int)])) : (List Int))) fun v_more_5 => (Option.bind (grd (rngOk ((s_1.length : Int) + (1 : Int)))) fun g6 => (Option.bind (compM (fun (x7 : Int) => (some true)) (fun (x7 : Int) => (Option.bind (atI v_more_5 (x7 + (1 : Int))) fun u8 => (Option.bind (if (decide (x7 > (0 : Int))) = true then (Option.bind (atI v_more_5 (x7 - (1 : Int))) fun u9 => (some u9)) else (some (0 : Int))) fun c10 => (some (u8 + c10))))) (rng 0 ((s_1.length : Int) + (1 : Int)))) fun u11 => (some u11)))))
def p_ways_on (v_left : Int) : Option (List Int) :=
  (Option.bind (some (([(1 : Int)]) : (List Int))) fun v_ways_1 => (Option.bind (grd (rngOk v_left)) fun g2 => (Option.bind (forS p_ways_on_for1 v_ways_1 (rng 0 v_left)) fun (s12 : (List Int)) => (Option.bind (grd ((s12 ++ ([(0 : Int), (0 : Int)])).length ≤ lim)) fun g13 => (some (s12 ++ ([(0 : Int), (0 : Int)])))))))
def p_how_many (v_pegs : Int) : Option Int :=
  (Option.bind (p_ask_pegs v_pegs) fun u1 => (Option.bind (p_ways_on ((2 : Int) * v_pegs)) fun u2 => (Option.bind (atI u2 (0 : Int)) fun u3 => (some u3))))
def x_how_many (v_pegs : Int) : Option (Except Exn Int) :=
  (bindX (x_ask_pegs v_pegs) (Except.error (α := Int)) fun u1 => (Option.bind (p_ways_on ((2 : Int) * v_pegs)) fun u2 => (Option.bind (atI u2 (0 : Int)) fun u3 => (some (Except.ok u3)))))
def p_numbered_for1 (v_pegs : Int) (s_1 : Int × Str × Int) (x5 : Int) : Option (Int × Str × Int) :=
  (Option.bind (p_ways_on ((((2 : Int) * v_pegs) - x5) - (1 : Int))) fun u6 => (Option.bind (if (decide ((s_1.2.2 + (1 : Int)) < (u6.length : Int))) = true then (Option.bind (atI u6 (s_1.2.2 + (1 : Int))) fun u8 => (some u8)) else (some (0 : Int))) fun (s7 : Int) => (if (decide (s_1.1 < s7)) = true then (Option.bind (grd (s_1.2.1.length + (Str.ofString "(").length ≤ lim)) fun g9 => (Option.bind (some ((s_1.2.1 ++ (Str.ofString "(")) : Str)) fun v_text_10 => (Option.bind (some ((s_1.2.2 + (1 : Int)) : Int)) fun v_deep_11 => (some (s_1.1, v_text_10, v_deep_11))))) else (Option.bind (some ((s_1.1 - s7) : Int)) fun v_number_12 => (Option.bind (grd (s_1.2.1.length + (Str.ofString ")").length ≤ lim)) fun g13 => (Option.bind (some ((s_1.2.1 ++ (Str.ofString ")")) : Str)) fun v_text_14 => (Option.bind (some ((s_1.2.2 - (1 : Int)) : Int)) fun v_deep_15 => (some (v_number_12, v_text_14, v_deep_15)))))))))
def p_numbered (v_pegs : Int) (v_number : Int) : Option (List Int) :=
  (Option.bind (p_ask_pegs v_pegs) fun u1 => (Option.bind (if (decide ((0 : Int) ≤ v_number)) = true then (Option.bind (p_how_many v_pegs) fun u2 => (some u2)).map ((fun i j => decide (i < j)) v_number) else some false) fun c3 => (if (!c3) = true then none else (Option.bind (grd (rngOk ((2 : Int) * v_pegs))) fun g4 => (Option.bind (forS (p_numbered_for1 v_pegs) (v_number, (Str.ofString ""), (0 : Int)) (rng 0 ((2 : Int) * v_pegs))) fun (s16 : Int × Str × Int) => (Option.bind (p_from_brackets s16.2.1) fun u17 => (some u17)))))))
def x_numbered_for1 (v_pegs : Int) (s_1 : Int × Str × Int) (x5 : Int) : Option (Int × Str × Int) :=
  (Option.bind (p_ways_on ((((2 : Int) * v_pegs) - x5) - (1 : Int))) fun u6 => (Option.bind (if (decide ((s_1.2.2 + (1 : Int)) < (u6.length : Int))) = true then (Option.bind (atI u6 (s_1.2.2 + (1 : Int))) fun u8 => (some u8)) else (some (0 : Int))) fun (s7 : Int) => (if (decide (s_1.1 < s7)) = true then (Option.bind (grd (s_1.2.1.length + (Str.ofString "(").length ≤ lim)) fun g9 => (Option.bind (some ((s_1.2.1 ++ (Str.ofString "(")) : Str)) fun v_text_10 => (Option.bind (some ((s_1.2.2 + (1 : Int)) : Int)) fun v_deep_11 => (some (s_1.1, v_text_10, v_deep_11))))) else (Option.bind (some ((s_1.1 - s7) : Int)) fun v_number_12 => (Option.bind (grd (s_1.2.1.length + (Str.ofString ")").length ≤ lim)) fun g13 => (Option.bind (some ((s_1.2.1 ++ (Str.ofString ")")) : Str)) fun v_text_14 => (Option.bind (some ((s_1.2.2 - (1 : Int)) : Int)) fun v_deep_15 => (some (v_number_12, v_text_14, v_deep_15)))))))))
def x_numbered (v_pegs : Int) (v_number : Int) : Option (Except Exn (List Int)) :=
  (bindX (x_ask_pegs v_pegs) (Except.error (α := (List Int))) fun u1 => (Option.bind (if (decide ((0 : Int) ≤ v_number)) = true then (Option.bind (p_how_many v_pegs) fun u2 => (some u2)).map ((fun i j => decide (i < j)) v_number) else some false) fun c3 => (if (!c3) = true then (some ((Except.error (α := (List Int))) (exc "NoNumber"))) else (Option.bind (grd (rngOk ((2 : Int) * v_pegs))) fun g4 => (Option.bind (forS (x_numbered_for1 v_pegs) (v_number, (Str.ofString ""), (0 : Int)) (rng 0 ((2 : Int) * v_pegs))) fun (s16 : Int × Str × Int) => (Option.bind (p_from_brackets s16.2.1) fun u17 => (some (Except.ok u17))))))))
def p_every (v_pegs : Int) : Option (List (List Int)) :=
  (Option.bind (p_ask_pegs v_pegs) fun u1 => (if (decide (v_pegs > (6 : Int))) = true then none else (Option.bind (p_how_many v_pegs) fun u2 => (Option.bind (grd (rngOk u2)) fun g3 => (Option.bind (compM (fun (x4 : Int) => (some true)) (fun (x4 : Int) => (Option.bind (p_numbered v_pegs x4) fun u5 => (some u5))) (rng 0 u2)) fun u6 => (some u6))))))
def x_every (v_pegs : Int) : Option (Except Exn (List (List Int))) :=
  (bindX (x_ask_pegs v_pegs) (Except.error (α := (List (List Int)))) fun u1 => (if (decide (v_pegs > (6 : Int))) = true then (some ((Except.error (α := (List (List Int)))) (exc "BadPegs"))) else (Option.bind (p_how_many v_pegs) fun u2 => (Option.bind (grd (rngOk u2)) fun g3 => (Option.bind (compM (fun (x4 : Int) => (some true)) (fun (x4 : Int) => (Option.bind (p_numbered v_pegs x4) fun u5 => (some u5))) (rng 0 u2)) fun u6 => (some (Except.ok u6)))))))
def p_texts_for2 (v_through : Int) (s_2 : (List (Str × Int × Int))) (x4 : (Str × Int × Int)) : Option ((List (Str × Int × Int))) :=
  (Option.bind (grd (x4.1.length + (Str.ofString "(").length ≤ lim)) fun g5 => (Option.bind (app? s_2 ((x4.1 ++ (Str.ofString "(")), (x4.2.1 + (1 : Int)), x4.2.2)) fun u6 => (if (decide (x4.2.1 > (0 : Int))) = true then (Option.bind (grd (x4.1.length + (Str.ofString ")").length ≤ lim)) fun g7 => (Option.bind (app? u6 ((x4.1 ++ (Str.ofString ")")), (x4.2.1 - (1 : Int)), x4.2.2)) fun u8 => (some u8))) else (if (decide (x4.2.2 < v_through)) = true then (Option.bind (grd (x4.1.length + (Str.ofString "|").length ≤ lim)) fun g9 => (Option.bind (app? u6 ((x4.1 ++ (Str.ofString "|")), x4.2.1, (x4.2.2 + (1 : Int)))) fun u10 => (some u10))) else (some u6)))))
def p_texts_for1 (v_through : Int) (s_1 : (List (Str × Int × Int))) (x3 : Int) : Option ((List (Str × Int × Int))) :=
  (Option.bind (forS (p_texts_for2 v_through) ([] : (List (Str × Int × Int))) s_1) fun (s11 : (List (Str × Int × Int))) => (some s11))
def p_texts (v_pegs : Int) (v_through : Int) : Option (List Str) :=
  (Option.bind (some (([((Str.ofString ""), (0 : Int), (0 : Int))]) : (List (Str × Int × Int)))) fun v_found_1 => (Option.bind (grd (rngOk v_pegs)) fun g2 => (Option.bind (forS (p_texts_for1 v_through) v_found_1 (rng 0 v_pegs)) fun (s12 : (List (Str × Int × Int))) => (some ((s12.filter fun (x13 : (Str × Int × Int)) => ((decide (x13.2.1 = (0 : Int))) && (decide (x13.2.2 = v_through)))).map fun (x13 : (Str × Int × Int)) => x13.1)))))
def p_half_in_for1  (s_1 : (List Int) × (List Int)) (x3 : (Int × Str)) : Option ((List Int) × (List Int)) :=
  (if (decide (x3.2 = (Str.ofString "("))) = true then (Option.bind (app? s_1.2 x3.1) fun u4 => (some (s_1.1, u4))) else (if (decide (x3.2 = (Str.ofString ")"))) = true then (Option.bind (pop? s_1.2) fun u5 => (Option.bind (set? s_1.1 x3.1 u5.1) fun u6 => (Option.bind (set? u6 u5.1 x3.1) fun u7 => (some (u7, u5.2))))) else (some (s_1.1, s_1.2))))
def p_half_in (v_text : Str) : Option (List Int) :=
  (Option.bind (grd (rngOk (v_text.length : Int))) fun g1 => (Option.bind (some ((rng 0 (v_text.length : Int)) : (List Int))) fun v_found_2 => (Option.bind (forS p_half_in_for1 (v_found_2, ([] : (List Int))) (enumI (chrs v_text))) fun (s8 : (List Int) × (List Int)) => (some s8.1))))
def p_halves (v_pegs : Int) (v_through : Int) : Option (List (List Int)) :=
  (Option.bind (p_texts v_pegs v_through) fun u1 => (Option.bind (compM (fun (x2 : Str) => (some true)) (fun (x2 : Str) => (Option.bind (p_half_in x2) fun u3 => (some u3))) u1) fun u4 => (Option.bind (grd (alike u4 = true)) fun g5 => (some (sortC u4)))))
def p_how_many_halves (v_pegs : Int) (v_through : Int) : Option Int :=
  (Option.bind (p_ask_pegs v_pegs) fun u1 => (Option.bind (p_halves v_pegs v_through) fun u2 => (some (u2.length : Int))))
def x_how_many_halves (v_pegs : Int) (v_through : Int) : Option (Except Exn Int) :=
  (bindX (x_ask_pegs v_pegs) (Except.error (α := Int)) fun u1 => (Option.bind (p_halves v_pegs v_through) fun u2 => (some (Except.ok (u2.length : Int)))))
def p_half_of (v_pegs : Int) (v_through : Int) (v_number : Int) : Option (List Int) :=
  (Option.bind (p_ask_pegs v_pegs) fun u1 => (Option.bind (p_halves v_pegs v_through) fun u2 => (if (!((decide ((0 : Int) ≤ v_number)) && (decide (v_number < (u2.length : Int))))) = true then none else (Option.bind (atI u2 v_number) fun u3 => (some u3)))))
def x_half_of (v_pegs : Int) (v_through : Int) (v_number : Int) : Option (Except Exn (List Int)) :=
  (bindX (x_ask_pegs v_pegs) (Except.error (α := (List Int))) fun u1 => (Option.bind (p_halves v_pegs v_through) fun u2 => (if (!((decide ((0 : Int) ≤ v_number)) && (decide (v_number < (u2.length : Int))))) = true then (some ((Except.error (α := (List Int))) (exc "NoNumber"))) else (Option.bind (atI u2 v_number) fun u3 => (some (Except.ok u3))))))
def p_beside (v_one : Int) (v_other : Int) : Option Bool :=
  (some (decide ((if (v_one - v_other) < 0 then -(v_one - v_other) else (v_one - v_other)) = (1 : Int))))
def p_swapped (v_row : (List Int)) (v_at : Int) : Option (Option (List Int)) :=
  (Option.bind (Option.bind (some (!((decide ((0 : Int) ≤ v_at)) && (decide (v_at < ((v_row.length : Int) - (1 : Int))))))) fun a => if a = true then some true else (Option.bind (atI v_row v_at) fun u1 => (Option.bind (atI v_row (v_at + (1 : Int))) fun u2 => (some (decide ((if (u1 - u2) < 0 then -(u1 - u2) else (u1 - u2)) < (2 : Int))))))) fun c3 => (if c3 = true then (some none) else (Option.bind (atI v_row (v_at + (1 : Int))) fun u4 => (Option.bind (atI v_row v_at) fun u5 => (Option.bind (grd (((cutA v_row none (some v_at)) ++ ([u4, u5])).length ≤ lim)) fun g6 => (Option.bind (grd ((((cutA v_row none (some v_at)) ++ ([u4, u5])) ++ (cutA v_row (some (v_at + (2 : Int))) none)).length ≤ lim)) fun g7 => (some (some (((cutA v_row none (some v_at)) ++ ([u4, u5])) ++ (cutA v_row (some (v_at + (2 : Int))) none))))))))))
def p_dropped (v_row : (List Int)) (v_at : Int) : Option (Option (List Int)) :=
  (Option.bind (Option.bind (some (!((decide ((0 : Int) ≤ v_at)) && (decide (v_at < ((v_row.length : Int) - (1 : Int))))))) fun a => if a = true then some true else (Option.bind (atI v_row v_at) fun u1 => (Option.bind (atI v_row (v_at + (1 : Int))) fun u2 => (some (!(decide (u1 = u2))))))) fun c3 => (if c3 = true then (some none) else (Option.bind (grd (((cutA v_row none (some v_at)) ++ (cutA v_row (some (v_at + (1 : Int))) none)).length ≤ lim)) fun g4 => (some (some ((cutA v_row none (some v_at)) ++ (cutA v_row (some (v_at + (1 : Int))) none)))))))
def p_cut (v_row : (List Int)) (v_at : Int) : Option (Option (List Int)) :=
  (Option.bind (Option.bind (some (!((decide ((0 : Int) ≤ v_at)) && (decide (v_at < ((v_row.length : Int) - (2 : Int))))))) fun a => if a = true then some true else (Option.bind (Option.bind (atI v_row v_at) fun u1 => (Option.bind (atI v_row (v_at + (2 : Int))) fun u2 => (some (!(decide (u1 = u2)))))) fun a => if a = true then some true else (Option.bind (atI v_row v_at) fun u3 => (Option.bind (atI v_row (v_at + (1 : Int))) fun u4 => (Option.bind (p_beside u3 u4) fun u5 => (some (!u5))))))) fun c6 => (if c6 = true then (some none) else (Option.bind (grd (((cutA v_row none (some (v_at + (1 : Int)))) ++ (cutA v_row (some (v_at + (3 : Int))) none)).length ≤ lim)) fun g7 => (some (some ((cutA v_row none (some (v_at + (1 : Int)))) ++ (cutA v_row (some (v_at + (3 : Int))) none)))))))
def p_grown (v_pegs : Int) (v_row : (List Int)) (v_at : Int) (v_number : Int) : Option (Option (List Int)) :=
  (Option.bind (Option.bind (some (!((decide ((0 : Int) ≤ v_at)) && (decide (v_at < (v_row.length : Int)))))) fun a => if a = true then some true else (Option.bind (some (!((decide ((0 : Int) ≤ v_number)) && (decide (v_number < (v_pegs - (1 : Int))))))) fun a => if a = true then some true else (Option.bind (atI v_row v_at) fun u1 => (Option.bind (p_beside u1 v_number) fun u2 => (some (!u2)))))) fun c3 => (if c3 = true then (some none) else (Option.bind (atI v_row v_at) fun u4 => (Option.bind (grd (((cutA v_row none (some (v_at + (1 : Int)))) ++ ([v_number, u4])).length ≤ lim)) fun g5 => (Option.bind (grd ((((cutA v_row none (some (v_at + (1 : Int)))) ++ ([v_number, u4])) ++ (cutA v_row (some (v_at + (1 : Int))) none)).length ≤ lim)) fun g6 => (some (some (((cutA v_row none (some (v_at + (1 : Int)))) ++ ([v_number, u4])) ++ (cutA v_row (some (v_at + (1 : Int))) none)))))))))
def p_behind (v_pegs : Int) (v_rings : Int) (v_row : (List Int)) (v_trade : PyData) : Option (Int × (Option (List Int))) :=
  (Option.bind (lenD v_trade) fun u1 => (Option.bind (Option.bind (some (decide (u1 = (3 : Int)))) fun a => if a = true then (Option.bind (ixDc v_trade (0 : Int)) fun u2 => (Option.bind (decS u2) fun u3 => (some (decide (u3 = (Str.ofString "grow")))))) else some false) fun c4 => (if c4 = true then (Option.bind (ixDc v_trade (1 : Int)) fun u5 => (Option.bind (ixDc v_trade (2 : Int)) fun u6 => (Option.bind (decI u5) fun u7 => (Option.bind (decI u6) fun u8 => (Option.bind (p_grown v_pegs v_row u7 u8) fun u9 => (some (v_rings, u9))))))) else (Option.bind (lenD v_trade) fun u10 => (if (!(decide (u10 = (2 : Int)))) = true then (some (v_rings, (none : (Option (List Int))))) else (Option.bind (ixDc v_trade (1 : Int)) fun u11 => (Option.bind (ixDc v_trade (0 : Int)) fun u12 => (Option.bind (decS u12) fun u13 => (if (decide (u13 = (Str.ofString "swap"))) = true then (Option.bind (decI u11) fun u14 => (Option.bind (p_swapped v_row u14) fun u15 => (some (v_rings, u15)))) else (Option.bind (ixDc v_trade (0 : Int)) fun u16 => (Option.bind (decS u16) fun u17 => (if (decide (u17 = (Str.ofString "drop"))) = true then (Option.bind (decI u11) fun u18 => (Option.bind (p_dropped v_row u18) fun u19 => (some ((v_rings + (1 : Int)), u19)))) else (Option.bind (ixDc v_trade (0 : Int)) fun u20 => (Option.bind (decS u20) fun u21 => (if (decide (u21 = (Str.ofString "cut"))) = true then (Option.bind (decI u11) fun u22 => (Option.bind (p_cut v_row u22) fun u23 => (some (v_rings, u23)))) else (Option.bind (ixDc v_trade (0 : Int)) fun u24 => (Option.bind (decS u24) fun u25 => (Option.bind (Option.bind (some (decide (u25 = (Str.ofString "double")))) fun a => if a = true then (Option.bind (some (decide (v_rings > (0 : Int)))) fun a => if a = true then (Option.bind (decI u11) fun u26 => (some ((decide ((0 : Int) ≤ u26)) && (decide (u26 < (v_row.length : Int)))))) else some false) else some false) fun c27 => (if c27 = true then (Option.bind (decI u11) fun u28 => (Option.bind (decI u11) fun u29 => (Option.bind (grd (((cutA v_row none (some (u28 + (1 : Int)))) ++ (cutA v_row (some u29) none)).length ≤ lim)) fun g30 => (some ((v_rings - (1 : Int)), (some ((cutA v_row none (some (u28 + (1 : Int)))) ++ (cutA v_row (some u29) none)))))))) else (some (v_rings, (none : (Option (List Int))))))))))))))))))))))))
def p_walked_for1 (v_pegs : Int) (s_1 : (Int × (Option (List Int)))) (x3 : (Int × PyData)) : Option ((Int × (Option (List Int)))) :=
  (Option.bind s_1.2 fun u4 => (Option.bind (p_behind v_pegs s_1.1 u4 x3.2) fun u5 => (if u5.2.isNone = true then none else (some u5))))
def p_walked (v_pegs : Int) (v_rings : Int) (v_row : (List Int)) (v_trades : (List PyData)) : Option (Int × (Option (List Int))) :=
  (Option.bind (p_ask_row v_pegs v_row) fun u1 => (Option.bind (some ((v_rings, (some v_row)) : (Int × (Option (List Int))))) fun v_found_2 => (Option.bind (forS (p_walked_for1 v_pegs) v_found_2 (enumI v_trades)) fun (s6 : (Int × (Option (List Int)))) => (some s6))))
def x_walked_for1 (v_pegs : Int) (s_1 : (Int × (Option (List Int)))) (x3 : (Int × PyData)) : Option (((Int × (Option (List Int)))) ⊕ (Except Exn (Int × (Option (List Int))))) :=
  (Option.bind s_1.2 fun u4 => (Option.bind (p_behind v_pegs s_1.1 u4 x3.2) fun u5 => (if u5.2.isNone = true then ((some ((Except.error (α := (Int × (Option (List Int))))) ⟨"BadTrade", some ("at", PyData.int x3.1)⟩))).map Sum.inr else (some (Sum.inl u5)))))
def x_walked (v_pegs : Int) (v_rings : Int) (v_row : (List Int)) (v_trades : (List PyData)) : Option (Except Exn (Int × (Option (List Int)))) :=
  (bindX (x_ask_row v_pegs v_row) (Except.error (α := (Int × (Option (List Int))))) fun u1 => (Option.bind (some ((v_rings, (some v_row)) : (Int × (Option (List Int))))) fun v_found_2 => (bindR (R := (Except Exn (Int × (Option (List Int))))) (forR (x_walked_for1 v_pegs) v_found_2 (enumI v_trades)) (fun (s6 : (Int × (Option (List Int)))) => (some (Except.ok s6))) id)))
def p_traded (v_pegs : Int) (v_rings : Int) (v_row : (List Int)) (v_trade : PyData) : Option (Int × (Option (List Int))) :=
  (Option.bind (p_walked v_pegs v_rings v_row ([v_trade])) fun u1 => (some u1))
def x_traded (v_pegs : Int) (v_rings : Int) (v_row : (List Int)) (v_trade : PyData) : Option (Except Exn (Int × (Option (List Int)))) :=
  (bindX (x_walked v_pegs v_rings v_row ([v_trade])) (Except.error (α := (Int × (Option (List Int))))) fun u1 => (some (Except.ok u1)))
def p_like_ahead_for1 (v_row : (List Int)) (v_last : Int) (s_1 : (List Int)) (x2 : Int) : Option (((List Int)) ⊕ (Option (Int × (List Int)))) :=
  (Option.bind (atI v_row x2) fun u3 => (Option.bind (atI v_row v_last) fun u4 => (if (decide (u3 = u4)) = true then ((some (some (x2, s_1)))).map Sum.inr else (Option.bind (atI v_row x2) fun u5 => (Option.bind (atI v_row v_last) fun u6 => (Option.bind (p_beside u5 u6) fun u7 => (if u7 = true then (Option.bind (app? s_1 x2) fun u8 => (some (Sum.inl u8))) else (some (Sum.inl s_1)))))))))
def p_like_ahead (v_row : (List Int)) (v_last : Int) : Option (Option (Int × (List Int))) :=
  (Option.bind (grd (rngOk (v_last - (1 : Int)))) fun g1 => (bindR (R := (Option (Int × (List Int)))) (forR (p_like_ahead_for1 v_row v_last) ([] : (List Int)) (rng3 (v_last - (1 : Int)) (-(1 : Int)) (-(1 : Int)))) (fun (s9 : (List Int)) => (some none)) id))
def p_fold_for1 (v_row : (List Int)) (s_1 : Unit) (x2 : Int) : Option ((Unit) ⊕ (Option (Int × Int × (List Int)))) :=
  (Option.bind (p_like_ahead v_row x2) fun u3 => (Option.bind (Option.bind (some (!u3.isNone)) fun a => if a = true then (Option.bind u3 fun u4 => (some (decide ((u4.2.length : Int) < (2 : Int))))) else some false) fun c5 => (if c5 = true then ((Option.bind u3 fun u6 => (Option.bind u3 fun u7 => (some (some (u6.1, x2, u7.2)))))).map Sum.inr else (some (Sum.inl ())))))
def p_fold (v_row : (List Int)) : Option (Option (Int × Int × (List Int))) :=
  (Option.bind (grd (rngOk (v_row.length : Int))) fun g1 => (bindR (R := (Option (Int × Int × (List Int)))) (forR (p_fold_for1 v_row) () (rng 0 (v_row.length : Int))) (fun (s8 : Unit) => (some none)) id))
def p_folding (v_first : Int) (v_last : Int) (v_between : (List Int)) : Option (List PyData) :=
  (if (decide (v_between = ([] : (List Int)))) = true then (Option.bind (grd (rngOk (v_last - (1 : Int)))) fun g1 => (Option.bind (grd (rngOk v_first)) fun g2 => (Option.bind (grd ((((rng3 (v_last - (1 : Int)) v_first (-(1 : Int))).map fun (x3 : Int) => ((eP PyData.str PyData.int) ((Str.ofString "swap"), x3))) ++ ([((eP PyData.str PyData.int) ((Str.ofString "drop"), v_first))])).length ≤ lim)) fun g4 => (some (((rng3 (v_last - (1 : Int)) v_first (-(1 : Int))).map fun (x3 : Int) => ((eP PyData.str PyData.int) ((Str.ofString "swap"), x3))) ++ ([((eP PyData.str PyData.int) ((Str.ofString "drop"), v_first))])))))) else (Option.bind (atI v_between (0 : Int)) fun u5 => (Option.bind (grd (rngOk (v_last - (1 : Int)))) fun g6 => (Option.bind (grd (rngOk u5)) fun g7 => (Option.bind (some (((rng3 (v_last - (1 : Int)) u5 (-(1 : Int))).map fun (x8 : Int) => ((eP PyData.str PyData.int) ((Str.ofString "swap"), x8))) : (List PyData))) fun v_moves_9 => (Option.bind (grd (rngOk v_first)) fun g10 => (Option.bind (grd (rngOk (u5 - (1 : Int)))) fun g11 => (Option.bind (grd ((v_moves_9 ++ ((rng v_first (u5 - (1 : Int))).map fun (x12 : Int) => ((eP PyData.str PyData.int) ((Str.ofString "swap"), x12)))).length ≤ lim)) fun g13 => (Option.bind (grd (((v_moves_9 ++ ((rng v_first (u5 - (1 : Int))).map fun (x12 : Int) => ((eP PyData.str PyData.int) ((Str.ofString "swap"), x12)))) ++ ([((eP PyData.str PyData.int) ((Str.ofString "cut"), (u5 - (1 : Int))))])).length ≤ lim)) fun g14 => (some ((v_moves_9 ++ ((rng v_first (u5 - (1 : Int))).map fun (x12 : Int) => ((eP PyData.str PyData.int) ((Str.ofString "swap"), x12)))) ++ ([((eP PyData.str PyData.int) ((Str.ofString "cut"), (u5 - (1 : Int))))]))))))))))))
def p_out_of_order_for1 (v_row : (List Int)) (s_1 : Unit) (x2 : Int) : Option ((Unit) ⊕ (Option Int)) :=
  (Option.bind (atI v_row x2) fun u3 => (Option.bind (atI v_row (x2 + (1 : Int))) fun u4 => (if (decide (u3 > (u4 + (1 : Int)))) = true then ((some (some x2))).map Sum.inr else (some (Sum.inl ())))))
def p_out_of_order (v_row : (List Int)) : Option (Option Int) :=
  (Option.bind (grd (rngOk ((v_row.length : Int) - (1 : Int)))) fun g1 => (bindR (R := (Option Int)) (forR (p_out_of_order_for1 v_row) () (rng 0 ((v_row.length : Int) - (1 : Int)))) (fun (s5 : Unit) => (some none)) id))
def p_next_trades (v_row : (List Int)) : Option (List PyData) :=
  (Option.bind (p_fold v_row) fun u1 => (if (!u1.isNone) = true then (Option.bind u1 fun u2 => (Option.bind u1 fun u3 => (Option.bind u1 fun u4 => (Option.bind (p_folding u2.1 u3.2.1 u4.2.2) fun u5 => (some u5))))) else (Option.bind (p_out_of_order v_row) fun u6 => (if (!u6.isNone) = true then (some ([((eP PyData.str (eO PyData.int)) ((Str.ofString "swap"), u6))])) else (some ([] : (List PyData)))))))
def p_descent_for2 (v_pegs : Int) (s_2 : (List (Int × (Option (List Int))))) (x7 : PyData) : Option ((List (Int × (Option (List Int))))) :=
  (Option.bind (atI s_2 (-(1 : Int))) fun u8 => (Option.bind (atI s_2 (-(1 : Int))) fun u9 => (Option.bind u9.2 fun u10 => (Option.bind (p_behind v_pegs u8.1 u10 x7) fun u11 => (Option.bind (app? s_2 u11) fun u12 => (some u12))))))
def p_descent_while1_c (v_pegs : Int) (s_1 : (List (Int × (Option (List Int)))) × (List PyData) × (List PyData)) : Option Bool :=
  (Option.bind (grd (SeqAt.shaped ((eL eD) s_1.2.2) = true)) fun g5 => (Option.bind (grd (SeqAt.shaped ((eL eD) ([] : (List PyData))) = true)) fun g6 => (some (!(PyData.eqv ((eL eD) s_1.2.2) ((eL eD) ([] : (List PyData))))))))
def p_descent_while1 (v_pegs : Int) (s_1 : (List (Int × (Option (List Int)))) × (List PyData) × (List PyData)) : Option ((List (Int × (Option (List Int)))) × (List PyData) × (List PyData)) :=
  (Option.bind (forS (p_descent_for2 v_pegs) s_1.1 s_1.2.2) fun (s13 : (List (Int × (Option (List Int))))) => (Option.bind (grd ((s_1.2.1 ++ s_1.2.2).length ≤ lim)) fun g14 => (Option.bind (some ((s_1.2.1 ++ s_1.2.2) : (List PyData))) fun v_trades_15 => (Option.bind (atI s13 (-(1 : Int))) fun u16 => (Option.bind u16.2 fun u17 => (Option.bind (p_next_trades u17) fun u18 => (some (s13, v_trades_15, u18))))))))
def p_descent (v_pegs : Int) (v_pair : (Int × (List Int))) : Option ((List (Int × (Option (List Int)))) × (List PyData)) :=
  (Option.bind (some (([(v_pair.1, (some v_pair.2))]) : (List (Int × (Option (List Int)))))) fun v_pairs_1 => (Option.bind (atI v_pairs_1 (-(1 : Int))) fun u2 => (Option.bind u2.2 fun u3 => (Option.bind (p_next_trades u3) fun u4 => (Option.bind (whS (p_descent_while1_c v_pegs) (p_descent_while1 v_pegs) fuel (v_pairs_1, ([] : (List PyData)), u4)) fun (s19 : (List (Int × (Option (List Int)))) × (List PyData) × (List PyData)) => (some (s19.1, s19.2.1)))))))
def p_contrary (v_pair : (Int × (Option (List Int)))) (v_trade : PyData) : Option PyData :=
  (Option.bind (ixDc v_trade (0 : Int)) fun u1 => (Option.bind (decS u1) fun u2 => (if (decide (u2 = (Str.ofString "drop"))) = true then (Option.bind (ixDc v_trade (1 : Int)) fun u3 => (some ((eP PyData.str eD) ((Str.ofString "double"), u3)))) else (Option.bind (ixDc v_trade (0 : Int)) fun u4 => (Option.bind (decS u4) fun u5 => (if (decide (u5 = (Str.ofString "cut"))) = true then (Option.bind (ixDc v_trade (1 : Int)) fun u6 => (Option.bind v_pair.2 fun u7 => (Option.bind (ixDc v_trade (1 : Int)) fun u8 => (Option.bind (decI u8) fun u9 => (Option.bind (atI u7 (u9 + (1 : Int))) fun u10 => (some ((eP3 PyData.str eD PyData.int) ((Str.ofString "grow"), u6, u10)))))))) else (some v_trade)))))))
def p_bridge (v_pegs : Int) (v_one : (Int × (List Int))) (v_other : (Int × (List Int))) : Option (Option (List PyData)) :=
  (Option.bind (p_ask_pegs v_pegs) fun u1 => (Option.bind (p_made v_pegs v_one.2) fun u2 => (Option.bind (p_made v_pegs v_other.2) fun u3 => (if ((!(decide (u2.1 = u3.1))) || (!(decide ((v_one.1 + u2.2) = (v_other.1 + u3.2))))) = true then (some none) else (Option.bind (p_descent v_pegs v_other) fun u4 => (Option.bind (compM (fun (x5 : ((Int × (Option (List Int))) × PyData)) => (some true)) (fun (x5 : ((Int × (Option (List Int))) × PyData)) => (Option.bind (p_contrary x5.1 x5.2) fun u6 => (some u6))) (List.zip u4.1 u4.2)) fun u7 => (Option.bind (p_descent v_pegs v_one) fun u8 => (Option.bind (grd ((u8.2 ++ u7.reverse).length ≤ lim)) fun g9 => (some (some (u8.2 ++ u7.reverse)))))))))))
def x_bridge (v_pegs : Int) (v_one : (Int × (List Int))) (v_other : (Int × (List Int))) : Option (Except Exn (Option (List PyData))) :=
  (bindX (x_ask_pegs v_pegs) (Except.error (α := (Option (List PyData)))) fun u1 => (bindX (x_made v_pegs v_one.2) (Except.error (α := (Option (List PyData)))) fun u2 => (bindX (x_made v_pegs v_other.2) (Except.error (α := (Option (List PyData)))) fun u3 => (if ((!(decide (u2.1 = u3.1))) || (!(decide ((v_one.1 + u2.2) = (v_other.1 + u3.2))))) = true then (some (Except.ok none)) else (Option.bind (p_descent v_pegs v_other) fun u4 => (Option.bind (compM (fun (x5 : ((Int × (Option (List Int))) × PyData)) => (some true)) (fun (x5 : ((Int × (Option (List Int))) × PyData)) => (Option.bind (p_contrary x5.1 x5.2) fun u6 => (some u6))) (List.zip u4.1 u4.2)) fun u7 => (Option.bind (p_descent v_pegs v_one) fun u8 => (Option.bind (grd ((u8.2 ++ u7.reverse).length ≤ lim)) fun g9 => (some (Except.ok (some (u8.2 ++ u7.reverse))))))))))))
def l_kin (v_e : Str) : Option Str :=
  (Option.bind (some (([(decide (v_e = "BadPegs")), (decide (v_e = "BadFrame")), (decide (v_e = "BadHalf")), (decide (v_e = "BadHook"))]) : (List Bool))) fun v_found_1 => (Option.bind (grd ((v_found_1 ++ ([(decide (v_e = "BadName")), (decide (v_e = "NoNumber")), (decide (v_e = "NoFrame")), (decide (v_e = "NoStack"))])).length ≤ lim)) fun g2 => (Option.bind (some ((v_found_1 ++ ([(decide (v_e = "BadName")), (decide (v_e = "NoNumber")), (decide (v_e = "NoFrame")), (decide (v_e = "NoStack"))])) : (List Bool))) fun v_found_3 => (Option.bind (grd ((v_found_3 ++ ([(decide (v_e = "NoPlace")), (decide (v_e = "Taken")), (decide (v_e = "Full")), (decide (v_e = "NothingThere"))])).length ≤ lim)) fun g4 => (Option.bind (some ((v_found_3 ++ ([(decide (v_e = "NoPlace")), (decide (v_e = "Taken")), (decide (v_e = "Full")), (decide (v_e = "NothingThere"))])) : (List Bool))) fun v_found_5 => (Option.bind (grd ((v_found_5 ++ ([(decide (v_e = "BadTrade")), (decide (v_e = "Hangs")), (decide (v_e = "BadPage"))])).length ≤ lim)) fun g6 => (Option.bind (some ((v_found_5 ++ ([(decide (v_e = "BadTrade")), (decide (v_e = "Hangs")), (decide (v_e = "BadPage"))])) : (List Bool))) fun v_found_7 => (Option.bind (app? v_found_7 (!true)) fun u8 => (Option.bind (some (([(Str.ofString "BadPegs"), (Str.ofString "BadFrame"), (Str.ofString "BadHalf"), (Str.ofString "BadHook"), (Str.ofString "BadName"), (Str.ofString "NoNumber"), (Str.ofString "NoFrame"), (Str.ofString "NoStack"), (Str.ofString "NoPlace")]) : (List Str))) fun v_words_9 => (Option.bind (grd ((v_words_9 ++ ([(Str.ofString "Taken"), (Str.ofString "Full"), (Str.ofString "NothingThere"), (Str.ofString "BadTrade"), (Str.ofString "Hangs"), (Str.ofString "BadPage"), (Str.ofString "odd")])).length ≤ lim)) fun g10 => (Option.bind (some ((v_words_9 ++ ([(Str.ofString "Taken"), (Str.ofString "Full"), (Str.ofString "NothingThere"), (Str.ofString "BadTrade"), (Str.ofString "Hangs"), (Str.ofString "BadPage"), (Str.ofString "odd")])) : (List Str))) fun v_words_11 => (Option.bind (grd (joinOk (Str.ofString "") (((List.zip v_words_11 u8).filter fun (x12 : (Str × Bool)) => x12.2).map fun (x12 : (Str × Bool)) => x12.1))) fun g13 => (some (Txt.join (Str.ofString "") (((List.zip v_words_11 u8).filter fun (x12 : (Str × Bool)) => x12.2).map fun (x12 : (Str × Bool)) => x12.1)))))))))))))))
theorem l_kin_ok : ∀ n, n ∈ exNames → l_kin n = some n := by decide +kernel
def l_mix (v_seed : Int) : Option Int :=
  (Option.bind (some ((((v_seed * (48271 : Int)) + (11 : Int)) % (2147483647 : Int)) : Int)) fun v_one_1 => (Option.bind (grd (CMul v_one_1 v_one_1)) fun g2 => (Option.bind (some (((((v_one_1 * v_one_1) + ((40692 : Int) * v_one_1)) + v_seed) % (2147483399 : Int)) : Int)) fun v_two_3 => (Option.bind (grd (CMul v_two_3 v_two_3)) fun g4 => (some ((((v_two_3 * v_two_3) + ((69621 : Int) * v_two_3)) + v_one_1) % (2147483563 : Int)))))))
def l_raw_for1 (v_k : Int) (v_cell : Int) (s_1 : Int) (x7 : Int) : Option (Int) :=
  (Option.bind (l_mix ((v_cell + ((1009 : Int) * v_k)) + ((7919 : Int) * x7))) fun u8 => (Option.bind (some (((s_1 * (2147483563 : Int)) + u8) : Int)) fun v_found_9 => (some v_found_9)))
def l_raw (v_script : (List Int)) (v_k : Int) : Option Int :=
  (Option.bind (some ((((7 : Int) * v_k) + (3 : Int)) : Int)) fun v_cell_1 => (Option.bind (if (decide ((v_script.length : Int) > (0 : Int))) = true then (Option.bind (grd ((0 : Int) < (v_script.length : Int))) fun g3 => (Option.bind (atI v_script (v_k % (v_script.length : Int))) fun u4 => (Option.bind (grd (CDivW v_k (v_script.length : Int))) fun g5 => (Option.bind (some ((u4 + ((9973 : Int) * (v_k / (v_script.length : Int)))) : Int)) fun v_cell_6 => (some v_cell_6))))) else (some v_cell_1)) fun (s2 : Int) => (if ((decide (v_k < (v_script.length : Int))) && (decide (s2 ≥ ((10 : Int) ^ Int.toNat (18 : Int))))) = true then (some (s2 - ((10 : Int) ^ Int.toNat (18 : Int)))) else (Option.bind (forS (l_raw_for1 v_k s2) (0 : Int) (rng 0 (40 : Int))) fun (s10 : Int) => (some s10)))))
def l_digits_for1  (s_1 : Int × (List Int)) (x2 : Int) : Option (Int × (List Int)) :=
  (Option.bind (grd ((0 : Int) < x2)) fun g3 => (Option.bind (app? s_1.2 (s_1.1 % x2)) fun u4 => (Option.bind (grd (CDivW s_1.1 x2)) fun g5 => (Option.bind (some ((s_1.1 / x2) : Int)) fun v_rest_6 => (some (v_rest_6, u4))))))
def l_digits (v_script : (List Int)) (v_k : Int) (v_sizes : (List Int)) : Option (List Int) :=
  (Option.bind (l_raw v_script v_k) fun u1 => (Option.bind (forS l_digits_for1 (u1, ([] : (List Int))) v_sizes) fun (s7 : Int × (List Int)) => (some s7.2)))
def x_ask_more (v_door : Int) (v_pegs : Int) : Option (Except Exn Unit) :=
  (if (decide (v_door = (7 : Int))) = true then (bindX (x_hook_hooks v_pegs (99 : Int)) (Except.error (α := Unit)) fun u1 => (some (Except.ok ()))) else (if (decide (v_door = (8 : Int))) = true then (bindX (x_made v_pegs ([(99 : Int)])) (Except.error (α := Unit)) fun u2 => (some (Except.ok ()))) else (if (decide (v_door = (9 : Int))) = true then (bindX (x_traded v_pegs (0 : Int) ([(99 : Int)]) ((eP PyData.str PyData.int) ((Str.ofString "swap"), (0 : Int)))) (Except.error (α := Unit)) fun u3 => (some (Except.ok ()))) else (if (decide (v_door = (10 : Int))) = true then (bindX (x_walked v_pegs (0 : Int) ([(99 : Int)]) ([] : (List PyData))) (Except.error (α := Unit)) fun u4 => (some (Except.ok ()))) else (if (decide (v_door = (11 : Int))) = true then (bindX (x_bridge v_pegs ((0 : Int), ([(99 : Int)])) ((0 : Int), ([] : (List Int)))) (Except.error (α := Unit)) fun u5 => (some (Except.ok ()))) else (if (decide (v_door = (12 : Int))) = true then (bindX (x_mk_Loft v_pegs) (Except.error (α := Unit)) fun u6 => (some (Except.ok ()))) else (if (decide (v_door = (13 : Int))) = true then (bindX (x_bridge v_pegs ((0 : Int), ([] : (List Int))) ((0 : Int), ([(99 : Int)]))) (Except.error (α := Unit)) fun u7 => (some (Except.ok ()))) else (bindX (x_mk_Desk v_pegs) (Except.error (α := Unit)) fun u8 => (some (Except.ok ()))))))))))
def x_ask (v_door : Int) (v_pegs : Int) : Option (Except Exn Unit) :=
  (if (decide (v_door = (0 : Int))) = true then (bindX (x_plain v_pegs) (Except.error (α := Unit)) fun u1 => (some (Except.ok ()))) else (if (decide (v_door = (1 : Int))) = true then (bindX (x_stacked v_pegs ([[(0 : Int), (0 : Int)]])) (Except.error (α := Unit)) fun u2 => (some (Except.ok ()))) else (if (decide (v_door = (2 : Int))) = true then (bindX (x_how_many v_pegs) (Except.error (α := Unit)) fun u3 => (some (Except.ok ()))) else (if (decide (v_door = (3 : Int))) = true then (bindX (x_numbered v_pegs (-(1 : Int))) (Except.error (α := Unit)) fun u4 => (some (Except.ok ()))) else (if (decide (v_door = (4 : Int))) = true then (bindX (x_every v_pegs) (Except.error (α := Unit)) fun u5 => (some (Except.ok ()))) else (if (decide (v_door = (5 : Int))) = true then (bindX (x_how_many_halves v_pegs (3 : Int)) (Except.error (α := Unit)) fun u6 => (some (Except.ok ()))) else (if (decide (v_door = (6 : Int))) = true then (bindX (x_half_of v_pegs (0 : Int) (-(1 : Int))) (Except.error (α := Unit)) fun u7 => (some (Except.ok ()))) else (bindX (x_ask_more v_door v_pegs) (Except.error (α := Unit)) fun u8 => (some (Except.ok ()))))))))))
def l_word (v_door : Int) (v_pegs : Int) : Option Str :=
  (Option.bind (tryM ((bindX (x_ask v_door v_pegs) Except.error fun u2 => (some (Except.ok (Str.ofString "")))) : Option (Except Exn (Str))) (fun s => some s) (fun xE => (ribM xE (Option.bind (kinM xE) fun n3 => (Option.bind (some (n3 : Str)) fun v_word_here_4 => (some v_word_here_4)))))) fun (s1 : Str) => (some s1))
def l_law_for2 (v_good : (List Str)) (v_pegs : Int) (s_2 : Unit) (x11 : Int) : Option ((Unit) ⊕ Bool) :=
  (Option.bind (atI v_good x11) fun u12 => (Option.bind (if ((!((decide ((0 : Int) < v_pegs)) && (decide (v_pegs < (11 : Int))))) || ((decide (x11 = (4 : Int))) && (decide (v_pegs > (6 : Int))))) = true then (some (Str.ofString "BadPegs")) else (some u12)) fun (s13 : Str) => (Option.bind (l_word x11 v_pegs) fun u14 => (if (!(decide (u14 = s13))) = true then ((some false)).map Sum.inr else (some (Sum.inl ()))))))
def l_law_for1 (v_script : (List Int)) (v_good : (List Str)) (s_1 : Unit) (x5 : Int) : Option ((Unit) ⊕ Bool) :=
  (Option.bind (l_digits v_script x5 ([(6 : Int), ((10 : Int) ^ Int.toNat (29 : Int))])) fun u6 => (Option.bind (unp2 u6) fun u9 => (Option.bind (atI ([(0 : Int), (11 : Int), ((11 : Int) + u9.2), (((0 : Int) - (1 : Int)) - u9.2), ((1 : Int) + (u9.2 % (10 : Int))), ((1 : Int) + (u9.2 % (6 : Int)))]) u9.1) fun u10 => (bindR (R := Bool) (forR (l_law_for2 v_good u10) () (rng 0 (15 : Int))) (fun (s15 : Unit) => (some (Sum.inl ()))) Sum.inr))))
def l_law (v_script : (List Int)) : Option Bool :=
  (Option.bind (some ((cutA v_script none (some (63 : Int))) : (List Int))) fun v_script_1 => (Option.bind (some (([(Str.ofString ""), (Str.ofString "BadFrame"), (Str.ofString ""), (Str.ofString "NoNumber"), (Str.ofString ""), (Str.ofString ""), (Str.ofString "NoNumber"), (Str.ofString "BadHook"), (Str.ofString "BadHook"), (Str.ofString "BadHook"), (Str.ofString "BadHook"), (Str.ofString "BadHook")]) : (List Str))) fun v_good_2 => (Option.bind (grd ((v_good_2 ++ ([(Str.ofString ""), (Str.ofString "BadHook"), (Str.ofString "")])).length ≤ lim)) fun g3 => (Option.bind (some ((v_good_2 ++ ([(Str.ofString ""), (Str.ofString "BadHook"), (Str.ofString "")])) : (List Str))) fun v_good_4 => (bindR (R := Bool) (forR (l_law_for1 v_script_1 v_good_4) () (rng 0 (4 : Int))) (fun (s16 : Unit) => (some true)) id)))))
end Rb.M_k07

set_option Elab.async false
set_option autoImplicit false
set_option linter.all false
set_option maxRecDepth 100000
set_option maxHeartbeats 4000000
namespace Rb.M_k07
open PySem L2 Rb
def Dig : List Int → List Int → Prop
  | [], [] => True
  | d :: ds, s :: ss => 0 ≤ d ∧ d < s ∧ Dig ds ss
  | _, _ => False
def SzOk (ss : List Int) : Prop := ∀ s, s ∈ ss → 0 < s ∧ s < 2 ^ 200
theorem log_small {j : Int} (h : 0 < j ∧ j < 2 ^ 200) : CDivW 0 j := by
  refine ⟨h.1, ?_⟩
  have : j.natAbs < 2 ^ 200 := by omega
  have h2 : j.natAbs ≠ 0 := by omega
  have := (Nat.log2_lt h2).mpr this
  omega
theorem cmul_mod (a : Int) {m : Int} (h0 : 0 < m) (h1 : m < 2 ^ 63) : CMul (a % m) (a % m) := by
  have a1 := Int.emod_nonneg a (show m ≠ 0 by omega)
  have a2 := Int.emod_lt_of_pos a h0
  exact .inl ⟨by omega, by omega⟩
theorem mix_ok (s : Int) : ∃ v, l_mix s = some v := by
  unfold l_mix
  simp only [Option.bind_some]
  rw [grd_true (cmul_mod _ (by decide) (by decide)), Option.bind_some, grd_true (cmul_mod _ (by decide) (by decide)), Option.bind_some]
  exact ⟨_, rfl⟩
theorem raw_loop (k c : Int) : ∀ (xs : List Int) (s : Int), ∃ v, forS (l_raw_for1 k c) s xs = some v
  | [], s => ⟨s, rfl⟩
  | x :: xs, s => by
    obtain ⟨v, hv⟩ := mix_ok ((c + 1009 * k) + 7919 * x)
    rw [forS_cons]
    unfold l_raw_for1
    rw [hv]
    exact raw_loop k c xs _
theorem raw_ok {ns : List Int} {k : Int} (hk : 0 ≤ k) (hl : ns.length ≤ 63) : ∃ v, l_raw ns k = some v := by
  unfold l_raw
  simp only [Option.bind_some]
  have tail : ∀ s2 : Int, ∃ v, (if ((decide (k < (ns.length : Int))) && (decide (s2 ≥ ((10 : Int) ^ Int.toNat (18 : Int))))) = true then (some (s2 - ((10 : Int) ^ Int.toNat (18 : Int)))) else (Option.bind (forS (l_raw_for1 k s2) (0 : Int) (rng 0 (40 : Int))) fun (s10 : Int) => (some s10))) = some v := by
    intro s2
    obtain ⟨v, hv⟩ := raw_loop k s2 (rng 0 40) 0
    split
    · exact ⟨_, rfl⟩
    · rw [hv]; exact ⟨_, rfl⟩
  by_cases c : (ns.length : Int) > 0
  · rw [if_pos (decide_eq_true c), grd_true (by exact c), Option.bind_some]
    have b0 := Int.emod_nonneg k (show (ns.length : Int) ≠ 0 by omega)
    have b1 := Int.emod_lt_of_pos k c
    rw [atI_eq b0 b1]
    obtain ⟨y, hy⟩ : ∃ y, ns[(k % (ns.length : Int)).toNat]? = some y := ⟨_, List.getElem?_eq_getElem (by omega)⟩
    have g := log_small (j := (ns.length : Int)) ⟨c, by omega⟩
    rw [hy, Option.bind_some, grd_true (p := CDivW k (ns.length : Int)) g, Option.bind_some]
    exact tail _
  · rw [if_neg (by simpa using c)]
    exact tail _
theorem digits_loop : ∀ (ss : List Int) (r : Int) (acc : List Int), SzOk ss → acc.length + ss.length < lim → ∃ r' ds, forS l_digits_for1 (r, acc) ss = some (r', acc ++ ds) ∧ Dig ds ss
  | [], r, acc, _, _ => ⟨r, [], by simp [forS], trivial⟩
  | s :: ss, r, acc, h, hl => by
    have hs := h s List.mem_cons_self
    rw [List.length_cons] at hl
    obtain ⟨r', ds, e, d⟩ := digits_loop ss (r / s) (acc ++ [r % s]) (fun x hx => h x (List.mem_cons_of_mem _ hx)) (by rw [List.length_append, List.length_singleton]; omega)
    refine ⟨r', (r % s) :: ds, ?_, Int.emod_nonneg r (by omega), Int.emod_lt_of_pos r hs.1, d⟩
    have a1 : app? acc (r % s) = some (acc ++ [r % s]) := app_ok (by omega)
    have g : grd (CDivW r s) = some () := grd_true (p := CDivW r s) (log_small hs)
    have t : l_digits_for1 (r, acc) s = some (r / s, acc ++ [r % s]) := by
      unfold l_digits_for1
      simp only [grd_true hs.1, a1, g, Option.bind_some]
    rw [forS_cons, t, Option.bind_some, e, List.append_assoc]
    rfl
theorem digits_ok {ns : List Int} {k : Int} {ss : List Int} (hk : 0 ≤ k) (hl : ns.length ≤ 63) (hs : SzOk ss) (hz : ss.length ≤ 100) : ∃ ds, l_digits ns k ss = some ds ∧ Dig ds ss := by
  obtain ⟨v, hv⟩ := raw_ok (ns := ns) hk hl
  obtain ⟨r', ds, e, d⟩ := digits_loop ss v [] hs (by unfold lim; simp; omega)
  refine ⟨ds, ?_, d⟩
  unfold l_digits
  rw [hv, Option.bind_some, e]
  rfl
theorem Dig.len : ∀ {ds ss : List Int}, Dig ds ss → ds.length = ss.length
  | [], [], _ => rfl
  | d :: ds, s :: ss, h => by rw [List.length_cons, List.length_cons, Dig.len h.2.2]
  | [], _ :: _, h => h.elim
  | _ :: _, [], h => h.elim
def opn (n : Int) (h : Int → Int) : List Int := (rng 0 n).filter fun p => decide (h p = p)
def stp (g : Int) (s : Int × Int) (x : Int) : Option (Int × Int) := if x = 0 then some (s.1 + 1, s.2) else if x = 1 then (if s.1 > 0 then some (s.1 - 1, s.2) else none) else if x = 2 then (if ¬ s.1 > 0 ∧ s.2 < g then some (s.1, s.2 + 1) else none) else none
def rn3 (g : Int) : Int × Int → List Int → Option (Int × Int)
  | s, [] => some s
  | s, x :: xs => (stp g s x).bind fun s => rn3 g s xs
theorem rn3_snoc {g : Int} {x : Int} : ∀ {xs : List Int} {s : Int × Int}, rn3 g s (xs ++ [x]) = (rn3 g s xs).bind fun s => stp g s x
  | [], s => by
    show (stp g s x).bind (fun s => some s) = stp g s x
    cases stp g s x <;> rfl
  | y :: ys, s => by
    show (stp g s y).bind (fun s => rn3 g s (ys ++ [x])) = ((stp g s y).bind fun s => rn3 g s ys).bind fun s => stp g s x
    cases stp g s y with
    | none => rfl
    | some s => exact rn3_snoc
def nx3 (g : Int) (s : Int × Int) : List Int := 0 :: (if s.1 > 0 then [1] else if s.2 < g then [2] else [])
theorem mem_nx3 {g x : Int} {s : Int × Int} : x ∈ nx3 g s ↔ ∃ s', stp g s x = some s' := by
  unfold nx3 stp
  by_cases c0 : x = 0
  · subst c0; simp
  · rw [if_neg c0]
    by_cases c1 : x = 1
    · subst c1
      by_cases d : s.1 > 0
      · simp [d]
      · by_cases e : s.2 < g <;> simp [d, e]
    · rw [if_neg c1]
      by_cases c2 : x = 2
      · subst c2
        by_cases d : s.1 > 0
        · simp [d]
        · by_cases e : s.2 < g <;> simp [d, e]
      · rw [if_neg c2]
        by_cases d : s.1 > 0
        · simp [d, c0, c1]
        · by_cases e : s.2 < g <;> simp [d, e, c0, c2]
abbrev W3 := List Int × Int × Int
def ext3 (g : Int) (s : W3) : List W3 := (nx3 g s.2).map fun x => (s.1 ++ [x], (stp g s.2 x).getD s.2)
def rows3 (g : Int) : Nat → List W3
  | 0 => [([], 0, 0)]
  | k + 1 => (rows3 g k).flatMap (ext3 g)
theorem mem_rows3 {g : Int} : ∀ {k : Nat} {w : List Int} {s : Int × Int}, (w, s) ∈ rows3 g k ↔ w.length = k ∧ rn3 g (0, 0) w = some s
  | 0, w, s => by
    show (w, s) ∈ [([], 0, 0)] ↔ _
    rw [List.mem_singleton]
    constructor
    · intro h
      cases h
      exact ⟨rfl, rfl⟩
    · rintro ⟨h1, h2⟩
      have := List.eq_nil_of_length_eq_zero h1
      subst this
      cases h2
      rfl
  | k + 1, w, s => by
    show (w, s) ∈ (rows3 g k).flatMap (ext3 g) ↔ _
    rw [List.mem_flatMap]
    constructor
    · rintro ⟨⟨v, t⟩, hv, h⟩
      obtain ⟨h1, h2⟩ := mem_rows3.mp hv
      obtain ⟨x, hx, e⟩ := List.mem_map.mp h
      obtain ⟨s', hs⟩ := mem_nx3.mp hx
      have hs : stp g t x = some s' := hs
      cases e
      refine ⟨by rw [List.length_append, List.length_singleton, h1], ?_⟩
      rw [rn3_snoc, h2, Option.bind_some, hs]
      rfl
    · rintro ⟨h1, h2⟩
      have ne : w ≠ [] := fun z => by rw [z] at h1; cases h1
      have eq := (List.dropLast_concat_getLast ne).symm
      generalize w.getLast ne = x at eq
      generalize w.dropLast = v at eq
      subst eq
      rw [List.length_append, List.length_singleton] at h1
      rw [rn3_snoc] at h2
      obtain ⟨t, h3, h4⟩ := Option.bind_eq_some_iff.mp h2
      refine ⟨(v, t), mem_rows3.mpr ⟨by omega, h3⟩, List.mem_map.mpr ⟨x, mem_nx3.mpr ⟨s, h4⟩, ?_⟩⟩
      show (v ++ [x], (stp g t x).getD t) = (v ++ [x], s)
      rw [h4]
      rfl
theorem nodup_flat {α β γ : Type} {f : α → List β} {key : β → γ} {back : γ → α} : ∀ {l : List α}, l.Nodup → (∀ a, a ∈ l → ((f a).map key).Nodup) → (∀ a, a ∈ l → ∀ b, b ∈ f a → back (key b) = a) → ((l.flatMap f).map key).Nodup
  | [], _, _, _ => List.nodup_nil
  | a :: l, h, h1, h2 => by
    rw [List.flatMap_cons, List.map_append]
    obtain ⟨na, nl⟩ := List.nodup_cons.mp h
    refine List.nodup_append.mpr ⟨h1 a List.mem_cons_self, nodup_flat nl (fun b hb => h1 b (List.mem_cons_of_mem _ hb)) (fun b hb => h2 b (List.mem_cons_of_mem _ hb)), fun x hx y hy e => ?_⟩
    subst e
    obtain ⟨u, hu, rfl⟩ := List.mem_map.mp hx
    obtain ⟨v, hv, e⟩ := List.mem_map.mp hy
    obtain ⟨b, hb, hv⟩ := List.mem_flatMap.mp hv
    have e1 := h2 a List.mem_cons_self u hu
    have e2 := h2 b (List.mem_cons_of_mem _ hb) v hv
    rw [e, e1] at e2
    rw [e2] at na
    exact na hb
theorem nodup_nx3 (g : Int) (s : Int × Int) : (nx3 g s).Nodup := by
  unfold nx3
  by_cases d : s.1 > 0
  · rw [if_pos d]; decide
  · rw [if_neg d]
    by_cases e : s.2 < g
    · rw [if_pos e]; decide
    · rw [if_neg e]; decide
theorem nodup_rows3 {g : Int} : ∀ k : Nat, ((rows3 g k).map fun s => s.1).Nodup
  | 0 => by
    show ([[]] : List (List Int)).Nodup
    decide
  | k + 1 => by
    have ih := nodup_rows3 (g := g) k
    refine nodup_flat (back := fun w => (w.dropLast, (rn3 g (0, 0) w.dropLast).getD (0, 0))) (List.Pairwise.of_map (fun s : W3 => s.1) (fun a b h e => h (by rw [e])) ih) (fun a _ => ?_) fun a ha b hb => ?_
    · unfold ext3
      rw [List.map_map]
      refine (List.nodup_iff_pairwise_ne.mp (nodup_nx3 g a.2)).map _ fun x y h e => h ?_
      have e : a.1 ++ [x] = a.1 ++ [y] := e
      simpa using e
    · obtain ⟨x, _, rfl⟩ := List.mem_map.mp hb
      obtain ⟨_, h2⟩ := mem_rows3.mp ha
      show ((a.1 ++ [x]).dropLast, (rn3 g (0, 0) (a.1 ++ [x]).dropLast).getD (0, 0)) = a
      rw [List.dropLast_concat, h2]
      rfl
theorem rows3_len {g : Int} : ∀ k : Nat, (rows3 g k).length ≤ 2 ^ k
  | 0 => Nat.le_refl _
  | k + 1 => by
    have ih := rows3_len (g := g) k
    have go : ∀ l : List W3, (l.flatMap (ext3 g)).length ≤ 2 * l.length := fun l => by
      induction l with
      | nil => exact Nat.le_refl _
      | cons a l ih =>
        rw [List.flatMap_cons, List.length_append, List.length_cons]
        have : (ext3 g a).length ≤ 2 := by
          unfold ext3 nx3
          rw [List.length_map, List.length_cons]
          split
          · exact Nat.le_refl _
          · split
            · exact Nat.le_refl _
            · exact Nat.le_succ _
        omega
    have := go (rows3 g k)
    show ((rows3 g k).flatMap (ext3 g)).length ≤ _
    rw [Nat.pow_succ]
    omega
def val3 : Int → List Int → Prop
  | d, [] => d = 0
  | d, x :: xs => (x = 0 ∧ val3 (d + 1) xs) ∨ (x = 1 ∧ d > 0 ∧ val3 (d - 1) xs) ∨ (x = 2 ∧ d = 0 ∧ val3 0 xs)
def cnt2 (w : List Int) : Int := ((w.filter fun x => decide (x = 2)).length : Int)
theorem cnt2_cons (x : Int) (w : List Int) : cnt2 (x :: w) = (if x = 2 then 1 else 0) + cnt2 w := by
  unfold cnt2
  by_cases c : x = 2
  · rw [List.filter_cons_of_pos (by simpa using c), if_pos c, List.length_cons]; omega
  · rw [List.filter_cons_of_neg (by simpa using c), if_neg c]; omega
theorem cnt2_nn (w : List Int) : 0 ≤ cnt2 w := by unfold cnt2; omega
theorem run_val {g : Int} : ∀ {w : List Int} {d c c' : Int}, 0 ≤ d → rn3 g (d, c) w = some (0, c') → val3 d w ∧ c' = c + cnt2 w
  | [], d, c, c', d0, h => by
    have h : some (d, c) = some (0, c') := h
    cases h
    exact ⟨rfl, by show c = c + 0; omega⟩
  | x :: w, d, c, c', d0, h => by
    obtain ⟨⟨d1, c1⟩, h1, h2⟩ := Option.bind_eq_some_iff.mp h
    unfold stp at h1
    rw [cnt2_cons]
    by_cases x0 : x = 0
    · rw [if_pos x0] at h1
      cases h1
      obtain ⟨a, b⟩ := run_val (show 0 ≤ d + 1 by omega) h2
      exact ⟨.inl ⟨x0, a⟩, by rw [if_neg (by omega)]; omega⟩
    · rw [if_neg x0] at h1
      by_cases x1 : x = 1
      · rw [if_pos x1] at h1
        by_cases e : d > 0
        · rw [if_pos (show (d, c).1 > 0 from e)] at h1
          cases h1
          obtain ⟨a, b⟩ := run_val (show 0 ≤ d - 1 by omega) h2
          exact ⟨.inr (.inl ⟨x1, e, a⟩), by rw [if_neg (by omega)]; omega⟩
        · rw [if_neg (show ¬ (d, c).1 > 0 from e)] at h1; cases h1
      · rw [if_neg x1] at h1
        by_cases x2 : x = 2
        · rw [if_pos x2] at h1
          by_cases e : ¬ d > 0 ∧ c < g
          · rw [if_pos (show ¬ (d, c).1 > 0 ∧ (d, c).2 < g from e)] at h1
            cases h1
            obtain ⟨a, b⟩ := run_val d0 h2
            have d00 : d = 0 := by omega
            refine ⟨.inr (.inr ⟨x2, d00, by rw [d00] at a; exact a⟩), by rw [if_pos x2]; omega⟩
          · rw [if_neg (show ¬ (¬ (d, c).1 > 0 ∧ (d, c).2 < g) from e)] at h1; cases h1
        · rw [if_neg x2] at h1; cases h1
theorem val_run {g : Int} : ∀ {w : List Int} {d c : Int}, val3 d w → c + cnt2 w ≤ g → rn3 g (d, c) w = some (0, c + cnt2 w)
  | [], d, c, h, _ => by
    have h : d = 0 := h
    subst h
    show some ((0 : Int), c) = some (0, c + 0)
    rw [Int.add_zero]
  | x :: w, d, c, h, l => by
    rw [cnt2_cons] at l ⊢
    have nn := cnt2_nn w
    show (stp g (d, c) x).bind _ = _
    rcases h with ⟨rfl, h⟩ | ⟨rfl, h0, h⟩ | ⟨rfl, rfl, h⟩
    · have e : (if (0 : Int) = 2 then (1 : Int) else 0) = 0 := by decide
      rw [e] at l ⊢
      have st : stp g (d, c) 0 = some (d + 1, c) := by unfold stp; rw [if_pos rfl]
      rw [st, Option.bind_some, val_run (g := g) (c := c) h (by omega), Int.zero_add]
    · have e : (if (1 : Int) = 2 then (1 : Int) else 0) = 0 := by decide
      rw [e] at l ⊢
      have st : stp g (d, c) 1 = some (d - 1, c) := by unfold stp; rw [if_neg (by decide), if_pos rfl, if_pos (show (d, c).1 > 0 from h0)]
      rw [st, Option.bind_some, val_run (g := g) (c := c) h (by omega), Int.zero_add]
    · have e : (if (2 : Int) = 2 then (1 : Int) else 0) = 1 := by decide
      rw [e] at l ⊢
      have st : stp g (0, c) 2 = some (0, c + 1) := by
        unfold stp
        rw [if_neg (by decide), if_neg (by decide), if_pos rfl, if_pos (show ¬ ((0 : Int), c).1 > 0 ∧ ((0 : Int), c).2 < g from ⟨fun z => by have z : (0 : Int) > 0 := z; omega, by show c < g; omega⟩)]
      rw [st, Option.bind_some, val_run (g := g) (c := c + 1) h (by omega), Int.add_assoc]
def sg3 (F : Int → Int) (q : Int) : Int := if q < F q then 0 else if F q < q then 1 else 2
structure Hs (N p : Int) (Q : List Int) (F : Int → Int) : Prop where
  iv : ∀ q, 0 ≤ q → q < N → 0 ≤ F q ∧ F q < N ∧ F (F q) = q
  lt : ∀ q, 0 ≤ q → q < p → F q < p
  ge : ∀ q, p ≤ q → q < N → F q = q
  srt : Q.Pairwise (· < ·)
  mem : ∀ q, q ∈ Q → 0 ≤ q ∧ q < p ∧ F q = q
  nest : ∀ b, 0 ≤ b → b < p → F b < b → ∀ r, F b < r → r < b → F b < F r ∧ F r < b ∧ F r ≠ r
  thr : ∀ r, 0 ≤ r → r < p → F r = r → r ∉ Q → ∀ q, q ∈ Q → r < q
theorem Hs.hf {N : Int} {F : Int → Int} (h : Hs N N [] F) : Hf N F := by
  refine ⟨h.iv, fun p p0 p1 l r a b => (h.nest p p0 p1 l r a b).2.1, fun p p0 p1 e q q0 q1 => ?_⟩
  by_cases z : F q < p
  · exact z
  · have i := h.iv q q0 (by omega)
    have ne : F q ≠ p := fun w => by rw [w, e] at i; omega
    have := h.nest (F q) i.1 i.2.1 (by rw [i.2.2]; omega) p (by rw [i.2.2]; exact q1) (by omega)
    exact absurd e this.2.2
theorem Hs.open {N p : Int} {Q : List Int} {F : Int → Int} (h : Hs N p Q F) (p0 : 0 ≤ p) (p1 : p < N) : Hs N (p + 1) (Q ++ [p]) F := by
  have pp := h.ge p (Int.le_refl _) p1
  refine ⟨h.iv, fun q a b => ?_, fun q a b => h.ge q (by omega) b, List.pairwise_append.mpr ⟨h.srt, List.pairwise_singleton _ _, fun a ha b hb => ?_⟩, fun q hq => ?_, fun b b0 b1 l r u v => ?_, fun r r0 r1 e nq q hq => ?_⟩
  · by_cases c : q = p
    · rw [c, pp]; omega
    · have := h.lt q a (by omega); omega
  · have := h.mem a ha
    have := List.mem_singleton.mp hb
    omega
  · rcases List.mem_append.mp hq with z | z
    · have := h.mem q z; exact ⟨this.1, by omega, this.2.2⟩
    · have := List.mem_singleton.mp z
      subst this
      exact ⟨p0, by omega, pp⟩
  · have bp : b ≠ p := fun z => by rw [z, pp] at l; omega
    exact h.nest b b0 (by omega) l r u v
  · rw [List.mem_append, not_or, List.mem_singleton] at nq
    rcases List.mem_append.mp hq with z | z
    · exact h.thr r r0 (by omega) e nq.1 q z
    · have := List.mem_singleton.mp z; omega
theorem Hs.thru {N p : Int} {F : Int → Int} (h : Hs N p [] F) (p0 : 0 ≤ p) (p1 : p < N) : Hs N (p + 1) [] F := by
  have pp := h.ge p (Int.le_refl _) p1
  refine ⟨h.iv, fun q a b => ?_, fun q a b => h.ge q (by omega) b, .nil, fun q hq => (by cases hq), fun b b0 b1 l r u v => ?_, fun r r0 r1 e nq q hq => (by cases hq)⟩
  · by_cases c : q = p
    · rw [c, pp]; omega
    · have := h.lt q a (by omega); omega
  · have bp : b ≠ p := fun z => by rw [z, pp] at l; omega
    exact h.nest b b0 (by omega) l r u v
theorem Hs.close {N p q0 : Int} {Q : List Int} {F : Int → Int} (h : Hs N p (Q ++ [q0]) F) (p0 : 0 ≤ p) (p1 : p < N) : Hs N (p + 1) Q (fun q => if q = q0 then p else if q = p then q0 else F q) := by
  have pp := h.ge p (Int.le_refl _) p1
  have m0 := h.mem q0 (List.mem_append_right _ (List.mem_singleton.mpr rfl))
  have top : ∀ r, r ∈ Q → r < q0 := fun r hr => (List.pairwise_append.mp h.srt).2.2 r hr q0 (List.mem_singleton.mpr rfl)
  have e0 : (if q0 = q0 then p else if q0 = p then q0 else F q0) = p := by rw [if_pos rfl]
  have e1 : (if p = q0 then p else if p = p then q0 else F p) = q0 := by rw [if_neg (by omega), if_pos rfl]
  have e2 : ∀ q, q ≠ q0 → q ≠ p → (if q = q0 then p else if q = p then q0 else F q) = F q := fun q a b => by rw [if_neg a, if_neg b]
  have fq : ∀ q, 0 ≤ q → q < N → q ≠ q0 → F q ≠ q0 := fun q a b c z => by
    have := (h.iv q a b).2.2
    rw [z, m0.2.2] at this
    exact c this.symm
  have fp : ∀ q, 0 ≤ q → q < N → q ≠ p → F q ≠ p := fun q a b c z => by
    have := (h.iv q a b).2.2
    rw [z, pp] at this
    exact c this.symm
  have inn : ∀ r, q0 < r → r < p → q0 < F r ∧ F r < p ∧ F r ≠ r := fun r a b => by
    have nr : r ∉ Q ++ [q0] := fun z => by
      rcases List.mem_append.mp z with w | w
      · have := top r w; omega
      · have := List.mem_singleton.mp w; omega
    have l := h.lt r (by omega) b
    have ne : F r ≠ r := fun z => by
      have := h.thr r (by omega) b z nr q0 (List.mem_append_right _ (List.mem_singleton.mpr rfl))
      omega
    refine ⟨?_, l, ne⟩
    by_cases c : q0 < F r
    · exact c
    · have n1 := fq r (by omega) (by omega) (by omega)
      have := h.nest r (by omega) b (by omega) q0 (by omega) a
      exact absurd m0.2.2 this.2.2
  refine ⟨fun q a b => ?_, fun q a b => ?_, fun q a b => ?_, (List.pairwise_append.mp h.srt).1, fun q hq => ?_, fun b b0 b1 l r u v => ?_, fun r r0 r1 e nq q hq => ?_⟩
  · by_cases c : q = q0
    · subst c
      rw [e0, e1]
      exact ⟨p0, p1, rfl⟩
    · by_cases c' : q = p
      · subst c'
        rw [e1, e0]
        exact ⟨m0.1, by omega, rfl⟩
      · rw [e2 q c c', e2 _ (fq q a b c) (fp q a b c')]
        exact h.iv q a b
  · by_cases c : q = q0
    · rw [c, e0]; omega
    · by_cases c' : q = p
      · rw [c', e1]; omega
      · rw [e2 q c c']
        have := h.lt q a (by omega); omega
  · rw [e2 q (by omega) (by omega)]
    exact h.ge q (by omega) b
  · have := h.mem q (List.mem_append_left _ hq)
    have := top q hq
    rw [e2 q (by omega) (by omega)]
    exact ⟨by omega, by omega, (h.mem q (List.mem_append_left _ hq)).2.2⟩
  · by_cases c : b = p
    · subst c
      rw [e1] at u ⊢
      have := inn r u v
      rw [e2 r (by omega) (by omega)]
      exact this
    · by_cases c' : b = q0
      · subst c'
        rw [e0] at l
        omega
      · rw [e2 b c' c] at l u ⊢
        have w := h.nest b b0 (by omega) l r u v
        have n1 : r ≠ q0 := fun z => by rw [z] at w; exact w.2.2 m0.2.2
        have n2 : r ≠ p := by omega
        rw [e2 r n1 n2]
        exact w
  · have n1 : r ≠ q0 := fun z => by rw [z, e0] at e; omega
    have n2 : r ≠ p := fun z => by rw [z, e1] at e; omega
    rw [e2 r n1 n2] at e
    refine h.thr r r0 (by omega) e (fun z => ?_) q (List.mem_append_left _ hq)
    rcases List.mem_append.mp z with w | w
    · exact nq w
    · exact n1 (List.mem_singleton.mp w)
theorem sg3_one {n : Int} {F h : Int → Int} (hF : Hf n F) (hh : Hf n h) (e : ∀ q, 0 ≤ q → q < n → sg3 F q = sg3 h q) : ∀ q, 0 ≤ q → q < n → F q = h q := by
  have lt : ∀ q, 0 ≤ q → q < n → ((q < F q ↔ q < h q) ∧ (F q < q ↔ h q < q)) := fun q a b => by
    have := e q a b
    unfold sg3 at this
    by_cases c : q < F q
    · rw [if_pos c] at this
      by_cases d : q < h q
      · omega
      · rw [if_neg d] at this
        split at this <;> omega
    · rw [if_neg c] at this
      by_cases c' : F q < q
      · rw [if_pos c'] at this
        by_cases d : q < h q
        · rw [if_pos d] at this; omega
        · rw [if_neg d] at this
          by_cases d' : h q < q
          · omega
          · rw [if_neg d'] at this; omega
      · rw [if_neg c'] at this
        by_cases d : q < h q
        · rw [if_pos d] at this; omega
        · rw [if_neg d] at this
          by_cases d' : h q < q
          · rw [if_pos d'] at this; omega
          · omega
  have key : ∀ (G H : Int → Int), Hf n G → Hf n H → (∀ q, 0 ≤ q → q < n → ((q < G q ↔ q < H q) ∧ (G q < q ↔ H q < q))) → ∀ (k : Nat) (p : Int), p.toNat < k → 0 ≤ p → p < n → G p < p → (∀ q, 0 ≤ q → q < p → G q < q → G q = H q) → ¬ G p < H p := fun G H hG hH lt k p _ p0 p1 l ih z => by
    have hp := (lt p p0 p1).2.mp l
    have ib := hH.iv p p0 p1
    have gb := (lt (H p) ib.1 ib.2.1).1.mpr (by rw [ib.2.2]; exact hp)
    have w := hG.nc p p0 p1 l (H p) z hp
    have ig := hG.iv (H p) ib.1 ib.2.1
    have := ih (G (H p)) ig.1 w (by rw [ig.2.2]; exact gb)
    rw [ig.2.2] at this
    have i2 := hH.iv (G (H p)) ig.1 ig.2.1
    rw [← this, ib.2.2] at i2
    omega
  have down : ∀ (k : Nat) (p : Int), p.toNat < k → 0 ≤ p → p < n → F p < p → F p = h p := fun k => by
    induction k with
    | zero => intro p a; omega
    | succ k ih =>
      intro p a p0 p1 l
      have a1 := key F h hF hh lt (k + 1) p a p0 p1 l fun q q0 q1 w => ih q (by omega) q0 (by omega) w
      have a2 := key h F hh hF (fun q x y => ⟨(lt q x y).1.symm, (lt q x y).2.symm⟩) (k + 1) p a p0 p1 ((lt p p0 p1).2.mp l) fun q q0 q1 w => (ih q (by omega) q0 (by omega) ((lt q q0 (by omega)).2.mpr w)).symm
      omega
  intro q q0 q1
  by_cases c : F q < q
  · exact down (q.toNat + 1) q (by omega) q0 q1 c
  · by_cases d : q < F q
    · have i := hF.iv q q0 q1
      have := down ((F q).toNat + 1) (F q) (by omega) i.1 i.2.1 (by rw [i.2.2]; exact d)
      rw [i.2.2] at this
      have j := hh.iv (F q) i.1 i.2.1
      rw [← this] at j
      exact j.2.2.symm
    · have := lt q q0 q1
      omega
theorem hf_step {n p : Int} {h : Int → Int} {Q : List Int} (H : Hf n h) (p0 : 0 ≤ p) (p1 : p < n) (o : Opn h p Q) : (p < h p ∧ Opn h (p + 1) (Q ++ [p])) ∨ (h p < p ∧ ∃ Q', Q = Q' ++ [h p] ∧ Opn h (p + 1) Q') ∨ (h p = p ∧ Q = [] ∧ Opn h (p + 1) []) := by
  have hp := H.iv p p0 p1
  by_cases u : p < h p
  · refine .inl ⟨u, List.pairwise_append.mpr ⟨o.srt, List.pairwise_singleton _ _, fun a ha b hb => ?_⟩, fun q => ?_⟩
    · have := (o.mem a).mp ha
      have := List.mem_singleton.mp hb
      omega
    · rw [List.mem_append, o.mem, List.mem_singleton]
      constructor
      · rintro (⟨a, b, c⟩ | rfl)
        · have := H.iv q a (by omega)
          have : h q ≠ p := fun z => by rw [z] at this; omega
          omega
        · omega
      · rintro ⟨a, b, c⟩
        by_cases e : q = p
        · exact .inr e
        · exact .inl ⟨a, by omega, by omega⟩
  · by_cases d : h p < p
    · have me : h p ∈ Q := (o.mem _).mpr ⟨hp.1, d, by rw [hp.2.2]; omega⟩
      have ne : Q ≠ [] := List.ne_nil_of_mem me
      have eq := (List.dropLast_concat_getLast ne).symm
      generalize Q.getLast ne = q at eq
      generalize Q.dropLast = Q' at eq
      subst eq
      have hq := (o.mem q).mp (List.mem_append_right _ (List.mem_singleton.mpr rfl))
      have top : ∀ r, r ∈ Q' → r < q := fun r hr => (List.pairwise_append.mp o.srt).2.2 r hr q (List.mem_singleton.mpr rfl)
      have le : h p = q := by
        rcases List.mem_append.mp me with z | z
        · have := top _ z
          have := H.nc p p0 p1 d q this hq.2.1
          omega
        · exact List.mem_singleton.mp z
      refine .inr (.inl ⟨d, Q', by rw [le], (List.pairwise_append.mp o.srt).1, fun r => ?_⟩)
      constructor
      · intro hr
        have w := (o.mem r).mp (List.mem_append_left _ hr)
        have := top r hr
        have i := H.iv r w.1 (by omega)
        have : h r ≠ p := fun z => by rw [z] at i; omega
        omega
      · rintro ⟨a, b, c⟩
        have np : r ≠ p := fun z => by subst z; omega
        rcases List.mem_append.mp ((o.mem r).mpr ⟨a, by omega, by omega⟩) with z | z
        · exact z
        · have := List.mem_singleton.mp z
          have w : h r = p := by rw [this, ← le, hp.2.2]
          omega
    · have e : h p = p := by omega
      have nil : Q = [] := List.eq_nil_iff_forall_not_mem.mpr fun q hq => by
        have w := (o.mem q).mp hq
        have := H.op p p0 p1 e q w.1 w.2.1
        omega
      refine .inr (.inr ⟨e, nil, .nil, fun q => ⟨fun z => (by cases z), fun ⟨a, b, c⟩ => ?_⟩⟩)
      by_cases z : q = p
      · subst z; omega
      · have := H.op p p0 p1 e q a (by omega); omega
theorem val_half {n : Int} {h : Int → Int} (H : Hf n h) : ∀ (k : Nat) (p : Int) (Q : List Int), p + k = n → 0 ≤ p → Opn h p Q → val3 (Q.length : Int) ((rng p n).map (sg3 h))
  | 0, p, Q, e, p0, o => by
    have : Q = [] := List.eq_nil_iff_forall_not_mem.mpr fun q hq => by
      have w := (o.mem q).mp hq
      have := H.iv q w.1 (by omega)
      omega
    subst this
    rw [rng_nil (by omega)]
    rfl
  | k + 1, p, Q, e, p0, o => by
    rw [rng_cons (by omega), List.map_cons]
    rcases hf_step H p0 (by omega) o with ⟨u, o'⟩ | ⟨u, Q', rfl, o'⟩ | ⟨u, rfl, o'⟩
    · have ih := val_half H k (p + 1) _ (by omega) (by omega) o'
      rw [List.length_append, List.length_singleton] at ih
      refine .inl ⟨by unfold sg3; rw [if_pos u], ?_⟩
      exact ih
    · have ih := val_half H k (p + 1) _ (by omega) (by omega) o'
      refine .inr (.inl ⟨by unfold sg3; rw [if_neg (by omega), if_pos u], by rw [List.length_append, List.length_singleton]; omega, ?_⟩)
      rw [List.length_append, List.length_singleton, show (((Q'.length + 1 : Nat)) : Int) - 1 = Q'.length by omega]
      exact ih
    · have ih := val_half H k (p + 1) _ (by omega) (by omega) o'
      exact .inr (.inr ⟨by unfold sg3; rw [if_neg (by omega), if_neg (by omega)], rfl, ih⟩)
theorem cnt_opn {n : Int} {h : Int → Int} : cnt2 ((rng 0 n).map (sg3 h)) = ((opn n h).length : Int) := by
  unfold cnt2 opn
  rw [List.filter_map, List.length_map]
  congr 2
  refine List.filter_congr fun q _ => ?_
  show decide (sg3 h q = 2) = decide (h q = q)
  unfold sg3
  by_cases a : q < h q
  · rw [if_pos a, decide_eq_false (by decide), decide_eq_false (by omega)]
  · rw [if_neg a]
    by_cases b : h q < q
    · rw [if_pos b, decide_eq_false (by decide), decide_eq_false (by omega)]
    · rw [if_neg b, decide_eq_true rfl, decide_eq_true (by omega)]
def sT (x : Int) : Str := if x = 0 then Str.ofString "(" else if x = 1 then Str.ofString ")" else Str.ofString "|"
def txt3 (w : List Int) : Str := w.foldl (fun t x => t ++ sT x) (Str.ofString "")
theorem txt3_snoc (w : List Int) (x : Int) : txt3 (w ++ [x]) = txt3 w ++ sT x := by
  unfold txt3
  rw [List.foldl_append]
  rfl
theorem chrs3_app (x y : Str) : chrs (x ++ y) = chrs x ++ chrs y := by
  unfold chrs
  show ((x.cps ++ y.cps).toList.map _) = _
  rw [Array.toList_append, List.map_append]
theorem chrs_sT (x : Int) : chrs (sT x) = [sT x] := by
  unfold sT
  split
  · decide +kernel
  · split <;> decide +kernel
theorem txt3_chrs (w : List Int) : chrs (txt3 w) = w.map sT := by
  have go : ∀ (w : List Int) (t : Str), chrs (w.foldl (fun t x => t ++ sT x) t) = chrs t ++ w.map sT := fun w => by
    induction w with
    | nil => intro t; simp
    | cons x w ih =>
      intro t
      rw [List.foldl_cons, ih, chrs3_app, chrs_sT, List.map_cons, List.append_assoc]
      rfl
  have := go w (Str.ofString "")
  rw [show chrs (Str.ofString "") = [] by decide +kernel, List.nil_append] at this
  exact this
theorem txt3_len (w : List Int) : (txt3 w).length = w.length := by
  have := congrArg List.length (txt3_chrs w)
  rw [chrs_len, List.length_map] at this
  exact this
def enc3 (s : W3) : Str × Int × Int := (txt3 s.1, s.2)
theorem text_ext {g : Int} {s : W3} {acc : List (Str × Int × Int)} (hl : s.1.length ≤ 100) (ha : acc.length + 2 < lim) : p_texts_for2 g acc (enc3 s) = some (acc ++ (ext3 g s).map enc3) := by
  obtain ⟨w, d, c⟩ := s
  unfold p_texts_for2 enc3
  dsimp only
  have tl := txt3_len w
  have g1 : ∀ z : Str, z.length = 1 → (txt3 w).length + z.length ≤ lim := fun z hz => by
    rw [hz, tl]; unfold lim; have : w.length ≤ 100 := hl; omega
  rw [grd_true (g1 _ (by decide +kernel)), Option.bind_some, app_ok (by omega), Option.bind_some]
  have s0 : stp g (d, c) 0 = some (d + 1, c) := by unfold stp; rw [if_pos rfl]
  have e0 : (txt3 (w ++ [0]), (stp g (d, c) 0).getD (d, c)) = (txt3 w ++ Str.ofString "(", d + 1, c) := by rw [s0, txt3_snoc]; rfl
  by_cases dp : d > 0
  · have s1 : stp g (d, c) 1 = some (d - 1, c) := by unfold stp; rw [if_neg (by decide), if_pos rfl, if_pos (show (d, c).1 > 0 from dp)]
    have e1 : (txt3 (w ++ [1]), (stp g (d, c) 1).getD (d, c)) = (txt3 w ++ Str.ofString ")", d - 1, c) := by rw [s1, txt3_snoc]; rfl
    rw [if_pos (decide_eq_true dp), grd_true (g1 _ (by decide +kernel)), Option.bind_some, app_ok (by rw [List.length_append, List.length_singleton]; omega), Option.bind_some, List.append_assoc]
    congr 2
    unfold ext3 nx3
    rw [if_pos (show (d, c).1 > 0 from dp)]
    show _ = [(txt3 (w ++ [0]), (stp g (d, c) 0).getD (d, c)), (txt3 (w ++ [1]), (stp g (d, c) 1).getD (d, c))]
    rw [e0, e1]
    rfl
  · rw [if_neg (by simpa using dp)]
    by_cases cg : c < g
    · have s2 : stp g (d, c) 2 = some (d, c + 1) := by
        unfold stp
        rw [if_neg (by decide), if_neg (by decide), if_pos rfl, if_pos (show ¬ (d, c).1 > 0 ∧ (d, c).2 < g from ⟨dp, cg⟩)]
      have e2 : (txt3 (w ++ [2]), (stp g (d, c) 2).getD (d, c)) = (txt3 w ++ Str.ofString "|", d, c + 1) := by rw [s2, txt3_snoc]; rfl
      rw [if_pos (decide_eq_true cg), grd_true (g1 _ (by decide +kernel)), Option.bind_some, app_ok (by rw [List.length_append, List.length_singleton]; omega), Option.bind_some, List.append_assoc]
      congr 2
      unfold ext3 nx3
      rw [if_neg (show ¬ (d, c).1 > 0 from dp), if_pos (show (d, c).2 < g from cg)]
      show _ = [(txt3 (w ++ [0]), (stp g (d, c) 0).getD (d, c)), (txt3 (w ++ [2]), (stp g (d, c) 2).getD (d, c))]
      rw [e0, e2]
      rfl
    · rw [if_neg (by simpa using cg)]
      congr 2
      unfold ext3 nx3
      rw [if_neg (show ¬ (d, c).1 > 0 from dp), if_neg (show ¬ (d, c).2 < g from cg)]
      show _ = [(txt3 (w ++ [0]), (stp g (d, c) 0).getD (d, c))]
      rw [e0]
theorem text_row {g : Int} : ∀ (l : List W3) (acc : List (Str × Int × Int)), (∀ s, s ∈ l → s.1.length ≤ 100) → acc.length + 2 * l.length + 2 < lim → forS (p_texts_for2 g) acc (l.map enc3) = some (acc ++ (l.flatMap (ext3 g)).map enc3)
  | [], acc, _, _ => by simp [forS]
  | s :: l, acc, h, hl => by
    rw [List.length_cons] at hl
    have l2 : (ext3 g s).length ≤ 2 := by
      unfold ext3 nx3
      rw [List.length_map, List.length_cons]
      split
      · exact Nat.le_refl _
      · split
        · exact Nat.le_refl _
        · exact Nat.le_succ _
    rw [List.map_cons, forS_cons, text_ext (h s List.mem_cons_self) (by omega), Option.bind_some, text_row l _ (fun t ht => h t (List.mem_cons_of_mem _ ht)) (by rw [List.length_append, List.length_map]; omega), List.flatMap_cons, List.map_append, List.append_assoc]
theorem texts_ok {n g : Int} (h0 : 0 ≤ n) (h10 : n ≤ 10) : p_texts n g = some (((rows3 g n.toNat).filter fun s : W3 => decide (s.2.1 = 0) && decide (s.2.2 = g)).map fun s => txt3 s.1) := by
  have loop : ∀ (k j : Nat), j + k ≤ 10 → forS (p_texts_for1 g) ((rows3 g j).map enc3) (rng j (j + k)) = some ((rows3 g (j + k)).map enc3) := fun k => by
    induction k with
    | zero => intro j h; rw [rng_nil (by omega)]; rfl
    | succ k ih =>
      intro j h
      have lj := rows3_len (g := g) j
      have pw : (2 : Nat) ^ j ≤ 2 ^ 10 := Nat.pow_le_pow_right (by decide) (by omega)
      rw [rng_cons (by omega), forS_cons]
      unfold p_texts_for1
      rw [text_row (rows3 g j) [] (fun s hs => by rw [(mem_rows3.mp hs).1]; omega) (by unfold lim; simp; omega), List.nil_append, Option.bind_some]
      have := ih (j + 1) (by omega)
      rw [show ((j + 1 : Nat) : Int) = (j : Int) + 1 by omega, show (j : Int) + 1 + (k : Int) = (j : Int) + ((k + 1 : Nat) : Int) by omega, show j + 1 + k = j + (k + 1) by omega] at this
      exact this
  unfold p_texts
  rw [Option.bind_some, grd_true (rngOk_of (by omega) (by omega)), Option.bind_some]
  have := loop n.toNat 0 (by omega)
  rw [show ((0 : Nat) : Int) + (n.toNat : Int) = n by omega, Nat.zero_add] at this
  have z : ([((Str.ofString ""), (0 : Int), (0 : Int))] : List (Str × Int × Int)) = (rows3 g 0).map enc3 := rfl
  rw [z, show rng 0 n = rng ((0 : Nat) : Int) n from rfl, this, Option.bind_some, List.filter_map, List.map_map]
  rfl
theorem in_loop {N : Int} (hN : N ≤ 50) : ∀ (ws : List Int) (p : Int) (Q : List Int) (F : Int → Int), p + ws.length = N → 0 ≤ p → Hs N p Q F → val3 (Q.length : Int) ws →
    ∃ F', forS p_half_in_for1 (lst N F, Q) (enumF p (ws.map sT)) = some (lst N F', []) ∧ Hs N N [] F' ∧ ws = (rng p N).map (sg3 F') ∧ ∀ q, 0 ≤ q → q < p → (q ∉ Q → F' q = F q) ∧ (q ∈ Q → q < F' q)
  | [], p, Q, F, e, p0, hs, v => by
    have e : p + 0 = N := e
    have pN : p = N := by omega
    subst pN
    have v : (Q.length : Int) = 0 := v
    have : Q = [] := List.eq_nil_of_length_eq_zero (by omega)
    subst this
    exact ⟨F, rfl, hs, by rw [rng_nil (by omega)]; rfl, fun q _ _ => ⟨fun _ => rfl, fun z => by cases z⟩⟩
  | x :: ws, p, Q, F, e, p0, hs, v => by
    rw [List.length_cons] at e
    have p1 : p < N := by omega
    have ql : Q.length ≤ 60 := by
      have := nodup_rng (l := Q) (n := N) (hs.srt.imp (fun h => by omega)) (fun i hi => by have := hs.mem i hi; omega)
      omega
    rw [List.map_cons]
    unfold enumF
    rw [forS_cons, rng_cons p1]
    have c1 : decide (sT 1 = Str.ofString "(") = false := by decide +kernel
    have c2 : decide (sT 2 = Str.ofString "(") = false := by decide +kernel
    have c3 : decide (sT 1 = Str.ofString ")") = true := by decide +kernel
    have c4 : decide (sT 2 = Str.ofString ")") = false := by decide +kernel
    have c0 : decide (sT 0 = Str.ofString "(") = true := by decide +kernel
    rcases v with ⟨rfl, v⟩ | ⟨rfl, v0, v⟩ | ⟨rfl, v0, v⟩
    · obtain ⟨F', a, b, c, d⟩ := in_loop hN ws (p + 1) (Q ++ [p]) F (by omega) (by omega) (hs.open p0 p1) (by rw [List.length_append, List.length_singleton]; exact v)
      refine ⟨F', ?_, b, ?_, fun q q0 q1 => ⟨fun z => (d q q0 (by omega)).1 fun w => ?_, fun z => (d q q0 (by omega)).2 (List.mem_append_left _ z)⟩⟩
      · unfold p_half_in_for1
        dsimp only
        rw [c0, if_pos rfl, app_ok (by unfold lim; omega), Option.bind_some]
        exact a
      · rw [List.map_cons, ← c]
        congr 1
        have := (d p p0 (by omega)).2 (List.mem_append_right _ (List.mem_singleton.mpr rfl))
        unfold sg3
        rw [if_pos this]
      · rcases List.mem_append.mp w with w | w
        · exact z w
        · have := List.mem_singleton.mp w; omega
    · have ne : Q ≠ [] := fun z => by rw [z] at v0; simp at v0
      have eq := (List.dropLast_concat_getLast ne).symm
      generalize Q.getLast ne = q0 at eq
      generalize Q.dropLast = Q' at eq
      subst eq
      have m0 := hs.mem q0 (List.mem_append_right _ (List.mem_singleton.mpr rfl))
      have top : ∀ r, r ∈ Q' → r < q0 := fun r hr => (List.pairwise_append.mp hs.srt).2.2 r hr q0 (List.mem_singleton.mpr rfl)
      have v : val3 (Q'.length : Int) ws := by
        rw [List.length_append, List.length_singleton, show (((Q'.length + 1 : Nat)) : Int) - 1 = Q'.length by omega] at v
        exact v
      obtain ⟨F', a, b, c, d⟩ := in_loop hN ws (p + 1) Q' _ (by omega) (by omega) (hs.close p0 p1) v
      refine ⟨F', ?_, b, ?_, fun q a0 a1 => ⟨fun z => ?_, fun z => ?_⟩⟩
      · unfold p_half_in_for1
        dsimp only
        rw [c1, if_neg (by simp), c3, if_pos rfl, pop_snoc, Option.bind_some]
        dsimp only
        rw [set_lst p0 p1, Option.bind_some, set_lst m0.1 (by omega), Option.bind_some]
        exact a
      · rw [List.map_cons, ← c]
        congr 1
        have := (d p p0 (by omega)).1 fun w => by have := top p w; omega
        rw [if_neg (by omega), if_pos rfl] at this
        unfold sg3
        rw [this, if_neg (by omega), if_pos (by omega)]
      · rw [List.mem_append, not_or, List.mem_singleton] at z
        have := (d q a0 (by omega)).1 z.1
        rw [if_neg z.2, if_neg (by omega)] at this
        exact this
      · rcases List.mem_append.mp z with w | w
        · exact (d q a0 (by omega)).2 w
        · have w := List.mem_singleton.mp w
          have := (d q a0 (by omega)).1 fun y => by have := top q y; omega
          rw [if_pos w] at this
          omega
    · have : Q = [] := List.eq_nil_of_length_eq_zero (by omega)
      subst this
      obtain ⟨F', a, b, c, d⟩ := in_loop hN ws (p + 1) [] F (by omega) (by omega) (hs.thru p0 p1) v
      refine ⟨F', ?_, b, ?_, fun q a0 a1 => ⟨fun z => (d q a0 (by omega)).1 (by simp), fun z => by cases z⟩⟩
      · unfold p_half_in_for1
        dsimp only
        rw [c2, if_neg (by simp), c4, if_neg (by simp)]
        exact a
      · rw [List.map_cons, ← c]
        congr 1
        have := (d p p0 (by omega)).1 (by simp)
        rw [hs.ge p (Int.le_refl _) p1] at this
        unfold sg3
        rw [this, if_neg (by omega), if_neg (by omega)]
theorem half_in_ok {n : Int} {w : List Int} (h0 : 0 ≤ n) (h10 : n ≤ 10) (hl : (w.length : Int) = n) (v : val3 0 w) : ∃ F, p_half_in (txt3 w) = some (lst n F) ∧ Hf n F ∧ w = (rng 0 n).map (sg3 F) := by
  have start : Hs n 0 [] fun q => q := ⟨fun q a b => ⟨a, b, rfl⟩, fun q a b => (by omega), fun q _ _ => rfl, .nil, fun q h => (by cases h), fun b a c => (by omega), fun r a b => (by omega)⟩
  obtain ⟨F, a, b, c, _⟩ := in_loop (show n ≤ 50 by omega) w 0 [] (fun q => q) (by omega) (by omega) start v
  refine ⟨F, ?_, b.hf, c⟩
  unfold p_half_in
  have tl : ((txt3 w).length : Int) = n := by rw [txt3_len]; exact hl
  have el : rng 0 n = lst n fun q => q := by unfold lst; rw [List.map_id']
  rw [tl, grd_true (rngOk_of (by omega) (by omega)), Option.bind_some, Option.bind_some, el, txt3_chrs]
  unfold enumI
  rw [a, Option.bind_some]
theorem halves_ok {n g : Int} (h1 : 1 ≤ n) (h10 : n ≤ 10) : ∃ L : List (List Int), p_halves n g = some (sortC L) ∧ L.Nodup ∧ ∀ t, t ∈ L ↔ ∃ h, Hf n h ∧ ((opn n h).length : Int) = g ∧ t = lst n h := by
  have good : ∀ s, s ∈ (rows3 g n.toNat).filter (fun s : W3 => decide (s.2.1 = 0) && decide (s.2.2 = g)) → val3 0 s.1 ∧ (s.1.length : Int) = n ∧ cnt2 s.1 = g := fun s hs => by
    obtain ⟨a, b⟩ := List.mem_filter.mp hs
    simp only [Bool.and_eq_true, decide_eq_true_eq] at b
    obtain ⟨w, d, c⟩ := s
    obtain ⟨a1, a2⟩ := mem_rows3.mp a
    have b1 : d = 0 := b.1
    have b2 : c = g := b.2
    subst b1; subst b2
    obtain ⟨v, e⟩ := run_val (Int.le_refl 0) a2
    exact ⟨v, by rw [a1]; omega, by show cnt2 w = c; omega⟩
  obtain ⟨X, hX⟩ : ∃ X : W3 → Int → Int, ∀ s, s ∈ (rows3 g n.toNat).filter (fun s : W3 => decide (s.2.1 = 0) && decide (s.2.2 = g)) → p_half_in (txt3 s.1) = some (lst n (X s)) ∧ Hf n (X s) ∧ s.1 = (rng 0 n).map (sg3 (X s)) := by
    have ch : ∀ s : W3, ∃ F : Int → Int, s ∈ (rows3 g n.toNat).filter (fun s : W3 => decide (s.2.1 = 0) && decide (s.2.2 = g)) → p_half_in (txt3 s.1) = some (lst n F) ∧ Hf n F ∧ s.1 = (rng 0 n).map (sg3 F) := fun s => by
      by_cases c : s ∈ (rows3 g n.toNat).filter (fun s : W3 => decide (s.2.1 = 0) && decide (s.2.2 = g))
      · obtain ⟨v, l, _⟩ := good s c
        obtain ⟨F, a⟩ := half_in_ok (by omega) h10 l v
        exact ⟨F, fun _ => a⟩
      · exact ⟨fun q => q, fun z => absurd z c⟩
    exact ⟨fun s => (ch s).choose, fun s => (ch s).choose_spec⟩
  have nd : (((rows3 g n.toNat).filter (fun s : W3 => decide (s.2.1 = 0) && decide (s.2.2 = g))).map fun s => s.1).Nodup :=
    (List.Sublist.map (fun s : W3 => s.1) List.filter_sublist).nodup (nodup_rows3 n.toNat)
  have mem : ∀ s : W3, s ∈ (rows3 g n.toNat).filter (fun s : W3 => decide (s.2.1 = 0) && decide (s.2.2 = g)) ↔ s ∈ (rows3 g n.toNat).filter (fun s : W3 => decide (s.2.1 = 0) && decide (s.2.2 = g)) := fun _ => Iff.rfl
  have comp : ∀ h, Hf n h → ((opn n h).length : Int) = g → ((rng 0 n).map (sg3 h), (0 : Int), g) ∈ (rows3 g n.toNat).filter (fun s : W3 => decide (s.2.1 = 0) && decide (s.2.2 = g)) := fun h H e => by
    refine List.mem_filter.mpr ⟨mem_rows3.mpr ⟨by rw [List.length_map, rng_len]; omega, ?_⟩, by simp⟩
    have v := val_half H n.toNat 0 [] (by omega) (by omega) ⟨.nil, fun q => ⟨fun z => (by cases z), fun z => by omega⟩⟩
    have := val_run (g := g) (c := 0) v (by rw [cnt_opn]; omega)
    rw [cnt_opn, e, Int.zero_add] at this
    exact this
  have tx := texts_ok (g := g) (show 0 ≤ n by omega) h10
  generalize (rows3 g n.toNat).filter (fun s : W3 => decide (s.2.1 = 0) && decide (s.2.2 = g)) = R at *
  refine ⟨R.map fun s => lst n (X s), ?_, ?_, fun t => ?_⟩
  · unfold p_halves
    have cm : compM (fun (x2 : Str) => (some true)) (fun (x2 : Str) => (Option.bind (p_half_in x2) fun u3 => (some u3))) (R.map fun s => txt3 s.1) = some (R.map fun s => lst n (X s)) := by
      have go : ∀ l : List W3, (∀ s, s ∈ l → s ∈ R) → compM (fun (x2 : Str) => (some true)) (fun (x2 : Str) => (Option.bind (p_half_in x2) fun u3 => (some u3))) (l.map fun s => txt3 s.1) = some (l.map fun s => lst n (X s)) := fun l => by
        induction l with
        | nil => intro _; rfl
        | cons s l ih =>
          intro hl
          rw [List.map_cons]
          unfold compM
          rw [(hX s (hl s List.mem_cons_self)).1, ih fun t ht => hl t (List.mem_cons_of_mem _ ht)]
          rfl
      exact go R fun _ h => h
    have al : alike (R.map fun s => lst n (X s)) = true := alike_of (d := n.toNat) (by omega) fun x hx => by
      obtain ⟨s, hs, rfl⟩ := List.mem_map.mp hx
      refine ⟨by rw [lst_len], fun i hi => ?_⟩
      unfold lst at hi
      obtain ⟨q, hq, rfl⟩ := List.mem_map.mp hi
      have hq := mem_rng.mp hq
      have := (hX s hs).2.1.iv q hq.1 hq.2
      omega
    rw [tx, Option.bind_some, cm, Option.bind_some, grd_true al, Option.bind_some]
  · refine List.pairwise_map.mpr ((List.pairwise_map.mp nd).imp_of_mem fun {s t} hs ht ne e => ne ?_)
    have a := (hX s hs).2.2
    have b := (hX t ht).2.2
    rw [a, b]
    refine List.map_congr_left fun q hq => ?_
    have hq := mem_rng.mp hq
    have e1 : X s q = X t q := by
      have a1 := atI_lst (x := X s) hq.1 hq.2
      rw [e, atI_lst hq.1 hq.2] at a1
      exact (Option.some.inj a1).symm
    unfold sg3
    rw [e1]
  · constructor
    · intro ht
      obtain ⟨s, hs, rfl⟩ := List.mem_map.mp ht
      obtain ⟨a, b, c⟩ := hX s hs
      refine ⟨X s, b, ?_, rfl⟩
      rw [← cnt_opn, ← c]
      exact (good s hs).2.2
    · rintro ⟨h, H, e, rfl⟩
      refine List.mem_map.mpr ⟨_, comp h H e, ?_⟩
      obtain ⟨_, b, c⟩ := hX _ (comp h H e)
      refine lst_ext fun q q0 q1 => sg3_one b H (fun q q0 q1 => ?_) q q0 q1
      have c : (rng 0 n).map (sg3 h) = (rng 0 n).map (sg3 (X ((rng 0 n).map (sg3 h), 0, g))) := c
      have c1 := congrArg (fun l => atI l q) c
      have a1 := atI_lst (x := sg3 h) q0 q1
      have a2 := atI_lst (x := sg3 (X ((rng 0 n).map (sg3 h), 0, g))) q0 q1
      unfold lst at a1 a2
      have c1 : atI ((rng 0 n).map (sg3 h)) q = atI ((rng 0 n).map (sg3 (X ((rng 0 n).map (sg3 h), 0, g)))) q := c1
      rw [a1, a2] at c1
      exact (Option.some.inj c1).symm
theorem pegs_bad {p : Int} (h : ¬(1 ≤ p ∧ p ≤ 10)) : x_ask_pegs p = some (.error (exc "BadPegs")) := by
  unfold x_ask_pegs
  rw [if_pos (by
    simp only [Bool.not_eq_true', Bool.and_eq_false_imp, decide_eq_true_eq, decide_eq_false_iff_not]
    omega)]
theorem row_bad {p : Int} {row : List Int} (h : ¬(1 ≤ p ∧ p ≤ 10)) : x_ask_row p row = some (.error (exc "BadPegs")) := by
  unfold x_ask_row
  rw [bindX_err (pegs_bad h)]
theorem plain_bad {p : Int} (h : ¬(1 ≤ p ∧ p ≤ 10)) : x_plain p = some (.error (exc "BadPegs")) := by
  unfold x_plain
  rw [bindX_err (pegs_bad h)]
theorem stacked_bad {p : Int} {fs : List (List Int)} (h : ¬(1 ≤ p ∧ p ≤ 10)) : x_stacked p fs = some (.error (exc "BadPegs")) := by
  unfold x_stacked
  rw [bindX_err (plain_bad h)]
theorem many_bad {p : Int} (h : ¬(1 ≤ p ∧ p ≤ 10)) : x_how_many p = some (.error (exc "BadPegs")) := by
  unfold x_how_many
  rw [bindX_err (pegs_bad h)]
theorem numbered_bad {p r : Int} (h : ¬(1 ≤ p ∧ p ≤ 10)) : x_numbered p r = some (.error (exc "BadPegs")) := by
  unfold x_numbered
  rw [bindX_err (pegs_bad h)]
theorem every_bad {p : Int} (h : ¬(1 ≤ p ∧ p ≤ 10)) : x_every p = some (.error (exc "BadPegs")) := by
  unfold x_every
  rw [bindX_err (pegs_bad h)]
theorem mhalves_bad {p g : Int} (h : ¬(1 ≤ p ∧ p ≤ 10)) : x_how_many_halves p g = some (.error (exc "BadPegs")) := by
  unfold x_how_many_halves
  rw [bindX_err (pegs_bad h)]
theorem half_bad {p g r : Int} (h : ¬(1 ≤ p ∧ p ≤ 10)) : x_half_of p g r = some (.error (exc "BadPegs")) := by
  unfold x_half_of
  rw [bindX_err (pegs_bad h)]
theorem hook_bad {p i : Int} (h : ¬(1 ≤ p ∧ p ≤ 10)) : x_hook_hooks p i = some (.error (exc "BadPegs")) := by
  unfold x_hook_hooks
  rw [bindX_err (pegs_bad h)]
theorem made_bad {p : Int} {row : List Int} (h : ¬(1 ≤ p ∧ p ≤ 10)) : x_made p row = some (.error (exc "BadPegs")) := by
  unfold x_made
  rw [bindX_err (row_bad h)]
theorem walked_bad {p r : Int} {row : List Int} {ts : List PyData} (h : ¬(1 ≤ p ∧ p ≤ 10)) : x_walked p r row ts = some (.error (exc "BadPegs")) := by
  unfold x_walked
  rw [bindX_err (row_bad h)]
theorem traded_bad {p r : Int} {row : List Int} {t : PyData} (h : ¬(1 ≤ p ∧ p ≤ 10)) : x_traded p r row t = some (.error (exc "BadPegs")) := by
  unfold x_traded
  rw [bindX_err (walked_bad h)]
theorem bridge_bad {p : Int} {x y : Int × List Int} (h : ¬(1 ≤ p ∧ p ≤ 10)) : x_bridge p x y = some (.error (exc "BadPegs")) := by
  unfold x_bridge
  rw [bindX_err (pegs_bad h)]
theorem loft_bad {p : Int} (h : ¬(1 ≤ p ∧ p ≤ 10)) : x_mk_Loft p = some (.error (exc "BadPegs")) := by
  unfold x_mk_Loft
  rw [bindX_err (pegs_bad h)]
theorem desk_bad {p : Int} (h : ¬(1 ≤ p ∧ p ≤ 10)) : x_mk_Desk p = some (.error (exc "BadPegs")) := by
  unfold x_mk_Desk
  rw [bindX_err (loft_bad h)]
theorem more_bad {p d : Int} (h : ¬(1 ≤ p ∧ p ≤ 10)) : x_ask_more d p = some (.error (exc "BadPegs")) := by
  unfold x_ask_more
  rw [bindX_err (hook_bad h), bindX_err (made_bad h), bindX_err (traded_bad h), bindX_err (walked_bad h), bindX_err (bridge_bad h), bindX_err (loft_bad h), bindX_err (bridge_bad h), bindX_err (desk_bad h)]
  repeat' split
  all_goals rfl
theorem ask_bad {p d : Int} (h : ¬(1 ≤ p ∧ p ≤ 10)) : x_ask d p = some (.error (exc "BadPegs")) := by
  unfold x_ask
  rw [bindX_err (plain_bad h), bindX_err (stacked_bad h), bindX_err (many_bad h), bindX_err (numbered_bad h), bindX_err (every_bad h), bindX_err (mhalves_bad h), bindX_err (half_bad h), bindX_err (more_bad h)]
  repeat' split
  all_goals rfl
theorem kin_word {c : Str} (h : c ∈ exNames) : (ribM (exc c) (Option.bind (kinM (exc c)) fun n4 => (Option.bind (some (n4 : Str)) fun v_word_here_5 => (some v_word_here_5)))) = some c := by
  unfold ribM
  rw [if_pos (show (exc c).name ∈ exNames from h), kinM_exc h]
  rfl
theorem word_bad {p d : Int} (h : ¬(1 ≤ p ∧ p ≤ 10)) : l_word d p = some (Str.ofString "BadPegs") := by
  unfold l_word
  rw [bindX_err (ask_bad h)]
  show Option.bind (ribM (exc "BadPegs") _) _ = _
  rw [kin_word (by decide +kernel)]
  rfl
def goods : List Str := [(Str.ofString ""), (Str.ofString "BadFrame"), (Str.ofString ""), (Str.ofString "NoNumber"), (Str.ofString ""), (Str.ofString ""), (Str.ofString "NoNumber"), (Str.ofString "BadHook"), (Str.ofString "BadHook"), (Str.ofString "BadHook"), (Str.ofString "BadHook"), (Str.ofString "BadHook")] ++ [(Str.ofString ""), (Str.ofString "BadHook"), (Str.ofString "")]
theorem words_few : ∀ k : Nat, k < 10 → ∀ d : Nat, d < 15 → d ≠ 4 → d ≠ 5 → l_word (d : Int) ((k : Int) + 1) = atI goods (d : Int) := by decide +kernel
theorem word_every : ∀ k : Nat, k < 6 → l_word (4 : Int) ((k : Int) + 1) = some (Str.ofString "") := by decide +kernel
theorem word_over : ∀ k : Nat, k < 4 → l_word (4 : Int) ((k : Int) + 7) = some (Str.ofString "BadPegs") := by decide +kernel
theorem word_halves {p : Int} (h1 : 1 ≤ p) (h10 : p ≤ 10) : l_word 5 p = some (Str.ofString "") := by
  obtain ⟨L, e, _⟩ := halves_ok (g := 3) h1 h10
  have pg : x_ask_pegs p = some (.ok ()) := by
    unfold x_ask_pegs
    simp [h1, h10]
  have m : x_how_many_halves p 3 = some (.ok ((sortC L).length : Int)) := by
    unfold x_how_many_halves
    rw [bindX_ok pg, e]
    rfl
  have a : x_ask 5 p = some (.ok ()) := by
    unfold x_ask
    rw [if_neg (by decide), if_neg (by decide), if_neg (by decide), if_neg (by decide), if_neg (by decide), if_pos (by decide), bindX_ok m]
  unfold l_word
  rw [bindX_ok a]
  rfl
theorem door_ok {p d : Int} (d0 : 0 ≤ d) (d1 : d < 15) : l_law_for2 goods p () d = some (.inl ()) := by
  unfold l_law_for2
  obtain ⟨g, hg⟩ : ∃ g, atI goods d = some g := by
    rw [atI_eq d0 (by show d < 15; omega)]
    exact ⟨_, List.getElem?_eq_getElem (by show d.toNat < 15; omega)⟩
  rw [hg, Option.bind_some]
  by_cases c : 1 ≤ p ∧ p ≤ 10
  · have k1 : (((p - 1).toNat : Nat) : Int) + 1 = p := by omega
    have dn : ((d.toNat : Nat) : Int) = d := by omega
    have inn : (!((decide ((0 : Int) < p)) && (decide (p < (11 : Int))))) = false := by simp; omega
    rw [inn, Bool.false_or]
    by_cases d4 : d = 4
    · subst d4
      have g0 : g = Str.ofString "" := by
        have : atI goods (4 : Int) = some (Str.ofString "") := by decide +kernel
        rw [hg] at this
        exact Option.some.inj this
      by_cases c6 : p > 6
      · rw [if_pos (by simpa using c6), Option.bind_some]
        have := word_over (p - 7).toNat (by omega)
        rw [show (((p - 7).toNat : Nat) : Int) + 7 = p by omega] at this
        rw [this, Option.bind_some, decide_eq_true rfl]
        rfl
      · rw [if_neg (by simpa using c6), Option.bind_some, g0]
        have := word_every (p - 1).toNat (by omega)
        rw [k1] at this
        rw [this, Option.bind_some, decide_eq_true rfl]
        rfl
    · rw [decide_eq_false d4, Bool.false_and, if_neg (by simp), Option.bind_some]
      by_cases d5 : d = 5
      · subst d5
        have g0 : g = Str.ofString "" := by
          have : atI goods (5 : Int) = some (Str.ofString "") := by decide +kernel
          rw [hg] at this
          exact Option.some.inj this
        rw [word_halves c.1 c.2, Option.bind_some, g0, decide_eq_true rfl]
        rfl
      · have := words_few (p - 1).toNat (by omega) d.toNat (by omega) (by omega) (by omega)
        rw [k1, dn, hg] at this
        rw [this, Option.bind_some, decide_eq_true rfl]
        rfl
  · have out : (!((decide ((0 : Int) < p)) && (decide (p < (11 : Int))))) = true := by
      simp only [Bool.not_eq_true', Bool.and_eq_false_imp, decide_eq_true_eq, decide_eq_false_iff_not]
      omega
    rw [out, Bool.true_or, if_pos rfl, Option.bind_some, word_bad c, Option.bind_some, decide_eq_true rfl]
    rfl
theorem turn_ok {ns : List Int} {k : Int} (hk : 0 ≤ k) (hl : ns.length ≤ 63) : l_law_for1 ns goods () k = some (.inl ()) := by
  unfold l_law_for1
  obtain ⟨ds, e, dg⟩ := digits_ok (ns := ns) (k := k) (ss := [6, (10 : Int) ^ Int.toNat (29 : Int)]) hk hl (fun s h => by
    simp only [List.mem_cons, List.not_mem_nil, or_false] at h
    rcases h with rfl | rfl <;> exact ⟨by decide, by decide⟩) (by decide)
  match ds, dg with
  | [a, b], dg =>
  obtain ⟨a0, a1, b0, b1, _⟩ := dg
  have u : unp2 [a, b] = some (a, b) := rfl
  rw [e, Option.bind_some, u, Option.bind_some]
  dsimp only
  obtain ⟨p, hp⟩ : ∃ p, atI ([(0 : Int), (11 : Int), ((11 : Int) + b), (((0 : Int) - (1 : Int)) - b), ((1 : Int) + (b % (10 : Int))), ((1 : Int) + (b % (6 : Int)))]) a = some p := by
    rw [atI_eq a0 (by show a < 6; omega)]
    exact ⟨_, List.getElem?_eq_getElem (by show a.toNat < 6; omega)⟩
  rw [hp, Option.bind_some]
  unfold bindR
  rw [forR_all fun d hd => door_ok (mem_rng.mp hd).1 (mem_rng.mp hd).2]
  rfl
theorem law_true : ∀ ns : List Int, ns.length ≤ 63 → l_law ns = some true := by
  intro ns hl
  unfold l_law
  rw [Option.bind_some, Option.bind_some]
  have l63 : (cutA ns none (some (63 : Int))).length ≤ 63 := Nat.le_trans cutA_len hl
  generalize cutA ns none (some (63 : Int)) = ms at l63
  rw [grd_true (by decide), Option.bind_some, Option.bind_some]
  have := forR_all (f := l_law_for1 ms goods) (s := ()) (xs := rng 0 4) fun k hk => turn_ok (mem_rng.mp hk).1 l63
  unfold bindR
  show (forR (l_law_for1 ms goods) () (rng 0 4)).bind _ = _
  rw [this]
  rfl
end Rb.M_k07

set_option Elab.async false
set_option linter.all false
set_option maxRecDepth 100000
set_option maxHeartbeats 0
namespace Rb.M_k07
open PySem PySem.Spec PyProof.Rows L2 Rb
structure Tx (K : PySem.W.Frag) (mg : Str → Option Value) : Prop where
  dum : True
  exc_BadFrame : ExcF K mg "BadFrame"
  exc_BadHook : ExcF K mg "BadHook"
  exc_BadPegs : ExcF K mg "BadPegs"
  exc_NoNumber : ExcF K mg "NoNumber"
  cls_BadFrame : mg "BadFrame" = some (.ref (He.ga K "BadFrame"))
  cls_BadHalf : mg "BadHalf" = some (.ref (He.ga K "BadHalf"))
  cls_BadHook : mg "BadHook" = some (.ref (He.ga K "BadHook"))
  cls_BadName : mg "BadName" = some (.ref (He.ga K "BadName"))
  cls_BadPage : mg "BadPage" = some (.ref (He.ga K "BadPage"))
  cls_BadPegs : mg "BadPegs" = some (.ref (He.ga K "BadPegs"))
  cls_BadTrade : mg "BadTrade" = some (.ref (He.ga K "BadTrade"))
  cls_Full : mg "Full" = some (.ref (He.ga K "Full"))
  cls_Hangs : mg "Hangs" = some (.ref (He.ga K "Hangs"))
  cls_NoFrame : mg "NoFrame" = some (.ref (He.ga K "NoFrame"))
  cls_NoNumber : mg "NoNumber" = some (.ref (He.ga K "NoNumber"))
  cls_NoPlace : mg "NoPlace" = some (.ref (He.ga K "NoPlace"))
  cls_NoStack : mg "NoStack" = some (.ref (He.ga K "NoStack"))
  cls_NothingThere : mg "NothingThere" = some (.ref (He.ga K "NothingThere"))
  cls_RibbonError : mg "RibbonError" = some (.ref (He.ga K "RibbonError"))
  cls_Taken : mg "Taken" = some (.ref (He.ga K "Taken"))
  exB : exB K = true
  oex_BadTrade : OexF K "at" "BadTrade"
  ValueError : mg "ValueError" = none
  abs : mg "abs" = none
  enumerate : mg "enumerate" = none
  isinstance : mg "isinstance" = none
  len : mg "len" = none
  list : mg "list" = none
  range : mg "range" = none
  sorted : mg "sorted" = none
  tuple : mg "tuple" = none
  zip : mg "zip" = none
  MOST_LISTED : ∃ t, mg "MOST_LISTED" = some (.int 6 t)
  MOST_PEGS : ∃ t, mg "MOST_PEGS" = some (.int 10 t)
abbrev encR_p_ask_pegs (_ : Unit) : Out := .nx [.un]
abbrev st_p_ask_pegs : Stmt := top 20
abbrev NN_p_ask_pegs : List Str := ["pegs"]
theorem sc_p_ask_pegs : FnScope NN_p_ask_pegs ["pegs"] (defScope st_p_ask_pegs) := ⟨rfl, rfl, rfl, by decide +kernel, rfl, by decide +kernel, by decide +kernel⟩
abbrev I_p_ask_pegs : List PyData → Rv → Prop := Im (fun (a : (Int)) => [PyData.int a]) (fun (y : Unit) => Rv.sh (eN y)) (fun a => p_ask_pegs a)
theorem fn_p_ask_pegs {P : Program} {w : World} {K : PySem.W.Frag} {mg : Str → Option Value} {base : Heap} {f : Addr} {fd : FuncData} (F : FunD K "ask_pegs" "ask_pegs" (defArgs st_p_ask_pegs) (defBody st_p_ask_pegs) (defScope st_p_ask_pegs) [] [] f fd) (hg : mg "ask_pegs" = some (.ref f)) (T : Tx K mg)  : Fn P w K mg base "ask_pegs" 1 I_p_ask_pegs := by
  refine ⟨f, fd, ["pegs"], fn_ok (N := NN_p_ask_pegs) (en := encR_p_ask_pegs) F sc_p_ask_pegs (fun _ => rfl) (fun _ => .inr ⟨rfl, _, rfl⟩) (fun cdv A' outer s H E hr => ⟨_, (pss_cons (ps_if (pt_not (pt_chain op_le op_le pe_int (pv 0) (pe_const (by rfl) T.MOST_PEGS))) pss_never pss_nil) pss_nil), fun v_pegs => ?_⟩), hg, F.kp, F.bindsN fun _ _ _ _ _ _ us hl => match us, hl with | [_], _ => rfl⟩
  exact (show BX K _ [.sh (PyData.int v_pegs)] encR_p_ask_pegs (p_ask_pegs v_pegs) from
   (bx_ifNo (et_not (et_of (ex_chain (p := fun i j => decide (i ≤ j)) (p' := fun i j => decide (i ≤ j)) (fun _ _ => rfl) (fun _ _ => rfl) ex_int (ex_var (i := 0) rfl) ex_int))) (fun _ => (bx_nx (.un .nil) rfl))))
abbrev encE_x_ask_pegs (E : XK) (x : Exn) : Out := .ex [.un] x fun c d _ H => E c d H
abbrev encX_x_ask_pegs (E : XK) (z : Except Exn Unit) : Out := match z with
  | .ok y => .nx [.un]
  | .error x => .ex [.un] x fun c d _ H => E c d H
abbrev st_x_ask_pegs : Stmt := top 20
abbrev NN_x_ask_pegs : List Str := ["pegs"]
theorem sc_x_ask_pegs : FnScope NN_x_ask_pegs ["pegs"] (defScope st_x_ask_pegs) := ⟨rfl, rfl, rfl, by decide +kernel, rfl, by decide +kernel, by decide +kernel⟩
abbrev I_x_ask_pegs : List PyData → Rv ⊕ Exn → Prop := ImX (fun (a : (Int)) => [PyData.int a]) (fun (y : Unit) => Rv.sh (eN y)) (fun a => x_ask_pegs a)
theorem fn_x_ask_pegs {P : Program} {w : World} {K : PySem.W.Frag} {mg : Str → Option Value} {base : Heap} {f : Addr} {fd : FuncData} (F : FunD K "ask_pegs" "ask_pegs" (defArgs st_x_ask_pegs) (defBody st_x_ask_pegs) (defScope st_x_ask_pegs) [] [] f fd) (hg : mg "ask_pegs" = some (.ref f)) (T : Tx K mg)  : FnX P w K mg base "ask_pegs" 1 I_x_ask_pegs := by
  refine ⟨f, fd, ["pegs"], fn_okX (N := NN_x_ask_pegs) (en := encX_x_ask_pegs) F sc_x_ask_pegs (fun _ => rfl) (fun _ _ => .inr ⟨rfl, _, rfl⟩) (fun _ _ => ⟨_, rfl⟩) (fun cdv A' outer s H E hr => ⟨_, (pss_cons (ps_if (pt_not (pt_chain op_le op_le pe_int (pv 0) (pe_const (by rfl) T.MOST_PEGS))) (pss_cons (ps_raiseX (K := K) rfl T.exc_BadPegs (L2N.takes_of rfl rfl rfl rfl) (by rfl)) pss_never) pss_nil) pss_nil), fun v_pegs => ?_⟩), hg, F.kp, F.bindsN fun _ _ _ _ _ _ us hl => match us, hl with | [_], _ => rfl⟩
  exact (show BX K _ [.sh (PyData.int v_pegs)] (encX_x_ask_pegs E) (x_ask_pegs v_pegs) from
   (bx_ifRet (et_not (et_of (ex_chain (p := fun i j => decide (i ≤ j)) (p' := fun i j => decide (i ≤ j)) (fun _ _ => rfl) (fun _ _ => rfl) ex_int (ex_var (i := 0) rfl) ex_int))) (fun _ => (bx_raiseS (W := (fun c d _ H => E c d H)) rfl (.un .nil))) (fun o e ho h => by cases ho; cases h) (fun _ => (bx_nx (.un .nil) rfl))))
theorem ext_dnew {K : PySem.W.Frag} {env : List Sl} : EXt K tDNewK env (.dk []) := fun F0 H0 F H σ E Q q p hp => q (.ref p) F (upd H p (.dK [])) [p] (Fz.add E.fh hp) (.dk upd_same ⟨rfl, .nil⟩ ⟨Nat.zero_le _, fun _ m => by cases m⟩) (by simp) fun b m => by
  obtain rfl := List.mem_singleton.mp m
  exact ⟨hp, Evl.fresh_back E.fh hp⟩
theorem fld_ht {K : PySem.W.Frag} {ta tv : TE} {f : Str} {tu : TS} {D : Ends} {σ : L2.St} {H : Hp} : ∃ Q : VK, tv σ H Q → tSeq (sFld K ta tv f) tu D σ H := ⟨_, fun h => h⟩
theorem sr_one {env : List Sl} {q : PyData} : ∀ (j : Nat) (s : Sr), [Sr.d q][j]? = some s → SrOk env s
  | 0, _, h => by cases h; trivial
  | j + 1, _, h => by simp at h
theorem sr_oneM {q : PyData} : ∀ (j : Nat) (s : Sr), [Sr.d q][j]? = some s → s.ag.isMu = false
  | 0, _, h => by cases h; rfl
  | j + 1, _, h => by simp at h
abbrev oLoft (K : PySem.W.Frag) (w : Int) : OT := .obj (He.ga K "Loft") ["width", "known", "piles", "past", "ahead"] [.d (.int w), .dk [], .dk [], .lst [], .lst []]
abbrev oDesk (K : PySem.W.Frag) (w : Int) : OT := .obj (He.ga K "Desk") ["own"] [oLoft K w]
abbrev st_mk_Loft : Stmt := clsStmt (top 66) 0
abbrev NN_mk_Loft : List Str := ["self", "pegs"]
theorem sc_mk_Loft : FnScope NN_mk_Loft ["self", "pegs"] (defScope st_mk_Loft) := ⟨rfl, rfl, rfl, by decide +kernel, rfl, by decide +kernel, by decide +kernel⟩
abbrev I_mk_Loft (K : PySem.W.Frag) := ImE (fun a : Int => .mu (.obj (He.ga K "Loft") [] []) :: [PyData.int a].map Ag.d) (fun _ => .t (.d .none)) (fun w => [oLoft K w]) x_mk_Loft
theorem fn_mk_Loft {P : Program} {w : World} {K : PySem.W.Frag} {mg : Str → Option Value} {base : Heap} {f : Addr} {fd : FuncData} (F : FunD K "__init__" "Loft.__init__" (defArgs st_mk_Loft) (defBody st_mk_Loft) (defScope st_mk_Loft) [] [] f fd) (M : Mk K (He.ga K "Loft") f) (hg : mg "Loft" = some (.ref (He.ga K "Loft"))) (cl : Cls K (He.ga K "Loft")) (n_width : NoAttr K (He.ga K "Loft") "width") (n_known : NoAttr K (He.ga K "Loft") "known") (n_piles : NoAttr K (He.ga K "Loft") "piles") (n_past : NoAttr K (He.ga K "Loft") "past") (n_ahead : NoAttr K (He.ga K "Loft") "ahead") (T : Tx K mg) (G_x_ask_pegs : FnX P w K mg base "ask_pegs" 1 I_x_ask_pegs) : MkE P w K mg base "Loft" 2 (I_mk_Loft K) := by
  refine ⟨f, fd, ["self", "pegs"], fn_okS (N := NN_mk_Loft) (n := 1) (en := fun p _ E (y : Except Exn Int) => match y with | .ok w => .nx (.tb p (oLoft K w) :: List.replicate 1 .un) | .error x => .ex (.tb p (.obj (He.ga K "Loft") [] []) :: List.replicate 1 .un) x fun c d _ H => E c d H) F sc_mk_Loft (fun _ => rfl) rfl (by decide) (fun _ => trivial) (fun _ _ _ _ => .inr ⟨rfl, rfl⟩) (fun _ _ _ _ => rfl) (fun cdv A' outer s H E hr => ⟨_, (pss_cons (ps_expr (pe_fnX (K := K) G_x_ask_pegs (L2N.takes_of rfl rfl rfl rfl) (hr.mono (by decide)) (by rfl) (pa_cons (pv 1) pa_nil))) (pss_cons (ps_fld (pv 0) (pv 1) (by rfl)) (pss_cons (ps_fld (pv 0) pe_dnewK (by rfl)) (pss_cons (ps_fld (pv 0) pe_dnewK (by rfl)) (pss_cons (ps_fld (pv 0) (pe_lst pa_nil) (by rfl)) (pss_cons (ps_fld (pv 0) (pe_lst pa_nil) (by rfl)) pss_nil)))))), fun p a => ?_⟩), M, hg, F.bindsN fun _ _ _ _ _ _ us hl => match us, hl with | [_, _], _ => rfl⟩
  exact (show BX K _ [.tb p (.obj (He.ga K "Loft") [] []), .sh (.int a)] _ (x_mk_Loft a) from
   (bx_bindX (fun e he => (bx_err (err_callX (ea_cons (ex_var (i := 1) rfl) ea_nil) ⟨a, .error e, rfl, he, rfl⟩) rfl (.same (.un .nil)) (fun _ _ _ => ⟨_, fun h => h⟩))) (fun u1 hu1 => (bx_drop (ex_callX (ea_cons (ex_var (i := 1) rfl) ea_nil) ⟨a, .ok u1, rfl, hu1, rfl⟩) (bx_store (i := 0) rfl (EX.thing (ex_var (i := 1) rfl)) cl n_width (by decide) (bx_store (i := 0) rfl ext_dnew cl n_known (by decide) (bx_store (i := 0) rfl ext_dnew cl n_piles (by decide) (bx_store (i := 0) rfl (EXw.thing (exw_lst ea_nil (Nat.le_of_ble_eq_true rfl))) cl n_past (by decide) (bx_store (i := 0) rfl (EXw.thing (exw_lst ea_nil (Nat.le_of_ble_eq_true rfl))) cl n_ahead (by decide) (bx_nx (.same (.un .nil)) rfl))))))))))
abbrev st_mk_Desk : Stmt := clsStmt (top 83) 0
abbrev NN_mk_Desk : List Str := ["self", "pegs"]
theorem sc_mk_Desk : FnScope NN_mk_Desk ["self", "pegs"] (defScope st_mk_Desk) := ⟨rfl, rfl, rfl, by decide +kernel, rfl, by decide +kernel, by decide +kernel⟩
abbrev I_mk_Desk (K : PySem.W.Frag) := ImE (fun a : Int => .mu (.obj (He.ga K "Desk") [] []) :: [PyData.int a].map Ag.d) (fun _ => .t (.d .none)) (fun w => [oDesk K w]) x_mk_Desk
theorem fn_mk_Desk {P : Program} {w : World} {K : PySem.W.Frag} {mg : Str → Option Value} {base : Heap} {f : Addr} {fd : FuncData} (F : FunD K "__init__" "Desk.__init__" (defArgs st_mk_Desk) (defBody st_mk_Desk) (defScope st_mk_Desk) [] [] f fd) (M : Mk K (He.ga K "Desk") f) (hg : mg "Desk" = some (.ref (He.ga K "Desk"))) (cl : Cls K (He.ga K "Desk")) (n_own : NoAttr K (He.ga K "Desk") "own") (T : Tx K mg) (M_Loft : MkE P w K mg base "Loft" 2 (I_mk_Loft K)) : MkE P w K mg base "Desk" 4 (I_mk_Desk K) := by
  refine ⟨f, fd, ["self", "pegs"], fn_okS (N := NN_mk_Desk) (n := 1) (en := fun p _ E (y : Except Exn Int) => match y with | .ok w => .nx (.tb p (oDesk K w) :: List.replicate 1 .un) | .error x => .ex (.tb p (.obj (He.ga K "Desk") [] []) :: List.replicate 1 .un) x fun c d _ H => E c d H) F sc_mk_Desk (fun _ => rfl) rfl (by decide) (fun _ => trivial) (fun _ _ _ _ => .inr ⟨rfl, rfl⟩) (fun _ _ _ _ => rfl) (fun cdv A' outer s H E hr => ⟨_, (pss_cons (ps_fld (pv 0) (pe_mkE M_Loft (L2N.takes_of rfl rfl rfl rfl) (hr.mono (by decide)) (by rfl) (pa_cons (pv 1) pa_nil)) (by rfl)) pss_nil), fun p a => ?_⟩), M, hg, F.bindsN fun _ _ _ _ _ _ us hl => match us, hl with | [_, _], _ => rfl⟩
  exact (show BX K _ [.tb p (.obj (He.ga K "Desk") [] []), .sh (.int a)] _ (x_mk_Desk a) from
   (bx_bindX (fun e he => (bx_err (err_make (I := I_mk_Loft K) (C := He.ga K "Loft") (eag_d (ex_var (i := 1) rfl) eag_nil) sr_one sr_oneM ⟨a, .error e, rfl, he, rfl⟩) rfl (.same (.un .nil)) (fun _ _ _ => fld_ht))) (fun u1 hu1 => (bx_store (i := 0) rfl (ext_make (eag_d (ex_var (i := 1) rfl) eag_nil) sr_one sr_oneM ⟨a, .ok u1, rfl, hu1, rfl⟩) cl n_own (by decide) (bx_nx (.same (.un .nil)) rfl)))))
abbrev encR_p_turned_round (y : Int) : Out := .rt (.sh (PyData.int y))
abbrev st_p_turned_round : Stmt := top 21
abbrev NN_p_turned_round : List Str := ["pegs", "place"]
theorem sc_p_turned_round : FnScope NN_p_turned_round ["pegs", "place"] (defScope st_p_turned_round) := ⟨rfl, rfl, rfl, by decide +kernel, rfl, by decide +kernel, by decide +kernel⟩
abbrev I_p_turned_round : List PyData → Rv → Prop := Im (fun (a : (Int × Int)) => [PyData.int a.1, PyData.int a.2]) (fun (y : Int) => Rv.sh (PyData.int y)) (fun a => p_turned_round a.1 a.2)
theorem fn_p_turned_round {P : Program} {w : World} {K : PySem.W.Frag} {mg : Str → Option Value} {base : Heap} {f : Addr} {fd : FuncData} (F : FunD K "turned_round" "turned_round" (defArgs st_p_turned_round) (defBody st_p_turned_round) (defScope st_p_turned_round) [] [] f fd) (hg : mg "turned_round" = some (.ref f)) (T : Tx K mg)  : Fn P w K mg base "turned_round" 1 I_p_turned_round := by
  refine ⟨f, fd, ["pegs", "place"], fn_ok (N := NN_p_turned_round) (en := encR_p_turned_round) F sc_p_turned_round (fun _ => rfl) (fun _ => .inl rfl) (fun cdv A' outer s H E hr => ⟨_, (pss_cons (ps_if (pt_cmpR op_lt (pv 1) (pv 0) (nomark _)) (pss_cons (ps_ret (pv 1)) pss_never) pss_nil) (pss_cons (ps_ret (pe_op op_sub (pe_op op_sub (pe_op op_mul pe_int (pv 0)) pe_int) (pv 1))) pss_never)), fun a => ?_⟩), hg, F.kp, F.bindsN fun _ _ _ _ _ _ us hl => match us, hl with | [_, _], _ => rfl⟩
  obtain ⟨v_pegs, v_place⟩ := a
  exact (show BX K _ [.sh (PyData.int v_pegs), .sh (PyData.int v_place)] encR_p_turned_round (p_turned_round v_pegs v_place) from
   (bx_ifRet (et_of (ex_lt (ex_var (i := 1) rfl) (ex_var (i := 0) rfl))) (fun _ => (bx_retS (ex_var (i := 1) rfl) rfl)) (fun _ _ _ h => nomatch h) (fun _ => (bx_retS (ex_sub (ex_sub (ex_mul ex_int (ex_var (i := 0) rfl) (.inl ⟨by decide, by decide⟩)) ex_int) (ex_var (i := 1) rfl)) rfl))))
abbrev encR_p_in_round (y : (List Int)) : Out := .rt (.fr (y.map PyData.int))
abbrev st_p_in_round : Stmt := top 22
abbrev NN_p_in_round : List Str := ["frame", "pegs", "place"]
theorem sc_p_in_round : FnScope NN_p_in_round ["frame"] (defScope st_p_in_round) := ⟨rfl, rfl, rfl, by decide +kernel, rfl, by decide +kernel, by decide +kernel⟩
abbrev I_p_in_round : List PyData → Rv → Prop := Im (fun (a : ((List Int))) => [(eT PyData.int) a]) (fun (y : (List Int)) => Rv.fr (y.map PyData.int)) (fun a => p_in_round a)
theorem fn_p_in_round {P : Program} {w : World} {K : PySem.W.Frag} {mg : Str → Option Value} {base : Heap} {f : Addr} {fd : FuncData} (F : FunD K "in_round" "in_round" (defArgs st_p_in_round) (defBody st_p_in_round) (defScope st_p_in_round) [] [] f fd) (hg : mg "in_round" = some (.ref f)) (T : Tx K mg) (G_turned_round : Fn P w K mg base "turned_round" 1 I_p_turned_round) : Fn P w K mg base "in_round" 2 I_p_in_round := by
  refine ⟨f, fd, ["frame"], fn_ok (N := NN_p_in_round) (en := encR_p_in_round) F sc_p_in_round (fun _ => rfl) (fun _ => .inl rfl) (fun cdv A' outer s H E hr => ⟨_, (pss_cons (ps_set (i := 1) sc_p_in_round.nd rfl (by first | exact Or.inl rfl | exact Or.inr rfl) (pe_op op_fdivW (pe_callB (call_lenK (K := K)) (by rfl) T.len (by decide +kernel) (pa_cons (pv 0) pa_nil)) pe_int)) (pss_cons (ps_ret (pe_lc (own := [("place", 2)]) (tt := tYes) rfl sc_p_in_round.nd (pi_range1 (by rfl) T.range (pa_cons (pe_op op_mul pe_int (pv 1)) pa_nil)) (blkOk_by (N := NN_p_in_round) (sc := defScope st_p_in_round) (by decide +kernel)) (fun _ _ _ _ _ => (pg_name (i := 2) sc_p_in_round.nd rfl (by first | exact Or.inl rfl | exact Or.inr rfl))) (fun _ _ _ _ _ => pts_nil) (fun _ _ _ _ _ => (pe_fn G_turned_round (hr.mono (by decide)) (by rfl) (pa_cons (pv 1) (pa_cons (pe_ix (ix_tupK (K := K)) (pv 0) (pe_fn G_turned_round (hr.mono (by decide)) (by rfl) (pa_cons (pv 1) (pa_cons (pv 2) pa_nil))) (fun _ _ => rfl)) pa_nil)))))) pss_never)), fun v_frame => ?_⟩), hg, F.kp, F.bindsN fun _ _ _ _ _ _ us hl => match us, hl with | [_], _ => rfl⟩
  exact (show BX K _ [.sh ((eT PyData.int) v_frame), .un, .un] encR_p_in_round (p_in_round v_frame) from
   (bx_asgB (e := PyData.int) (i := 1) (ex_fdiv (ex_lenT (ex_var (i := 0) rfl)) ex_int ⟨by decide, by decide +kernel⟩) (fun v_pegs_1 => (bx_bind fun g2 hg2 => (bx_bind fun u7 hu7 => (bx_retSW (exw_lc (e := PyData.int) (e' := PyData.int) (envB := (fun x3 => [.sh ((eT PyData.int) v_frame), .sh (PyData.int v_pegs_1), .sh (PyData.int x3)])) (EIs.i (eis_rng1 (ex_mul ex_int (ex_var (i := 1) rfl) (.inl ⟨by decide, by decide⟩)) (grd_ok hg2))) hu7 (fun x3 _ => (egc_name (i := 2) (by decide))) (fun x3 _ => (eto_some et_yes)) (fun x3 _ => (exo_bind fun u4 hu4 => (exo_bind fun u5 hu5 => (exo_bind fun u6 hu6 => (exo_some (e := PyData.int) (ex_call (ea_cons (ex_var (i := 1) rfl) (ea_cons (ex_ixT (ex_var (i := 0) rfl) (ex_call (ea_cons (ex_var (i := 1) rfl) (ea_cons (ex_var (i := 2) rfl) ea_nil)) ⟨(v_pegs_1, x3), u4, rfl, hu4, rfl⟩) (atI_map hu5)) ea_nil)) ⟨(v_pegs_1, u5), u6, rfl, hu6, rfl⟩))))))) rfl))))))
abbrev encR_p_in_round_L (y : (List Int)) : Out := .rt (.fr (y.map PyData.int))
abbrev st_p_in_round_L : Stmt := top 22
abbrev NN_p_in_round_L : List Str := ["frame", "pegs", "place"]
theorem sc_p_in_round_L : FnScope NN_p_in_round_L ["frame"] (defScope st_p_in_round_L) := ⟨rfl, rfl, rfl, by decide +kernel, rfl, by decide +kernel, by decide +kernel⟩
abbrev I_p_in_round_L : List PyData → Rv → Prop := Im (fun (a : ((List Int))) => [(eL PyData.int) a]) (fun (y : (List Int)) => Rv.fr (y.map PyData.int)) (fun a => p_in_round_L a)
theorem fn_p_in_round_L {P : Program} {w : World} {K : PySem.W.Frag} {mg : Str → Option Value} {base : Heap} {f : Addr} {fd : FuncData} (F : FunD K "in_round" "in_round" (defArgs st_p_in_round_L) (defBody st_p_in_round_L) (defScope st_p_in_round_L) [] [] f fd) (hg : mg "in_round" = some (.ref f)) (T : Tx K mg) (G_turned_round : Fn P w K mg base "turned_round" 1 I_p_turned_round) : Fn P w K mg base "in_round" 2 I_p_in_round_L := by
  refine ⟨f, fd, ["frame"], fn_ok (N := NN_p_in_round_L) (en := encR_p_in_round_L) F sc_p_in_round_L (fun _ => rfl) (fun _ => .inl rfl) (fun cdv A' outer s H E hr => ⟨_, (pss_cons (ps_set (i := 1) sc_p_in_round_L.nd rfl (by first | exact Or.inl rfl | exact Or.inr rfl) (pe_op op_fdivW (pe_callB (call_lenK (K := K)) (by rfl) T.len (by decide +kernel) (pa_cons (pv 0) pa_nil)) pe_int)) (pss_cons (ps_ret (pe_lc (own := [("place", 2)]) (tt := tYes) rfl sc_p_in_round_L.nd (pi_range1 (by rfl) T.range (pa_cons (pe_op op_mul pe_int (pv 1)) pa_nil)) (blkOk_by (N := NN_p_in_round_L) (sc := defScope st_p_in_round_L) (by decide +kernel)) (fun _ _ _ _ _ => (pg_name (i := 2) sc_p_in_round_L.nd rfl (by first | exact Or.inl rfl | exact Or.inr rfl))) (fun _ _ _ _ _ => pts_nil) (fun _ _ _ _ _ => (pe_fn G_turned_round (hr.mono (by decide)) (by rfl) (pa_cons (pv 1) (pa_cons (pe_ix (ix_listK (K := K)) (pv 0) (pe_fn G_turned_round (hr.mono (by decide)) (by rfl) (pa_cons (pv 1) (pa_cons (pv 2) pa_nil))) (fun _ _ => rfl)) pa_nil)))))) pss_never)), fun v_frame => ?_⟩), hg, F.kp, F.bindsN fun _ _ _ _ _ _ us hl => match us, hl with | [_], _ => rfl⟩
  exact (show BX K _ [.sh ((eL PyData.int) v_frame), .un, .un] encR_p_in_round_L (p_in_round_L v_frame) from
   (bx_asgB (e := PyData.int) (i := 1) (ex_fdiv (ex_lenL (EX.l (ex_var (i := 0) rfl))) ex_int ⟨by decide, by decide +kernel⟩) (fun v_pegs_1 => (bx_bind fun g2 hg2 => (bx_bind fun u7 hu7 => (bx_retSW (exw_lc (e := PyData.int) (e' := PyData.int) (envB := (fun x3 => [.sh ((eL PyData.int) v_frame), .sh (PyData.int v_pegs_1), .sh (PyData.int x3)])) (EIs.i (eis_rng1 (ex_mul ex_int (ex_var (i := 1) rfl) (.inl ⟨by decide, by decide⟩)) (grd_ok hg2))) hu7 (fun x3 _ => (egc_name (i := 2) (by decide))) (fun x3 _ => (eto_some et_yes)) (fun x3 _ => (exo_bind fun u4 hu4 => (exo_bind fun u5 hu5 => (exo_bind fun u6 hu6 => (exo_some (e := PyData.int) (ex_call (ea_cons (ex_var (i := 1) rfl) (ea_cons (ex_ixL (EX.l (ex_var (i := 0) rfl)) (ex_call (ea_cons (ex_var (i := 1) rfl) (ea_cons (ex_var (i := 2) rfl) ea_nil)) ⟨(v_pegs_1, x3), u4, rfl, hu4, rfl⟩) (atI_map hu5)) ea_nil)) ⟨(v_pegs_1, u5), u6, rfl, hu6, rfl⟩))))))) rfl))))))
abbrev encR_p_out_of_round (y : (List Int)) : Out := .rt (.sh ((eT PyData.int) y))
abbrev st_p_out_of_round : Stmt := top 23
abbrev NN_p_out_of_round : List Str := ["ends", "pegs", "peg"]
theorem sc_p_out_of_round : FnScope NN_p_out_of_round ["ends"] (defScope st_p_out_of_round) := ⟨rfl, rfl, rfl, by decide +kernel, rfl, by decide +kernel, by decide +kernel⟩
abbrev I_p_out_of_round : List PyData → Rv → Prop := Im (fun (a : ((List Int))) => [(eL PyData.int) a]) (fun (y : (List Int)) => Rv.sh ((eT PyData.int) y)) (fun a => p_out_of_round a)
theorem fn_p_out_of_round {P : Program} {w : World} {K : PySem.W.Frag} {mg : Str → Option Value} {base : Heap} {f : Addr} {fd : FuncData} (F : FunD K "out_of_round" "out_of_round" (defArgs st_p_out_of_round) (defBody st_p_out_of_round) (defScope st_p_out_of_round) [] [] f fd) (hg : mg "out_of_round" = some (.ref f)) (T : Tx K mg) (G_turned_round : Fn P w K mg base "turned_round" 1 I_p_turned_round) : Fn P w K mg base "out_of_round" 2 I_p_out_of_round := by
  refine ⟨f, fd, ["ends"], fn_ok (N := NN_p_out_of_round) (en := encR_p_out_of_round) F sc_p_out_of_round (fun _ => rfl) (fun _ => .inl rfl) (fun cdv A' outer s H E hr => ⟨_, (pss_cons (ps_set (i := 1) sc_p_out_of_round.nd rfl (by first | exact Or.inl rfl | exact Or.inr rfl) (pe_op op_fdivW (pe_callB (call_lenK (K := K)) (by rfl) T.len (by decide +kernel) (pa_cons (pv 0) pa_nil)) pe_int)) (pss_cons (ps_ret (pe_callTy (call_tupleK (K := K)) (by rfl) T.tuple (by decide +kernel) (pa_cons (pe_lc (own := [("peg", 2)]) (tt := tYes) rfl sc_p_out_of_round.nd (pi_range1 (by rfl) T.range (pa_cons (pe_op op_mul pe_int (pv 1)) pa_nil)) (blkOk_by (N := NN_p_out_of_round) (sc := defScope st_p_out_of_round) (by decide +kernel)) (fun _ _ _ _ _ => (pg_name (i := 2) sc_p_out_of_round.nd rfl (by first | exact Or.inl rfl | exact Or.inr rfl))) (fun _ _ _ _ _ => pts_nil) (fun _ _ _ _ _ => (pe_fn G_turned_round (hr.mono (by decide)) (by rfl) (pa_cons (pv 1) (pa_cons (pe_ix (ix_listK (K := K)) (pv 0) (pe_fn G_turned_round (hr.mono (by decide)) (by rfl) (pa_cons (pv 1) (pa_cons (pv 2) pa_nil))) (fun _ _ => rfl)) pa_nil))))) pa_nil))) pss_never)), fun v_ends => ?_⟩), hg, F.kp, F.bindsN fun _ _ _ _ _ _ us hl => match us, hl with | [_], _ => rfl⟩
  exact (show BX K _ [.sh ((eL PyData.int) v_ends), .un, .un] encR_p_out_of_round (p_out_of_round v_ends) from
   (bx_asgB (e := PyData.int) (i := 1) (ex_fdiv (ex_lenL (EX.l (ex_var (i := 0) rfl))) ex_int ⟨by decide, by decide +kernel⟩) (fun v_pegs_1 => (bx_bind fun g2 hg2 => (bx_bind fun u7 hu7 => (bx_retS (ex_tupL (EXw.l (exw_lc (e := PyData.int) (e' := PyData.int) (envB := (fun x3 => [.sh ((eL PyData.int) v_ends), .sh (PyData.int v_pegs_1), .sh (PyData.int x3)])) (EIs.i (eis_rng1 (ex_mul ex_int (ex_var (i := 1) rfl) (.inl ⟨by decide, by decide⟩)) (grd_ok hg2))) hu7 (fun x3 _ => (egc_name (i := 2) (by decide))) (fun x3 _ => (eto_some et_yes)) (fun x3 _ => (exo_bind fun u4 hu4 => (exo_bind fun u5 hu5 => (exo_bind fun u6 hu6 => (exo_some (e := PyData.int) (ex_call (ea_cons (ex_var (i := 1) rfl) (ea_cons (ex_ixL (EX.l (ex_var (i := 0) rfl)) (ex_call (ea_cons (ex_var (i := 1) rfl) (ea_cons (ex_var (i := 2) rfl) ea_nil)) ⟨(v_pegs_1, x3), u4, rfl, hu4, rfl⟩) (atI_map hu5)) ea_nil)) ⟨(v_pegs_1, u5), u6, rfl, hu6, rfl⟩))))))))) rfl))))))
abbrev encR_p_are_ties (y : Bool) : Out := .rt (.sh (PyData.bool y))
abbrev st_p_are_ties : Stmt := top 24
abbrev NN_p_are_ties : List Str := ["frame", "peg", "other"]
theorem sc_p_are_ties : FnScope NN_p_are_ties ["frame"] (defScope st_p_are_ties) := ⟨rfl, rfl, rfl, by decide +kernel, rfl, by decide +kernel, by decide +kernel⟩
abbrev I_p_are_ties : List PyData → Rv → Prop := Im (fun (a : ((List Int))) => [(eT PyData.int) a]) (fun (y : Bool) => Rv.sh (PyData.bool y)) (fun a => p_are_ties a)
theorem fn_p_are_ties {P : Program} {w : World} {K : PySem.W.Frag} {mg : Str → Option Value} {base : Heap} {f : Addr} {fd : FuncData} (F : FunD K "are_ties" "are_ties" (defArgs st_p_are_ties) (defBody st_p_are_ties) (defScope st_p_are_ties) [] [] f fd) (hg : mg "are_ties" = some (.ref f)) (T : Tx K mg)  : Fn P w K mg base "are_ties" 1 I_p_are_ties := by
  refine ⟨f, fd, ["frame"], fn_ok (N := NN_p_are_ties) (en := encR_p_are_ties) F sc_p_are_ties (fun _ => rfl) (fun _ => .inl rfl) (fun cdv A' outer s H E hr => ⟨_, (pss_cons (ps_if (PW.pt (pw_or (pt_cmpR op_lt (pe_callB (call_lenK (K := K)) (by rfl) T.len (by decide +kernel) (pa_cons (pv 0) pa_nil)) pe_int (nomark _)) (pw_or (pt_cmpR op_gt (pe_callB (call_lenK (K := K)) (by rfl) T.len (by decide +kernel) (pa_cons (pv 0) pa_nil)) (pe_op op_mul pe_int (pe_const (by rfl) T.MOST_PEGS)) (nomark _)) (pw_or1 (pt_cmpR op_eq (pe_op op_mod (pe_callB (call_lenK (K := K)) (by rfl) T.len (by decide +kernel) (pa_cons (pv 0) pa_nil)) pe_int) pe_int (nomark _)))))) (pss_cons (ps_ret pe_bl) pss_never) pss_nil) (pss_cons (ps_for PassesOwn.never rfl (pi_enumT (K := K) (by rfl) T.enumerate (pa_cons (pv 0) pa_nil)) (pg_tupK (K := K) (n := 2) (by rfl) (pgs_cons (pg_name (i := 1) sc_p_are_ties.nd rfl (by first | exact Or.inl rfl | exact Or.inr rfl)) (pgs_cons (pg_name (i := 2) sc_p_are_ties.nd rfl (by first | exact Or.inl rfl | exact Or.inr rfl)) pgs_nil))) (pss_cons (ps_if (PW.pt (pw_or (pt_not (pt_chain op_le op_lt pe_int (pv 2) (pe_callB (call_lenK (K := K)) (by rfl) T.len (by decide +kernel) (pa_cons (pv 0) pa_nil)))) (pw_or (pt_cmpR op_eq (pv 2) (pv 1) (nomark _)) (pw_or1 (pt_cmpR op_ne (pe_ix (ix_tupK (K := K)) (pv 0) (pv 2) (fun _ _ => rfl)) (pv 1) (nomark _)))))) (pss_cons (ps_ret pe_bl) pss_never) pss_nil) pss_nil)) (pss_cons (ps_ret pe_bl) pss_never))), fun v_frame => ?_⟩), hg, F.kp, F.bindsN fun _ _ _ _ _ _ us hl => match us, hl with | [_], _ => rfl⟩
  exact (show BX K _ [.sh ((eT PyData.int) v_frame), .un, .un] encR_p_are_ties (p_are_ties v_frame) from
   (bx_ifRet (et_or (et_of (ex_lt (ex_lenT (ex_var (i := 0) rfl)) ex_int)) (et_or (et_of (ex_gt (ex_lenT (ex_var (i := 0) rfl)) (ex_mul ex_int ex_int (.inr ⟨by decide, by decide⟩)))) (et_of (ex_eqI (ex_mod (ex_lenT (ex_var (i := 0) rfl)) ex_int (by decide)) ex_int)))) (fun _ => (bx_retS ex_bl rfl)) (fun _ _ _ h => nomatch h) (fun _ => (bx_bindR (envS := (fun (s_1 : Unit) => [.sh ((eT PyData.int) v_frame), .un, .un])) (encR := encR_p_are_ties) (bx_forR (encR := encR_p_are_ties) (envS := (fun (s_1 : Unit) => [.sh ((eT PyData.int) v_frame), .un, .un])) (e := (eP PyData.int PyData.int)) (envB := (fun (s_1 : Unit) (x1 : (Int × Int)) => [.sh ((eT PyData.int) v_frame), .sh (PyData.int x1.1), .sh (PyData.int x1.2)])) (f := (p_are_ties_for1 v_frame)) (eis_enumT (ex_var (i := 0) rfl)) (.same (.un (.un .nil))) (fun _ => trivial) (fun s_1 x1 _ => EGc.eg (vs := [1, 2]) (egc_tup (egs_cons (egc_name (i := 1) (by decide)) (egs_cons (egc_name (i := 2) (by decide)) egs_nil)) rfl)) (fun s_1 x1 _ => (bx_bind fun c3 hc3 => (bx_ifRetM (encR := encR_p_are_ties) ((eto_or (eto_some (et_not (et_of (ex_chain (p := fun i j => decide (i ≤ j)) (p' := fun i j => decide (i < j)) (fun _ _ => rfl) (fun _ _ => rfl) ex_int (ex_var (i := 2) rfl) (ex_lenT (ex_var (i := 0) rfl)))))) (eto_or (eto_some (et_of (ex_eqI (ex_var (i := 2) rfl) (ex_var (i := 1) rfl)))) (eto_bind fun u2 hu2 => (eto_some (et_of (ex_neI (ex_ixT (ex_var (i := 0) rfl) (ex_var (i := 2) rfl) (atI_map hu2)) (ex_var (i := 1) rfl))))))) c3 hc3) (fun _ => (bx_retS ex_bl rfl)) (fun _ _ h => nomatch h) (fun _ => rfl) (fun _ => (bx_nx (.same (.un (.un .nil))) rfl)))))) (fun _ => rfl) (fun _ _ h => nomatch h) (fun s4 _ => (bx_retS ex_bl rfl))))))
abbrev encR_p_nested (y : Bool) : Out := .rt (.sh (PyData.bool y))
abbrev st_p_nested : Stmt := top 25
abbrev NN_p_nested : List Str := ["ends", "open_ones", "place", "other"]
theorem sc_p_nested : FnScope NN_p_nested ["ends"] (defScope st_p_nested) := ⟨rfl, rfl, rfl, by decide +kernel, rfl, by decide +kernel, by decide +kernel⟩
abbrev I_p_nested : List PyData → Rv → Prop := Im (fun (a : ((List Int))) => [(eL PyData.int) a]) (fun (y : Bool) => Rv.sh (PyData.bool y)) (fun a => p_nested a)
theorem fn_p_nested {P : Program} {w : World} {K : PySem.W.Frag} {mg : Str → Option Value} {base : Heap} {f : Addr} {fd : FuncData} (F : FunD K "nested" "nested" (defArgs st_p_nested) (defBody st_p_nested) (defScope st_p_nested) [] [] f fd) (hg : mg "nested" = some (.ref f)) (T : Tx K mg)  : Fn P w K mg base "nested" 1 I_p_nested := by
  refine ⟨f, fd, ["ends"], fn_ok (N := NN_p_nested) (en := encR_p_nested) F sc_p_nested (fun _ => rfl) (fun _ => .inl rfl) (fun cdv A' outer s H E hr => ⟨_, (pss_cons (ps_set (i := 1) sc_p_nested.nd rfl (by first | exact Or.inl rfl | exact Or.inr rfl) (pe_lst pa_nil)) (pss_cons (ps_for PassesOwn.never rfl (pi_enumK (K := K) (by rfl) T.enumerate (pa_cons (pv 0) pa_nil)) (pg_tupK (K := K) (n := 2) (by rfl) (pgs_cons (pg_name (i := 2) sc_p_nested.nd rfl (by first | exact Or.inl rfl | exact Or.inr rfl)) (pgs_cons (pg_name (i := 3) sc_p_nested.nd rfl (by first | exact Or.inl rfl | exact Or.inr rfl)) pgs_nil))) (pss_cons (ps_if (pt_cmpR op_gt (pv 3) (pv 2) (nomark _)) (pss_cons (ps_expr (pe_bm PySem.F.plainAttrs_list PySem.F.slot_list_append PySem.F.type_list_append mt_append (pv 1) (pa_cons (pv 3) pa_nil))) pss_nil) (pss_cons (ps_if (pt_cmpR op_ne (pe_bm0 PySem.F.plainAttrs_list PySem.F.slot_list_pop PySem.F.type_list_pop mt_pop (pv 1)) (pv 2) (nomark _)) (pss_cons (ps_ret pe_bl) pss_never) pss_nil) pss_nil)) pss_nil)) (pss_cons (ps_ret pe_bl) pss_never))), fun v_ends => ?_⟩), hg, F.kp, F.bindsN fun _ _ _ _ _ _ us hl => match us, hl with | [_], _ => rfl⟩
  exact (show BX K _ [.sh ((eL PyData.int) v_ends), .un, .un, .un] encR_p_nested (p_nested v_ends) from
   (bx_asgW (exw_lst (ds := (([] : (List Int)) : (List Int)).map PyData.int) ea_nil (Nat.le_of_ble_eq_true rfl)) (bx_bindR (envS := (fun (s_1 : (List Int)) => [.sh ((eL PyData.int) v_ends), .ow (s_1.map PyData.int), .un, .un])) (encR := encR_p_nested) (bx_forR (encR := encR_p_nested) (envS := (fun (s_1 : (List Int)) => [.sh ((eL PyData.int) v_ends), .ow (s_1.map PyData.int), .un, .un])) (e := (eP PyData.int PyData.int)) (envB := (fun (s_1 : (List Int)) (x1 : (Int × Int)) => [.sh ((eL PyData.int) v_ends), .ow (s_1.map PyData.int), .sh (PyData.int x1.1), .sh (PyData.int x1.2)])) (f := p_nested_for1) (eis_enumL (ex_var (i := 0) rfl)) (.same (.same (.un (.un .nil)))) (fun _ => trivial) (fun s_1 x1 _ => EGc.eg (vs := [2, 3]) (egc_tup (egs_cons (egc_name (i := 2) (by decide)) (egs_cons (egc_name (i := 3) (by decide)) egs_nil)) rfl)) (fun s_1 x1 _ => (bx_last (bx_if (et_of (ex_gt (ex_var (i := 3) rfl) (ex_var (i := 2) rfl))) (fun _ => (bx_bind fun u2 hu2 => (bx_app (e := PyData.int) (x := x1.2) rfl (ex_var (i := 3) rfl) hu2 (bx_nx (.same (.same (.un (.un .nil)))) rfl)))) (fun _ => (bx_bind fun u3 hu3 => (bx_last (bx_ifPopNe (α := Int) (e := PyData.int) (xs := []) (ys := []) (i := 1) rfl hu3 (ex_var (i := 2) rfl) (bx_retS ex_bl rfl) (bx_nx (.same (.same (.un (.un .nil)))) rfl))))))))) (fun _ => rfl) (fun _ _ h => nomatch h) (fun s4 _ => (bx_retS ex_bl rfl)))))
abbrev encR_p_is_frame (y : Bool) : Out := .rt (.sh (PyData.bool y))
abbrev st_p_is_frame : Stmt := top 26
abbrev NN_p_is_frame : List Str := ["frame"]
theorem sc_p_is_frame : FnScope NN_p_is_frame ["frame"] (defScope st_p_is_frame) := ⟨rfl, rfl, rfl, by decide +kernel, rfl, by decide +kernel, by decide +kernel⟩
abbrev I_p_is_frame : List PyData → Rv → Prop := Im (fun (a : ((List Int))) => [(eT PyData.int) a]) (fun (y : Bool) => Rv.sh (PyData.bool y)) (fun a => p_is_frame a)
theorem fn_p_is_frame {P : Program} {w : World} {K : PySem.W.Frag} {mg : Str → Option Value} {base : Heap} {f : Addr} {fd : FuncData} (F : FunD K "is_frame" "is_frame" (defArgs st_p_is_frame) (defBody st_p_is_frame) (defScope st_p_is_frame) [] [] f fd) (hg : mg "is_frame" = some (.ref f)) (T : Tx K mg) (G_are_ties : Fn P w K mg base "are_ties" 1 I_p_are_ties) (G_in_round : Fn P w K mg base "in_round" 2 I_p_in_round) (G_nested : Fn P w K mg base "nested" 1 I_p_nested) : Fn P w K mg base "is_frame" 3 I_p_is_frame := by
  refine ⟨f, fd, ["frame"], fn_ok (N := NN_p_is_frame) (en := encR_p_is_frame) F sc_p_is_frame (fun _ => rfl) (fun _ => .inl rfl) (fun cdv A' outer s H E hr => ⟨_, (pss_cons (ps_ret (pe_and (pe_fn G_are_ties (hr.mono (by decide)) (by rfl) (pa_cons (pv 0) pa_nil)) (pe_one (pe_fn G_nested (hr.mono (by decide)) (by rfl) (pa_cons (pe_fn G_in_round (hr.mono (by decide)) (by rfl) (pa_cons (pv 0) pa_nil)) pa_nil))))) pss_never), fun v_frame => ?_⟩), hg, F.kp, F.bindsN fun _ _ _ _ _ _ us hl => match us, hl with | [_], _ => rfl⟩
  exact (show BX K _ [.sh ((eT PyData.int) v_frame)] encR_p_is_frame (p_is_frame v_frame) from
   (bx_bind fun u1 hu1 => (bx_bind fun c4 hc4 => (bx_retS ((exo_and (exo_some (e := PyData.bool) (ex_call (ea_cons (ex_var (i := 0) rfl) ea_nil) ⟨v_frame, u1, rfl, hu1, rfl⟩)) (exo_bind fun u2 hu2 => (exo_bind fun u3 hu3 => (exo_some (e := PyData.bool) (ex_call (ea_cons (EXw.sh (exw_call (ea_cons (ex_var (i := 0) rfl) ea_nil) ⟨v_frame, u2, rfl, hu2, rfl⟩)) ea_nil) ⟨u2, u3, rfl, hu3, rfl⟩))))) c4 hc4) rfl))))
abbrev encR_p_ask_frame (_ : Unit) : Out := .nx [.un]
abbrev st_p_ask_frame : Stmt := top 27
abbrev NN_p_ask_frame : List Str := ["frame"]
theorem sc_p_ask_frame : FnScope NN_p_ask_frame ["frame"] (defScope st_p_ask_frame) := ⟨rfl, rfl, rfl, by decide +kernel, rfl, by decide +kernel, by decide +kernel⟩
abbrev I_p_ask_frame : List PyData → Rv → Prop := Im (fun (a : ((List Int))) => [(eT PyData.int) a]) (fun (y : Unit) => Rv.sh (eN y)) (fun a => p_ask_frame a)
theorem fn_p_ask_frame {P : Program} {w : World} {K : PySem.W.Frag} {mg : Str → Option Value} {base : Heap} {f : Addr} {fd : FuncData} (F : FunD K "ask_frame" "ask_frame" (defArgs st_p_ask_frame) (defBody st_p_ask_frame) (defScope st_p_ask_frame) [] [] f fd) (hg : mg "ask_frame" = some (.ref f)) (T : Tx K mg) (G_is_frame : Fn P w K mg base "is_frame" 3 I_p_is_frame) : Fn P w K mg base "ask_frame" 4 I_p_ask_frame := by
  refine ⟨f, fd, ["frame"], fn_ok (N := NN_p_ask_frame) (en := encR_p_ask_frame) F sc_p_ask_frame (fun _ => rfl) (fun _ => .inr ⟨rfl, _, rfl⟩) (fun cdv A' outer s H E hr => ⟨_, (pss_cons (ps_if (pt_not (pt_val (pe_fn G_is_frame (hr.mono (by decide)) (by rfl) (pa_cons (pv 0) pa_nil)))) pss_never pss_nil) pss_nil), fun v_frame => ?_⟩), hg, F.kp, F.bindsN fun _ _ _ _ _ _ us hl => match us, hl with | [_], _ => rfl⟩
  exact (show BX K _ [.sh ((eT PyData.int) v_frame)] encR_p_ask_frame (p_ask_frame v_frame) from
   (bx_bind fun u1 hu1 => (bx_ifNo (et_not (et_B (ex_call (ea_cons (ex_var (i := 0) rfl) ea_nil) ⟨v_frame, u1, rfl, hu1, rfl⟩))) (fun _ => (bx_nx (.un .nil) rfl)))))
abbrev encE_x_ask_frame (E : XK) (x : Exn) : Out := .ex [.un] x fun c d _ H => E c d H
abbrev encX_x_ask_frame (E : XK) (z : Except Exn Unit) : Out := match z with
  | .ok y => .nx [.un]
  | .error x => .ex [.un] x fun c d _ H => E c d H
abbrev st_x_ask_frame : Stmt := top 27
abbrev NN_x_ask_frame : List Str := ["frame"]
theorem sc_x_ask_frame : FnScope NN_x_ask_frame ["frame"] (defScope st_x_ask_frame) := ⟨rfl, rfl, rfl, by decide +kernel, rfl, by decide +kernel, by decide +kernel⟩
abbrev I_x_ask_frame : List PyData → Rv ⊕ Exn → Prop := ImX (fun (a : ((List Int))) => [(eT PyData.int) a]) (fun (y : Unit) => Rv.sh (eN y)) (fun a => x_ask_frame a)
theorem fn_x_ask_frame {P : Program} {w : World} {K : PySem.W.Frag} {mg : Str → Option Value} {base : Heap} {f : Addr} {fd : FuncData} (F : FunD K "ask_frame" "ask_frame" (defArgs st_x_ask_frame) (defBody st_x_ask_frame) (defScope st_x_ask_frame) [] [] f fd) (hg : mg "ask_frame" = some (.ref f)) (T : Tx K mg) (G_is_frame : Fn P w K mg base "is_frame" 3 I_p_is_frame) : FnX P w K mg base "ask_frame" 4 I_x_ask_frame := by
  refine ⟨f, fd, ["frame"], fn_okX (N := NN_x_ask_frame) (en := encX_x_ask_frame) F sc_x_ask_frame (fun _ => rfl) (fun _ _ => .inr ⟨rfl, _, rfl⟩) (fun _ _ => ⟨_, rfl⟩) (fun cdv A' outer s H E hr => ⟨_, (pss_cons (ps_if (pt_not (pt_val (pe_fn G_is_frame (hr.mono (by decide)) (by rfl) (pa_cons (pv 0) pa_nil)))) (pss_cons (ps_raiseX (K := K) rfl T.exc_BadFrame (L2N.takes_of rfl rfl rfl rfl) (by rfl)) pss_never) pss_nil) pss_nil), fun v_frame => ?_⟩), hg, F.kp, F.bindsN fun _ _ _ _ _ _ us hl => match us, hl with | [_], _ => rfl⟩
  exact (show BX K _ [.sh ((eT PyData.int) v_frame)] (encX_x_ask_frame E) (x_ask_frame v_frame) from
   (bx_bind fun u1 hu1 => (bx_ifRet (et_not (et_B (ex_call (ea_cons (ex_var (i := 0) rfl) ea_nil) ⟨v_frame, u1, rfl, hu1, rfl⟩))) (fun _ => (bx_raiseS (W := (fun c d _ H => E c d H)) rfl (.un .nil))) (fun o e ho h => by cases ho; cases h) (fun _ => (bx_nx (.un .nil) rfl)))))
abbrev encR_p_plain (y : (List Int)) : Out := .rt (.sh ((eT PyData.int) y))
abbrev st_p_plain : Stmt := top 28
abbrev NN_p_plain : List Str := ["pegs", "peg"]
theorem sc_p_plain : FnScope NN_p_plain ["pegs"] (defScope st_p_plain) := ⟨rfl, rfl, rfl, by decide +kernel, rfl, by decide +kernel, by decide +kernel⟩
abbrev I_p_plain : List PyData → Rv → Prop := Im (fun (a : (Int)) => [PyData.int a]) (fun (y : (List Int)) => Rv.sh ((eT PyData.int) y)) (fun a => p_plain a)
theorem fn_p_plain {P : Program} {w : World} {K : PySem.W.Frag} {mg : Str → Option Value} {base : Heap} {f : Addr} {fd : FuncData} (F : FunD K "plain" "plain" (defArgs st_p_plain) (defBody st_p_plain) (defScope st_p_plain) [] [] f fd) (hg : mg "plain" = some (.ref f)) (T : Tx K mg) (G_ask_pegs : Fn P w K mg base "ask_pegs" 1 I_p_ask_pegs) : Fn P w K mg base "plain" 2 I_p_plain := by
  refine ⟨f, fd, ["pegs"], fn_ok (N := NN_p_plain) (en := encR_p_plain) F sc_p_plain (fun _ => rfl) (fun _ => .inl rfl) (fun cdv A' outer s H E hr => ⟨_, (pss_cons (ps_expr (pe_fn G_ask_pegs (hr.mono (by decide)) (by rfl) (pa_cons (pv 0) pa_nil))) (pss_cons (ps_ret (pe_callTy (call_tupleK (K := K)) (by rfl) T.tuple (by decide +kernel) (pa_cons (pe_lc (own := [("peg", 1)]) (tt := tYes) rfl sc_p_plain.nd (pi_range1 (by rfl) T.range (pa_cons (pe_op op_mul pe_int (pv 0)) pa_nil)) (blkOk_by (N := NN_p_plain) (sc := defScope st_p_plain) (by decide +kernel)) (fun _ _ _ _ _ => (pg_name (i := 1) sc_p_plain.nd rfl (by first | exact Or.inl rfl | exact Or.inr rfl))) (fun _ _ _ _ _ => pts_nil) (fun _ _ _ _ _ => (pe_op op_mod (pe_op op_add (pv 1) (pv 0)) (pe_op op_mul pe_int (pv 0))))) pa_nil))) pss_never)), fun v_pegs => ?_⟩), hg, F.kp, F.bindsN fun _ _ _ _ _ _ us hl => match us, hl with | [_], _ => rfl⟩
  exact (show BX K _ [.sh (PyData.int v_pegs), .un] encR_p_plain (p_plain v_pegs) from
   (bx_bind fun u1 hu1 => (bx_drop (ex_call (ea_cons (ex_var (i := 0) rfl) ea_nil) ⟨v_pegs, u1, rfl, hu1, rfl⟩) (bx_bind fun g2 hg2 => (bx_bind fun u5 hu5 => (bx_retS (ex_tupL (EXw.l (exw_lc (e := PyData.int) (e' := PyData.int) (envB := (fun x3 => [.sh (PyData.int v_pegs), .sh (PyData.int x3)])) (EIs.i (eis_rng1 (ex_mul ex_int (ex_var (i := 0) rfl) (.inl ⟨by decide, by decide⟩)) (grd_ok hg2))) hu5 (fun x3 _ => (egc_name (i := 1) (by decide))) (fun x3 _ => (eto_some et_yes)) (fun x3 _ => (exo_bind fun g4 hg4 => (exo_some (e := PyData.int) (ex_mod (ex_add (ex_var (i := 1) rfl) (ex_var (i := 0) rfl)) (ex_mul ex_int (ex_var (i := 0) rfl) (.inl ⟨by decide, by decide⟩)) (grd_ok hg4)))))))) rfl))))))
abbrev encE_x_plain (E : XK) (x : Exn) : Out := .ex [.un, .un] x fun c d _ H => E c d H
abbrev encX_x_plain (E : XK) (z : Except Exn (List Int)) : Out := match z with
  | .ok y => .rt (.sh ((eT PyData.int) y))
  | .error x => .ex [.un, .un] x fun c d _ H => E c d H
abbrev st_x_plain : Stmt := top 28
abbrev NN_x_plain : List Str := ["pegs", "peg"]
theorem sc_x_plain : FnScope NN_x_plain ["pegs"] (defScope st_x_plain) := ⟨rfl, rfl, rfl, by decide +kernel, rfl, by decide +kernel, by decide +kernel⟩
abbrev I_x_plain : List PyData → Rv ⊕ Exn → Prop := ImX (fun (a : (Int)) => [PyData.int a]) (fun (y : (List Int)) => Rv.sh ((eT PyData.int) y)) (fun a => x_plain a)
theorem fn_x_plain {P : Program} {w : World} {K : PySem.W.Frag} {mg : Str → Option Value} {base : Heap} {f : Addr} {fd : FuncData} (F : FunD K "plain" "plain" (defArgs st_x_plain) (defBody st_x_plain) (defScope st_x_plain) [] [] f fd) (hg : mg "plain" = some (.ref f)) (T : Tx K mg) (G_x_ask_pegs : FnX P w K mg base "ask_pegs" 1 I_x_ask_pegs) : FnX P w K mg base "plain" 2 I_x_plain := by
  refine ⟨f, fd, ["pegs"], fn_okX (N := NN_x_plain) (en := encX_x_plain) F sc_x_plain (fun _ => rfl) (fun _ _ => .inl rfl) (fun _ _ => ⟨_, rfl⟩) (fun cdv A' outer s H E hr => ⟨_, (pss_cons (ps_expr (pe_fnX (K := K) G_x_ask_pegs (L2N.takes_of rfl rfl rfl rfl) (hr.mono (by decide)) (by rfl) (pa_cons (pv 0) pa_nil))) (pss_cons (ps_ret (pe_callTy (call_tupleK (K := K)) (by rfl) T.tuple (by decide +kernel) (pa_cons (pe_lc (own := [("peg", 1)]) (tt := tYes) rfl sc_x_plain.nd (pi_range1 (by rfl) T.range (pa_cons (pe_op op_mul pe_int (pv 0)) pa_nil)) (blkOk_by (N := NN_x_plain) (sc := defScope st_x_plain) (by decide +kernel)) (fun _ _ _ _ _ => (pg_name (i := 1) sc_x_plain.nd rfl (by first | exact Or.inl rfl | exact Or.inr rfl))) (fun _ _ _ _ _ => pts_nil) (fun _ _ _ _ _ => (pe_op op_mod (pe_op op_add (pv 1) (pv 0)) (pe_op op_mul pe_int (pv 0))))) pa_nil))) pss_never)), fun v_pegs => ?_⟩), hg, F.kp, F.bindsN fun _ _ _ _ _ _ us hl => match us, hl with | [_], _ => rfl⟩
  exact (show BX K _ [.sh (PyData.int v_pegs), .un] (encX_x_plain E) (x_plain v_pegs) from
   (bx_bindX (fun e he => (bx_errDrop (err_callX (ea_cons (ex_var (i := 0) rfl) ea_nil) ⟨v_pegs, .error e, rfl, he, rfl⟩) rfl (.un (.un .nil)))) (fun u1 hu1 => (bx_drop (ex_callX (ea_cons (ex_var (i := 0) rfl) ea_nil) ⟨v_pegs, .ok u1, rfl, hu1, rfl⟩) (bx_bind fun g2 hg2 => (bx_bind fun u5 hu5 => (bx_retS (ex_tupL (EXw.l (exw_lc (e := PyData.int) (e' := PyData.int) (envB := (fun x3 => [.sh (PyData.int v_pegs), .sh (PyData.int x3)])) (EIs.i (eis_rng1 (ex_mul ex_int (ex_var (i := 0) rfl) (.inl ⟨by decide, by decide⟩)) (grd_ok hg2))) hu5 (fun x3 _ => (egc_name (i := 1) (by decide))) (fun x3 _ => (eto_some et_yes)) (fun x3 _ => (exo_bind fun g4 hg4 => (exo_some (e := PyData.int) (ex_mod (ex_add (ex_var (i := 1) rfl) (ex_var (i := 0) rfl)) (ex_mul ex_int (ex_var (i := 0) rfl) (.inl ⟨by decide, by decide⟩)) (grd_ok hg4)))))))) rfl)))))))
abbrev encR_p_from_brackets (y : (List Int)) : Out := .rt (.sh ((eT PyData.int) y))
abbrev st_p_from_brackets : Stmt := top 33
abbrev NN_p_from_brackets : List Str := ["text", "ends", "open_ones", "place", "sign", "other"]
theorem sc_p_from_brackets : FnScope NN_p_from_brackets ["text"] (defScope st_p_from_brackets) := ⟨rfl, rfl, rfl, by decide +kernel, rfl, by decide +kernel, by decide +kernel⟩
abbrev I_p_from_brackets : List PyData → Rv → Prop := Im (fun (a : (Str)) => [PyData.str a]) (fun (y : (List Int)) => Rv.sh ((eT PyData.int) y)) (fun a => p_from_brackets a)
theorem fn_p_from_brackets {P : Program} {w : World} {K : PySem.W.Frag} {mg : Str → Option Value} {base : Heap} {f : Addr} {fd : FuncData} (F : FunD K "from_brackets" "from_brackets" (defArgs st_p_from_brackets) (defBody st_p_from_brackets) (defScope st_p_from_brackets) [] [] f fd) (hg : mg "from_brackets" = some (.ref f)) (T : Tx K mg) (G_out_of_round : Fn P w K mg base "out_of_round" 2 I_p_out_of_round) : Fn P w K mg base "from_brackets" 3 I_p_from_brackets := by
  refine ⟨f, fd, ["text"], fn_ok (N := NN_p_from_brackets) (en := encR_p_from_brackets) F sc_p_from_brackets (fun _ => rfl) (fun _ => .inl rfl) (fun cdv A' outer s H E hr => ⟨_, (pss_cons (ps_setLc (i := 1) (own := [("sign", 4)]) (tt := tYes) rfl sc_p_from_brackets.nd rfl rfl (sw_true rfl rfl rfl (by decide +kernel)) (pi_str (pv 0)) (blkOk_by (N := NN_p_from_brackets) (sc := defScope st_p_from_brackets) (by decide +kernel)) (fun _ _ _ _ _ => (pg_name (i := 4) sc_p_from_brackets.nd rfl (by first | exact Or.inl rfl | exact Or.inr rfl))) (fun _ _ _ _ _ => pts_nil) (fun _ _ _ _ _ => pe_int)) (pss_cons (ps_set (i := 2) sc_p_from_brackets.nd rfl (by first | exact Or.inl rfl | exact Or.inr rfl) (pe_lst pa_nil)) (pss_cons (ps_for PassesOwn.never rfl (pi_enumS (by rfl) T.enumerate (pa_cons (pv 0) pa_nil)) (pg_tupK (K := K) (n := 2) (by rfl) (pgs_cons (pg_name (i := 3) sc_p_from_brackets.nd rfl (by first | exact Or.inl rfl | exact Or.inr rfl)) (pgs_cons (pg_name (i := 4) sc_p_from_brackets.nd rfl (by first | exact Or.inl rfl | exact Or.inr rfl)) pgs_nil))) (pss_cons (ps_if (pt_cmpR op_eq (pv 4) pe_str (nomark _)) (pss_cons (ps_expr (pe_bm PySem.F.plainAttrs_list PySem.F.slot_list_append PySem.F.type_list_append mt_append (pv 2) (pa_cons (pv 3) pa_nil))) pss_nil) (pss_cons (ps_if (PW.pt (pw_or (pt_cmpR op_ne (pv 4) pe_str (nomark _)) (pw_or1 (pt_cmpR (op_eqDK (K := K) hr.units) (pv 2) (pe_lst pa_nil) (nomark _))))) pss_never (pss_cons (ps_set (i := 5) sc_p_from_brackets.nd rfl (by first | exact Or.inl rfl | exact Or.inr rfl) (pe_bm0 PySem.F.plainAttrs_list PySem.F.slot_list_pop PySem.F.type_list_pop mt_pop (pv 2))) (pss_cons (ps_asg (pv 5) (pg_sub (pv 1) (pv 3) set_list)) (pss_cons (ps_asg (pv 3) (pg_sub (pv 1) (pv 5) set_list)) pss_nil)))) pss_nil)) pss_nil)) (pss_cons (ps_if (PW.pt (pw_or (pt_cmpR (op_neDK (K := K) hr.units) (pv 2) (pe_lst pa_nil) (nomark _)) (pw_or1 (pt_not (pt_chain op_le op_le pe_int (pe_op op_fdivW (pe_callB (call_lenK (K := K)) (by rfl) T.len (by decide +kernel) (pa_cons (pv 0) pa_nil)) pe_int) (pe_const (by rfl) T.MOST_PEGS)))))) pss_never pss_nil) (pss_cons (ps_ret (pe_fn G_out_of_round (hr.mono (by decide)) (by rfl) (pa_cons (pv 1) pa_nil))) pss_never))))), fun v_text => ?_⟩), hg, F.kp, F.bindsN fun _ _ _ _ _ _ us hl => match us, hl with | [_], _ => rfl⟩
  exact (show BX K _ [.sh (PyData.str v_text), .un, .un, .un, .un, .un] encR_p_from_brackets (p_from_brackets v_text) from
   (bx_asgWB (e := PyData.int) (i := 1) (exw_lcm (e := PyData.str) (e' := PyData.int) (envB := (fun x1 => [.sh (PyData.str v_text), .un, .un, .un, .sh (PyData.str x1), .un])) (EIs.i (eis_str (ex_var (i := 0) rfl))) (fun x1 _ => (egc_name (i := 4) (by decide))) (fun x1 _ => ex_int)) (fun v_ends_2 => (bx_asgW (exw_lst (ds := (([] : (List Int)) : (List Int)).map PyData.int) ea_nil (Nat.le_of_ble_eq_true rfl)) (bx_then (envS := (fun (s_1 : (List Int) × (List Int)) => [.sh (PyData.str v_text), .ow (s_1.1.map PyData.int), .ow (s_1.2.map PyData.int), .un, .un, .un])) (bx_forS (envS := (fun (s_1 : (List Int) × (List Int)) => [.sh (PyData.str v_text), .ow (s_1.1.map PyData.int), .ow (s_1.2.map PyData.int), .un, .un, .un])) (e := (eP PyData.int PyData.str)) (envB := (fun (s_1 : (List Int) × (List Int)) (x3 : (Int × Str)) => [.sh (PyData.str v_text), .ow (s_1.1.map PyData.int), .ow (s_1.2.map PyData.int), .sh (PyData.int x3.1), .sh (PyData.str x3.2), .un])) (f := p_from_brackets_for1) (eis_enumS (ex_var (i := 0) rfl)) (.same (.same (.same (.un (.un (.un .nil)))))) (fun s_1 x3 _ => EGc.eg (vs := [3, 4]) (egc_tup (egs_cons (egc_name (i := 3) (by decide)) (egs_cons (egc_name (i := 4) (by decide)) egs_nil)) rfl)) (fun s_1 x3 _ => (bx_last (bx_if (et_of (ex_eqS (ex_var (i := 4) rfl) (ex_str (Nat.le_of_ble_eq_true rfl)))) (fun _ => (bx_bind fun u4 hu4 => (bx_app (e := PyData.int) (x := x3.1) rfl (ex_var (i := 3) rfl) hu4 (bx_nx (.same (.same (.same (.un (.un (.un .nil)))))) rfl)))) (fun _ => (bx_last (bx_if (et_or (et_of (ex_neS (ex_var (i := 4) rfl) (ex_str (Nat.le_of_ble_eq_true rfl)))) (et_of (ex_eqT (x := (s_1.2 : (List Int))) (y := (([] : (List Int)) : (List Int))) (EnOk.list EnOk.int) (EXl.q (exl_var (i := 2) rfl)) (EXl.q (EXw.l (exw_lst (ds := (([] : (List Int)) : (List Int)).map PyData.int) ea_nil (Nat.le_of_ble_eq_true rfl))))))) (fun _ => bx_none) (fun _ => (bx_bind fun u5 hu5 => (bx_pop (e := PyData.int) rfl hu5 (bx_bind fun u6 hu6 => (bx_asg (d := PyData.int u5.1) (ex_var (i := 5) rfl) (eg_setI (e := PyData.int) rfl (ex_var (i := 3) rfl) hu6) (bx_bind fun u7 hu7 => (bx_asg (d := PyData.int x3.1) (ex_var (i := 3) rfl) (eg_setI (e := PyData.int) rfl (ex_var (i := 5) rfl) hu7) (bx_nx (.same (.same (.same (.un (.un (.un .nil)))))) rfl))))))))))))))) (fun s8 _ => (bx_ifNo (et_or (et_of (ex_neT (x := (s8.2 : (List Int))) (y := (([] : (List Int)) : (List Int))) (EnOk.list EnOk.int) (EXl.q (exl_var (i := 2) rfl)) (EXl.q (EXw.l (exw_lst (ds := (([] : (List Int)) : (List Int)).map PyData.int) ea_nil (Nat.le_of_ble_eq_true rfl)))))) (et_not (et_of (ex_chain (p := fun i j => decide (i ≤ j)) (p' := fun i j => decide (i ≤ j)) (fun _ _ => rfl) (fun _ _ => rfl) ex_int (ex_fdiv (ex_lenS (ex_var (i := 0) rfl)) ex_int ⟨by decide, by decide +kernel⟩) ex_int)))) (fun _ => (bx_freeze 1 rfl (bx_bind fun u9 hu9 => (bx_retS (ex_call (ea_cons (ex_var (i := 1) rfl) ea_nil) ⟨s8.1, u9, rfl, hu9, rfl⟩) rfl)))))))))))
abbrev encR_p_followed (y : (Int × (List Int))) : Out := .rt (.sh ((eP PyData.int (eL PyData.int)) y))
abbrev st_p_followed : Stmt := top 35
abbrev NN_p_followed : List Str := ["upper", "lower", "peg", "below", "pegs", "met", "other"]
theorem sc_p_followed : FnScope NN_p_followed ["upper", "lower", "peg", "below"] (defScope st_p_followed) := ⟨rfl, rfl, rfl, by decide +kernel, rfl, by decide +kernel, by decide +kernel⟩
abbrev I_p_followed : List PyData → Rv → Prop := Im (fun (a : ((List Int) × (List Int) × Int × Bool)) => [(eT PyData.int) a.1, (eT PyData.int) a.2.1, PyData.int a.2.2.1, PyData.bool a.2.2.2]) (fun (y : (Int × (List Int))) => Rv.sh ((eP PyData.int (eL PyData.int)) y)) (fun a => p_followed a.1 a.2.1 a.2.2.1 a.2.2.2)
theorem fn_p_followed {P : Program} {w : World} {K : PySem.W.Frag} {mg : Str → Option Value} {base : Heap} {f : Addr} {fd : FuncData} (F : FunD K "followed" "followed" (defArgs st_p_followed) (defBody st_p_followed) (defScope st_p_followed) [] [] f fd) (hg : mg "followed" = some (.ref f)) (T : Tx K mg)  : Fn P w K mg base "followed" 1 I_p_followed := by
  refine ⟨f, fd, ["upper", "lower", "peg", "below"], fn_ok (N := NN_p_followed) (en := encR_p_followed) F sc_p_followed (fun _ => rfl) (fun _ => .inl rfl) (fun cdv A' outer s H E hr => ⟨_, (pss_cons (ps_set (i := 4) sc_p_followed.nd rfl (by first | exact Or.inl rfl | exact Or.inr rfl) (pe_op op_fdivW (pe_callB (call_lenK (K := K)) (by rfl) T.len (by decide +kernel) (pa_cons (pv 0) pa_nil)) pe_int)) (pss_cons (ps_set (i := 5) sc_p_followed.nd rfl (by first | exact Or.inl rfl | exact Or.inr rfl) (pe_lst pa_nil)) (pss_cons (ps_while PassesOwn.never (pt_val pe_bl) (pss_cons (ps_set (i := 6) sc_p_followed.nd rfl (by first | exact Or.inl rfl | exact Or.inr rfl) (pe_ifExp (pt_val (pv 3)) (pe_ix (ix_tupK (K := K)) (pv 1) (pv 2) (fun _ _ => rfl)) (pe_ix (ix_tupK (K := K)) (pv 0) (pv 2) (fun _ _ => rfl)))) (pss_cons (ps_if (PW.pt (pw_or (PW.pt (pw_and (pt_val (pv 3)) (pw_and1 (pt_cmpR op_ge (pv 6) (pv 4) (nomark _))))) (pw_or1 (PW.pt (pw_and (pt_not (pt_val (pv 3))) (pw_and1 (pt_cmpR op_lt (pv 6) (pv 4) (nomark _)))))))) (pss_cons (ps_ret (pe_tup (pa_cons (pv 6) (pa_cons (pv 5) pa_nil)))) pss_never) pss_nil) (pss_cons (ps_expr (pe_bm PySem.F.plainAttrs_list PySem.F.slot_list_append PySem.F.type_list_append mt_append (pv 5) (pa_cons (pe_ifExp (pt_val (pv 3)) (pv 6) (pe_op op_sub (pv 6) (pv 4))) pa_nil))) (pss_cons (ps_set (i := 2) sc_p_followed.nd rfl (by first | exact Or.inl rfl | exact Or.inr rfl) (pe_ifExp (pt_val (pv 3)) (pe_op op_add (pv 6) (pv 4)) (pe_op op_sub (pv 6) (pv 4)))) (pss_cons (ps_set (i := 3) sc_p_followed.nd rfl (by first | exact Or.inl rfl | exact Or.inr rfl) (pe_not (pv 3))) pss_nil)))))) pss_never))), fun a => ?_⟩), hg, F.kp, F.bindsN fun _ _ _ _ _ _ us hl => match us, hl with | [_, _, _, _], _ => rfl⟩
  obtain ⟨v_upper, v_lower, v_peg, v_below⟩ := a
  exact (show BX K _ [.sh ((eT PyData.int) v_upper), .sh ((eT PyData.int) v_lower), .sh (PyData.int v_peg), .sh (PyData.bool v_below), .un, .un, .un] encR_p_followed (p_followed v_upper v_lower v_peg v_below) from
   (bx_asgB (e := PyData.int) (i := 4) (ex_fdiv (ex_lenT (ex_var (i := 0) rfl)) ex_int ⟨by decide, by decide +kernel⟩) (fun v_pegs_1 => (bx_asgW (exw_lst (ds := (([] : (List Int)) : (List Int)).map PyData.int) ea_nil (Nat.le_of_ble_eq_true rfl)) (bx_bindR (envS := (fun (s_1 : Int × Bool × (List Int)) => [.sh ((eT PyData.int) v_upper), .sh ((eT PyData.int) v_lower), .sh (PyData.int s_1.1), .sh (PyData.bool s_1.2.1), .sh (PyData.int v_pegs_1), .ow (s_1.2.2.map PyData.int), .un])) (encR := encR_p_followed) (bx_whR (encR := encR_p_followed) (envS := (fun (s_1 : Int × Bool × (List Int)) => [.sh ((eT PyData.int) v_upper), .sh ((eT PyData.int) v_lower), .sh (PyData.int s_1.1), .sh (PyData.bool s_1.2.1), .sh (PyData.int v_pegs_1), .ow (s_1.2.2.map PyData.int), .un])) (cc := (p_followed_while1_c v_upper v_lower v_pegs_1)) (f := (p_followed_while1 v_upper v_lower v_pegs_1)) (.same (.same (.same (.same (.same (.same (.un .nil))))))) (fun _ => trivial) (fun s_1 => (eto_some (et_B ex_bl))) (fun s_1 => (bx_bind fun c4 hc4 => (bx_asg (d := PyData.int c4) (exo_if (e := PyData.int) (et_B (ex_var (i := 3) rfl)) (fun _ => (exo_bind fun u2 hu2 => (exo_some (e := PyData.int) (ex_ixT (ex_var (i := 1) rfl) (ex_var (i := 2) rfl) (atI_map hu2))))) (fun _ => (exo_bind fun u3 hu3 => (exo_some (e := PyData.int) (ex_ixT (ex_var (i := 0) rfl) (ex_var (i := 2) rfl) (atI_map hu3))))) c4 hc4) (EGc.eg (egc_name (i := 6) (vs := [6]) (by decide))) (bx_ifRetM (encR := encR_p_followed) (et_or (et_and (et_B (ex_var (i := 3) rfl)) (et_of (ex_ge (ex_var (i := 6) rfl) (ex_var (i := 4) rfl)))) (et_and (et_not (et_B (ex_var (i := 3) rfl))) (et_of (ex_lt (ex_var (i := 6) rfl) (ex_var (i := 4) rfl))))) (fun _ => (bx_freeze 5 rfl (bx_retS (ex_tup (ea_cons (ex_var (i := 6) rfl) (ea_cons (ex_var (i := 5) rfl) ea_nil)) (Nat.le_of_ble_eq_true rfl)) rfl))) (fun _ _ h => nomatch h) (fun _ => rfl) (fun _ => (bx_bind fun u5 hu5 => (bx_app (e := PyData.int) (x := (if s_1.2.1 = true then c4 else (c4 - v_pegs_1))) rfl (ex_if (e := PyData.int) (et_B (ex_var (i := 3) rfl)) (ex_var (i := 6) rfl) (ex_sub (ex_var (i := 6) rfl) (ex_var (i := 4) rfl))) hu5 (bx_asgB (e := PyData.int) (i := 2) (ex_if (e := PyData.int) (et_B (ex_var (i := 3) rfl)) (ex_add (ex_var (i := 6) rfl) (ex_var (i := 4) rfl)) (ex_sub (ex_var (i := 6) rfl) (ex_var (i := 4) rfl))) (fun v_peg_6 => (bx_asgB (e := PyData.bool) (i := 3) (ex_notV (ex_var (i := 3) rfl)) (fun v_below_7 => (bx_nx (.same (.same (.same (.same (.same (.same (.un .nil))))))) rfl))))))))))))) (fun _ => rfl) (fun _ _ h => nomatch h) (fun s8 _ => bx_none))))))
abbrev encR_p_rings_left (y : Int) : Out := .rt (.sh (PyData.int y))
abbrev st_p_rings_left : Stmt := top 36
abbrev NN_p_rings_left : List Str := ["upper", "lower", "seen", "pegs", "found", "left", "peg", "other"]
theorem sc_p_rings_left : FnScope NN_p_rings_left ["upper", "lower", "seen"] (defScope st_p_rings_left) := ⟨rfl, rfl, rfl, by decide +kernel, rfl, by decide +kernel, by decide +kernel⟩
abbrev I_p_rings_left : List PyData → Rv → Prop := Im (fun (a : ((List Int) × (List Int) × (List Int))) => [(eT PyData.int) a.1, (eT PyData.int) a.2.1, (eL PyData.int) a.2.2]) (fun (y : Int) => Rv.sh (PyData.int y)) (fun a => p_rings_left a.1 a.2.1 a.2.2)
theorem fn_p_rings_left {P : Program} {w : World} {K : PySem.W.Frag} {mg : Str → Option Value} {base : Heap} {f : Addr} {fd : FuncData} (F : FunD K "rings_left" "rings_left" (defArgs st_p_rings_left) (defBody st_p_rings_left) (defScope st_p_rings_left) [] [] f fd) (hg : mg "rings_left" = some (.ref f)) (T : Tx K mg)  : Fn P w K mg base "rings_left" 1 I_p_rings_left := by
  refine ⟨f, fd, ["upper", "lower", "seen"], fn_ok (N := NN_p_rings_left) (en := encR_p_rings_left) F sc_p_rings_left (fun _ => rfl) (fun _ => .inl rfl) (fun cdv A' outer s H E hr => ⟨_, (pss_cons (ps_set (i := 3) sc_p_rings_left.nd rfl (by first | exact Or.inl rfl | exact Or.inr rfl) (pe_op op_fdivW (pe_callB (call_lenK (K := K)) (by rfl) T.len (by decide +kernel) (pa_cons (pv 0) pa_nil)) pe_int)) (pss_cons (ps_set (i := 4) sc_p_rings_left.nd rfl (by first | exact Or.inl rfl | exact Or.inr rfl) pe_int) (pss_cons (ps_setLc (i := 5) (own := [("peg", 6)]) rfl sc_p_rings_left.nd rfl rfl (sw_true rfl rfl rfl (by decide +kernel)) (pi_range1 (by rfl) T.range (pa_cons (pv 3) pa_nil)) (blkOk_by (N := NN_p_rings_left) (sc := defScope st_p_rings_left) (by decide +kernel)) (fun _ _ _ _ _ => (pg_name (i := 6) sc_p_rings_left.nd rfl (by first | exact Or.inl rfl | exact Or.inr rfl))) (fun _ _ _ _ _ => (pts_one (pt_cmpR (op_notInK (K := K)) (pv 6) (pv 2) (by rfl)))) (fun _ _ _ _ _ => (pv 6))) (pss_cons (ps_while PassesOwn.never (pt_cmpR (op_neDK (K := K) hr.units) (pv 5) (pe_lst pa_nil) (nomark _)) (pss_cons (ps_set (i := 4) sc_p_rings_left.nd rfl (by first | exact Or.inl rfl | exact Or.inr rfl) (pe_op op_add (pv 4) pe_int)) (pss_cons (ps_set (i := 6) sc_p_rings_left.nd rfl (by first | exact Or.inl rfl | exact Or.inr rfl) (pe_ix (ix_listK (K := K)) (pv 5) pe_int (fun _ _ => rfl))) (pss_cons (ps_while PassesOwn.never (pt_cmpR (op_inK (K := K)) (pv 6) (pv 5) (by rfl)) (pss_cons (ps_expr (pe_bm PySem.F.plainAttrs_list PySem.F.slot_list_remove PySem.F.type_list_remove mt_remove (pv 5) (pa_cons (pv 6) pa_nil))) (pss_cons (ps_set (i := 7) sc_p_rings_left.nd rfl (by first | exact Or.inl rfl | exact Or.inr rfl) (pe_ix (ix_tupK (K := K)) (pv 1) (pv 6) (fun _ _ => rfl))) (pss_cons (ps_expr (pe_bm PySem.F.plainAttrs_list PySem.F.slot_list_remove PySem.F.type_list_remove mt_remove (pv 5) (pa_cons (pv 7) pa_nil))) (pss_cons (ps_set (i := 6) sc_p_rings_left.nd rfl (by first | exact Or.inl rfl | exact Or.inr rfl) (pe_op op_sub (pe_ix (ix_tupK (K := K)) (pv 0) (pe_op op_add (pv 3) (pv 7)) (fun _ _ => rfl)) (pv 3))) pss_nil))))) pss_nil)))) (pss_cons (ps_ret (pv 4)) pss_never))))), fun a => ?_⟩), hg, F.kp, F.bindsN fun _ _ _ _ _ _ us hl => match us, hl with | [_, _, _], _ => rfl⟩
  obtain ⟨v_upper, v_lower, v_seen⟩ := a
  exact (show BX K _ [.sh ((eT PyData.int) v_upper), .sh ((eT PyData.int) v_lower), .sh ((eL PyData.int) v_seen), .un, .un, .un, .un, .un] encR_p_rings_left (p_rings_left v_upper v_lower v_seen) from
   (bx_asgB (e := PyData.int) (i := 3) (ex_fdiv (ex_lenT (ex_var (i := 0) rfl)) ex_int ⟨by decide, by decide +kernel⟩) (fun v_pegs_1 => (bx_asg (d := PyData.int (0 : Int)) ex_int (EGc.eg (egc_name (i := 4) (vs := [4]) (by decide))) (bx_bind fun g2 hg2 => (bx_asgWB (e := PyData.int) (i := 5) (exw_lcp (e := PyData.int) (e' := PyData.int) (envB := (fun x3 => [.sh ((eT PyData.int) v_upper), .sh ((eT PyData.int) v_lower), .sh ((eL PyData.int) v_seen), .sh (PyData.int v_pegs_1), .sh (PyData.int (0 : Int)), .un, .sh (PyData.int x3), .un])) (EIs.i (eis_rng1 (ex_var (i := 3) rfl) (grd_ok hg2))) (fun x3 _ => (egc_name (i := 6) (by decide))) (fun x3 _ => (et_of (ex_ninL (ex_var (i := 6) rfl) (EX.l (ex_var (i := 2) rfl))))) (fun x3 _ => (ex_var (i := 6) rfl))) (fun v_left_4 => (bx_then (envS := (fun (s_1 : Int × (List Int)) => [.sh ((eT PyData.int) v_upper), .sh ((eT PyData.int) v_lower), .sh ((eL PyData.int) v_seen), .sh (PyData.int v_pegs_1), .sh (PyData.int s_1.1), .ow (s_1.2.map PyData.int), .un, .un])) (bx_whS (envS := (fun (s_1 : Int × (List Int)) => [.sh ((eT PyData.int) v_upper), .sh ((eT PyData.int) v_lower), .sh ((eL PyData.int) v_seen), .sh (PyData.int v_pegs_1), .sh (PyData.int s_1.1), .ow (s_1.2.map PyData.int), .un, .un])) (cc := (p_rings_left_while1_c v_upper v_lower v_pegs_1)) (f := (p_rings_left_while1 v_upper v_lower v_pegs_1)) (.same (.same (.same (.same (.same (.same (.un (.un .nil)))))))) (fun s_1 => (eto_some (et_of (ex_neT (x := (s_1.2 : (List Int))) (y := (([] : (List Int)) : (List Int))) (EnOk.list EnOk.int) (EXl.q (exl_var (i := 5) rfl)) (EXl.q (EXw.l (exw_lst (ds := (([] : (List Int)) : (List Int)).map PyData.int) ea_nil (Nat.le_of_ble_eq_true rfl)))))))) (fun s_1 => (bx_asgB (e := PyData.int) (i := 4) (ex_add (ex_var (i := 4) rfl) ex_int) (fun v_found_5 => (bx_bind fun u6 hu6 => (bx_asg (d := PyData.int u6) (ex_ixL (exl_var (i := 5) rfl) ex_int (atI_map hu6)) (EGc.eg (egc_name (i := 6) (vs := [6]) (by decide))) (bx_then (envS := (fun (s_2 : (List Int) × Int) => [.sh ((eT PyData.int) v_upper), .sh ((eT PyData.int) v_lower), .sh ((eL PyData.int) v_seen), .sh (PyData.int v_pegs_1), .sh (PyData.int v_found_5), .ow (s_2.1.map PyData.int), .sh (PyData.int s_2.2), .un])) (bx_whS (envS := (fun (s_2 : (List Int) × Int) => [.sh ((eT PyData.int) v_upper), .sh ((eT PyData.int) v_lower), .sh ((eL PyData.int) v_seen), .sh (PyData.int v_pegs_1), .sh (PyData.int v_found_5), .ow (s_2.1.map PyData.int), .sh (PyData.int s_2.2), .un])) (cc := (p_rings_left_while2_c v_upper v_lower v_pegs_1)) (f := (p_rings_left_while2 v_upper v_lower v_pegs_1)) (.same (.same (.same (.same (.same (.same (.same (.un .nil)))))))) (fun s_2 => (eto_some (et_of (ex_inL (ex_var (i := 6) rfl) (exl_var (i := 5) rfl))))) (fun s_2 => (bx_bind fun u7 hu7 => (bx_rem rfl (ex_var (i := 6) rfl) hu7 (bx_bind fun u8 hu8 => (bx_asg (d := PyData.int u8) (ex_ixT (ex_var (i := 1) rfl) (ex_var (i := 6) rfl) (atI_map hu8)) (EGc.eg (egc_name (i := 7) (vs := [7]) (by decide))) (bx_bind fun u9 hu9 => (bx_rem rfl (ex_var (i := 7) rfl) hu9 (bx_bind fun u10 hu10 => (bx_asgB (e := PyData.int) (i := 6) (ex_sub (ex_ixT (ex_var (i := 0) rfl) (ex_add (ex_var (i := 3) rfl) (ex_var (i := 7) rfl)) (atI_map hu10)) (ex_var (i := 3) rfl)) (fun v_peg_11 => (bx_nx (.same (.same (.same (.same (.same (.same (.same (.un .nil)))))))) rfl)))))))))))) (fun s12 _ => (bx_nx (.same (.same (.same (.same (.same (.same (.un (.un .nil)))))))) rfl))))))))) (fun s13 _ => (bx_retS (ex_var (i := 4) rfl) rfl))))))))))
abbrev encR_p_put_together (y : ((List Int) × Int)) : Out := .rt (.sh ((eP (eT PyData.int) PyData.int) y))
abbrev st_p_put_together : Stmt := top 37
abbrev NN_p_put_together : List Str := ["upper", "lower", "pegs", "found", "seen", "peg", "other", "met"]
theorem sc_p_put_together : FnScope NN_p_put_together ["upper", "lower"] (defScope st_p_put_together) := ⟨rfl, rfl, rfl, by decide +kernel, rfl, by decide +kernel, by decide +kernel⟩
abbrev I_p_put_together : List PyData → Rv → Prop := Im (fun (a : ((List Int) × (List Int))) => [(eT PyData.int) a.1, (eT PyData.int) a.2]) (fun (y : ((List Int) × Int)) => Rv.sh ((eP (eT PyData.int) PyData.int) y)) (fun a => p_put_together a.1 a.2)
theorem fn_p_put_together {P : Program} {w : World} {K : PySem.W.Frag} {mg : Str → Option Value} {base : Heap} {f : Addr} {fd : FuncData} (F : FunD K "put_together" "put_together" (defArgs st_p_put_together) (defBody st_p_put_together) (defScope st_p_put_together) [] [] f fd) (hg : mg "put_together" = some (.ref f)) (T : Tx K mg) (G_followed : Fn P w K mg base "followed" 1 I_p_followed) (G_rings_left : Fn P w K mg base "rings_left" 1 I_p_rings_left) : Fn P w K mg base "put_together" 2 I_p_put_together := by
  refine ⟨f, fd, ["upper", "lower"], fn_ok (N := NN_p_put_together) (en := encR_p_put_together) F sc_p_put_together (fun _ => rfl) (fun _ => .inl rfl) (fun cdv A' outer s H E hr => ⟨_, (pss_cons (ps_set (i := 2) sc_p_put_together.nd rfl (by first | exact Or.inl rfl | exact Or.inr rfl) (pe_op op_fdivW (pe_callB (call_lenK (K := K)) (by rfl) T.len (by decide +kernel) (pa_cons (pv 0) pa_nil)) pe_int)) (pss_cons (ps_set (i := 3) sc_p_put_together.nd rfl (by first | exact Or.inl rfl | exact Or.inr rfl) (pe_lst pa_nil)) (pss_cons (ps_set (i := 4) sc_p_put_together.nd rfl (by first | exact Or.inl rfl | exact Or.inr rfl) (pe_lst pa_nil)) (pss_cons (ps_for PassesOwn.never rfl (pi_range1 (by rfl) T.range (pa_cons (pe_op op_mul pe_int (pv 2)) pa_nil)) (pg_name (i := 5) sc_p_put_together.nd rfl (by first | exact Or.inl rfl | exact Or.inr rfl)) (pss_cons (ps_asg (pe_fn G_followed (hr.mono (by decide)) (by rfl) (pa_cons (pv 0) (pa_cons (pv 1) (pa_cons (pv 5) (pa_cons (pe_cmpR op_ge (pv 5) (pv 2) (nomark _)) pa_nil))))) (pg_tupK (K := K) (n := 2) (by rfl) (pgs_cons (pg_name (i := 6) sc_p_put_together.nd rfl (by first | exact Or.inl rfl | exact Or.inr rfl)) (pgs_cons (pg_name (i := 7) sc_p_put_together.nd rfl (by first | exact Or.inl rfl | exact Or.inr rfl)) pgs_nil)))) (pss_cons (ps_expr (pe_bm PySem.F.plainAttrs_list PySem.F.slot_list_append PySem.F.type_list_append mt_append (pv 3) (pa_cons (pv 6) pa_nil))) (pss_cons (ps_expr (pe_bm PySem.F.plainAttrs_list PySem.F.slot_list_extend PySem.F.type_list_extend mt_extend (pv 4) (pa_cons (pv 7) pa_nil))) pss_nil)))) (pss_cons (ps_ret (pe_tup (pa_cons (pe_callTy (call_tupleK (K := K)) (by rfl) T.tuple (by decide +kernel) (pa_cons (pv 3) pa_nil)) (pa_cons (pe_fn G_rings_left (hr.mono (by decide)) (by rfl) (pa_cons (pv 0) (pa_cons (pv 1) (pa_cons (pv 4) pa_nil)))) pa_nil)))) pss_never))))), fun a => ?_⟩), hg, F.kp, F.bindsN fun _ _ _ _ _ _ us hl => match us, hl with | [_, _], _ => rfl⟩
  obtain ⟨v_upper, v_lower⟩ := a
  exact (show BX K _ [.sh ((eT PyData.int) v_upper), .sh ((eT PyData.int) v_lower), .un, .un, .un, .un, .un, .un] encR_p_put_together (p_put_together v_upper v_lower) from
   (bx_asgB (e := PyData.int) (i := 2) (ex_fdiv (ex_lenT (ex_var (i := 0) rfl)) ex_int ⟨by decide, by decide +kernel⟩) (fun v_pegs_1 => (bx_asgW (exw_lst (ds := (([] : (List Int)) : (List Int)).map PyData.int) ea_nil (Nat.le_of_ble_eq_true rfl)) (bx_asgW (exw_lst (ds := (([] : (List Int)) : (List Int)).map PyData.int) ea_nil (Nat.le_of_ble_eq_true rfl)) (bx_bind fun g2 hg2 => (bx_then (envS := (fun (s_1 : (List Int) × (List Int)) => [.sh ((eT PyData.int) v_upper), .sh ((eT PyData.int) v_lower), .sh (PyData.int v_pegs_1), .ow (s_1.1.map PyData.int), .ow (s_1.2.map PyData.int), .un, .un, .un])) (bx_forS (envS := (fun (s_1 : (List Int) × (List Int)) => [.sh ((eT PyData.int) v_upper), .sh ((eT PyData.int) v_lower), .sh (PyData.int v_pegs_1), .ow (s_1.1.map PyData.int), .ow (s_1.2.map PyData.int), .un, .un, .un])) (e := PyData.int) (envB := (fun (s_1 : (List Int) × (List Int)) (x3 : Int) => [.sh ((eT PyData.int) v_upper), .sh ((eT PyData.int) v_lower), .sh (PyData.int v_pegs_1), .ow (s_1.1.map PyData.int), .ow (s_1.2.map PyData.int), .sh (PyData.int x3), .un, .un])) (f := (p_put_together_for1 v_upper v_lower v_pegs_1)) (eis_rng1 (ex_mul ex_int (ex_var (i := 2) rfl) (.inl ⟨by decide, by decide⟩)) (grd_ok hg2)) (.same (.same (.same (.same (.same (.un (.un (.un .nil)))))))) (fun s_1 x3 _ => EGc.eg (vs := [5]) (egc_name (i := 5) (by decide))) (fun s_1 x3 _ => (bx_bind fun u4 hu4 => (bx_asg (d := (eP PyData.int (eL PyData.int)) u4) (ex_call (ea_cons (ex_var (i := 0) rfl) (ea_cons (ex_var (i := 1) rfl) (ea_cons (ex_var (i := 5) rfl) (ea_cons (ex_ge (ex_var (i := 5) rfl) (ex_var (i := 2) rfl)) ea_nil)))) ⟨(v_upper, v_lower, x3, (decide (x3 ≥ v_pegs_1))), u4, rfl, hu4, rfl⟩) (EGc.eg (vs := [6, 7]) (egc_tup (egs_cons (egc_name (i := 6) (by decide)) (egs_cons (egc_name (i := 7) (by decide)) egs_nil)) rfl)) (bx_bind fun u5 hu5 => (bx_app (e := PyData.int) (x := u4.1) rfl (ex_var (i := 6) rfl) hu5 (bx_bind fun u6 hu6 => (bx_ext (e := PyData.int) rfl (EX.l (ex_var (i := 7) rfl)) hu6 (bx_nx (.same (.same (.same (.same (.same (.un (.un (.un .nil)))))))) rfl))))))))) (fun s7 _ => (bx_bind fun u8 hu8 => (bx_retS (ex_tup (ea_cons (ex_tupL (exl_var (i := 3) rfl)) (ea_cons (ex_callQ (eaq_cons (EX.q (ex_var (i := 0) rfl)) (eaq_cons (EX.q (ex_var (i := 1) rfl)) (eaq_cons (EXl.q (exl_var (i := 4) rfl)) eaq_nil))) ⟨(v_upper, v_lower, s7.2), u8, rfl, hu8, rfl⟩ (flat_int _)) ea_nil)) (Nat.le_of_ble_eq_true rfl)) rfl))))))))))
abbrev encR_p_stacked (y : ((List Int) × Int)) : Out := .rt (.sh ((eP (eT PyData.int) PyData.int) y))
abbrev st_p_stacked : Stmt := top 38
abbrev NN_p_stacked : List Str := ["pegs", "frames", "found", "frame", "rings", "more"]
theorem sc_p_stacked : FnScope NN_p_stacked ["pegs", "frames"] (defScope st_p_stacked) := ⟨rfl, rfl, rfl, by decide +kernel, rfl, by decide +kernel, by decide +kernel⟩
abbrev I_p_stacked : List PyData → Rv → Prop := Im (fun (a : (Int × (List (List Int)))) => [PyData.int a.1, (eL (eT PyData.int)) a.2]) (fun (y : ((List Int) × Int)) => Rv.sh ((eP (eT PyData.int) PyData.int) y)) (fun a => p_stacked a.1 a.2)
theorem fn_p_stacked {P : Program} {w : World} {K : PySem.W.Frag} {mg : Str → Option Value} {base : Heap} {f : Addr} {fd : FuncData} (F : FunD K "stacked" "stacked" (defArgs st_p_stacked) (defBody st_p_stacked) (defScope st_p_stacked) [] [] f fd) (hg : mg "stacked" = some (.ref f)) (T : Tx K mg) (G_plain : Fn P w K mg base "plain" 2 I_p_plain) (G_ask_frame : Fn P w K mg base "ask_frame" 4 I_p_ask_frame) (G_put_together : Fn P w K mg base "put_together" 2 I_p_put_together) : Fn P w K mg base "stacked" 5 I_p_stacked := by
  refine ⟨f, fd, ["pegs", "frames"], fn_ok (N := NN_p_stacked) (en := encR_p_stacked) F sc_p_stacked (fun _ => rfl) (fun _ => .inl rfl) (fun cdv A' outer s H E hr => ⟨_, (pss_cons (ps_set (i := 2) sc_p_stacked.nd rfl (by first | exact Or.inl rfl | exact Or.inr rfl) (pe_fn G_plain (hr.mono (by decide)) (by rfl) (pa_cons (pv 0) pa_nil))) (pss_cons (ps_for PassesOwn.never rfl (pi_listK (K := K) (pv 1)) (pg_name (i := 3) sc_p_stacked.nd rfl (by first | exact Or.inl rfl | exact Or.inr rfl)) (pss_cons (ps_expr (pe_fn G_ask_frame (hr.mono (by decide)) (by rfl) (pa_cons (pv 3) pa_nil))) pss_nil)) (pss_cons (ps_for PassesOwn.never rfl (pi_listK (K := K) (pv 1)) (pg_name (i := 3) sc_p_stacked.nd rfl (by first | exact Or.inl rfl | exact Or.inr rfl)) (pss_cons (ps_if (pt_cmpR op_ne (pe_callB (call_lenK (K := K)) (by rfl) T.len (by decide +kernel) (pa_cons (pv 3) pa_nil)) (pe_op op_mul pe_int (pv 0)) (nomark _)) pss_never pss_nil) pss_nil)) (pss_cons (ps_set (i := 4) sc_p_stacked.nd rfl (by first | exact Or.inl rfl | exact Or.inr rfl) pe_int) (pss_cons (ps_for PassesOwn.never rfl (pi_listK (K := K) (pv 1)) (pg_name (i := 3) sc_p_stacked.nd rfl (by first | exact Or.inl rfl | exact Or.inr rfl)) (pss_cons (ps_asg (pe_fn G_put_together (hr.mono (by decide)) (by rfl) (pa_cons (pv 2) (pa_cons (pv 3) pa_nil))) (pg_tupK (K := K) (n := 2) (by rfl) (pgs_cons (pg_name (i := 2) sc_p_stacked.nd rfl (by first | exact Or.inl rfl | exact Or.inr rfl)) (pgs_cons (pg_name (i := 5) sc_p_stacked.nd rfl (by first | exact Or.inl rfl | exact Or.inr rfl)) pgs_nil)))) (pss_cons (ps_set (i := 4) sc_p_stacked.nd rfl (by first | exact Or.inl rfl | exact Or.inr rfl) (pe_op op_add (pv 4) (pv 5))) pss_nil))) (pss_cons (ps_ret (pe_tup (pa_cons (pv 2) (pa_cons (pv 4) pa_nil)))) pss_never)))))), fun a => ?_⟩), hg, F.kp, F.bindsN fun _ _ _ _ _ _ us hl => match us, hl with | [_, _], _ => rfl⟩
  obtain ⟨v_pegs, v_frames⟩ := a
  exact (show BX K _ [.sh (PyData.int v_pegs), .sh ((eL (eT PyData.int)) v_frames), .un, .un, .un, .un] encR_p_stacked (p_stacked v_pegs v_frames) from
   (bx_bind fun u1 hu1 => (bx_asg (d := (eT PyData.int) u1) (ex_call (ea_cons (ex_var (i := 0) rfl) ea_nil) ⟨v_pegs, u1, rfl, hu1, rfl⟩) (EGc.eg (egc_name (i := 2) (vs := [2]) (by decide))) (bx_then (envS := (fun (s_1 : Unit) => [.sh (PyData.int v_pegs), .sh ((eL (eT PyData.int)) v_frames), .sh ((eT PyData.int) u1), .un, .un, .un])) (bx_forS (envS := (fun (s_1 : Unit) => [.sh (PyData.int v_pegs), .sh ((eL (eT PyData.int)) v_frames), .sh ((eT PyData.int) u1), .un, .un, .un])) (e := (eT PyData.int)) (envB := (fun (s_1 : Unit) (x2 : (List Int)) => [.sh (PyData.int v_pegs), .sh ((eL (eT PyData.int)) v_frames), .sh ((eT PyData.int) u1), .sh ((eT PyData.int) x2), .un, .un])) (f := p_stacked_for1) (eis_list (ex_var (i := 1) rfl)) (.same (.same (.same (.un (.un (.un .nil)))))) (fun s_1 x2 _ => EGc.eg (vs := [3]) (egc_name (i := 3) (by decide))) (fun s_1 x2 _ => (bx_bind fun u3 hu3 => (bx_drop (ex_call (ea_cons (ex_var (i := 3) rfl) ea_nil) ⟨x2, u3, rfl, hu3, rfl⟩) (bx_nx (.same (.same (.same (.un (.un (.un .nil)))))) rfl))))) (fun s4 _ => (bx_then (envS := (fun (s_2 : Unit) => [.sh (PyData.int v_pegs), .sh ((eL (eT PyData.int)) v_frames), .sh ((eT PyData.int) u1), .un, .un, .un])) (bx_forS (envS := (fun (s_2 : Unit) => [.sh (PyData.int v_pegs), .sh ((eL (eT PyData.int)) v_frames), .sh ((eT PyData.int) u1), .un, .un, .un])) (e := (eT PyData.int)) (envB := (fun (s_2 : Unit) (x5 : (List Int)) => [.sh (PyData.int v_pegs), .sh ((eL (eT PyData.int)) v_frames), .sh ((eT PyData.int) u1), .sh ((eT PyData.int) x5), .un, .un])) (f := (p_stacked_for2 v_pegs)) (eis_list (ex_var (i := 1) rfl)) (.same (.same (.same (.un (.un (.un .nil)))))) (fun s_2 x5 _ => EGc.eg (vs := [3]) (egc_name (i := 3) (by decide))) (fun s_2 x5 _ => (bx_ifNo (et_of (ex_neI (ex_lenT (ex_var (i := 3) rfl)) (ex_mul ex_int (ex_var (i := 0) rfl) (.inl ⟨by decide, by decide⟩)))) (fun _ => (bx_nx (.same (.same (.same (.un (.un (.un .nil)))))) rfl))))) (fun s6 _ => (bx_asg (d := PyData.int (0 : Int)) ex_int (EGc.eg (egc_name (i := 4) (vs := [4]) (by decide))) (bx_then (envS := (fun (s_3 : (List Int) × Int) => [.sh (PyData.int v_pegs), .sh ((eL (eT PyData.int)) v_frames), .sh ((eT PyData.int) s_3.1), .un, .sh (PyData.int s_3.2), .un])) (bx_forS (envS := (fun (s_3 : (List Int) × Int) => [.sh (PyData.int v_pegs), .sh ((eL (eT PyData.int)) v_frames), .sh ((eT PyData.int) s_3.1), .un, .sh (PyData.int s_3.2), .un])) (e := (eT PyData.int)) (envB := (fun (s_3 : (List Int) × Int) (x7 : (List Int)) => [.sh (PyData.int v_pegs), .sh ((eL (eT PyData.int)) v_frames), .sh ((eT PyData.int) s_3.1), .sh ((eT PyData.int) x7), .sh (PyData.int s_3.2), .un])) (f := p_stacked_for3) (eis_list (ex_var (i := 1) rfl)) (.same (.same (.same (.un (.same (.un .nil)))))) (fun s_3 x7 _ => EGc.eg (vs := [3]) (egc_name (i := 3) (by decide))) (fun s_3 x7 _ => (bx_bind fun u8 hu8 => (bx_asg (d := (eP (eT PyData.int) PyData.int) u8) (ex_call (ea_cons (ex_var (i := 2) rfl) (ea_cons (ex_var (i := 3) rfl) ea_nil)) ⟨(s_3.1, x7), u8, rfl, hu8, rfl⟩) (EGc.eg (vs := [2, 5]) (egc_tup (egs_cons (egc_name (i := 2) (by decide)) (egs_cons (egc_name (i := 5) (by decide)) egs_nil)) rfl)) (bx_asgB (e := PyData.int) (i := 4) (ex_add (ex_var (i := 4) rfl) (ex_var (i := 5) rfl)) (fun v_rings_9 => (bx_nx (.same (.same (.same (.un (.same (.un .nil)))))) rfl))))))) (fun s10 _ => (bx_retS (ex_tup (ea_cons (ex_var (i := 2) rfl) (ea_cons (ex_var (i := 4) rfl) ea_nil)) (Nat.le_of_ble_eq_true rfl)) rfl)))))))))))
abbrev encE_x_stacked (E : XK) (x : Exn) : Out := .ex [.un, .un, .un, .un, .un, .un] x fun c d _ H => E c d H
abbrev encX_x_stacked (E : XK) (z : Except Exn ((List Int) × Int)) : Out := match z with
  | .ok y => .rt (.sh ((eP (eT PyData.int) PyData.int) y))
  | .error x => .ex [.un, .un, .un, .un, .un, .un] x fun c d _ H => E c d H
abbrev st_x_stacked : Stmt := top 38
abbrev NN_x_stacked : List Str := ["pegs", "frames", "found", "frame", "rings", "more"]
theorem sc_x_stacked : FnScope NN_x_stacked ["pegs", "frames"] (defScope st_x_stacked) := ⟨rfl, rfl, rfl, by decide +kernel, rfl, by decide +kernel, by decide +kernel⟩
abbrev I_x_stacked : List PyData → Rv ⊕ Exn → Prop := ImX (fun (a : (Int × (List (List Int)))) => [PyData.int a.1, (eL (eT PyData.int)) a.2]) (fun (y : ((List Int) × Int)) => Rv.sh ((eP (eT PyData.int) PyData.int) y)) (fun a => x_stacked a.1 a.2)
theorem fn_x_stacked {P : Program} {w : World} {K : PySem.W.Frag} {mg : Str → Option Value} {base : Heap} {f : Addr} {fd : FuncData} (F : FunD K "stacked" "stacked" (defArgs st_x_stacked) (defBody st_x_stacked) (defScope st_x_stacked) [] [] f fd) (hg : mg "stacked" = some (.ref f)) (T : Tx K mg) (G_x_plain : FnX P w K mg base "plain" 2 I_x_plain) (G_x_ask_frame : FnX P w K mg base "ask_frame" 4 I_x_ask_frame) (G_put_together : Fn P w K mg base "put_together" 2 I_p_put_together) : FnX P w K mg base "stacked" 5 I_x_stacked := by
  refine ⟨f, fd, ["pegs", "frames"], fn_okX (N := NN_x_stacked) (en := encX_x_stacked) F sc_x_stacked (fun _ => rfl) (fun _ _ => .inl rfl) (fun _ _ => ⟨_, rfl⟩) (fun cdv A' outer s H E hr => ⟨_, (pss_cons (ps_set (i := 2) sc_x_stacked.nd rfl (by first | exact Or.inl rfl | exact Or.inr rfl) (pe_fnX (K := K) G_x_plain (L2N.takes_of rfl rfl rfl rfl) (hr.mono (by decide)) (by rfl) (pa_cons (pv 0) pa_nil))) (pss_cons (ps_for (passes_of (by rfl)) rfl (pi_listK (K := K) (pv 1)) (pg_name (i := 3) sc_x_stacked.nd rfl (by first | exact Or.inl rfl | exact Or.inr rfl)) (pss_cons (ps_expr (pe_fnX (K := K) G_x_ask_frame (L2N.takes_of rfl rfl rfl rfl) (hr.mono (by decide)) (by rfl) (pa_cons (pv 3) pa_nil))) pss_nil)) (pss_cons (ps_for (passes_of (by rfl)) rfl (pi_listK (K := K) (pv 1)) (pg_name (i := 3) sc_x_stacked.nd rfl (by first | exact Or.inl rfl | exact Or.inr rfl)) (pss_cons (ps_if (pt_cmpR op_ne (pe_callB (call_lenK (K := K)) (by rfl) T.len (by decide +kernel) (pa_cons (pv 3) pa_nil)) (pe_op op_mul pe_int (pv 0)) (nomark _)) (pss_cons (ps_raiseX (K := K) rfl T.exc_BadPegs (L2N.takes_of rfl rfl rfl rfl) (by rfl)) pss_never) pss_nil) pss_nil)) (pss_cons (ps_set (i := 4) sc_x_stacked.nd rfl (by first | exact Or.inl rfl | exact Or.inr rfl) pe_int) (pss_cons (ps_for (passes_of (by rfl)) rfl (pi_listK (K := K) (pv 1)) (pg_name (i := 3) sc_x_stacked.nd rfl (by first | exact Or.inl rfl | exact Or.inr rfl)) (pss_cons (ps_asg (pe_fn G_put_together (hr.mono (by decide)) (by rfl) (pa_cons (pv 2) (pa_cons (pv 3) pa_nil))) (pg_tupK (K := K) (n := 2) (by rfl) (pgs_cons (pg_name (i := 2) sc_x_stacked.nd rfl (by first | exact Or.inl rfl | exact Or.inr rfl)) (pgs_cons (pg_name (i := 5) sc_x_stacked.nd rfl (by first | exact Or.inl rfl | exact Or.inr rfl)) pgs_nil)))) (pss_cons (ps_set (i := 4) sc_x_stacked.nd rfl (by first | exact Or.inl rfl | exact Or.inr rfl) (pe_op op_add (pv 4) (pv 5))) pss_nil))) (pss_cons (ps_ret (pe_tup (pa_cons (pv 2) (pa_cons (pv 4) pa_nil)))) pss_never)))))), fun a => ?_⟩), hg, F.kp, F.bindsN fun _ _ _ _ _ _ us hl => match us, hl with | [_, _], _ => rfl⟩
  obtain ⟨v_pegs, v_frames⟩ := a
  exact (show BX K _ [.sh (PyData.int v_pegs), .sh ((eL (eT PyData.int)) v_frames), .un, .un, .un, .un] (encX_x_stacked E) (x_stacked v_pegs v_frames) from
   (bx_bindX (fun e he => (bx_errAsg (err_callX (ea_cons (ex_var (i := 0) rfl) ea_nil) ⟨v_pegs, .error e, rfl, he, rfl⟩) rfl (.un (.un (.un (.un (.un (.un .nil)))))))) (fun u1 hu1 => (bx_asg (d := (eT PyData.int) u1) (ex_callX (ea_cons (ex_var (i := 0) rfl) ea_nil) ⟨v_pegs, .ok u1, rfl, hu1, rfl⟩) (EGc.eg (egc_name (i := 2) (vs := [2]) (by decide))) (bx_bindR (envS := (fun (s_1 : Unit) => [.sh (PyData.int v_pegs), .sh ((eL (eT PyData.int)) v_frames), .sh ((eT PyData.int) u1), .un, .un, .un])) (encR := (encX_x_stacked E)) (bx_forR (encR := (encX_x_stacked E)) (envS := (fun (s_1 : Unit) => [.sh (PyData.int v_pegs), .sh ((eL (eT PyData.int)) v_frames), .sh ((eT PyData.int) u1), .un, .un, .un])) (e := (eT PyData.int)) (envB := (fun (s_1 : Unit) (x2 : (List Int)) => [.sh (PyData.int v_pegs), .sh ((eL (eT PyData.int)) v_frames), .sh ((eT PyData.int) u1), .sh ((eT PyData.int) x2), .un, .un])) (f := x_stacked_for1) (eis_list (ex_var (i := 1) rfl)) (.same (.same (.same (.un (.un (.un .nil)))))) (fun r => by cases r <;> trivial) (fun s_1 x2 _ => EGc.eg (vs := [3]) (egc_name (i := 3) (by decide))) (fun s_1 x2 _ => (bx_bindX (fun e he => (bx_errDrop (err_callX (ea_cons (ex_var (i := 3) rfl) ea_nil) ⟨x2, .error e, rfl, he, rfl⟩) rfl (.un (.un (.un (.un (.un (.un .nil)))))))) (fun u3 hu3 => (bx_drop (ex_callX (ea_cons (ex_var (i := 3) rfl) ea_nil) ⟨x2, .ok u3, rfl, hu3, rfl⟩) (bx_nx (.same (.same (.same (.un (.un (.un .nil)))))) rfl)))))) (fun _ => rfl) (fun r e h => by cases r <;> cases h) (fun s4 _ => (bx_bindR (envS := (fun (s_2 : Unit) => [.sh (PyData.int v_pegs), .sh ((eL (eT PyData.int)) v_frames), .sh ((eT PyData.int) u1), .un, .un, .un])) (encR := (encX_x_stacked E)) (bx_forR (encR := (encX_x_stacked E)) (envS := (fun (s_2 : Unit) => [.sh (PyData.int v_pegs), .sh ((eL (eT PyData.int)) v_frames), .sh ((eT PyData.int) u1), .un, .un, .un])) (e := (eT PyData.int)) (envB := (fun (s_2 : Unit) (x5 : (List Int)) => [.sh (PyData.int v_pegs), .sh ((eL (eT PyData.int)) v_frames), .sh ((eT PyData.int) u1), .sh ((eT PyData.int) x5), .un, .un])) (f := (x_stacked_for2 v_pegs)) (eis_list (ex_var (i := 1) rfl)) (.same (.same (.same (.un (.un (.un .nil)))))) (fun r => by cases r <;> trivial) (fun s_2 x5 _ => EGc.eg (vs := [3]) (egc_name (i := 3) (by decide))) (fun s_2 x5 _ => (bx_ifRetM (encR := (encX_x_stacked E)) (et_of (ex_neI (ex_lenT (ex_var (i := 3) rfl)) (ex_mul ex_int (ex_var (i := 0) rfl) (.inl ⟨by decide, by decide⟩)))) (fun _ => (bx_raiseS (W := (fun c d _ H => E c d H)) rfl (.un (.un (.un (.un (.un (.un .nil)))))))) (fun r e h => by cases r <;> cases h) (fun _ => rfl) (fun _ => (bx_nx (.same (.same (.same (.un (.un (.un .nil)))))) rfl))))) (fun _ => rfl) (fun r e h => by cases r <;> cases h) (fun s6 _ => (bx_asg (d := PyData.int (0 : Int)) ex_int (EGc.eg (egc_name (i := 4) (vs := [4]) (by decide))) (bx_then (envS := (fun (s_3 : (List Int) × Int) => [.sh (PyData.int v_pegs), .sh ((eL (eT PyData.int)) v_frames), .sh ((eT PyData.int) s_3.1), .un, .sh (PyData.int s_3.2), .un])) (bx_forS (envS := (fun (s_3 : (List Int) × Int) => [.sh (PyData.int v_pegs), .sh ((eL (eT PyData.int)) v_frames), .sh ((eT PyData.int) s_3.1), .un, .sh (PyData.int s_3.2), .un])) (e := (eT PyData.int)) (envB := (fun (s_3 : (List Int) × Int) (x7 : (List Int)) => [.sh (PyData.int v_pegs), .sh ((eL (eT PyData.int)) v_frames), .sh ((eT PyData.int) s_3.1), .sh ((eT PyData.int) x7), .sh (PyData.int s_3.2), .un])) (f := x_stacked_for3) (eis_list (ex_var (i := 1) rfl)) (.same (.same (.same (.un (.same (.un .nil)))))) (fun s_3 x7 _ => EGc.eg (vs := [3]) (egc_name (i := 3) (by decide))) (fun s_3 x7 _ => (bx_bind fun u8 hu8 => (bx_asg (d := (eP (eT PyData.int) PyData.int) u8) (ex_call (ea_cons (ex_var (i := 2) rfl) (ea_cons (ex_var (i := 3) rfl) ea_nil)) ⟨(s_3.1, x7), u8, rfl, hu8, rfl⟩) (EGc.eg (vs := [2, 5]) (egc_tup (egs_cons (egc_name (i := 2) (by decide)) (egs_cons (egc_name (i := 5) (by decide)) egs_nil)) rfl)) (bx_asgB (e := PyData.int) (i := 4) (ex_add (ex_var (i := 4) rfl) (ex_var (i := 5) rfl)) (fun v_rings_9 => (bx_nx (.same (.same (.same (.un (.same (.un .nil)))))) rfl))))))) (fun s10 _ => (bx_retS (ex_tup (ea_cons (ex_var (i := 2) rfl) (ea_cons (ex_var (i := 4) rfl) ea_nil)) (Nat.le_of_ble_eq_true rfl)) rfl))))))))))))
abbrev encR_p_ask_hook (_ : Unit) : Out := .nx [.un, .un]
abbrev st_p_ask_hook : Stmt := top 40
abbrev NN_p_ask_hook : List Str := ["pegs", "number"]
theorem sc_p_ask_hook : FnScope NN_p_ask_hook ["pegs", "number"] (defScope st_p_ask_hook) := ⟨rfl, rfl, rfl, by decide +kernel, rfl, by decide +kernel, by decide +kernel⟩
abbrev I_p_ask_hook : List PyData → Rv → Prop := Im (fun (a : (Int × Int)) => [PyData.int a.1, PyData.int a.2]) (fun (y : Unit) => Rv.sh (eN y)) (fun a => p_ask_hook a.1 a.2)
theorem fn_p_ask_hook {P : Program} {w : World} {K : PySem.W.Frag} {mg : Str → Option Value} {base : Heap} {f : Addr} {fd : FuncData} (F : FunD K "ask_hook" "ask_hook" (defArgs st_p_ask_hook) (defBody st_p_ask_hook) (defScope st_p_ask_hook) [] [] f fd) (hg : mg "ask_hook" = some (.ref f)) (T : Tx K mg)  : Fn P w K mg base "ask_hook" 1 I_p_ask_hook := by
  refine ⟨f, fd, ["pegs", "number"], fn_ok (N := NN_p_ask_hook) (en := encR_p_ask_hook) F sc_p_ask_hook (fun _ => rfl) (fun _ => .inr ⟨rfl, _, rfl⟩) (fun cdv A' outer s H E hr => ⟨_, (pss_cons (ps_if (pt_not (pt_chain op_le op_lt pe_int (pv 1) (pe_op op_sub (pv 0) pe_int))) pss_never pss_nil) pss_nil), fun a => ?_⟩), hg, F.kp, F.bindsN fun _ _ _ _ _ _ us hl => match us, hl with | [_, _], _ => rfl⟩
  obtain ⟨v_pegs, v_number⟩ := a
  exact (show BX K _ [.sh (PyData.int v_pegs), .sh (PyData.int v_number)] encR_p_ask_hook (p_ask_hook v_pegs v_number) from
   (bx_ifNo (et_not (et_of (ex_chain (p := fun i j => decide (i ≤ j)) (p' := fun i j => decide (i < j)) (fun _ _ => rfl) (fun _ _ => rfl) ex_int (ex_var (i := 1) rfl) (ex_sub (ex_var (i := 0) rfl) ex_int)))) (fun _ => (bx_nx (.un (.un .nil)) rfl))))
abbrev encE_x_ask_hook (E : XK) (x : Exn) : Out := .ex [.un, .un] x fun c d _ H => E c d H
abbrev encX_x_ask_hook (E : XK) (z : Except Exn Unit) : Out := match z with
  | .ok y => .nx [.un, .un]
  | .error x => .ex [.un, .un] x fun c d _ H => E c d H
abbrev st_x_ask_hook : Stmt := top 40
abbrev NN_x_ask_hook : List Str := ["pegs", "number"]
theorem sc_x_ask_hook : FnScope NN_x_ask_hook ["pegs", "number"] (defScope st_x_ask_hook) := ⟨rfl, rfl, rfl, by decide +kernel, rfl, by decide +kernel, by decide +kernel⟩
abbrev I_x_ask_hook : List PyData → Rv ⊕ Exn → Prop := ImX (fun (a : (Int × Int)) => [PyData.int a.1, PyData.int a.2]) (fun (y : Unit) => Rv.sh (eN y)) (fun a => x_ask_hook a.1 a.2)
theorem fn_x_ask_hook {P : Program} {w : World} {K : PySem.W.Frag} {mg : Str → Option Value} {base : Heap} {f : Addr} {fd : FuncData} (F : FunD K "ask_hook" "ask_hook" (defArgs st_x_ask_hook) (defBody st_x_ask_hook) (defScope st_x_ask_hook) [] [] f fd) (hg : mg "ask_hook" = some (.ref f)) (T : Tx K mg)  : FnX P w K mg base "ask_hook" 1 I_x_ask_hook := by
  refine ⟨f, fd, ["pegs", "number"], fn_okX (N := NN_x_ask_hook) (en := encX_x_ask_hook) F sc_x_ask_hook (fun _ => rfl) (fun _ _ => .inr ⟨rfl, _, rfl⟩) (fun _ _ => ⟨_, rfl⟩) (fun cdv A' outer s H E hr => ⟨_, (pss_cons (ps_if (pt_not (pt_chain op_le op_lt pe_int (pv 1) (pe_op op_sub (pv 0) pe_int))) (pss_cons (ps_raiseX (K := K) rfl T.exc_BadHook (L2N.takes_of rfl rfl rfl rfl) (by rfl)) pss_never) pss_nil) pss_nil), fun a => ?_⟩), hg, F.kp, F.bindsN fun _ _ _ _ _ _ us hl => match us, hl with | [_, _], _ => rfl⟩
  obtain ⟨v_pegs, v_number⟩ := a
  exact (show BX K _ [.sh (PyData.int v_pegs), .sh (PyData.int v_number)] (encX_x_ask_hook E) (x_ask_hook v_pegs v_number) from
   (bx_ifRet (et_not (et_of (ex_chain (p := fun i j => decide (i ≤ j)) (p' := fun i j => decide (i < j)) (fun _ _ => rfl) (fun _ _ => rfl) ex_int (ex_var (i := 1) rfl) (ex_sub (ex_var (i := 0) rfl) ex_int)))) (fun _ => (bx_raiseS (W := (fun c d _ H => E c d H)) rfl (.un (.un .nil)))) (fun o e ho h => by cases ho; cases h) (fun _ => (bx_nx (.un (.un .nil)) rfl))))
abbrev encR_p_ask_row (_ : Unit) : Out := .nx [.un, .un, .un]
abbrev st_p_ask_row : Stmt := top 41
abbrev NN_p_ask_row : List Str := ["pegs", "row", "number"]
theorem sc_p_ask_row : FnScope NN_p_ask_row ["pegs", "row"] (defScope st_p_ask_row) := ⟨rfl, rfl, rfl, by decide +kernel, rfl, by decide +kernel, by decide +kernel⟩
abbrev I_p_ask_row : List PyData → Rv → Prop := Im (fun (a : (Int × (List Int))) => [PyData.int a.1, (eL PyData.int) a.2]) (fun (y : Unit) => Rv.sh (eN y)) (fun a => p_ask_row a.1 a.2)
theorem fn_p_ask_row {P : Program} {w : World} {K : PySem.W.Frag} {mg : Str → Option Value} {base : Heap} {f : Addr} {fd : FuncData} (F : FunD K "ask_row" "ask_row" (defArgs st_p_ask_row) (defBody st_p_ask_row) (defScope st_p_ask_row) [] [] f fd) (hg : mg "ask_row" = some (.ref f)) (T : Tx K mg) (G_ask_pegs : Fn P w K mg base "ask_pegs" 1 I_p_ask_pegs) (G_ask_hook : Fn P w K mg base "ask_hook" 1 I_p_ask_hook) : Fn P w K mg base "ask_row" 2 I_p_ask_row := by
  refine ⟨f, fd, ["pegs", "row"], fn_ok (N := NN_p_ask_row) (en := encR_p_ask_row) F sc_p_ask_row (fun _ => rfl) (fun _ => .inr ⟨rfl, _, rfl⟩) (fun cdv A' outer s H E hr => ⟨_, (pss_cons (ps_expr (pe_fn G_ask_pegs (hr.mono (by decide)) (by rfl) (pa_cons (pv 0) pa_nil))) (pss_cons (ps_for PassesOwn.never rfl (pi_listK (K := K) (pv 1)) (pg_name (i := 2) sc_p_ask_row.nd rfl (by first | exact Or.inl rfl | exact Or.inr rfl)) (pss_cons (ps_expr (pe_fn G_ask_hook (hr.mono (by decide)) (by rfl) (pa_cons (pv 0) (pa_cons (pv 2) pa_nil)))) pss_nil)) pss_nil)), fun a => ?_⟩), hg, F.kp, F.bindsN fun _ _ _ _ _ _ us hl => match us, hl with | [_, _], _ => rfl⟩
  obtain ⟨v_pegs, v_row⟩ := a
  exact (show BX K _ [.sh (PyData.int v_pegs), .sh ((eL PyData.int) v_row), .un] encR_p_ask_row (p_ask_row v_pegs v_row) from
   (bx_bind fun u1 hu1 => (bx_drop (ex_call (ea_cons (ex_var (i := 0) rfl) ea_nil) ⟨v_pegs, u1, rfl, hu1, rfl⟩) (bx_then (envS := (fun (s_1 : Unit) => [.sh (PyData.int v_pegs), .sh ((eL PyData.int) v_row), .un])) (bx_forS (envS := (fun (s_1 : Unit) => [.sh (PyData.int v_pegs), .sh ((eL PyData.int) v_row), .un])) (e := PyData.int) (envB := (fun (s_1 : Unit) (x2 : Int) => [.sh (PyData.int v_pegs), .sh ((eL PyData.int) v_row), .sh (PyData.int x2)])) (f := (p_ask_row_for1 v_pegs)) (eis_list (ex_var (i := 1) rfl)) (.same (.same (.un .nil))) (fun s_1 x2 _ => EGc.eg (vs := [2]) (egc_name (i := 2) (by decide))) (fun s_1 x2 _ => (bx_bind fun u3 hu3 => (bx_drop (ex_call (ea_cons (ex_var (i := 0) rfl) (ea_cons (ex_var (i := 2) rfl) ea_nil)) ⟨(v_pegs, x2), u3, rfl, hu3, rfl⟩) (bx_nx (.same (.same (.un .nil))) rfl))))) (fun s4 _ => (bx_nx (.un (.un (.un .nil))) rfl))))))
abbrev encE_x_ask_row (E : XK) (x : Exn) : Out := .ex [.un, .un, .un] x fun c d _ H => E c d H
abbrev encX_x_ask_row (E : XK) (z : Except Exn Unit) : Out := match z with
  | .ok y => .nx [.un, .un, .un]
  | .error x => .ex [.un, .un, .un] x fun c d _ H => E c d H
abbrev st_x_ask_row : Stmt := top 41
abbrev NN_x_ask_row : List Str := ["pegs", "row", "number"]
theorem sc_x_ask_row : FnScope NN_x_ask_row ["pegs", "row"] (defScope st_x_ask_row) := ⟨rfl, rfl, rfl, by decide +kernel, rfl, by decide +kernel, by decide +kernel⟩
abbrev I_x_ask_row : List PyData → Rv ⊕ Exn → Prop := ImX (fun (a : (Int × (List Int))) => [PyData.int a.1, (eL PyData.int) a.2]) (fun (y : Unit) => Rv.sh (eN y)) (fun a => x_ask_row a.1 a.2)
theorem fn_x_ask_row {P : Program} {w : World} {K : PySem.W.Frag} {mg : Str → Option Value} {base : Heap} {f : Addr} {fd : FuncData} (F : FunD K "ask_row" "ask_row" (defArgs st_x_ask_row) (defBody st_x_ask_row) (defScope st_x_ask_row) [] [] f fd) (hg : mg "ask_row" = some (.ref f)) (T : Tx K mg) (G_x_ask_pegs : FnX P w K mg base "ask_pegs" 1 I_x_ask_pegs) (G_x_ask_hook : FnX P w K mg base "ask_hook" 1 I_x_ask_hook) : FnX P w K mg base "ask_row" 2 I_x_ask_row := by
  refine ⟨f, fd, ["pegs", "row"], fn_okX (N := NN_x_ask_row) (en := encX_x_ask_row) F sc_x_ask_row (fun _ => rfl) (fun _ _ => .inr ⟨rfl, _, rfl⟩) (fun _ _ => ⟨_, rfl⟩) (fun cdv A' outer s H E hr => ⟨_, (pss_cons (ps_expr (pe_fnX (K := K) G_x_ask_pegs (L2N.takes_of rfl rfl rfl rfl) (hr.mono (by decide)) (by rfl) (pa_cons (pv 0) pa_nil))) (pss_cons (ps_for (passes_of (by rfl)) rfl (pi_listK (K := K) (pv 1)) (pg_name (i := 2) sc_x_ask_row.nd rfl (by first | exact Or.inl rfl | exact Or.inr rfl)) (pss_cons (ps_expr (pe_fnX (K := K) G_x_ask_hook (L2N.takes_of rfl rfl rfl rfl) (hr.mono (by decide)) (by rfl) (pa_cons (pv 0) (pa_cons (pv 2) pa_nil)))) pss_nil)) pss_nil)), fun a => ?_⟩), hg, F.kp, F.bindsN fun _ _ _ _ _ _ us hl => match us, hl with | [_, _], _ => rfl⟩
  obtain ⟨v_pegs, v_row⟩ := a
  exact (show BX K _ [.sh (PyData.int v_pegs), .sh ((eL PyData.int) v_row), .un] (encX_x_ask_row E) (x_ask_row v_pegs v_row) from
   (bx_bindX (fun e he => (bx_errDrop (err_callX (ea_cons (ex_var (i := 0) rfl) ea_nil) ⟨v_pegs, .error e, rfl, he, rfl⟩) rfl (.un (.un (.un .nil))))) (fun u1 hu1 => (bx_drop (ex_callX (ea_cons (ex_var (i := 0) rfl) ea_nil) ⟨v_pegs, .ok u1, rfl, hu1, rfl⟩) (bx_bindR (envS := (fun (s_1 : Unit) => [.sh (PyData.int v_pegs), .sh ((eL PyData.int) v_row), .un])) (encR := (encE_x_ask_row E)) (bx_forR (encR := (encE_x_ask_row E)) (envS := (fun (s_1 : Unit) => [.sh (PyData.int v_pegs), .sh ((eL PyData.int) v_row), .un])) (e := PyData.int) (envB := (fun (s_1 : Unit) (x2 : Int) => [.sh (PyData.int v_pegs), .sh ((eL PyData.int) v_row), .sh (PyData.int x2)])) (f := (x_ask_row_for1 v_pegs)) (eis_list (ex_var (i := 1) rfl)) (.same (.same (.un .nil))) (fun _ => trivial) (fun s_1 x2 _ => EGc.eg (vs := [2]) (egc_name (i := 2) (by decide))) (fun s_1 x2 _ => (bx_bindX (fun e he => (bx_errDrop (err_callX (ea_cons (ex_var (i := 0) rfl) (ea_cons (ex_var (i := 2) rfl) ea_nil)) ⟨(v_pegs, x2), .error e, rfl, he, rfl⟩) rfl (.un (.un (.un .nil))))) (fun u3 hu3 => (bx_drop (ex_callX (ea_cons (ex_var (i := 0) rfl) (ea_cons (ex_var (i := 2) rfl) ea_nil)) ⟨(v_pegs, x2), .ok u3, rfl, hu3, rfl⟩) (bx_nx (.same (.same (.un .nil))) rfl)))))) (fun _ => rfl) (fun _ _ h => nomatch h) (fun s4 _ => (bx_nx (.un (.un (.un .nil))) rfl)))))))
abbrev encR_p_hook (y : (List Int)) : Out := .rt (.sh ((eT PyData.int) y))
abbrev st_p_hook : Stmt := top 42
abbrev NN_p_hook : List Str := ["pegs", "number", "found", "high"]
theorem sc_p_hook : FnScope NN_p_hook ["pegs", "number"] (defScope st_p_hook) := ⟨rfl, rfl, rfl, by decide +kernel, rfl, by decide +kernel, by decide +kernel⟩
abbrev I_p_hook : List PyData → Rv → Prop := Im (fun (a : (Int × Int)) => [PyData.int a.1, PyData.int a.2]) (fun (y : (List Int)) => Rv.sh ((eT PyData.int) y)) (fun a => p_hook a.1 a.2)
theorem fn_p_hook {P : Program} {w : World} {K : PySem.W.Frag} {mg : Str → Option Value} {base : Heap} {f : Addr} {fd : FuncData} (F : FunD K "hook" "hook" (defArgs st_p_hook) (defBody st_p_hook) (defScope st_p_hook) [] [] f fd) (hg : mg "hook" = some (.ref f)) (T : Tx K mg) (G_ask_pegs : Fn P w K mg base "ask_pegs" 1 I_p_ask_pegs) (G_ask_hook : Fn P w K mg base "ask_hook" 1 I_p_ask_hook) (G_plain : Fn P w K mg base "plain" 2 I_p_plain) : Fn P w K mg base "hook" 3 I_p_hook := by
  refine ⟨f, fd, ["pegs", "number"], fn_ok (N := NN_p_hook) (en := encR_p_hook) F sc_p_hook (fun _ => rfl) (fun _ => .inl rfl) (fun cdv A' outer s H E hr => ⟨_, (pss_cons (ps_expr (pe_fn G_ask_pegs (hr.mono (by decide)) (by rfl) (pa_cons (pv 0) pa_nil))) (pss_cons (ps_expr (pe_fn G_ask_hook (hr.mono (by decide)) (by rfl) (pa_cons (pv 0) (pa_cons (pv 1) pa_nil)))) (pss_cons (ps_set (i := 2) sc_p_hook.nd rfl (by first | exact Or.inl rfl | exact Or.inr rfl) (pe_callTy (call_listK (K := K)) (by rfl) T.list (by decide +kernel) (pa_cons (pe_fn G_plain (hr.mono (by decide)) (by rfl) (pa_cons (pv 0) pa_nil)) pa_nil))) (pss_cons (ps_for PassesOwn.never rfl (pi_tupK (K := K) (pe_tup (pa_cons (pv 1) (pa_cons (pe_op op_add (pv 0) (pv 1)) pa_nil)))) (pg_name (i := 3) sc_p_hook.nd rfl (by first | exact Or.inl rfl | exact Or.inr rfl)) (pss_cons (ps_asg (pe_op op_add (pv 3) pe_int) (pg_sub (pv 2) (pv 3) set_list)) (pss_cons (ps_asg (pv 3) (pg_sub (pv 2) (pe_op op_add (pv 3) pe_int) set_list)) pss_nil))) (pss_cons (ps_ret (pe_callTy (call_tupleK (K := K)) (by rfl) T.tuple (by decide +kernel) (pa_cons (pv 2) pa_nil))) pss_never))))), fun a => ?_⟩), hg, F.kp, F.bindsN fun _ _ _ _ _ _ us hl => match us, hl with | [_, _], _ => rfl⟩
  obtain ⟨v_pegs, v_number⟩ := a
  exact (show BX K _ [.sh (PyData.int v_pegs), .sh (PyData.int v_number), .un, .un] encR_p_hook (p_hook v_pegs v_number) from
   (bx_bind fun u1 hu1 => (bx_drop (ex_call (ea_cons (ex_var (i := 0) rfl) ea_nil) ⟨v_pegs, u1, rfl, hu1, rfl⟩) (bx_bind fun u2 hu2 => (bx_drop (ex_call (ea_cons (ex_var (i := 0) rfl) (ea_cons (ex_var (i := 1) rfl) ea_nil)) ⟨(v_pegs, v_number), u2, rfl, hu2, rfl⟩) (bx_bind fun u3 hu3 => (bx_asgW (exw_listT (ex_call (ea_cons (ex_var (i := 0) rfl) ea_nil) ⟨v_pegs, u3, rfl, hu3, rfl⟩)) (bx_then (envS := (fun (s_1 : (List Int)) => [.sh (PyData.int v_pegs), .sh (PyData.int v_number), .ow (s_1.map PyData.int), .un])) (bx_forS (envS := (fun (s_1 : (List Int)) => [.sh (PyData.int v_pegs), .sh (PyData.int v_number), .ow (s_1.map PyData.int), .un])) (e := PyData.int) (envB := (fun (s_1 : (List Int)) (x4 : Int) => [.sh (PyData.int v_pegs), .sh (PyData.int v_number), .ow (s_1.map PyData.int), .sh (PyData.int x4)])) (f := p_hook_for1) (eis_tup (ex_tup (ea_cons (ex_var (i := 1) rfl) (ea_cons (ex_add (ex_var (i := 0) rfl) (ex_var (i := 1) rfl)) ea_nil)) (Nat.le_of_ble_eq_true rfl))) (.same (.same (.same (.un .nil)))) (fun s_1 x4 _ => EGc.eg (vs := [3]) (egc_name (i := 3) (by decide))) (fun s_1 x4 _ => (bx_bind fun u5 hu5 => (bx_asg (d := PyData.int (x4 + (1 : Int))) (ex_add (ex_var (i := 3) rfl) ex_int) (eg_setI (e := PyData.int) rfl (ex_var (i := 3) rfl) hu5) (bx_bind fun u6 hu6 => (bx_asg (d := PyData.int x4) (ex_var (i := 3) rfl) (eg_setI (e := PyData.int) rfl (ex_add (ex_var (i := 3) rfl) ex_int) hu6) (bx_nx (.same (.same (.same (.un .nil)))) rfl))))))) (fun s7 _ => (bx_retS (ex_tupL (exl_var (i := 2) rfl)) rfl))))))))))
abbrev encR_p_hook_hooks (y : (List Int)) : Out := .rt (.sh ((eT PyData.int) y))
abbrev st_p_hook_hooks : Stmt := top 42
abbrev NN_p_hook_hooks : List Str := ["pegs", "number", "found", "high"]
theorem sc_p_hook_hooks : FnScope NN_p_hook_hooks ["pegs", "number"] (defScope st_p_hook_hooks) := ⟨rfl, rfl, rfl, by decide +kernel, rfl, by decide +kernel, by decide +kernel⟩
abbrev I_p_hook_hooks : List PyData → Rv → Prop := Im (fun (a : (Int × Int)) => [PyData.int a.1, PyData.int a.2]) (fun (y : (List Int)) => Rv.sh ((eT PyData.int) y)) (fun a => p_hook_hooks a.1 a.2)
theorem fn_p_hook_hooks {P : Program} {w : World} {K : PySem.W.Frag} {mg : Str → Option Value} {base : Heap} {f : Addr} {fd : FuncData} (F : FunD K "hook" "hook" (defArgs st_p_hook_hooks) (defBody st_p_hook_hooks) (defScope st_p_hook_hooks) [] [] f fd) (hg : mg "hook_hooks" = some (.ref f)) (T : Tx K mg) (G_ask_pegs : Fn P w K mg base "ask_pegs" 1 I_p_ask_pegs) (G_ask_hook : Fn P w K mg base "ask_hook" 1 I_p_ask_hook) (G_plain : Fn P w K mg base "plain" 2 I_p_plain) : Fn P w K mg base "hook_hooks" 3 I_p_hook_hooks := by
  refine ⟨f, fd, ["pegs", "number"], fn_ok (N := NN_p_hook_hooks) (en := encR_p_hook_hooks) F sc_p_hook_hooks (fun _ => rfl) (fun _ => .inl rfl) (fun cdv A' outer s H E hr => ⟨_, (pss_cons (ps_expr (pe_fn G_ask_pegs (hr.mono (by decide)) (by rfl) (pa_cons (pv 0) pa_nil))) (pss_cons (ps_expr (pe_fn G_ask_hook (hr.mono (by decide)) (by rfl) (pa_cons (pv 0) (pa_cons (pv 1) pa_nil)))) (pss_cons (ps_set (i := 2) sc_p_hook_hooks.nd rfl (by first | exact Or.inl rfl | exact Or.inr rfl) (pe_callTy (call_listK (K := K)) (by rfl) T.list (by decide +kernel) (pa_cons (pe_fn G_plain (hr.mono (by decide)) (by rfl) (pa_cons (pv 0) pa_nil)) pa_nil))) (pss_cons (ps_for PassesOwn.never rfl (pi_tupK (K := K) (pe_tup (pa_cons (pv 1) (pa_cons (pe_op op_add (pv 0) (pv 1)) pa_nil)))) (pg_name (i := 3) sc_p_hook_hooks.nd rfl (by first | exact Or.inl rfl | exact Or.inr rfl)) (pss_cons (ps_asg (pe_op op_add (pv 3) pe_int) (pg_sub (pv 2) (pv 3) set_list)) (pss_cons (ps_asg (pv 3) (pg_sub (pv 2) (pe_op op_add (pv 3) pe_int) set_list)) pss_nil))) (pss_cons (ps_ret (pe_callTy (call_tupleK (K := K)) (by rfl) T.tuple (by decide +kernel) (pa_cons (pv 2) pa_nil))) pss_never))))), fun a => ?_⟩), hg, F.kp, F.bindsN fun _ _ _ _ _ _ us hl => match us, hl with | [_, _], _ => rfl⟩
  obtain ⟨v_pegs, v_number⟩ := a
  exact (show BX K _ [.sh (PyData.int v_pegs), .sh (PyData.int v_number), .un, .un] encR_p_hook_hooks (p_hook_hooks v_pegs v_number) from
   (bx_bind fun u1 hu1 => (bx_drop (ex_call (ea_cons (ex_var (i := 0) rfl) ea_nil) ⟨v_pegs, u1, rfl, hu1, rfl⟩) (bx_bind fun u2 hu2 => (bx_drop (ex_call (ea_cons (ex_var (i := 0) rfl) (ea_cons (ex_var (i := 1) rfl) ea_nil)) ⟨(v_pegs, v_number), u2, rfl, hu2, rfl⟩) (bx_bind fun u3 hu3 => (bx_asgW (exw_listT (ex_call (ea_cons (ex_var (i := 0) rfl) ea_nil) ⟨v_pegs, u3, rfl, hu3, rfl⟩)) (bx_then (envS := (fun (s_1 : (List Int)) => [.sh (PyData.int v_pegs), .sh (PyData.int v_number), .ow (s_1.map PyData.int), .un])) (bx_forS (envS := (fun (s_1 : (List Int)) => [.sh (PyData.int v_pegs), .sh (PyData.int v_number), .ow (s_1.map PyData.int), .un])) (e := PyData.int) (envB := (fun (s_1 : (List Int)) (x4 : Int) => [.sh (PyData.int v_pegs), .sh (PyData.int v_number), .ow (s_1.map PyData.int), .sh (PyData.int x4)])) (f := p_hook_hooks_for1) (eis_tup (ex_tup (ea_cons (ex_var (i := 1) rfl) (ea_cons (ex_add (ex_var (i := 0) rfl) (ex_var (i := 1) rfl)) ea_nil)) (Nat.le_of_ble_eq_true rfl))) (.same (.same (.same (.un .nil)))) (fun s_1 x4 _ => EGc.eg (vs := [3]) (egc_name (i := 3) (by decide))) (fun s_1 x4 _ => (bx_bind fun u5 hu5 => (bx_asg (d := PyData.int (x4 + (1 : Int))) (ex_add (ex_var (i := 3) rfl) ex_int) (eg_setI (e := PyData.int) rfl (ex_var (i := 3) rfl) hu5) (bx_bind fun u6 hu6 => (bx_asg (d := PyData.int x4) (ex_var (i := 3) rfl) (eg_setI (e := PyData.int) rfl (ex_add (ex_var (i := 3) rfl) ex_int) hu6) (bx_nx (.same (.same (.same (.un .nil)))) rfl))))))) (fun s7 _ => (bx_retS (ex_tupL (exl_var (i := 2) rfl)) rfl))))))))))
abbrev encE_x_hook_hooks (E : XK) (x : Exn) : Out := .ex [.un, .un, .un, .un] x fun c d _ H => E c d H
abbrev encX_x_hook_hooks (E : XK) (z : Except Exn (List Int)) : Out := match z with
  | .ok y => .rt (.sh ((eT PyData.int) y))
  | .error x => .ex [.un, .un, .un, .un] x fun c d _ H => E c d H
abbrev st_x_hook_hooks : Stmt := top 42
abbrev NN_x_hook_hooks : List Str := ["pegs", "number", "found", "high"]
theorem sc_x_hook_hooks : FnScope NN_x_hook_hooks ["pegs", "number"] (defScope st_x_hook_hooks) := ⟨rfl, rfl, rfl, by decide +kernel, rfl, by decide +kernel, by decide +kernel⟩
abbrev I_x_hook_hooks : List PyData → Rv ⊕ Exn → Prop := ImX (fun (a : (Int × Int)) => [PyData.int a.1, PyData.int a.2]) (fun (y : (List Int)) => Rv.sh ((eT PyData.int) y)) (fun a => x_hook_hooks a.1 a.2)
theorem fn_x_hook_hooks {P : Program} {w : World} {K : PySem.W.Frag} {mg : Str → Option Value} {base : Heap} {f : Addr} {fd : FuncData} (F : FunD K "hook" "hook" (defArgs st_x_hook_hooks) (defBody st_x_hook_hooks) (defScope st_x_hook_hooks) [] [] f fd) (hg : mg "hook_hooks" = some (.ref f)) (T : Tx K mg) (G_x_ask_pegs : FnX P w K mg base "ask_pegs" 1 I_x_ask_pegs) (G_x_ask_hook : FnX P w K mg base "ask_hook" 1 I_x_ask_hook) (G_plain : Fn P w K mg base "plain" 2 I_p_plain) : FnX P w K mg base "hook_hooks" 3 I_x_hook_hooks := by
  refine ⟨f, fd, ["pegs", "number"], fn_okX (N := NN_x_hook_hooks) (en := encX_x_hook_hooks) F sc_x_hook_hooks (fun _ => rfl) (fun _ _ => .inl rfl) (fun _ _ => ⟨_, rfl⟩) (fun cdv A' outer s H E hr => ⟨_, (pss_cons (ps_expr (pe_fnX (K := K) G_x_ask_pegs (L2N.takes_of rfl rfl rfl rfl) (hr.mono (by decide)) (by rfl) (pa_cons (pv 0) pa_nil))) (pss_cons (ps_expr (pe_fnX (K := K) G_x_ask_hook (L2N.takes_of rfl rfl rfl rfl) (hr.mono (by decide)) (by rfl) (pa_cons (pv 0) (pa_cons (pv 1) pa_nil)))) (pss_cons (ps_set (i := 2) sc_x_hook_hooks.nd rfl (by first | exact Or.inl rfl | exact Or.inr rfl) (pe_callTy (call_listK (K := K)) (by rfl) T.list (by decide +kernel) (pa_cons (pe_fn G_plain (hr.mono (by decide)) (by rfl) (pa_cons (pv 0) pa_nil)) pa_nil))) (pss_cons (ps_for (passes_of (by rfl)) rfl (pi_tupK (K := K) (pe_tup (pa_cons (pv 1) (pa_cons (pe_op op_add (pv 0) (pv 1)) pa_nil)))) (pg_name (i := 3) sc_x_hook_hooks.nd rfl (by first | exact Or.inl rfl | exact Or.inr rfl)) (pss_cons (ps_asg (pe_op op_add (pv 3) pe_int) (pg_sub (pv 2) (pv 3) set_list)) (pss_cons (ps_asg (pv 3) (pg_sub (pv 2) (pe_op op_add (pv 3) pe_int) set_list)) pss_nil))) (pss_cons (ps_ret (pe_callTy (call_tupleK (K := K)) (by rfl) T.tuple (by decide +kernel) (pa_cons (pv 2) pa_nil))) pss_never))))), fun a => ?_⟩), hg, F.kp, F.bindsN fun _ _ _ _ _ _ us hl => match us, hl with | [_, _], _ => rfl⟩
  obtain ⟨v_pegs, v_number⟩ := a
  exact (show BX K _ [.sh (PyData.int v_pegs), .sh (PyData.int v_number), .un, .un] (encX_x_hook_hooks E) (x_hook_hooks v_pegs v_number) from
   (bx_bindX (fun e he => (bx_errDrop (err_callX (ea_cons (ex_var (i := 0) rfl) ea_nil) ⟨v_pegs, .error e, rfl, he, rfl⟩) rfl (.un (.un (.un (.un .nil)))))) (fun u1 hu1 => (bx_drop (ex_callX (ea_cons (ex_var (i := 0) rfl) ea_nil) ⟨v_pegs, .ok u1, rfl, hu1, rfl⟩) (bx_bindX (fun e he => (bx_errDrop (err_callX (ea_cons (ex_var (i := 0) rfl) (ea_cons (ex_var (i := 1) rfl) ea_nil)) ⟨(v_pegs, v_number), .error e, rfl, he, rfl⟩) rfl (.un (.un (.un (.un .nil)))))) (fun u2 hu2 => (bx_drop (ex_callX (ea_cons (ex_var (i := 0) rfl) (ea_cons (ex_var (i := 1) rfl) ea_nil)) ⟨(v_pegs, v_number), .ok u2, rfl, hu2, rfl⟩) (bx_bind fun u3 hu3 => (bx_asgW (exw_listT (ex_call (ea_cons (ex_var (i := 0) rfl) ea_nil) ⟨v_pegs, u3, rfl, hu3, rfl⟩)) (bx_then (envS := (fun (s_1 : (List Int)) => [.sh (PyData.int v_pegs), .sh (PyData.int v_number), .ow (s_1.map PyData.int), .un])) (bx_forS (envS := (fun (s_1 : (List Int)) => [.sh (PyData.int v_pegs), .sh (PyData.int v_number), .ow (s_1.map PyData.int), .un])) (e := PyData.int) (envB := (fun (s_1 : (List Int)) (x4 : Int) => [.sh (PyData.int v_pegs), .sh (PyData.int v_number), .ow (s_1.map PyData.int), .sh (PyData.int x4)])) (f := x_hook_hooks_for1) (eis_tup (ex_tup (ea_cons (ex_var (i := 1) rfl) (ea_cons (ex_add (ex_var (i := 0) rfl) (ex_var (i := 1) rfl)) ea_nil)) (Nat.le_of_ble_eq_true rfl))) (.same (.same (.same (.un .nil)))) (fun s_1 x4 _ => EGc.eg (vs := [3]) (egc_name (i := 3) (by decide))) (fun s_1 x4 _ => (bx_bind fun u5 hu5 => (bx_asg (d := PyData.int (x4 + (1 : Int))) (ex_add (ex_var (i := 3) rfl) ex_int) (eg_setI (e := PyData.int) rfl (ex_var (i := 3) rfl) hu5) (bx_bind fun u6 hu6 => (bx_asg (d := PyData.int x4) (ex_var (i := 3) rfl) (eg_setI (e := PyData.int) rfl (ex_add (ex_var (i := 3) rfl) ex_int) hu6) (bx_nx (.same (.same (.same (.un .nil)))) rfl))))))) (fun s7 _ => (bx_retS (ex_tupL (exl_var (i := 2) rfl)) rfl))))))))))))
abbrev encR_p_made (y : ((List Int) × Int)) : Out := .rt (.sh ((eP (eT PyData.int) PyData.int) y))
abbrev st_p_made : Stmt := top 44
abbrev NN_p_made : List Str := ["pegs", "row", "found", "rings", "number", "more"]
theorem sc_p_made : FnScope NN_p_made ["pegs", "row"] (defScope st_p_made) := ⟨rfl, rfl, rfl, by decide +kernel, rfl, by decide +kernel, by decide +kernel⟩
abbrev I_p_made : List PyData → Rv → Prop := Im (fun (a : (Int × (List Int))) => [PyData.int a.1, (eL PyData.int) a.2]) (fun (y : ((List Int) × Int)) => Rv.sh ((eP (eT PyData.int) PyData.int) y)) (fun a => p_made a.1 a.2)
theorem fn_p_made {P : Program} {w : World} {K : PySem.W.Frag} {mg : Str → Option Value} {base : Heap} {f : Addr} {fd : FuncData} (F : FunD K "made" "made" (defArgs st_p_made) (defBody st_p_made) (defScope st_p_made) [] [] f fd) (hg : mg "made" = some (.ref f)) (T : Tx K mg) (G_ask_row : Fn P w K mg base "ask_row" 2 I_p_ask_row) (G_plain : Fn P w K mg base "plain" 2 I_p_plain) (G_hook_hooks : Fn P w K mg base "hook_hooks" 3 I_p_hook_hooks) (G_put_together : Fn P w K mg base "put_together" 2 I_p_put_together) : Fn P w K mg base "made" 4 I_p_made := by
  refine ⟨f, fd, ["pegs", "row"], fn_ok (N := NN_p_made) (en := encR_p_made) F sc_p_made (fun _ => rfl) (fun _ => .inl rfl) (fun cdv A' outer s H E hr => ⟨_, (pss_cons (ps_expr (pe_fn G_ask_row (hr.mono (by decide)) (by rfl) (pa_cons (pv 0) (pa_cons (pv 1) pa_nil)))) (pss_cons (ps_set (i := 2) sc_p_made.nd rfl (by first | exact Or.inl rfl | exact Or.inr rfl) (pe_fn G_plain (hr.mono (by decide)) (by rfl) (pa_cons (pv 0) pa_nil))) (pss_cons (ps_set (i := 3) sc_p_made.nd rfl (by first | exact Or.inl rfl | exact Or.inr rfl) pe_int) (pss_cons (ps_for PassesOwn.never rfl (pi_listK (K := K) (pv 1)) (pg_name (i := 4) sc_p_made.nd rfl (by first | exact Or.inl rfl | exact Or.inr rfl)) (pss_cons (ps_asg (pe_fn G_put_together (hr.mono (by decide)) (by rfl) (pa_cons (pv 2) (pa_cons (pe_fn G_hook_hooks (hr.mono (by decide)) (by rfl) (pa_cons (pv 0) (pa_cons (pv 4) pa_nil))) pa_nil))) (pg_tupK (K := K) (n := 2) (by rfl) (pgs_cons (pg_name (i := 2) sc_p_made.nd rfl (by first | exact Or.inl rfl | exact Or.inr rfl)) (pgs_cons (pg_name (i := 5) sc_p_made.nd rfl (by first | exact Or.inl rfl | exact Or.inr rfl)) pgs_nil)))) (pss_cons (ps_set (i := 3) sc_p_made.nd rfl (by first | exact Or.inl rfl | exact Or.inr rfl) (pe_op op_add (pv 3) (pv 5))) pss_nil))) (pss_cons (ps_ret (pe_tup (pa_cons (pv 2) (pa_cons (pv 3) pa_nil)))) pss_never))))), fun a => ?_⟩), hg, F.kp, F.bindsN fun _ _ _ _ _ _ us hl => match us, hl with | [_, _], _ => rfl⟩
  obtain ⟨v_pegs, v_row⟩ := a
  exact (show BX K _ [.sh (PyData.int v_pegs), .sh ((eL PyData.int) v_row), .un, .un, .un, .un] encR_p_made (p_made v_pegs v_row) from
   (bx_bind fun u1 hu1 => (bx_drop (ex_call (ea_cons (ex_var (i := 0) rfl) (ea_cons (ex_var (i := 1) rfl) ea_nil)) ⟨(v_pegs, v_row), u1, rfl, hu1, rfl⟩) (bx_bind fun u2 hu2 => (bx_asg (d := (eT PyData.int) u2) (ex_call (ea_cons (ex_var (i := 0) rfl) ea_nil) ⟨v_pegs, u2, rfl, hu2, rfl⟩) (EGc.eg (egc_name (i := 2) (vs := [2]) (by decide))) (bx_asg (d := PyData.int (0 : Int)) ex_int (EGc.eg (egc_name (i := 3) (vs := [3]) (by decide))) (bx_then (envS := (fun (s_1 : (List Int) × Int) => [.sh (PyData.int v_pegs), .sh ((eL PyData.int) v_row), .sh ((eT PyData.int) s_1.1), .sh (PyData.int s_1.2), .un, .un])) (bx_forS (envS := (fun (s_1 : (List Int) × Int) => [.sh (PyData.int v_pegs), .sh ((eL PyData.int) v_row), .sh ((eT PyData.int) s_1.1), .sh (PyData.int s_1.2), .un, .un])) (e := PyData.int) (envB := (fun (s_1 : (List Int) × Int) (x3 : Int) => [.sh (PyData.int v_pegs), .sh ((eL PyData.int) v_row), .sh ((eT PyData.int) s_1.1), .sh (PyData.int s_1.2), .sh (PyData.int x3), .un])) (f := (p_made_for1 v_pegs)) (eis_list (ex_var (i := 1) rfl)) (.same (.same (.same (.same (.un (.un .nil)))))) (fun s_1 x3 _ => EGc.eg (vs := [4]) (egc_name (i := 4) (by decide))) (fun s_1 x3 _ => (bx_bind fun u4 hu4 => (bx_bind fun u5 hu5 => (bx_asg (d := (eP (eT PyData.int) PyData.int) u5) (ex_call (ea_cons (ex_var (i := 2) rfl) (ea_cons (ex_call (ea_cons (ex_var (i := 0) rfl) (ea_cons (ex_var (i := 4) rfl) ea_nil)) ⟨(v_pegs, x3), u4, rfl, hu4, rfl⟩) ea_nil)) ⟨(s_1.1, u4), u5, rfl, hu5, rfl⟩) (EGc.eg (vs := [2, 5]) (egc_tup (egs_cons (egc_name (i := 2) (by decide)) (egs_cons (egc_name (i := 5) (by decide)) egs_nil)) rfl)) (bx_asgB (e := PyData.int) (i := 3) (ex_add (ex_var (i := 3) rfl) (ex_var (i := 5) rfl)) (fun v_rings_6 => (bx_nx (.same (.same (.same (.same (.un (.un .nil)))))) rfl)))))))) (fun s7 _ => (bx_retS (ex_tup (ea_cons (ex_var (i := 2) rfl) (ea_cons (ex_var (i := 3) rfl) ea_nil)) (Nat.le_of_ble_eq_true rfl)) rfl)))))))))
abbrev encE_x_made (E : XK) (x : Exn) : Out := .ex [.un, .un, .un, .un, .un, .un] x fun c d _ H => E c d H
abbrev encX_x_made (E : XK) (z : Except Exn ((List Int) × Int)) : Out := match z with
  | .ok y => .rt (.sh ((eP (eT PyData.int) PyData.int) y))
  | .error x => .ex [.un, .un, .un, .un, .un, .un] x fun c d _ H => E c d H
abbrev st_x_made : Stmt := top 44
abbrev NN_x_made : List Str := ["pegs", "row", "found", "rings", "number", "more"]
theorem sc_x_made : FnScope NN_x_made ["pegs", "row"] (defScope st_x_made) := ⟨rfl, rfl, rfl, by decide +kernel, rfl, by decide +kernel, by decide +kernel⟩
abbrev I_x_made : List PyData → Rv ⊕ Exn → Prop := ImX (fun (a : (Int × (List Int))) => [PyData.int a.1, (eL PyData.int) a.2]) (fun (y : ((List Int) × Int)) => Rv.sh ((eP (eT PyData.int) PyData.int) y)) (fun a => x_made a.1 a.2)
theorem fn_x_made {P : Program} {w : World} {K : PySem.W.Frag} {mg : Str → Option Value} {base : Heap} {f : Addr} {fd : FuncData} (F : FunD K "made" "made" (defArgs st_x_made) (defBody st_x_made) (defScope st_x_made) [] [] f fd) (hg : mg "made" = some (.ref f)) (T : Tx K mg) (G_x_ask_row : FnX P w K mg base "ask_row" 2 I_x_ask_row) (G_plain : Fn P w K mg base "plain" 2 I_p_plain) (G_hook_hooks : Fn P w K mg base "hook_hooks" 3 I_p_hook_hooks) (G_put_together : Fn P w K mg base "put_together" 2 I_p_put_together) : FnX P w K mg base "made" 4 I_x_made := by
  refine ⟨f, fd, ["pegs", "row"], fn_okX (N := NN_x_made) (en := encX_x_made) F sc_x_made (fun _ => rfl) (fun _ _ => .inl rfl) (fun _ _ => ⟨_, rfl⟩) (fun cdv A' outer s H E hr => ⟨_, (pss_cons (ps_expr (pe_fnX (K := K) G_x_ask_row (L2N.takes_of rfl rfl rfl rfl) (hr.mono (by decide)) (by rfl) (pa_cons (pv 0) (pa_cons (pv 1) pa_nil)))) (pss_cons (ps_set (i := 2) sc_x_made.nd rfl (by first | exact Or.inl rfl | exact Or.inr rfl) (pe_fn G_plain (hr.mono (by decide)) (by rfl) (pa_cons (pv 0) pa_nil))) (pss_cons (ps_set (i := 3) sc_x_made.nd rfl (by first | exact Or.inl rfl | exact Or.inr rfl) pe_int) (pss_cons (ps_for (passes_of (by rfl)) rfl (pi_listK (K := K) (pv 1)) (pg_name (i := 4) sc_x_made.nd rfl (by first | exact Or.inl rfl | exact Or.inr rfl)) (pss_cons (ps_asg (pe_fn G_put_together (hr.mono (by decide)) (by rfl) (pa_cons (pv 2) (pa_cons (pe_fn G_hook_hooks (hr.mono (by decide)) (by rfl) (pa_cons (pv 0) (pa_cons (pv 4) pa_nil))) pa_nil))) (pg_tupK (K := K) (n := 2) (by rfl) (pgs_cons (pg_name (i := 2) sc_x_made.nd rfl (by first | exact Or.inl rfl | exact Or.inr rfl)) (pgs_cons (pg_name (i := 5) sc_x_made.nd rfl (by first | exact Or.inl rfl | exact Or.inr rfl)) pgs_nil)))) (pss_cons (ps_set (i := 3) sc_x_made.nd rfl (by first | exact Or.inl rfl | exact Or.inr rfl) (pe_op op_add (pv 3) (pv 5))) pss_nil))) (pss_cons (ps_ret (pe_tup (pa_cons (pv 2) (pa_cons (pv 3) pa_nil)))) pss_never))))), fun a => ?_⟩), hg, F.kp, F.bindsN fun _ _ _ _ _ _ us hl => match us, hl with | [_, _], _ => rfl⟩
  obtain ⟨v_pegs, v_row⟩ := a
  exact (show BX K _ [.sh (PyData.int v_pegs), .sh ((eL PyData.int) v_row), .un, .un, .un, .un] (encX_x_made E) (x_made v_pegs v_row) from
   (bx_bindX (fun e he => (bx_errDrop (err_callX (ea_cons (ex_var (i := 0) rfl) (ea_cons (ex_var (i := 1) rfl) ea_nil)) ⟨(v_pegs, v_row), .error e, rfl, he, rfl⟩) rfl (.un (.un (.un (.un (.un (.un .nil)))))))) (fun u1 hu1 => (bx_drop (ex_callX (ea_cons (ex_var (i := 0) rfl) (ea_cons (ex_var (i := 1) rfl) ea_nil)) ⟨(v_pegs, v_row), .ok u1, rfl, hu1, rfl⟩) (bx_bind fun u2 hu2 => (bx_asg (d := (eT PyData.int) u2) (ex_call (ea_cons (ex_var (i := 0) rfl) ea_nil) ⟨v_pegs, u2, rfl, hu2, rfl⟩) (EGc.eg (egc_name (i := 2) (vs := [2]) (by decide))) (bx_asg (d := PyData.int (0 : Int)) ex_int (EGc.eg (egc_name (i := 3) (vs := [3]) (by decide))) (bx_bindR (envS := (fun (s_1 : (List Int) × Int) => [.sh (PyData.int v_pegs), .sh ((eL PyData.int) v_row), .sh ((eT PyData.int) s_1.1), .sh (PyData.int s_1.2), .un, .un])) (encR := (encX_x_made E)) (bx_forR (encR := (encX_x_made E)) (envS := (fun (s_1 : (List Int) × Int) => [.sh (PyData.int v_pegs), .sh ((eL PyData.int) v_row), .sh ((eT PyData.int) s_1.1), .sh (PyData.int s_1.2), .un, .un])) (e := PyData.int) (envB := (fun (s_1 : (List Int) × Int) (x3 : Int) => [.sh (PyData.int v_pegs), .sh ((eL PyData.int) v_row), .sh ((eT PyData.int) s_1.1), .sh (PyData.int s_1.2), .sh (PyData.int x3), .un])) (f := (x_made_for1 v_pegs)) (eis_list (ex_var (i := 1) rfl)) (.same (.same (.same (.same (.un (.un .nil)))))) (fun r => by cases r <;> trivial) (fun s_1 x3 _ => EGc.eg (vs := [4]) (egc_name (i := 4) (by decide))) (fun s_1 x3 _ => (bx_bind fun u4 hu4 => (bx_bind fun u5 hu5 => (bx_asg (d := (eP (eT PyData.int) PyData.int) u5) (ex_call (ea_cons (ex_var (i := 2) rfl) (ea_cons (ex_call (ea_cons (ex_var (i := 0) rfl) (ea_cons (ex_var (i := 4) rfl) ea_nil)) ⟨(v_pegs, x3), u4, rfl, hu4, rfl⟩) ea_nil)) ⟨(s_1.1, u4), u5, rfl, hu5, rfl⟩) (EGc.eg (vs := [2, 5]) (egc_tup (egs_cons (egc_name (i := 2) (by decide)) (egs_cons (egc_name (i := 5) (by decide)) egs_nil)) rfl)) (bx_asgB (e := PyData.int) (i := 3) (ex_add (ex_var (i := 3) rfl) (ex_var (i := 5) rfl)) (fun v_rings_6 => (bx_nx (.same (.same (.same (.same (.un (.un .nil)))))) rfl)))))))) (fun _ => rfl) (fun r e h => by cases r <;> cases h) (fun s7 _ => (bx_retS (ex_tup (ea_cons (ex_var (i := 2) rfl) (ea_cons (ex_var (i := 3) rfl) ea_nil)) (Nat.le_of_ble_eq_true rfl)) rfl))))))))))
abbrev encR_p_ways_on (y : (List Int)) : Out := .rt (.fr (y.map PyData.int))
abbrev st_p_ways_on : Stmt := top 86
abbrev NN_p_ways_on : List Str := ["left", "ways", "turn", "more", "deep"]
theorem sc_p_ways_on : FnScope NN_p_ways_on ["left"] (defScope st_p_ways_on) := ⟨rfl, rfl, rfl, by decide +kernel, rfl, by decide +kernel, by decide +kernel⟩
abbrev I_p_ways_on : List PyData → Rv → Prop := Im (fun (a : (Int)) => [PyData.int a]) (fun (y : (List Int)) => Rv.fr (y.map PyData.int)) (fun a => p_ways_on a)
theorem fn_p_ways_on {P : Program} {w : World} {K : PySem.W.Frag} {mg : Str → Option Value} {base : Heap} {f : Addr} {fd : FuncData} (F : FunD K "ways_on" "ways_on" (defArgs st_p_ways_on) (defBody st_p_ways_on) (defScope st_p_ways_on) [] [] f fd) (hg : mg "ways_on" = some (.ref f)) (T : Tx K mg)  : Fn P w K mg base "ways_on" 1 I_p_ways_on := by
  refine ⟨f, fd, ["left"], fn_ok (N := NN_p_ways_on) (en := encR_p_ways_on) F sc_p_ways_on (fun _ => rfl) (fun _ => .inl rfl) (fun cdv A' outer s H E hr => ⟨_, (pss_cons (ps_set (i := 1) sc_p_ways_on.nd rfl (by first | exact Or.inl rfl | exact Or.inr rfl) (pe_lst (pa_cons pe_int pa_nil))) (pss_cons (ps_for PassesOwn.never rfl (pi_range1 (by rfl) T.range (pa_cons (pv 0) pa_nil)) (pg_name (i := 2) sc_p_ways_on.nd rfl (by first | exact Or.inl rfl | exact Or.inr rfl)) (pss_cons (ps_set (i := 3) sc_p_ways_on.nd rfl (by first | exact Or.inl rfl | exact Or.inr rfl) (pe_op op_cat (pv 1) (pe_lst (pa_cons pe_int (pa_cons pe_int pa_nil))))) (pss_cons (ps_setLc (i := 1) (own := [("deep", 4)]) (tt := tYes) rfl sc_p_ways_on.nd rfl rfl (sw_true rfl rfl rfl (by decide +kernel)) (pi_range1 (by rfl) T.range (pa_cons (pe_op op_add (pe_callB (call_lenK (K := K)) (by rfl) T.len (by decide +kernel) (pa_cons (pv 1) pa_nil)) pe_int) pa_nil)) (blkOk_by (N := NN_p_ways_on) (sc := defScope st_p_ways_on) (by decide +kernel)) (fun _ _ _ _ _ => (pg_name (i := 4) sc_p_ways_on.nd rfl (by first | exact Or.inl rfl | exact Or.inr rfl))) (fun _ _ _ _ _ => pts_nil) (fun _ _ _ _ _ => (pe_op op_add (pe_ix (ix_listK (K := K)) (pv 3) (pe_op op_add (pv 4) pe_int) (fun _ _ => rfl)) (pe_ifExp (pt_cmpR op_gt (pv 4) pe_int (nomark _)) (pe_ix (ix_listK (K := K)) (pv 3) (pe_op op_sub (pv 4) pe_int) (fun _ _ => rfl)) pe_int)))) pss_nil))) (pss_cons (ps_ret (pe_op op_cat (pv 1) (pe_lst (pa_cons pe_int (pa_cons pe_int pa_nil))))) pss_never))), fun v_left => ?_⟩), hg, F.kp, F.bindsN fun _ _ _ _ _ _ us hl => match us, hl with | [_], _ => rfl⟩
  exact (show BX K _ [.sh (PyData.int v_left), .un, .un, .un, .un] encR_p_ways_on (p_ways_on v_left) from
   (bx_asgB (e := (eL PyData.int)) (i := 1) (EXw.sh (exw_lst (ds := ([(1 : Int)] : (List Int)).map PyData.int) (ea_cons ex_int ea_nil) (Nat.le_of_ble_eq_true rfl))) (fun v_ways_1 => (bx_bind fun g2 hg2 => (bx_then (envS := (fun (s_1 : (List Int)) => [.sh (PyData.int v_left), .sh ((eL PyData.int) s_1), .un, .un, .un])) (bx_forS (envS := (fun (s_1 : (List Int)) => [.sh (PyData.int v_left), .sh ((eL PyData.int) s_1), .un, .un, .un])) (e := PyData.int) (envB := (fun (s_1 : (List Int)) (x3 : Int) => [.sh (PyData.int v_left), .sh ((eL PyData.int) s_1), .sh (PyData.int x3), .un, .un])) (f := p_ways_on_for1) (eis_rng1 (ex_var (i := 0) rfl) (grd_ok hg2)) (.same (.same (.un (.un (.un .nil))))) (fun s_1 x3 _ => EGc.eg (vs := [2]) (egc_name (i := 2) (by decide))) (fun s_1 x3 _ => (bx_bind fun g4 hg4 => (bx_asgB (e := (eL PyData.int)) (i := 3) (EXw.sh (exw_catT (EX.l (ex_var (i := 1) rfl)) (EXw.l (exw_lst (ds := ([(0 : Int), (0 : Int)] : (List Int)).map PyData.int) (ea_cons ex_int (ea_cons ex_int ea_nil)) (Nat.le_of_ble_eq_true rfl))) (grd_ok hg4))) (fun v_more_5 => (bx_bind fun g6 hg6 => (bx_bind fun u11 hu11 => (bx_asg (d := (eL PyData.int) u11) (EXw.sh (exw_lc (e := PyData.int) (e' := PyData.int) (envB := (fun x7 => [.sh (PyData.int v_left), .sh ((eL PyData.int) s_1), .sh (PyData.int x3), .sh ((eL PyData.int) v_more_5), .sh (PyData.int x7)])) (EIs.i (eis_rng1 (ex_add (ex_lenL (EX.l (ex_var (i := 1) rfl))) ex_int) (grd_ok hg6))) hu11 (fun x7 _ => (egc_name (i := 4) (by decide))) (fun x7 _ => (eto_some et_yes)) (fun x7 _ => (exo_bind fun u8 hu8 => (exo_bind fun c10 hc10 => (exo_some (e := PyData.int) (ex_add (ex_ixL (EX.l (ex_var (i := 3) rfl)) (ex_add (ex_var (i := 4) rfl) ex_int) (atI_map hu8)) (exo_if (e := PyData.int) (et_of (ex_gt (ex_var (i := 4) rfl) ex_int)) (fun _ => (exo_bind fun u9 hu9 => (exo_some (e := PyData.int) (ex_ixL (EX.l (ex_var (i := 3) rfl)) (ex_sub (ex_var (i := 4) rfl) ex_int) (atI_map hu9))))) (fun _ => (exo_some (e := PyData.int) ex_int)) c10 hc10)))))))) (EGc.eg (egc_name (i := 1) (vs := [1]) (by decide))) (bx_nx (.same (.same (.un (.un (.un .nil))))) rfl))))))))) (fun s12 _ => (bx_bind fun g13 hg13 => (bx_retSW (exw_catT (EX.l (ex_var (i := 1) rfl)) (EXw.l (exw_lst (ds := ([(0 : Int), (0 : Int)] : (List Int)).map PyData.int) (ea_cons ex_int (ea_cons ex_int ea_nil)) (Nat.le_of_ble_eq_true rfl))) (grd_ok hg13)) rfl))))))))
abbrev encR_p_how_many (y : Int) : Out := .rt (.sh (PyData.int y))
abbrev st_p_how_many : Stmt := top 87
abbrev NN_p_how_many : List Str := ["pegs"]
theorem sc_p_how_many : FnScope NN_p_how_many ["pegs"] (defScope st_p_how_many) := ⟨rfl, rfl, rfl, by decide +kernel, rfl, by decide +kernel, by decide +kernel⟩
abbrev I_p_how_many : List PyData → Rv → Prop := Im (fun (a : (Int)) => [PyData.int a]) (fun (y : Int) => Rv.sh (PyData.int y)) (fun a => p_how_many a)
theorem fn_p_how_many {P : Program} {w : World} {K : PySem.W.Frag} {mg : Str → Option Value} {base : Heap} {f : Addr} {fd : FuncData} (F : FunD K "how_many" "how_many" (defArgs st_p_how_many) (defBody st_p_how_many) (defScope st_p_how_many) [] [] f fd) (hg : mg "how_many" = some (.ref f)) (T : Tx K mg) (G_ask_pegs : Fn P w K mg base "ask_pegs" 1 I_p_ask_pegs) (G_ways_on : Fn P w K mg base "ways_on" 1 I_p_ways_on) : Fn P w K mg base "how_many" 2 I_p_how_many := by
  refine ⟨f, fd, ["pegs"], fn_ok (N := NN_p_how_many) (en := encR_p_how_many) F sc_p_how_many (fun _ => rfl) (fun _ => .inl rfl) (fun cdv A' outer s H E hr => ⟨_, (pss_cons (ps_expr (pe_fn G_ask_pegs (hr.mono (by decide)) (by rfl) (pa_cons (pv 0) pa_nil))) (pss_cons (ps_ret (pe_ix (ix_listK (K := K)) (pe_fn G_ways_on (hr.mono (by decide)) (by rfl) (pa_cons (pe_op op_mul pe_int (pv 0)) pa_nil)) pe_int (fun _ _ => rfl))) pss_never)), fun v_pegs => ?_⟩), hg, F.kp, F.bindsN fun _ _ _ _ _ _ us hl => match us, hl with | [_], _ => rfl⟩
  exact (show BX K _ [.sh (PyData.int v_pegs)] encR_p_how_many (p_how_many v_pegs) from
   (bx_bind fun u1 hu1 => (bx_drop (ex_call (ea_cons (ex_var (i := 0) rfl) ea_nil) ⟨v_pegs, u1, rfl, hu1, rfl⟩) (bx_bind fun u2 hu2 => (bx_bind fun u3 hu3 => (bx_retS (ex_ixL (EXw.l (exw_call (ea_cons (ex_mul ex_int (ex_var (i := 0) rfl) (.inl ⟨by decide, by decide⟩)) ea_nil) ⟨((2 : Int) * v_pegs), u2, rfl, hu2, rfl⟩)) ex_int (atI_map hu3)) rfl))))))
abbrev encE_x_how_many (E : XK) (x : Exn) : Out := .ex [.un] x fun c d _ H => E c d H
abbrev encX_x_how_many (E : XK) (z : Except Exn Int) : Out := match z with
  | .ok y => .rt (.sh (PyData.int y))
  | .error x => .ex [.un] x fun c d _ H => E c d H
abbrev st_x_how_many : Stmt := top 87
abbrev NN_x_how_many : List Str := ["pegs"]
theorem sc_x_how_many : FnScope NN_x_how_many ["pegs"] (defScope st_x_how_many) := ⟨rfl, rfl, rfl, by decide +kernel, rfl, by decide +kernel, by decide +kernel⟩
abbrev I_x_how_many : List PyData → Rv ⊕ Exn → Prop := ImX (fun (a : (Int)) => [PyData.int a]) (fun (y : Int) => Rv.sh (PyData.int y)) (fun a => x_how_many a)
theorem fn_x_how_many {P : Program} {w : World} {K : PySem.W.Frag} {mg : Str → Option Value} {base : Heap} {f : Addr} {fd : FuncData} (F : FunD K "how_many" "how_many" (defArgs st_x_how_many) (defBody st_x_how_many) (defScope st_x_how_many) [] [] f fd) (hg : mg "how_many" = some (.ref f)) (T : Tx K mg) (G_x_ask_pegs : FnX P w K mg base "ask_pegs" 1 I_x_ask_pegs) (G_ways_on : Fn P w K mg base "ways_on" 1 I_p_ways_on) : FnX P w K mg base "how_many" 2 I_x_how_many := by
  refine ⟨f, fd, ["pegs"], fn_okX (N := NN_x_how_many) (en := encX_x_how_many) F sc_x_how_many (fun _ => rfl) (fun _ _ => .inl rfl) (fun _ _ => ⟨_, rfl⟩) (fun cdv A' outer s H E hr => ⟨_, (pss_cons (ps_expr (pe_fnX (K := K) G_x_ask_pegs (L2N.takes_of rfl rfl rfl rfl) (hr.mono (by decide)) (by rfl) (pa_cons (pv 0) pa_nil))) (pss_cons (ps_ret (pe_ix (ix_listK (K := K)) (pe_fn G_ways_on (hr.mono (by decide)) (by rfl) (pa_cons (pe_op op_mul pe_int (pv 0)) pa_nil)) pe_int (fun _ _ => rfl))) pss_never)), fun v_pegs => ?_⟩), hg, F.kp, F.bindsN fun _ _ _ _ _ _ us hl => match us, hl with | [_], _ => rfl⟩
  exact (show BX K _ [.sh (PyData.int v_pegs)] (encX_x_how_many E) (x_how_many v_pegs) from
   (bx_bindX (fun e he => (bx_errDrop (err_callX (ea_cons (ex_var (i := 0) rfl) ea_nil) ⟨v_pegs, .error e, rfl, he, rfl⟩) rfl (.un .nil))) (fun u1 hu1 => (bx_drop (ex_callX (ea_cons (ex_var (i := 0) rfl) ea_nil) ⟨v_pegs, .ok u1, rfl, hu1, rfl⟩) (bx_bind fun u2 hu2 => (bx_bind fun u3 hu3 => (bx_retS (ex_ixL (EXw.l (exw_call (ea_cons (ex_mul ex_int (ex_var (i := 0) rfl) (.inl ⟨by decide, by decide⟩)) ea_nil) ⟨((2 : Int) * v_pegs), u2, rfl, hu2, rfl⟩)) ex_int (atI_map hu3)) rfl)))))))
abbrev encR_p_numbered (y : (List Int)) : Out := .rt (.sh ((eT PyData.int) y))
abbrev st_p_numbered : Stmt := top 88
abbrev NN_p_numbered : List Str := ["pegs", "number", "text", "deep", "place", "here", "opening"]
theorem sc_p_numbered : FnScope NN_p_numbered ["pegs", "number"] (defScope st_p_numbered) := ⟨rfl, rfl, rfl, by decide +kernel, rfl, by decide +kernel, by decide +kernel⟩
abbrev I_p_numbered : List PyData → Rv → Prop := Im (fun (a : (Int × Int)) => [PyData.int a.1, PyData.int a.2]) (fun (y : (List Int)) => Rv.sh ((eT PyData.int) y)) (fun a => p_numbered a.1 a.2)
theorem fn_p_numbered {P : Program} {w : World} {K : PySem.W.Frag} {mg : Str → Option Value} {base : Heap} {f : Addr} {fd : FuncData} (F : FunD K "numbered" "numbered" (defArgs st_p_numbered) (defBody st_p_numbered) (defScope st_p_numbered) [] [] f fd) (hg : mg "numbered" = some (.ref f)) (T : Tx K mg) (G_ask_pegs : Fn P w K mg base "ask_pegs" 1 I_p_ask_pegs) (G_how_many : Fn P w K mg base "how_many" 2 I_p_how_many) (G_ways_on : Fn P w K mg base "ways_on" 1 I_p_ways_on) (G_from_brackets : Fn P w K mg base "from_brackets" 3 I_p_from_brackets) : Fn P w K mg base "numbered" 4 I_p_numbered := by
  refine ⟨f, fd, ["pegs", "number"], fn_ok (N := NN_p_numbered) (en := encR_p_numbered) F sc_p_numbered (fun _ => rfl) (fun _ => .inl rfl) (fun cdv A' outer s H E hr => ⟨_, (pss_cons (ps_expr (pe_fn G_ask_pegs (hr.mono (by decide)) (by rfl) (pa_cons (pv 0) pa_nil))) (pss_cons (ps_if (pt_not (pt_chain op_le op_lt pe_int (pv 1) (pe_fn G_how_many (hr.mono (by decide)) (by rfl) (pa_cons (pv 0) pa_nil)))) pss_never pss_nil) (pss_cons (ps_set (i := 2) sc_p_numbered.nd rfl (by first | exact Or.inl rfl | exact Or.inr rfl) pe_str) (pss_cons (ps_set (i := 3) sc_p_numbered.nd rfl (by first | exact Or.inl rfl | exact Or.inr rfl) pe_int) (pss_cons (ps_for PassesOwn.never rfl (pi_range1 (by rfl) T.range (pa_cons (pe_op op_mul pe_int (pv 0)) pa_nil)) (pg_name (i := 4) sc_p_numbered.nd rfl (by first | exact Or.inl rfl | exact Or.inr rfl)) (pss_cons (ps_set (i := 5) sc_p_numbered.nd rfl (by first | exact Or.inl rfl | exact Or.inr rfl) (pe_fn G_ways_on (hr.mono (by decide)) (by rfl) (pa_cons (pe_op op_sub (pe_op op_sub (pe_op op_mul pe_int (pv 0)) (pv 4)) pe_int) pa_nil))) (pss_cons (ps_set (i := 6) sc_p_numbered.nd rfl (by first | exact Or.inl rfl | exact Or.inr rfl) pe_int) (pss_cons (ps_if (pt_cmpR op_lt (pe_op op_add (pv 3) pe_int) (pe_callB (call_lenK (K := K)) (by rfl) T.len (by decide +kernel) (pa_cons (pv 5) pa_nil)) (nomark _)) (pss_cons (ps_set (i := 6) sc_p_numbered.nd rfl (by first | exact Or.inl rfl | exact Or.inr rfl) (pe_ix (ix_listK (K := K)) (pv 5) (pe_op op_add (pv 3) pe_int) (fun _ _ => rfl))) pss_nil) pss_nil) (pss_cons (ps_if (pt_cmpR op_lt (pv 1) (pv 6) (nomark _)) (pss_cons (ps_set (i := 2) sc_p_numbered.nd rfl (by first | exact Or.inl rfl | exact Or.inr rfl) (pe_op op_add_str (pv 2) pe_str)) (pss_cons (ps_set (i := 3) sc_p_numbered.nd rfl (by first | exact Or.inl rfl | exact Or.inr rfl) (pe_op op_add (pv 3) pe_int)) pss_nil)) (pss_cons (ps_set (i := 1) sc_p_numbered.nd rfl (by first | exact Or.inl rfl | exact Or.inr rfl) (pe_op op_sub (pv 1) (pv 6))) (pss_cons (ps_set (i := 2) sc_p_numbered.nd rfl (by first | exact Or.inl rfl | exact Or.inr rfl) (pe_op op_add_str (pv 2) pe_str)) (pss_cons (ps_set (i := 3) sc_p_numbered.nd rfl (by first | exact Or.inl rfl | exact Or.inr rfl) (pe_op op_sub (pv 3) pe_int)) pss_nil)))) pss_nil))))) (pss_cons (ps_ret (pe_fn G_from_brackets (hr.mono (by decide)) (by rfl) (pa_cons (pv 2) pa_nil))) pss_never)))))), fun a => ?_⟩), hg, F.kp, F.bindsN fun _ _ _ _ _ _ us hl => match us, hl with | [_, _], _ => rfl⟩
  obtain ⟨v_pegs, v_number⟩ := a
  exact (show BX K _ [.sh (PyData.int v_pegs), .sh (PyData.int v_number), .un, .un, .un, .un, .un] encR_p_numbered (p_numbered v_pegs v_number) from
   (bx_bind fun u1 hu1 => (bx_drop (ex_call (ea_cons (ex_var (i := 0) rfl) ea_nil) ⟨v_pegs, u1, rfl, hu1, rfl⟩) (bx_bind fun c3 hc3 => (bx_ifNo (et_not (et_of (exo_chain (p := fun i j => decide (i ≤ j)) (p' := fun i j => decide (i < j)) (fun _ _ => rfl) (fun _ _ => rfl) ex_int (ex_var (i := 1) rfl) (exo_bind fun u2 hu2 => (exo_some (e := PyData.int) (ex_call (ea_cons (ex_var (i := 0) rfl) ea_nil) ⟨v_pegs, u2, rfl, hu2, rfl⟩))) c3 hc3))) (fun _ => (bx_asg (d := PyData.str (Str.ofString "")) (ex_str (Nat.le_of_ble_eq_true rfl)) (EGc.eg (egc_name (i := 2) (vs := [2]) (by decide))) (bx_asg (d := PyData.int (0 : Int)) ex_int (EGc.eg (egc_name (i := 3) (vs := [3]) (by decide))) (bx_bind fun g4 hg4 => (bx_then (envS := (fun (s_1 : Int × Str × Int) => [.sh (PyData.int v_pegs), .sh (PyData.int s_1.1), .sh (PyData.str s_1.2.1), .sh (PyData.int s_1.2.2), .un, .un, .un])) (bx_forS (envS := (fun (s_1 : Int × Str × Int) => [.sh (PyData.int v_pegs), .sh (PyData.int s_1.1), .sh (PyData.str s_1.2.1), .sh (PyData.int s_1.2.2), .un, .un, .un])) (e := PyData.int) (envB := (fun (s_1 : Int × Str × Int) (x5 : Int) => [.sh (PyData.int v_pegs), .sh (PyData.int s_1.1), .sh (PyData.str s_1.2.1), .sh (PyData.int s_1.2.2), .sh (PyData.int x5), .un, .un])) (f := (p_numbered_for1 v_pegs)) (eis_rng1 (ex_mul ex_int (ex_var (i := 0) rfl) (.inl ⟨by decide, by decide⟩)) (grd_ok hg4)) (.same (.same (.same (.same (.un (.un (.un .nil))))))) (fun s_1 x5 _ => EGc.eg (vs := [4]) (egc_name (i := 4) (by decide))) (fun s_1 x5 _ => (bx_bind fun u6 hu6 => (bx_asg (d := (eL PyData.int) u6) (EXw.sh (exw_call (ea_cons (ex_sub (ex_sub (ex_mul ex_int (ex_var (i := 0) rfl) (.inl ⟨by decide, by decide⟩)) (ex_var (i := 4) rfl)) ex_int) ea_nil) ⟨((((2 : Int) * v_pegs) - x5) - (1 : Int)), u6, rfl, hu6, rfl⟩)) (EGc.eg (egc_name (i := 5) (vs := [5]) (by decide))) (bx_asg (d := PyData.int (0 : Int)) ex_int (EGc.eg (egc_name (i := 6) (vs := [6]) (by decide))) (bx_then (envS := fun (s7 : Int) => [.sh (PyData.int v_pegs), .sh (PyData.int s_1.1), .sh (PyData.str s_1.2.1), .sh (PyData.int s_1.2.2), .sh (PyData.int x5), .sh ((eL PyData.int) u6), .sh (PyData.int s7)]) (bx_if (et_of (ex_lt (ex_add (ex_var (i := 3) rfl) ex_int) (ex_lenL (EX.l (ex_var (i := 5) rfl))))) (fun _ => (bx_bind fun u8 hu8 => (bx_asg (d := PyData.int u8) (ex_ixL (EX.l (ex_var (i := 5) rfl)) (ex_add (ex_var (i := 3) rfl) ex_int) (atI_map hu8)) (EGc.eg (egc_name (i := 6) (vs := [6]) (by decide))) (bx_nx (.same (.same (.same (.same (.same (.same (.same .nil))))))) rfl)))) (fun _ => (bx_nx (.same (.same (.same (.same (.same (.same (.same .nil))))))) rfl))) (fun s7 _ => (bx_last (bx_if (et_of (ex_lt (ex_var (i := 1) rfl) (ex_var (i := 6) rfl))) (fun _ => (bx_bind fun g9 hg9 => (bx_asgB (e := PyData.str) (i := 2) (ex_addST (ex_var (i := 2) rfl) (ex_str (Nat.le_of_ble_eq_true rfl)) (grd_ok hg9)) (fun v_text_10 => (bx_asgB (e := PyData.int) (i := 3) (ex_add (ex_var (i := 3) rfl) ex_int) (fun v_deep_11 => (bx_nx (.same (.same (.same (.same (.un (.un (.un .nil))))))) rfl))))))) (fun _ => (bx_asgB (e := PyData.int) (i := 1) (ex_sub (ex_var (i := 1) rfl) (ex_var (i := 6) rfl)) (fun v_number_12 => (bx_bind fun g13 hg13 => (bx_asgB (e := PyData.str) (i := 2) (ex_addST (ex_var (i := 2) rfl) (ex_str (Nat.le_of_ble_eq_true rfl)) (grd_ok hg13)) (fun v_text_14 => (bx_asgB (e := PyData.int) (i := 3) (ex_sub (ex_var (i := 3) rfl) ex_int) (fun v_deep_15 => (bx_nx (.same (.same (.same (.same (.un (.un (.un .nil))))))) rfl)))))))))))))))))) (fun s16 _ => (bx_bind fun u17 hu17 => (bx_retS (ex_call (ea_cons (ex_var (i := 2) rfl) ea_nil) ⟨s16.2.1, u17, rfl, hu17, rfl⟩) rfl)))))))))))))
abbrev encE_x_numbered (E : XK) (x : Exn) : Out := .ex [.un, .un, .un, .un, .un, .un, .un] x fun c d _ H => E c d H
abbrev encX_x_numbered (E : XK) (z : Except Exn (List Int)) : Out := match z with
  | .ok y => .rt (.sh ((eT PyData.int) y))
  | .error x => .ex [.un, .un, .un, .un, .un, .un, .un] x fun c d _ H => E c d H
abbrev st_x_numbered : Stmt := top 88
abbrev NN_x_numbered : List Str := ["pegs", "number", "text", "deep", "place", "here", "opening"]
theorem sc_x_numbered : FnScope NN_x_numbered ["pegs", "number"] (defScope st_x_numbered) := ⟨rfl, rfl, rfl, by decide +kernel, rfl, by decide +kernel, by decide +kernel⟩
abbrev I_x_numbered : List PyData → Rv ⊕ Exn → Prop := ImX (fun (a : (Int × Int)) => [PyData.int a.1, PyData.int a.2]) (fun (y : (List Int)) => Rv.sh ((eT PyData.int) y)) (fun a => x_numbered a.1 a.2)
theorem fn_x_numbered {P : Program} {w : World} {K : PySem.W.Frag} {mg : Str → Option Value} {base : Heap} {f : Addr} {fd : FuncData} (F : FunD K "numbered" "numbered" (defArgs st_x_numbered) (defBody st_x_numbered) (defScope st_x_numbered) [] [] f fd) (hg : mg "numbered" = some (.ref f)) (T : Tx K mg) (G_x_ask_pegs : FnX P w K mg base "ask_pegs" 1 I_x_ask_pegs) (G_how_many : Fn P w K mg base "how_many" 2 I_p_how_many) (G_ways_on : Fn P w K mg base "ways_on" 1 I_p_ways_on) (G_from_brackets : Fn P w K mg base "from_brackets" 3 I_p_from_brackets) : FnX P w K mg base "numbered" 4 I_x_numbered := by
  refine ⟨f, fd, ["pegs", "number"], fn_okX (N := NN_x_numbered) (en := encX_x_numbered) F sc_x_numbered (fun _ => rfl) (fun _ _ => .inl rfl) (fun _ _ => ⟨_, rfl⟩) (fun cdv A' outer s H E hr => ⟨_, (pss_cons (ps_expr (pe_fnX (K := K) G_x_ask_pegs (L2N.takes_of rfl rfl rfl rfl) (hr.mono (by decide)) (by rfl) (pa_cons (pv 0) pa_nil))) (pss_cons (ps_if (pt_not (pt_chain op_le op_lt pe_int (pv 1) (pe_fn G_how_many (hr.mono (by decide)) (by rfl) (pa_cons (pv 0) pa_nil)))) (pss_cons (ps_raiseX (K := K) rfl T.exc_NoNumber (L2N.takes_of rfl rfl rfl rfl) (by rfl)) pss_never) pss_nil) (pss_cons (ps_set (i := 2) sc_x_numbered.nd rfl (by first | exact Or.inl rfl | exact Or.inr rfl) pe_str) (pss_cons (ps_set (i := 3) sc_x_numbered.nd rfl (by first | exact Or.inl rfl | exact Or.inr rfl) pe_int) (pss_cons (ps_for (passes_of (by rfl)) rfl (pi_range1 (by rfl) T.range (pa_cons (pe_op op_mul pe_int (pv 0)) pa_nil)) (pg_name (i := 4) sc_x_numbered.nd rfl (by first | exact Or.inl rfl | exact Or.inr rfl)) (pss_cons (ps_set (i := 5) sc_x_numbered.nd rfl (by first | exact Or.inl rfl | exact Or.inr rfl) (pe_fn G_ways_on (hr.mono (by decide)) (by rfl) (pa_cons (pe_op op_sub (pe_op op_sub (pe_op op_mul pe_int (pv 0)) (pv 4)) pe_int) pa_nil))) (pss_cons (ps_set (i := 6) sc_x_numbered.nd rfl (by first | exact Or.inl rfl | exact Or.inr rfl) pe_int) (pss_cons (ps_if (pt_cmpR op_lt (pe_op op_add (pv 3) pe_int) (pe_callB (call_lenK (K := K)) (by rfl) T.len (by decide +kernel) (pa_cons (pv 5) pa_nil)) (nomark _)) (pss_cons (ps_set (i := 6) sc_x_numbered.nd rfl (by first | exact Or.inl rfl | exact Or.inr rfl) (pe_ix (ix_listK (K := K)) (pv 5) (pe_op op_add (pv 3) pe_int) (fun _ _ => rfl))) pss_nil) pss_nil) (pss_cons (ps_if (pt_cmpR op_lt (pv 1) (pv 6) (nomark _)) (pss_cons (ps_set (i := 2) sc_x_numbered.nd rfl (by first | exact Or.inl rfl | exact Or.inr rfl) (pe_op op_add_str (pv 2) pe_str)) (pss_cons (ps_set (i := 3) sc_x_numbered.nd rfl (by first | exact Or.inl rfl | exact Or.inr rfl) (pe_op op_add (pv 3) pe_int)) pss_nil)) (pss_cons (ps_set (i := 1) sc_x_numbered.nd rfl (by first | exact Or.inl rfl | exact Or.inr rfl) (pe_op op_sub (pv 1) (pv 6))) (pss_cons (ps_set (i := 2) sc_x_numbered.nd rfl (by first | exact Or.inl rfl | exact Or.inr rfl) (pe_op op_add_str (pv 2) pe_str)) (pss_cons (ps_set (i := 3) sc_x_numbered.nd rfl (by first | exact Or.inl rfl | exact Or.inr rfl) (pe_op op_sub (pv 3) pe_int)) pss_nil)))) pss_nil))))) (pss_cons (ps_ret (pe_fn G_from_brackets (hr.mono (by decide)) (by rfl) (pa_cons (pv 2) pa_nil))) pss_never)))))), fun a => ?_⟩), hg, F.kp, F.bindsN fun _ _ _ _ _ _ us hl => match us, hl with | [_, _], _ => rfl⟩
  obtain ⟨v_pegs, v_number⟩ := a
  exact (show BX K _ [.sh (PyData.int v_pegs), .sh (PyData.int v_number), .un, .un, .un, .un, .un] (encX_x_numbered E) (x_numbered v_pegs v_number) from
   (bx_bindX (fun e he => (bx_errDrop (err_callX (ea_cons (ex_var (i := 0) rfl) ea_nil) ⟨v_pegs, .error e, rfl, he, rfl⟩) rfl (.un (.un (.un (.un (.un (.un (.un .nil))))))))) (fun u1 hu1 => (bx_drop (ex_callX (ea_cons (ex_var (i := 0) rfl) ea_nil) ⟨v_pegs, .ok u1, rfl, hu1, rfl⟩) (bx_bind fun c3 hc3 => (bx_ifRet (et_not (et_of (exo_chain (p := fun i j => decide (i ≤ j)) (p' := fun i j => decide (i < j)) (fun _ _ => rfl) (fun _ _ => rfl) ex_int (ex_var (i := 1) rfl) (exo_bind fun u2 hu2 => (exo_some (e := PyData.int) (ex_call (ea_cons (ex_var (i := 0) rfl) ea_nil) ⟨v_pegs, u2, rfl, hu2, rfl⟩))) c3 hc3))) (fun _ => (bx_raiseS (W := (fun c d _ H => E c d H)) rfl (.un (.un (.un (.un (.un (.un (.un .nil))))))))) (fun o e _ h => by cases o <;> cases h) (fun _ => (bx_asg (d := PyData.str (Str.ofString "")) (ex_str (Nat.le_of_ble_eq_true rfl)) (EGc.eg (egc_name (i := 2) (vs := [2]) (by decide))) (bx_asg (d := PyData.int (0 : Int)) ex_int (EGc.eg (egc_name (i := 3) (vs := [3]) (by decide))) (bx_bind fun g4 hg4 => (bx_then (envS := (fun (s_1 : Int × Str × Int) => [.sh (PyData.int v_pegs), .sh (PyData.int s_1.1), .sh (PyData.str s_1.2.1), .sh (PyData.int s_1.2.2), .un, .un, .un])) (bx_forS (envS := (fun (s_1 : Int × Str × Int) => [.sh (PyData.int v_pegs), .sh (PyData.int s_1.1), .sh (PyData.str s_1.2.1), .sh (PyData.int s_1.2.2), .un, .un, .un])) (e := PyData.int) (envB := (fun (s_1 : Int × Str × Int) (x5 : Int) => [.sh (PyData.int v_pegs), .sh (PyData.int s_1.1), .sh (PyData.str s_1.2.1), .sh (PyData.int s_1.2.2), .sh (PyData.int x5), .un, .un])) (f := (x_numbered_for1 v_pegs)) (eis_rng1 (ex_mul ex_int (ex_var (i := 0) rfl) (.inl ⟨by decide, by decide⟩)) (grd_ok hg4)) (.same (.same (.same (.same (.un (.un (.un .nil))))))) (fun s_1 x5 _ => EGc.eg (vs := [4]) (egc_name (i := 4) (by decide))) (fun s_1 x5 _ => (bx_bind fun u6 hu6 => (bx_asg (d := (eL PyData.int) u6) (EXw.sh (exw_call (ea_cons (ex_sub (ex_sub (ex_mul ex_int (ex_var (i := 0) rfl) (.inl ⟨by decide, by decide⟩)) (ex_var (i := 4) rfl)) ex_int) ea_nil) ⟨((((2 : Int) * v_pegs) - x5) - (1 : Int)), u6, rfl, hu6, rfl⟩)) (EGc.eg (egc_name (i := 5) (vs := [5]) (by decide))) (bx_asg (d := PyData.int (0 : Int)) ex_int (EGc.eg (egc_name (i := 6) (vs := [6]) (by decide))) (bx_then (envS := fun (s7 : Int) => [.sh (PyData.int v_pegs), .sh (PyData.int s_1.1), .sh (PyData.str s_1.2.1), .sh (PyData.int s_1.2.2), .sh (PyData.int x5), .sh ((eL PyData.int) u6), .sh (PyData.int s7)]) (bx_if (et_of (ex_lt (ex_add (ex_var (i := 3) rfl) ex_int) (ex_lenL (EX.l (ex_var (i := 5) rfl))))) (fun _ => (bx_bind fun u8 hu8 => (bx_asg (d := PyData.int u8) (ex_ixL (EX.l (ex_var (i := 5) rfl)) (ex_add (ex_var (i := 3) rfl) ex_int) (atI_map hu8)) (EGc.eg (egc_name (i := 6) (vs := [6]) (by decide))) (bx_nx (.same (.same (.same (.same (.same (.same (.same .nil))))))) rfl)))) (fun _ => (bx_nx (.same (.same (.same (.same (.same (.same (.same .nil))))))) rfl))) (fun s7 _ => (bx_last (bx_if (et_of (ex_lt (ex_var (i := 1) rfl) (ex_var (i := 6) rfl))) (fun _ => (bx_bind fun g9 hg9 => (bx_asgB (e := PyData.str) (i := 2) (ex_addST (ex_var (i := 2) rfl) (ex_str (Nat.le_of_ble_eq_true rfl)) (grd_ok hg9)) (fun v_text_10 => (bx_asgB (e := PyData.int) (i := 3) (ex_add (ex_var (i := 3) rfl) ex_int) (fun v_deep_11 => (bx_nx (.same (.same (.same (.same (.un (.un (.un .nil))))))) rfl))))))) (fun _ => (bx_asgB (e := PyData.int) (i := 1) (ex_sub (ex_var (i := 1) rfl) (ex_var (i := 6) rfl)) (fun v_number_12 => (bx_bind fun g13 hg13 => (bx_asgB (e := PyData.str) (i := 2) (ex_addST (ex_var (i := 2) rfl) (ex_str (Nat.le_of_ble_eq_true rfl)) (grd_ok hg13)) (fun v_text_14 => (bx_asgB (e := PyData.int) (i := 3) (ex_sub (ex_var (i := 3) rfl) ex_int) (fun v_deep_15 => (bx_nx (.same (.same (.same (.same (.un (.un (.un .nil))))))) rfl)))))))))))))))))) (fun s16 _ => (bx_bind fun u17 hu17 => (bx_retS (ex_call (ea_cons (ex_var (i := 2) rfl) ea_nil) ⟨s16.2.1, u17, rfl, hu17, rfl⟩) rfl))))))))))))))
abbrev encR_p_every (y : (List (List Int))) : Out := .rt (.fr (y.map (eT PyData.int)))
abbrev st_p_every : Stmt := top 89
abbrev NN_p_every : List Str := ["pegs", "number"]
theorem sc_p_every : FnScope NN_p_every ["pegs"] (defScope st_p_every) := ⟨rfl, rfl, rfl, by decide +kernel, rfl, by decide +kernel, by decide +kernel⟩
abbrev I_p_every : List PyData → Rv → Prop := Im (fun (a : (Int)) => [PyData.int a]) (fun (y : (List (List Int))) => Rv.fr (y.map (eT PyData.int))) (fun a => p_every a)
theorem fn_p_every {P : Program} {w : World} {K : PySem.W.Frag} {mg : Str → Option Value} {base : Heap} {f : Addr} {fd : FuncData} (F : FunD K "every" "every" (defArgs st_p_every) (defBody st_p_every) (defScope st_p_every) [] [] f fd) (hg : mg "every" = some (.ref f)) (T : Tx K mg) (G_ask_pegs : Fn P w K mg base "ask_pegs" 1 I_p_ask_pegs) (G_how_many : Fn P w K mg base "how_many" 2 I_p_how_many) (G_numbered : Fn P w K mg base "numbered" 4 I_p_numbered) : Fn P w K mg base "every" 5 I_p_every := by
  refine ⟨f, fd, ["pegs"], fn_ok (N := NN_p_every) (en := encR_p_every) F sc_p_every (fun _ => rfl) (fun _ => .inl rfl) (fun cdv A' outer s H E hr => ⟨_, (pss_cons (ps_expr (pe_fn G_ask_pegs (hr.mono (by decide)) (by rfl) (pa_cons (pv 0) pa_nil))) (pss_cons (ps_if (pt_cmpR op_gt (pv 0) (pe_const (by rfl) T.MOST_LISTED) (nomark _)) pss_never pss_nil) (pss_cons (ps_ret (pe_lc (own := [("number", 1)]) (tt := tYes) rfl sc_p_every.nd (pi_range1 (by rfl) T.range (pa_cons (pe_fn G_how_many (hr.mono (by decide)) (by rfl) (pa_cons (pv 0) pa_nil)) pa_nil)) (blkOk_by (N := NN_p_every) (sc := defScope st_p_every) (by decide +kernel)) (fun _ _ _ _ _ => (pg_name (i := 1) sc_p_every.nd rfl (by first | exact Or.inl rfl | exact Or.inr rfl))) (fun _ _ _ _ _ => pts_nil) (fun _ _ _ _ _ => (pe_fn G_numbered (hr.mono (by decide)) (by rfl) (pa_cons (pv 0) (pa_cons (pv 1) pa_nil)))))) pss_never))), fun v_pegs => ?_⟩), hg, F.kp, F.bindsN fun _ _ _ _ _ _ us hl => match us, hl with | [_], _ => rfl⟩
  exact (show BX K _ [.sh (PyData.int v_pegs), .un] encR_p_every (p_every v_pegs) from
   (bx_bind fun u1 hu1 => (bx_drop (ex_call (ea_cons (ex_var (i := 0) rfl) ea_nil) ⟨v_pegs, u1, rfl, hu1, rfl⟩) (bx_ifNo (et_of (ex_gt (ex_var (i := 0) rfl) ex_int)) (fun _ => (bx_bind fun u2 hu2 => (bx_bind fun g3 hg3 => (bx_bind fun u6 hu6 => (bx_retSW (exw_lc (e := PyData.int) (e' := (eT PyData.int)) (envB := (fun x4 => [.sh (PyData.int v_pegs), .sh (PyData.int x4)])) (EIs.i (eis_rng1 (ex_call (ea_cons (ex_var (i := 0) rfl) ea_nil) ⟨v_pegs, u2, rfl, hu2, rfl⟩) (grd_ok hg3))) hu6 (fun x4 _ => (egc_name (i := 1) (by decide))) (fun x4 _ => (eto_some et_yes)) (fun x4 _ => (exo_bind fun u5 hu5 => (exo_some (e := (eT PyData.int)) (ex_call (ea_cons (ex_var (i := 0) rfl) (ea_cons (ex_var (i := 1) rfl) ea_nil)) ⟨(v_pegs, x4), u5, rfl, hu5, rfl⟩))))) rfl)))))))))
abbrev encE_x_every (E : XK) (x : Exn) : Out := .ex [.un, .un] x fun c d _ H => E c d H
abbrev encX_x_every (E : XK) (z : Except Exn (List (List Int))) : Out := match z with
  | .ok y => .rt (.fr (y.map (eT PyData.int)))
  | .error x => .ex [.un, .un] x fun c d _ H => E c d H
abbrev st_x_every : Stmt := top 89
abbrev NN_x_every : List Str := ["pegs", "number"]
theorem sc_x_every : FnScope NN_x_every ["pegs"] (defScope st_x_every) := ⟨rfl, rfl, rfl, by decide +kernel, rfl, by decide +kernel, by decide +kernel⟩
abbrev I_x_every : List PyData → Rv ⊕ Exn → Prop := ImX (fun (a : (Int)) => [PyData.int a]) (fun (y : (List (List Int))) => Rv.fr (y.map (eT PyData.int))) (fun a => x_every a)
theorem fn_x_every {P : Program} {w : World} {K : PySem.W.Frag} {mg : Str → Option Value} {base : Heap} {f : Addr} {fd : FuncData} (F : FunD K "every" "every" (defArgs st_x_every) (defBody st_x_every) (defScope st_x_every) [] [] f fd) (hg : mg "every" = some (.ref f)) (T : Tx K mg) (G_x_ask_pegs : FnX P w K mg base "ask_pegs" 1 I_x_ask_pegs) (G_how_many : Fn P w K mg base "how_many" 2 I_p_how_many) (G_numbered : Fn P w K mg base "numbered" 4 I_p_numbered) : FnX P w K mg base "every" 5 I_x_every := by
  refine ⟨f, fd, ["pegs"], fn_okX (N := NN_x_every) (en := encX_x_every) F sc_x_every (fun _ => rfl) (fun _ _ => .inl rfl) (fun _ _ => ⟨_, rfl⟩) (fun cdv A' outer s H E hr => ⟨_, (pss_cons (ps_expr (pe_fnX (K := K) G_x_ask_pegs (L2N.takes_of rfl rfl rfl rfl) (hr.mono (by decide)) (by rfl) (pa_cons (pv 0) pa_nil))) (pss_cons (ps_if (pt_cmpR op_gt (pv 0) (pe_const (by rfl) T.MOST_LISTED) (nomark _)) (pss_cons (ps_raiseX (K := K) rfl T.exc_BadPegs (L2N.takes_of rfl rfl rfl rfl) (by rfl)) pss_never) pss_nil) (pss_cons (ps_ret (pe_lc (own := [("number", 1)]) (tt := tYes) rfl sc_x_every.nd (pi_range1 (by rfl) T.range (pa_cons (pe_fn G_how_many (hr.mono (by decide)) (by rfl) (pa_cons (pv 0) pa_nil)) pa_nil)) (blkOk_by (N := NN_x_every) (sc := defScope st_x_every) (by decide +kernel)) (fun _ _ _ _ _ => (pg_name (i := 1) sc_x_every.nd rfl (by first | exact Or.inl rfl | exact Or.inr rfl))) (fun _ _ _ _ _ => pts_nil) (fun _ _ _ _ _ => (pe_fn G_numbered (hr.mono (by decide)) (by rfl) (pa_cons (pv 0) (pa_cons (pv 1) pa_nil)))))) pss_never))), fun v_pegs => ?_⟩), hg, F.kp, F.bindsN fun _ _ _ _ _ _ us hl => match us, hl with | [_], _ => rfl⟩
  exact (show BX K _ [.sh (PyData.int v_pegs), .un] (encX_x_every E) (x_every v_pegs) from
   (bx_bindX (fun e he => (bx_errDrop (err_callX (ea_cons (ex_var (i := 0) rfl) ea_nil) ⟨v_pegs, .error e, rfl, he, rfl⟩) rfl (.un (.un .nil)))) (fun u1 hu1 => (bx_drop (ex_callX (ea_cons (ex_var (i := 0) rfl) ea_nil) ⟨v_pegs, .ok u1, rfl, hu1, rfl⟩) (bx_ifRet (et_of (ex_gt (ex_var (i := 0) rfl) ex_int)) (fun _ => (bx_raiseS (W := (fun c d _ H => E c d H)) rfl (.un (.un .nil)))) (fun o e _ h => by cases o <;> cases h) (fun _ => (bx_bind fun u2 hu2 => (bx_bind fun g3 hg3 => (bx_bind fun u6 hu6 => (bx_retSW (exw_lc (e := PyData.int) (e' := (eT PyData.int)) (envB := (fun x4 => [.sh (PyData.int v_pegs), .sh (PyData.int x4)])) (EIs.i (eis_rng1 (ex_call (ea_cons (ex_var (i := 0) rfl) ea_nil) ⟨v_pegs, u2, rfl, hu2, rfl⟩) (grd_ok hg3))) hu6 (fun x4 _ => (egc_name (i := 1) (by decide))) (fun x4 _ => (eto_some et_yes)) (fun x4 _ => (exo_bind fun u5 hu5 => (exo_some (e := (eT PyData.int)) (ex_call (ea_cons (ex_var (i := 0) rfl) (ea_cons (ex_var (i := 1) rfl) ea_nil)) ⟨(v_pegs, x4), u5, rfl, hu5, rfl⟩))))) rfl))))))))))
abbrev encR_p_texts (y : (List Str)) : Out := .rt (.fr (y.map PyData.str))
abbrev st_p_texts : Stmt := top 90
abbrev NN_p_texts : List Str := ["pegs", "through", "found", "turn", "more", "text", "deep", "gone"]
theorem sc_p_texts : FnScope NN_p_texts ["pegs", "through"] (defScope st_p_texts) := ⟨rfl, rfl, rfl, by decide +kernel, rfl, by decide +kernel, by decide +kernel⟩
abbrev I_p_texts : List PyData → Rv → Prop := Im (fun (a : (Int × Int)) => [PyData.int a.1, PyData.int a.2]) (fun (y : (List Str)) => Rv.fr (y.map PyData.str)) (fun a => p_texts a.1 a.2)
theorem fn_p_texts {P : Program} {w : World} {K : PySem.W.Frag} {mg : Str → Option Value} {base : Heap} {f : Addr} {fd : FuncData} (F : FunD K "texts" "texts" (defArgs st_p_texts) (defBody st_p_texts) (defScope st_p_texts) [] [] f fd) (hg : mg "texts" = some (.ref f)) (T : Tx K mg)  : Fn P w K mg base "texts" 1 I_p_texts := by
  refine ⟨f, fd, ["pegs", "through"], fn_ok (N := NN_p_texts) (en := encR_p_texts) F sc_p_texts (fun _ => rfl) (fun _ => .inl rfl) (fun cdv A' outer s H E hr => ⟨_, (pss_cons (ps_set (i := 2) sc_p_texts.nd rfl (by first | exact Or.inl rfl | exact Or.inr rfl) (pe_lst (pa_cons (pe_tup (pa_cons pe_str (pa_cons pe_int (pa_cons pe_int pa_nil)))) pa_nil))) (pss_cons (ps_for PassesOwn.never rfl (pi_range1 (by rfl) T.range (pa_cons (pv 0) pa_nil)) (pg_name (i := 3) sc_p_texts.nd rfl (by first | exact Or.inl rfl | exact Or.inr rfl)) (pss_cons (ps_set (i := 4) sc_p_texts.nd rfl (by first | exact Or.inl rfl | exact Or.inr rfl) (pe_lst pa_nil)) (pss_cons (ps_for PassesOwn.never rfl (pi_listK (K := K) (pv 2)) (pg_tupK (K := K) (n := 3) (by rfl) (pgs_cons (pg_name (i := 5) sc_p_texts.nd rfl (by first | exact Or.inl rfl | exact Or.inr rfl)) (pgs_cons (pg_name (i := 6) sc_p_texts.nd rfl (by first | exact Or.inl rfl | exact Or.inr rfl)) (pgs_cons (pg_name (i := 7) sc_p_texts.nd rfl (by first | exact Or.inl rfl | exact Or.inr rfl)) pgs_nil)))) (pss_cons (ps_expr (pe_bm PySem.F.plainAttrs_list PySem.F.slot_list_append PySem.F.type_list_append mt_append (pv 4) (pa_cons (pe_tup (pa_cons (pe_op op_add_str (pv 5) pe_str) (pa_cons (pe_op op_add (pv 6) pe_int) (pa_cons (pv 7) pa_nil)))) pa_nil))) (pss_cons (ps_if (pt_cmpR op_gt (pv 6) pe_int (nomark _)) (pss_cons (ps_expr (pe_bm PySem.F.plainAttrs_list PySem.F.slot_list_append PySem.F.type_list_append mt_append (pv 4) (pa_cons (pe_tup (pa_cons (pe_op op_add_str (pv 5) pe_str) (pa_cons (pe_op op_sub (pv 6) pe_int) (pa_cons (pv 7) pa_nil)))) pa_nil))) pss_nil) (pss_cons (ps_if (pt_cmpR op_lt (pv 7) (pv 1) (nomark _)) (pss_cons (ps_expr (pe_bm PySem.F.plainAttrs_list PySem.F.slot_list_append PySem.F.type_list_append mt_append (pv 4) (pa_cons (pe_tup (pa_cons (pe_op op_add_str (pv 5) pe_str) (pa_cons (pv 6) (pa_cons (pe_op op_add (pv 7) pe_int) pa_nil)))) pa_nil))) pss_nil) pss_nil) pss_nil)) pss_nil))) (pss_cons (ps_set (i := 2) sc_p_texts.nd rfl (by first | exact Or.inl rfl | exact Or.inr rfl) (pv 4)) pss_nil)))) (pss_cons (ps_ret (pe_lc (own := [("text", 5), ("deep", 6), ("gone", 7)]) rfl sc_p_texts.nd (pi_listK (K := K) (pv 2)) (blkOk_by (N := NN_p_texts) (sc := defScope st_p_texts) (by decide +kernel)) (fun _ _ _ _ _ => (pg_tupK (K := K) (n := 3) (by rfl) (pgs_cons (pg_name (i := 5) sc_p_texts.nd rfl (by first | exact Or.inl rfl | exact Or.inr rfl)) (pgs_cons (pg_name (i := 6) sc_p_texts.nd rfl (by first | exact Or.inl rfl | exact Or.inr rfl)) (pgs_cons (pg_name (i := 7) sc_p_texts.nd rfl (by first | exact Or.inl rfl | exact Or.inr rfl)) pgs_nil))))) (fun _ _ _ _ _ => (pts_one (PW.pt (pw_and (pt_cmpR op_eq (pv 6) pe_int (nomark _)) (pw_and1 (pt_cmpR op_eq (pv 7) (pv 1) (nomark _))))))) (fun _ _ _ _ _ => (pv 5)))) pss_never))), fun a => ?_⟩), hg, F.kp, F.bindsN fun _ _ _ _ _ _ us hl => match us, hl with | [_, _], _ => rfl⟩
  obtain ⟨v_pegs, v_through⟩ := a
  exact (show BX K _ [.sh (PyData.int v_pegs), .sh (PyData.int v_through), .un, .un, .un, .un, .un, .un] encR_p_texts (p_texts v_pegs v_through) from
   (bx_asgB (e := (eL (eP3 PyData.str PyData.int PyData.int))) (i := 2) (EXw.sh (exw_lst (ds := ([((Str.ofString ""), (0 : Int), (0 : Int))] : (List (Str × Int × Int))).map (eP3 PyData.str PyData.int PyData.int)) (ea_cons (ex_tup (ea_cons (ex_str (Nat.le_of_ble_eq_true rfl)) (ea_cons ex_int (ea_cons ex_int ea_nil))) (Nat.le_of_ble_eq_true rfl)) ea_nil) (Nat.le_of_ble_eq_true rfl))) (fun v_found_1 => (bx_bind fun g2 hg2 => (bx_then (envS := (fun (s_1 : (List (Str × Int × Int))) => [.sh (PyData.int v_pegs), .sh (PyData.int v_through), .sh ((eL (eP3 PyData.str PyData.int PyData.int)) s_1), .un, .un, .un, .un, .un])) (bx_forS (envS := (fun (s_1 : (List (Str × Int × Int))) => [.sh (PyData.int v_pegs), .sh (PyData.int v_through), .sh ((eL (eP3 PyData.str PyData.int PyData.int)) s_1), .un, .un, .un, .un, .un])) (e := PyData.int) (envB := (fun (s_1 : (List (Str × Int × Int))) (x3 : Int) => [.sh (PyData.int v_pegs), .sh (PyData.int v_through), .sh ((eL (eP3 PyData.str PyData.int PyData.int)) s_1), .sh (PyData.int x3), .un, .un, .un, .un])) (f := (p_texts_for1 v_through)) (eis_rng1 (ex_var (i := 0) rfl) (grd_ok hg2)) (.same (.same (.same (.un (.un (.un (.un (.un .nil)))))))) (fun s_1 x3 _ => EGc.eg (vs := [3]) (egc_name (i := 3) (by decide))) (fun s_1 x3 _ => (bx_asgW (exw_lst (ds := (([] : (List (Str × Int × Int))) : (List (Str × Int × Int))).map (eP3 PyData.str PyData.int PyData.int)) ea_nil (Nat.le_of_ble_eq_true rfl)) (bx_then (envS := (fun (s_2 : (List (Str × Int × Int))) => [.sh (PyData.int v_pegs), .sh (PyData.int v_through), .sh ((eL (eP3 PyData.str PyData.int PyData.int)) s_1), .sh (PyData.int x3), .ow (s_2.map (eP3 PyData.str PyData.int PyData.int)), .un, .un, .un])) (bx_forS (envS := (fun (s_2 : (List (Str × Int × Int))) => [.sh (PyData.int v_pegs), .sh (PyData.int v_through), .sh ((eL (eP3 PyData.str PyData.int PyData.int)) s_1), .sh (PyData.int x3), .ow (s_2.map (eP3 PyData.str PyData.int PyData.int)), .un, .un, .un])) (e := (eP3 PyData.str PyData.int PyData.int)) (envB := (fun (s_2 : (List (Str × Int × Int))) (x4 : (Str × Int × Int)) => [.sh (PyData.int v_pegs), .sh (PyData.int v_through), .sh ((eL (eP3 PyData.str PyData.int PyData.int)) s_1), .sh (PyData.int x3), .ow (s_2.map (eP3 PyData.str PyData.int PyData.int)), .sh (PyData.str x4.1), .sh (PyData.int x4.2.1), .sh (PyData.int x4.2.2)])) (f := (p_texts_for2 v_through)) (eis_list (ex_var (i := 2) rfl)) (.same (.same (.same (.same (.same (.un (.un (.un .nil)))))))) (fun s_2 x4 _ => EGc.eg (vs := [5, 6, 7]) (egc_tup (egs_cons (egc_name (i := 5) (by decide)) (egs_cons (egc_name (i := 6) (by decide)) (egs_cons (egc_name (i := 7) (by decide)) egs_nil))) rfl)) (fun s_2 x4 _ => (bx_bind fun g5 hg5 => (bx_bind fun u6 hu6 => (bx_app (e := (eP3 PyData.str PyData.int PyData.int)) (x := ((x4.1 ++ (Str.ofString "(")), (x4.2.1 + (1 : Int)), x4.2.2)) rfl (ex_tup (ea_cons (ex_addST (ex_var (i := 5) rfl) (ex_str (Nat.le_of_ble_eq_true rfl)) (grd_ok hg5)) (ea_cons (ex_add (ex_var (i := 6) rfl) ex_int) (ea_cons (ex_var (i := 7) rfl) ea_nil))) (Nat.le_of_ble_eq_true rfl)) hu6 (bx_last (bx_if (et_of (ex_gt (ex_var (i := 6) rfl) ex_int)) (fun _ => (bx_bind fun g7 hg7 => (bx_bind fun u8 hu8 => (bx_app (e := (eP3 PyData.str PyData.int PyData.int)) (x := ((x4.1 ++ (Str.ofString ")")), (x4.2.1 - (1 : Int)), x4.2.2)) rfl (ex_tup (ea_cons (ex_addST (ex_var (i := 5) rfl) (ex_str (Nat.le_of_ble_eq_true rfl)) (grd_ok hg7)) (ea_cons (ex_sub (ex_var (i := 6) rfl) ex_int) (ea_cons (ex_var (i := 7) rfl) ea_nil))) (Nat.le_of_ble_eq_true rfl)) hu8 (bx_nx (.same (.same (.same (.same (.same (.un (.un (.un .nil)))))))) rfl))))) (fun _ => (bx_last (bx_if (et_of (ex_lt (ex_var (i := 7) rfl) (ex_var (i := 1) rfl))) (fun _ => (bx_bind fun g9 hg9 => (bx_bind fun u10 hu10 => (bx_app (e := (eP3 PyData.str PyData.int PyData.int)) (x := ((x4.1 ++ (Str.ofString "|")), x4.2.1, (x4.2.2 + (1 : Int)))) rfl (ex_tup (ea_cons (ex_addST (ex_var (i := 5) rfl) (ex_str (Nat.le_of_ble_eq_true rfl)) (grd_ok hg9)) (ea_cons (ex_var (i := 6) rfl) (ea_cons (ex_add (ex_var (i := 7) rfl) ex_int) ea_nil))) (Nat.le_of_ble_eq_true rfl)) hu10 (bx_nx (.same (.same (.same (.same (.same (.un (.un (.un .nil)))))))) rfl))))) (fun _ => (bx_nx (.same (.same (.same (.same (.same (.un (.un (.un .nil)))))))) rfl)))))))))))) (fun s11 _ => (bx_freeze 4 rfl (bx_asg (d := (eL (eP3 PyData.str PyData.int PyData.int)) s11) (ex_var (i := 4) rfl) (EGc.eg (egc_name (i := 2) (vs := [2]) (by decide))) (bx_nx (.same (.same (.same (.un (.un (.un (.un (.un .nil)))))))) rfl)))))))) (fun s12 _ => (bx_retSW (exw_lcp (e := (eP3 PyData.str PyData.int PyData.int)) (e' := PyData.str) (envB := (fun x13 => [.sh (PyData.int v_pegs), .sh (PyData.int v_through), .sh ((eL (eP3 PyData.str PyData.int PyData.int)) s12), .un, .un, .sh (PyData.str x13.1), .sh (PyData.int x13.2.1), .sh (PyData.int x13.2.2)])) (ei_list (EX.l (ex_var (i := 2) rfl))) (fun x13 _ => (egc_tup (egs_cons (egc_name (i := 5) (by decide)) (egs_cons (egc_name (i := 6) (by decide)) (egs_cons (egc_name (i := 7) (by decide)) egs_nil))) rfl)) (fun x13 _ => (et_and (et_of (ex_eqI (ex_var (i := 6) rfl) ex_int)) (et_of (ex_eqI (ex_var (i := 7) rfl) (ex_var (i := 1) rfl))))) (fun x13 _ => (ex_var (i := 5) rfl))) rfl)))))))
abbrev encR_p_half_in (y : (List Int)) : Out := .rt (.sh ((eT PyData.int) y))
abbrev st_p_half_in : Stmt := top 91
abbrev NN_p_half_in : List Str := ["text", "found", "open_ones", "peg", "sign", "other"]
theorem sc_p_half_in : FnScope NN_p_half_in ["text"] (defScope st_p_half_in) := ⟨rfl, rfl, rfl, by decide +kernel, rfl, by decide +kernel, by decide +kernel⟩
abbrev I_p_half_in : List PyData → Rv → Prop := Im (fun (a : (Str)) => [PyData.str a]) (fun (y : (List Int)) => Rv.sh ((eT PyData.int) y)) (fun a => p_half_in a)
theorem fn_p_half_in {P : Program} {w : World} {K : PySem.W.Frag} {mg : Str → Option Value} {base : Heap} {f : Addr} {fd : FuncData} (F : FunD K "half_in" "half_in" (defArgs st_p_half_in) (defBody st_p_half_in) (defScope st_p_half_in) [] [] f fd) (hg : mg "half_in" = some (.ref f)) (T : Tx K mg)  : Fn P w K mg base "half_in" 1 I_p_half_in := by
  refine ⟨f, fd, ["text"], fn_ok (N := NN_p_half_in) (en := encR_p_half_in) F sc_p_half_in (fun _ => rfl) (fun _ => .inl rfl) (fun cdv A' outer s H E hr => ⟨_, (pss_cons (ps_set (i := 1) sc_p_half_in.nd rfl (by first | exact Or.inl rfl | exact Or.inr rfl) (pe_listRg rfl (by rfl) T.list (prg_1 (by rfl) T.range (pe_callB (call_lenK (K := K)) (by rfl) T.len (by decide +kernel) (pa_cons (pv 0) pa_nil))))) (pss_cons (ps_set (i := 2) sc_p_half_in.nd rfl (by first | exact Or.inl rfl | exact Or.inr rfl) (pe_lst pa_nil)) (pss_cons (ps_for PassesOwn.never rfl (pi_enumS (by rfl) T.enumerate (pa_cons (pv 0) pa_nil)) (pg_tupK (K := K) (n := 2) (by rfl) (pgs_cons (pg_name (i := 3) sc_p_half_in.nd rfl (by first | exact Or.inl rfl | exact Or.inr rfl)) (pgs_cons (pg_name (i := 4) sc_p_half_in.nd rfl (by first | exact Or.inl rfl | exact Or.inr rfl)) pgs_nil))) (pss_cons (ps_if (pt_cmpR op_eq (pv 4) pe_str (nomark _)) (pss_cons (ps_expr (pe_bm PySem.F.plainAttrs_list PySem.F.slot_list_append PySem.F.type_list_append mt_append (pv 2) (pa_cons (pv 3) pa_nil))) pss_nil) (pss_cons (ps_if (pt_cmpR op_eq (pv 4) pe_str (nomark _)) (pss_cons (ps_set (i := 5) sc_p_half_in.nd rfl (by first | exact Or.inl rfl | exact Or.inr rfl) (pe_bm0 PySem.F.plainAttrs_list PySem.F.slot_list_pop PySem.F.type_list_pop mt_pop (pv 2))) (pss_cons (ps_asg (pv 5) (pg_sub (pv 1) (pv 3) set_list)) (pss_cons (ps_asg (pv 3) (pg_sub (pv 1) (pv 5) set_list)) pss_nil))) pss_nil) pss_nil)) pss_nil)) (pss_cons (ps_ret (pe_callTy (call_tupleK (K := K)) (by rfl) T.tuple (by decide +kernel) (pa_cons (pv 1) pa_nil))) pss_never)))), fun v_text => ?_⟩), hg, F.kp, F.bindsN fun _ _ _ _ _ _ us hl => match us, hl with | [_], _ => rfl⟩
  exact (show BX K _ [.sh (PyData.str v_text), .un, .un, .un, .un, .un] encR_p_half_in (p_half_in v_text) from
   (bx_bind fun g1 hg1 => (bx_asgWB (e := PyData.int) (i := 1) (exw_listRg1 (ex_lenS (ex_var (i := 0) rfl)) (grd_ok hg1)) (fun v_found_2 => (bx_asgW (exw_lst (ds := (([] : (List Int)) : (List Int)).map PyData.int) ea_nil (Nat.le_of_ble_eq_true rfl)) (bx_then (envS := (fun (s_1 : (List Int) × (List Int)) => [.sh (PyData.str v_text), .ow (s_1.1.map PyData.int), .ow (s_1.2.map PyData.int), .un, .un, .un])) (bx_forS (envS := (fun (s_1 : (List Int) × (List Int)) => [.sh (PyData.str v_text), .ow (s_1.1.map PyData.int), .ow (s_1.2.map PyData.int), .un, .un, .un])) (e := (eP PyData.int PyData.str)) (envB := (fun (s_1 : (List Int) × (List Int)) (x3 : (Int × Str)) => [.sh (PyData.str v_text), .ow (s_1.1.map PyData.int), .ow (s_1.2.map PyData.int), .sh (PyData.int x3.1), .sh (PyData.str x3.2), .un])) (f := p_half_in_for1) (eis_enumS (ex_var (i := 0) rfl)) (.same (.same (.same (.un (.un (.un .nil)))))) (fun s_1 x3 _ => EGc.eg (vs := [3, 4]) (egc_tup (egs_cons (egc_name (i := 3) (by decide)) (egs_cons (egc_name (i := 4) (by decide)) egs_nil)) rfl)) (fun s_1 x3 _ => (bx_last (bx_if (et_of (ex_eqS (ex_var (i := 4) rfl) (ex_str (Nat.le_of_ble_eq_true rfl)))) (fun _ => (bx_bind fun u4 hu4 => (bx_app (e := PyData.int) (x := x3.1) rfl (ex_var (i := 3) rfl) hu4 (bx_nx (.same (.same (.same (.un (.un (.un .nil)))))) rfl)))) (fun _ => (bx_last (bx_if (et_of (ex_eqS (ex_var (i := 4) rfl) (ex_str (Nat.le_of_ble_eq_true rfl)))) (fun _ => (bx_bind fun u5 hu5 => (bx_pop (e := PyData.int) rfl hu5 (bx_bind fun u6 hu6 => (bx_asg (d := PyData.int u5.1) (ex_var (i := 5) rfl) (eg_setI (e := PyData.int) rfl (ex_var (i := 3) rfl) hu6) (bx_bind fun u7 hu7 => (bx_asg (d := PyData.int x3.1) (ex_var (i := 3) rfl) (eg_setI (e := PyData.int) rfl (ex_var (i := 5) rfl) hu7) (bx_nx (.same (.same (.same (.un (.un (.un .nil)))))) rfl)))))))) (fun _ => (bx_nx (.same (.same (.same (.un (.un (.un .nil)))))) rfl))))))))) (fun s8 _ => (bx_retS (ex_tupL (exl_var (i := 1) rfl)) rfl))))))))
abbrev encR_p_halves (y : (List (List Int))) : Out := .rt (.fr (y.map (eT PyData.int)))
abbrev st_p_halves : Stmt := top 92
abbrev NN_p_halves : List Str := ["pegs", "through", "text"]
theorem sc_p_halves : FnScope NN_p_halves ["pegs", "through"] (defScope st_p_halves) := ⟨rfl, rfl, rfl, by decide +kernel, rfl, by decide +kernel, by decide +kernel⟩
abbrev I_p_halves : List PyData → Rv → Prop := Im (fun (a : (Int × Int)) => [PyData.int a.1, PyData.int a.2]) (fun (y : (List (List Int))) => Rv.fr (y.map (eT PyData.int))) (fun a => p_halves a.1 a.2)
theorem fn_p_halves {P : Program} {w : World} {K : PySem.W.Frag} {mg : Str → Option Value} {base : Heap} {f : Addr} {fd : FuncData} (F : FunD K "halves" "halves" (defArgs st_p_halves) (defBody st_p_halves) (defScope st_p_halves) [] [] f fd) (hg : mg "halves" = some (.ref f)) (T : Tx K mg) (G_texts : Fn P w K mg base "texts" 1 I_p_texts) (G_half_in : Fn P w K mg base "half_in" 1 I_p_half_in) : Fn P w K mg base "halves" 2 I_p_halves := by
  refine ⟨f, fd, ["pegs", "through"], fn_ok (N := NN_p_halves) (en := encR_p_halves) F sc_p_halves (fun _ => rfl) (fun _ => .inl rfl) (fun cdv A' outer s H E hr => ⟨_, (pss_cons (ps_ret (pe_callB (cr_sortTO (K := K)) (by rfl) T.sorted (by decide +kernel) (pa_cons (pe_lc (own := [("text", 2)]) (tt := tYes) rfl sc_p_halves.nd (pi_listK (K := K) (pe_fn G_texts (hr.mono (by decide)) (by rfl) (pa_cons (pv 0) (pa_cons (pv 1) pa_nil)))) (blkOk_by (N := NN_p_halves) (sc := defScope st_p_halves) (by decide +kernel)) (fun _ _ _ _ _ => (pg_name (i := 2) sc_p_halves.nd rfl (by first | exact Or.inl rfl | exact Or.inr rfl))) (fun _ _ _ _ _ => pts_nil) (fun _ _ _ _ _ => (pe_fn G_half_in (hr.mono (by decide)) (by rfl) (pa_cons (pv 2) pa_nil)))) pa_nil))) pss_never), fun a => ?_⟩), hg, F.kp, F.bindsN fun _ _ _ _ _ _ us hl => match us, hl with | [_, _], _ => rfl⟩
  obtain ⟨v_pegs, v_through⟩ := a
  exact (show BX K _ [.sh (PyData.int v_pegs), .sh (PyData.int v_through), .un] encR_p_halves (p_halves v_pegs v_through) from
   (bx_bind fun u1 hu1 => (bx_bind fun u4 hu4 => (bx_bind fun g5 hg5 => (bx_retSW (exw_sortC (EXw.l (exw_lc (e := PyData.str) (e' := (eT PyData.int)) (envB := (fun x2 => [.sh (PyData.int v_pegs), .sh (PyData.int v_through), .sh (PyData.str x2)])) (ei_list (EXw.l (exw_call (ea_cons (ex_var (i := 0) rfl) (ea_cons (ex_var (i := 1) rfl) ea_nil)) ⟨(v_pegs, v_through), u1, rfl, hu1, rfl⟩))) hu4 (fun x2 _ => (egc_name (i := 2) (by decide))) (fun x2 _ => (eto_some et_yes)) (fun x2 _ => (exo_bind fun u3 hu3 => (exo_some (e := (eT PyData.int)) (ex_call (ea_cons (ex_var (i := 2) rfl) ea_nil) ⟨x2, u3, rfl, hu3, rfl⟩)))))) (grd_ok hg5)) rfl)))))
abbrev encR_p_how_many_halves (y : Int) : Out := .rt (.sh (PyData.int y))
abbrev st_p_how_many_halves : Stmt := top 93
abbrev NN_p_how_many_halves : List Str := ["pegs", "through"]
theorem sc_p_how_many_halves : FnScope NN_p_how_many_halves ["pegs", "through"] (defScope st_p_how_many_halves) := ⟨rfl, rfl, rfl, by decide +kernel, rfl, by decide +kernel, by decide +kernel⟩
abbrev I_p_how_many_halves : List PyData → Rv → Prop := Im (fun (a : (Int × Int)) => [PyData.int a.1, PyData.int a.2]) (fun (y : Int) => Rv.sh (PyData.int y)) (fun a => p_how_many_halves a.1 a.2)
theorem fn_p_how_many_halves {P : Program} {w : World} {K : PySem.W.Frag} {mg : Str → Option Value} {base : Heap} {f : Addr} {fd : FuncData} (F : FunD K "how_many_halves" "how_many_halves" (defArgs st_p_how_many_halves) (defBody st_p_how_many_halves) (defScope st_p_how_many_halves) [] [] f fd) (hg : mg "how_many_halves" = some (.ref f)) (T : Tx K mg) (G_ask_pegs : Fn P w K mg base "ask_pegs" 1 I_p_ask_pegs) (G_halves : Fn P w K mg base "halves" 2 I_p_halves) : Fn P w K mg base "how_many_halves" 3 I_p_how_many_halves := by
  refine ⟨f, fd, ["pegs", "through"], fn_ok (N := NN_p_how_many_halves) (en := encR_p_how_many_halves) F sc_p_how_many_halves (fun _ => rfl) (fun _ => .inl rfl) (fun cdv A' outer s H E hr => ⟨_, (pss_cons (ps_expr (pe_fn G_ask_pegs (hr.mono (by decide)) (by rfl) (pa_cons (pv 0) pa_nil))) (pss_cons (ps_ret (pe_callB (call_lenK (K := K)) (by rfl) T.len (by decide +kernel) (pa_cons (pe_fn G_halves (hr.mono (by decide)) (by rfl) (pa_cons (pv 0) (pa_cons (pv 1) pa_nil))) pa_nil))) pss_never)), fun a => ?_⟩), hg, F.kp, F.bindsN fun _ _ _ _ _ _ us hl => match us, hl with | [_, _], _ => rfl⟩
  obtain ⟨v_pegs, v_through⟩ := a
  exact (show BX K _ [.sh (PyData.int v_pegs), .sh (PyData.int v_through)] encR_p_how_many_halves (p_how_many_halves v_pegs v_through) from
   (bx_bind fun u1 hu1 => (bx_drop (ex_call (ea_cons (ex_var (i := 0) rfl) ea_nil) ⟨v_pegs, u1, rfl, hu1, rfl⟩) (bx_bind fun u2 hu2 => (bx_retS (ex_lenL (EXw.l (exw_call (ea_cons (ex_var (i := 0) rfl) (ea_cons (ex_var (i := 1) rfl) ea_nil)) ⟨(v_pegs, v_through), u2, rfl, hu2, rfl⟩))) rfl)))))
abbrev encE_x_how_many_halves (E : XK) (x : Exn) : Out := .ex [.un, .un] x fun c d _ H => E c d H
abbrev encX_x_how_many_halves (E : XK) (z : Except Exn Int) : Out := match z with
  | .ok y => .rt (.sh (PyData.int y))
  | .error x => .ex [.un, .un] x fun c d _ H => E c d H
abbrev st_x_how_many_halves : Stmt := top 93
abbrev NN_x_how_many_halves : List Str := ["pegs", "through"]
theorem sc_x_how_many_halves : FnScope NN_x_how_many_halves ["pegs", "through"] (defScope st_x_how_many_halves) := ⟨rfl, rfl, rfl, by decide +kernel, rfl, by decide +kernel, by decide +kernel⟩
abbrev I_x_how_many_halves : List PyData → Rv ⊕ Exn → Prop := ImX (fun (a : (Int × Int)) => [PyData.int a.1, PyData.int a.2]) (fun (y : Int) => Rv.sh (PyData.int y)) (fun a => x_how_many_halves a.1 a.2)
theorem fn_x_how_many_halves {P : Program} {w : World} {K : PySem.W.Frag} {mg : Str → Option Value} {base : Heap} {f : Addr} {fd : FuncData} (F : FunD K "how_many_halves" "how_many_halves" (defArgs st_x_how_many_halves) (defBody st_x_how_many_halves) (defScope st_x_how_many_halves) [] [] f fd) (hg : mg "how_many_halves" = some (.ref f)) (T : Tx K mg) (G_x_ask_pegs : FnX P w K mg base "ask_pegs" 1 I_x_ask_pegs) (G_halves : Fn P w K mg base "halves" 2 I_p_halves) : FnX P w K mg base "how_many_halves" 3 I_x_how_many_halves := by
  refine ⟨f, fd, ["pegs", "through"], fn_okX (N := NN_x_how_many_halves) (en := encX_x_how_many_halves) F sc_x_how_many_halves (fun _ => rfl) (fun _ _ => .inl rfl) (fun _ _ => ⟨_, rfl⟩) (fun cdv A' outer s H E hr => ⟨_, (pss_cons (ps_expr (pe_fnX (K := K) G_x_ask_pegs (L2N.takes_of rfl rfl rfl rfl) (hr.mono (by decide)) (by rfl) (pa_cons (pv 0) pa_nil))) (pss_cons (ps_ret (pe_callB (call_lenK (K := K)) (by rfl) T.len (by decide +kernel) (pa_cons (pe_fn G_halves (hr.mono (by decide)) (by rfl) (pa_cons (pv 0) (pa_cons (pv 1) pa_nil))) pa_nil))) pss_never)), fun a => ?_⟩), hg, F.kp, F.bindsN fun _ _ _ _ _ _ us hl => match us, hl with | [_, _], _ => rfl⟩
  obtain ⟨v_pegs, v_through⟩ := a
  exact (show BX K _ [.sh (PyData.int v_pegs), .sh (PyData.int v_through)] (encX_x_how_many_halves E) (x_how_many_halves v_pegs v_through) from
   (bx_bindX (fun e he => (bx_errDrop (err_callX (ea_cons (ex_var (i := 0) rfl) ea_nil) ⟨v_pegs, .error e, rfl, he, rfl⟩) rfl (.un (.un .nil)))) (fun u1 hu1 => (bx_drop (ex_callX (ea_cons (ex_var (i := 0) rfl) ea_nil) ⟨v_pegs, .ok u1, rfl, hu1, rfl⟩) (bx_bind fun u2 hu2 => (bx_retS (ex_lenL (EXw.l (exw_call (ea_cons (ex_var (i := 0) rfl) (ea_cons (ex_var (i := 1) rfl) ea_nil)) ⟨(v_pegs, v_through), u2, rfl, hu2, rfl⟩))) rfl))))))
abbrev encR_p_half_of (y : (List Int)) : Out := .rt (.sh ((eT PyData.int) y))
abbrev st_p_half_of : Stmt := top 94
abbrev NN_p_half_of : List Str := ["pegs", "through", "number", "found"]
theorem sc_p_half_of : FnScope NN_p_half_of ["pegs", "through", "number"] (defScope st_p_half_of) := ⟨rfl, rfl, rfl, by decide +kernel, rfl, by decide +kernel, by decide +kernel⟩
abbrev I_p_half_of : List PyData → Rv → Prop := Im (fun (a : (Int × Int × Int)) => [PyData.int a.1, PyData.int a.2.1, PyData.int a.2.2]) (fun (y : (List Int)) => Rv.sh ((eT PyData.int) y)) (fun a => p_half_of a.1 a.2.1 a.2.2)
theorem fn_p_half_of {P : Program} {w : World} {K : PySem.W.Frag} {mg : Str → Option Value} {base : Heap} {f : Addr} {fd : FuncData} (F : FunD K "half_of" "half_of" (defArgs st_p_half_of) (defBody st_p_half_of) (defScope st_p_half_of) [] [] f fd) (hg : mg "half_of" = some (.ref f)) (T : Tx K mg) (G_ask_pegs : Fn P w K mg base "ask_pegs" 1 I_p_ask_pegs) (G_halves : Fn P w K mg base "halves" 2 I_p_halves) : Fn P w K mg base "half_of" 3 I_p_half_of := by
  refine ⟨f, fd, ["pegs", "through", "number"], fn_ok (N := NN_p_half_of) (en := encR_p_half_of) F sc_p_half_of (fun _ => rfl) (fun _ => .inl rfl) (fun cdv A' outer s H E hr => ⟨_, (pss_cons (ps_expr (pe_fn G_ask_pegs (hr.mono (by decide)) (by rfl) (pa_cons (pv 0) pa_nil))) (pss_cons (ps_set (i := 3) sc_p_half_of.nd rfl (by first | exact Or.inl rfl | exact Or.inr rfl) (pe_fn G_halves (hr.mono (by decide)) (by rfl) (pa_cons (pv 0) (pa_cons (pv 1) pa_nil)))) (pss_cons (ps_if (pt_not (pt_chain op_le op_lt pe_int (pv 2) (pe_callB (call_lenK (K := K)) (by rfl) T.len (by decide +kernel) (pa_cons (pv 3) pa_nil)))) pss_never pss_nil) (pss_cons (ps_ret (pe_ix (ix_listK (K := K)) (pv 3) (pv 2) (fun _ _ => rfl))) pss_never)))), fun a => ?_⟩), hg, F.kp, F.bindsN fun _ _ _ _ _ _ us hl => match us, hl with | [_, _, _], _ => rfl⟩
  obtain ⟨v_pegs, v_through, v_number⟩ := a
  exact (show BX K _ [.sh (PyData.int v_pegs), .sh (PyData.int v_through), .sh (PyData.int v_number), .un] encR_p_half_of (p_half_of v_pegs v_through v_number) from
   (bx_bind fun u1 hu1 => (bx_drop (ex_call (ea_cons (ex_var (i := 0) rfl) ea_nil) ⟨v_pegs, u1, rfl, hu1, rfl⟩) (bx_bind fun u2 hu2 => (bx_asg (d := (eL (eT PyData.int)) u2) (EXw.sh (exw_call (ea_cons (ex_var (i := 0) rfl) (ea_cons (ex_var (i := 1) rfl) ea_nil)) ⟨(v_pegs, v_through), u2, rfl, hu2, rfl⟩)) (EGc.eg (egc_name (i := 3) (vs := [3]) (by decide))) (bx_ifNo (et_not (et_of (ex_chain (p := fun i j => decide (i ≤ j)) (p' := fun i j => decide (i < j)) (fun _ _ => rfl) (fun _ _ => rfl) ex_int (ex_var (i := 2) rfl) (ex_lenL (EX.l (ex_var (i := 3) rfl)))))) (fun _ => (bx_bind fun u3 hu3 => (bx_retS (ex_ixL (EX.l (ex_var (i := 3) rfl)) (ex_var (i := 2) rfl) (atI_map hu3)) rfl)))))))))
abbrev encE_x_half_of (E : XK) (x : Exn) : Out := .ex [.un, .un, .un, .un] x fun c d _ H => E c d H
abbrev encX_x_half_of (E : XK) (z : Except Exn (List Int)) : Out := match z with
  | .ok y => .rt (.sh ((eT PyData.int) y))
  | .error x => .ex [.un, .un, .un, .un] x fun c d _ H => E c d H
abbrev st_x_half_of : Stmt := top 94
abbrev NN_x_half_of : List Str := ["pegs", "through", "number", "found"]
theorem sc_x_half_of : FnScope NN_x_half_of ["pegs", "through", "number"] (defScope st_x_half_of) := ⟨rfl, rfl, rfl, by decide +kernel, rfl, by decide +kernel, by decide +kernel⟩
abbrev I_x_half_of : List PyData → Rv ⊕ Exn → Prop := ImX (fun (a : (Int × Int × Int)) => [PyData.int a.1, PyData.int a.2.1, PyData.int a.2.2]) (fun (y : (List Int)) => Rv.sh ((eT PyData.int) y)) (fun a => x_half_of a.1 a.2.1 a.2.2)
theorem fn_x_half_of {P : Program} {w : World} {K : PySem.W.Frag} {mg : Str → Option Value} {base : Heap} {f : Addr} {fd : FuncData} (F : FunD K "half_of" "half_of" (defArgs st_x_half_of) (defBody st_x_half_of) (defScope st_x_half_of) [] [] f fd) (hg : mg "half_of" = some (.ref f)) (T : Tx K mg) (G_x_ask_pegs : FnX P w K mg base "ask_pegs" 1 I_x_ask_pegs) (G_halves : Fn P w K mg base "halves" 2 I_p_halves) : FnX P w K mg base "half_of" 3 I_x_half_of := by
  refine ⟨f, fd, ["pegs", "through", "number"], fn_okX (N := NN_x_half_of) (en := encX_x_half_of) F sc_x_half_of (fun _ => rfl) (fun _ _ => .inl rfl) (fun _ _ => ⟨_, rfl⟩) (fun cdv A' outer s H E hr => ⟨_, (pss_cons (ps_expr (pe_fnX (K := K) G_x_ask_pegs (L2N.takes_of rfl rfl rfl rfl) (hr.mono (by decide)) (by rfl) (pa_cons (pv 0) pa_nil))) (pss_cons (ps_set (i := 3) sc_x_half_of.nd rfl (by first | exact Or.inl rfl | exact Or.inr rfl) (pe_fn G_halves (hr.mono (by decide)) (by rfl) (pa_cons (pv 0) (pa_cons (pv 1) pa_nil)))) (pss_cons (ps_if (pt_not (pt_chain op_le op_lt pe_int (pv 2) (pe_callB (call_lenK (K := K)) (by rfl) T.len (by decide +kernel) (pa_cons (pv 3) pa_nil)))) (pss_cons (ps_raiseX (K := K) rfl T.exc_NoNumber (L2N.takes_of rfl rfl rfl rfl) (by rfl)) pss_never) pss_nil) (pss_cons (ps_ret (pe_ix (ix_listK (K := K)) (pv 3) (pv 2) (fun _ _ => rfl))) pss_never)))), fun a => ?_⟩), hg, F.kp, F.bindsN fun _ _ _ _ _ _ us hl => match us, hl with | [_, _, _], _ => rfl⟩
  obtain ⟨v_pegs, v_through, v_number⟩ := a
  exact (show BX K _ [.sh (PyData.int v_pegs), .sh (PyData.int v_through), .sh (PyData.int v_number), .un] (encX_x_half_of E) (x_half_of v_pegs v_through v_number) from
   (bx_bindX (fun e he => (bx_errDrop (err_callX (ea_cons (ex_var (i := 0) rfl) ea_nil) ⟨v_pegs, .error e, rfl, he, rfl⟩) rfl (.un (.un (.un (.un .nil)))))) (fun u1 hu1 => (bx_drop (ex_callX (ea_cons (ex_var (i := 0) rfl) ea_nil) ⟨v_pegs, .ok u1, rfl, hu1, rfl⟩) (bx_bind fun u2 hu2 => (bx_asg (d := (eL (eT PyData.int)) u2) (EXw.sh (exw_call (ea_cons (ex_var (i := 0) rfl) (ea_cons (ex_var (i := 1) rfl) ea_nil)) ⟨(v_pegs, v_through), u2, rfl, hu2, rfl⟩)) (EGc.eg (egc_name (i := 3) (vs := [3]) (by decide))) (bx_ifRet (et_not (et_of (ex_chain (p := fun i j => decide (i ≤ j)) (p' := fun i j => decide (i < j)) (fun _ _ => rfl) (fun _ _ => rfl) ex_int (ex_var (i := 2) rfl) (ex_lenL (EX.l (ex_var (i := 3) rfl)))))) (fun _ => (bx_raiseS (W := (fun c d _ H => E c d H)) rfl (.un (.un (.un (.un .nil)))))) (fun o e _ h => by cases o <;> cases h) (fun _ => (bx_bind fun u3 hu3 => (bx_retS (ex_ixL (EX.l (ex_var (i := 3) rfl)) (ex_var (i := 2) rfl) (atI_map hu3)) rfl))))))))))
abbrev encR_p_beside (y : Bool) : Out := .rt (.sh (PyData.bool y))
abbrev st_p_beside : Stmt := top 96
abbrev NN_p_beside : List Str := ["one", "other"]
theorem sc_p_beside : FnScope NN_p_beside ["one", "other"] (defScope st_p_beside) := ⟨rfl, rfl, rfl, by decide +kernel, rfl, by decide +kernel, by decide +kernel⟩
abbrev I_p_beside : List PyData → Rv → Prop := Im (fun (a : (Int × Int)) => [PyData.int a.1, PyData.int a.2]) (fun (y : Bool) => Rv.sh (PyData.bool y)) (fun a => p_beside a.1 a.2)
theorem fn_p_beside {P : Program} {w : World} {K : PySem.W.Frag} {mg : Str → Option Value} {base : Heap} {f : Addr} {fd : FuncData} (F : FunD K "beside" "beside" (defArgs st_p_beside) (defBody st_p_beside) (defScope st_p_beside) [] [] f fd) (hg : mg "beside" = some (.ref f)) (T : Tx K mg)  : Fn P w K mg base "beside" 1 I_p_beside := by
  refine ⟨f, fd, ["one", "other"], fn_ok (N := NN_p_beside) (en := encR_p_beside) F sc_p_beside (fun _ => rfl) (fun _ => .inl rfl) (fun cdv A' outer s H E hr => ⟨_, (pss_cons (ps_ret (pe_cmpR op_eq (pe_callB call_abs (by rfl) T.abs (by decide +kernel) (pa_cons (pe_op op_sub (pv 0) (pv 1)) pa_nil)) pe_int (nomark _))) pss_never), fun a => ?_⟩), hg, F.kp, F.bindsN fun _ _ _ _ _ _ us hl => match us, hl with | [_, _], _ => rfl⟩
  obtain ⟨v_one, v_other⟩ := a
  exact (show BX K _ [.sh (PyData.int v_one), .sh (PyData.int v_other)] encR_p_beside (p_beside v_one v_other) from
   (bx_retS (ex_eqI (ex_abs (ex_sub (ex_var (i := 0) rfl) (ex_var (i := 1) rfl))) ex_int) rfl))
abbrev encR_p_swapped (y : (Option (List Int))) : Out := .rt (.sh ((eO (eL PyData.int)) y))
abbrev st_p_swapped : Stmt := top 97
abbrev NN_p_swapped : List Str := ["row", "at"]
theorem sc_p_swapped : FnScope NN_p_swapped ["row", "at"] (defScope st_p_swapped) := ⟨rfl, rfl, rfl, by decide +kernel, rfl, by decide +kernel, by decide +kernel⟩
abbrev I_p_swapped : List PyData → Rv → Prop := Im (fun (a : ((List Int) × Int)) => [(eL PyData.int) a.1, PyData.int a.2]) (fun (y : (Option (List Int))) => Rv.sh ((eO (eL PyData.int)) y)) (fun a => p_swapped a.1 a.2)
theorem fn_p_swapped {P : Program} {w : World} {K : PySem.W.Frag} {mg : Str → Option Value} {base : Heap} {f : Addr} {fd : FuncData} (F : FunD K "swapped" "swapped" (defArgs st_p_swapped) (defBody st_p_swapped) (defScope st_p_swapped) [] [] f fd) (hg : mg "swapped" = some (.ref f)) (T : Tx K mg)  : Fn P w K mg base "swapped" 1 I_p_swapped := by
  refine ⟨f, fd, ["row", "at"], fn_ok (N := NN_p_swapped) (en := encR_p_swapped) F sc_p_swapped (fun _ => rfl) (fun _ => .inl rfl) (fun cdv A' outer s H E hr => ⟨_, (pss_cons (ps_if (PW.pt (pw_or (pt_not (pt_chain op_le op_lt pe_int (pv 1) (pe_op op_sub (pe_callB (call_lenK (K := K)) (by rfl) T.len (by decide +kernel) (pa_cons (pv 0) pa_nil)) pe_int))) (pw_or1 (pt_cmpR op_lt (pe_callB call_abs (by rfl) T.abs (by decide +kernel) (pa_cons (pe_op op_sub (pe_ix (ix_listK (K := K)) (pv 0) (pv 1) (fun _ _ => rfl)) (pe_ix (ix_listK (K := K)) (pv 0) (pe_op op_add (pv 1) pe_int) (fun _ _ => rfl))) pa_nil)) pe_int (nomark _))))) (pss_cons (ps_ret pe_non) pss_never) pss_nil) (pss_cons (ps_ret (pe_op op_cat (pe_op op_cat (pe_slice (sl_listK (K := K)) (pv 0) po_none (po_some (pv 1))) (pe_lst (pa_cons (pe_ix (ix_listK (K := K)) (pv 0) (pe_op op_add (pv 1) pe_int) (fun _ _ => rfl)) (pa_cons (pe_ix (ix_listK (K := K)) (pv 0) (pv 1) (fun _ _ => rfl)) pa_nil)))) (pe_slice (sl_listK (K := K)) (pv 0) (po_some (pe_op op_add (pv 1) pe_int)) po_none))) pss_never)), fun a => ?_⟩), hg, F.kp, F.bindsN fun _ _ _ _ _ _ us hl => match us, hl with | [_, _], _ => rfl⟩
  obtain ⟨v_row, v_at⟩ := a
  exact (show BX K _ [.sh ((eL PyData.int) v_row), .sh (PyData.int v_at)] encR_p_swapped (p_swapped v_row v_at) from
   (bx_bind fun c3 hc3 => (bx_ifRet ((eto_or (eto_some (et_not (et_of (ex_chain (p := fun i j => decide (i ≤ j)) (p' := fun i j => decide (i < j)) (fun _ _ => rfl) (fun _ _ => rfl) ex_int (ex_var (i := 1) rfl) (ex_sub (ex_lenL (EX.l (ex_var (i := 0) rfl))) ex_int))))) (eto_bind fun u1 hu1 => (eto_bind fun u2 hu2 => (eto_some (et_of (ex_lt (ex_abs (ex_sub (ex_ixL (EX.l (ex_var (i := 0) rfl)) (ex_var (i := 1) rfl) (atI_map hu1)) (ex_ixL (EX.l (ex_var (i := 0) rfl)) (ex_add (ex_var (i := 1) rfl) ex_int) (atI_map hu2)))) ex_int)))))) c3 hc3) (fun _ => (bx_retS ex_non rfl)) (fun _ _ _ h => nomatch h) (fun _ => (bx_bind fun u4 hu4 => (bx_bind fun u5 hu5 => (bx_bind fun g6 hg6 => (bx_bind fun g7 hg7 => (bx_retS (EXw.sh (exw_catT (EXw.l (exw_catT (EXw.l (exw_sl (EX.l (ex_var (i := 0) rfl)) eo_none (eo_some (ex_var (i := 1) rfl)))) (EXw.l (exw_lst (ds := ([u4, u5] : (List Int)).map PyData.int) (ea_cons (ex_ixL (EX.l (ex_var (i := 0) rfl)) (ex_add (ex_var (i := 1) rfl) ex_int) (atI_map hu4)) (ea_cons (ex_ixL (EX.l (ex_var (i := 0) rfl)) (ex_var (i := 1) rfl) (atI_map hu5)) ea_nil)) (Nat.le_of_ble_eq_true rfl))) (grd_ok hg6))) (EXw.l (exw_sl (EX.l (ex_var (i := 0) rfl)) (eo_some (ex_add (ex_var (i := 1) rfl) ex_int)) eo_none)) (grd_ok hg7))) rfl)))))))))
abbrev encR_p_dropped (y : (Option (List Int))) : Out := .rt (.sh ((eO (eL PyData.int)) y))
abbrev st_p_dropped : Stmt := top 98
abbrev NN_p_dropped : List Str := ["row", "at"]
theorem sc_p_dropped : FnScope NN_p_dropped ["row", "at"] (defScope st_p_dropped) := ⟨rfl, rfl, rfl, by decide +kernel, rfl, by decide +kernel, by decide +kernel⟩
abbrev I_p_dropped : List PyData → Rv → Prop := Im (fun (a : ((List Int) × Int)) => [(eL PyData.int) a.1, PyData.int a.2]) (fun (y : (Option (List Int))) => Rv.sh ((eO (eL PyData.int)) y)) (fun a => p_dropped a.1 a.2)
theorem fn_p_dropped {P : Program} {w : World} {K : PySem.W.Frag} {mg : Str → Option Value} {base : Heap} {f : Addr} {fd : FuncData} (F : FunD K "dropped" "dropped" (defArgs st_p_dropped) (defBody st_p_dropped) (defScope st_p_dropped) [] [] f fd) (hg : mg "dropped" = some (.ref f)) (T : Tx K mg)  : Fn P w K mg base "dropped" 1 I_p_dropped := by
  refine ⟨f, fd, ["row", "at"], fn_ok (N := NN_p_dropped) (en := encR_p_dropped) F sc_p_dropped (fun _ => rfl) (fun _ => .inl rfl) (fun cdv A' outer s H E hr => ⟨_, (pss_cons (ps_if (PW.pt (pw_or (pt_not (pt_chain op_le op_lt pe_int (pv 1) (pe_op op_sub (pe_callB (call_lenK (K := K)) (by rfl) T.len (by decide +kernel) (pa_cons (pv 0) pa_nil)) pe_int))) (pw_or1 (pt_cmpR op_ne (pe_ix (ix_listK (K := K)) (pv 0) (pv 1) (fun _ _ => rfl)) (pe_ix (ix_listK (K := K)) (pv 0) (pe_op op_add (pv 1) pe_int) (fun _ _ => rfl)) (nomark _))))) (pss_cons (ps_ret pe_non) pss_never) pss_nil) (pss_cons (ps_ret (pe_op op_cat (pe_slice (sl_listK (K := K)) (pv 0) po_none (po_some (pv 1))) (pe_slice (sl_listK (K := K)) (pv 0) (po_some (pe_op op_add (pv 1) pe_int)) po_none))) pss_never)), fun a => ?_⟩), hg, F.kp, F.bindsN fun _ _ _ _ _ _ us hl => match us, hl with | [_, _], _ => rfl⟩
  obtain ⟨v_row, v_at⟩ := a
  exact (show BX K _ [.sh ((eL PyData.int) v_row), .sh (PyData.int v_at)] encR_p_dropped (p_dropped v_row v_at) from
   (bx_bind fun c3 hc3 => (bx_ifRet ((eto_or (eto_some (et_not (et_of (ex_chain (p := fun i j => decide (i ≤ j)) (p' := fun i j => decide (i < j)) (fun _ _ => rfl) (fun _ _ => rfl) ex_int (ex_var (i := 1) rfl) (ex_sub (ex_lenL (EX.l (ex_var (i := 0) rfl))) ex_int))))) (eto_bind fun u1 hu1 => (eto_bind fun u2 hu2 => (eto_some (et_of (ex_neI (ex_ixL (EX.l (ex_var (i := 0) rfl)) (ex_var (i := 1) rfl) (atI_map hu1)) (ex_ixL (EX.l (ex_var (i := 0) rfl)) (ex_add (ex_var (i := 1) rfl) ex_int) (atI_map hu2)))))))) c3 hc3) (fun _ => (bx_retS ex_non rfl)) (fun _ _ _ h => nomatch h) (fun _ => (bx_bind fun g4 hg4 => (bx_retS (EXw.sh (exw_catT (EXw.l (exw_sl (EX.l (ex_var (i := 0) rfl)) eo_none (eo_some (ex_var (i := 1) rfl)))) (EXw.l (exw_sl (EX.l (ex_var (i := 0) rfl)) (eo_some (ex_add (ex_var (i := 1) rfl) ex_int)) eo_none)) (grd_ok hg4))) rfl))))))
abbrev encR_p_cut (y : (Option (List Int))) : Out := .rt (.sh ((eO (eL PyData.int)) y))
abbrev st_p_cut : Stmt := top 99
abbrev NN_p_cut : List Str := ["row", "at"]
theorem sc_p_cut : FnScope NN_p_cut ["row", "at"] (defScope st_p_cut) := ⟨rfl, rfl, rfl, by decide +kernel, rfl, by decide +kernel, by decide +kernel⟩
abbrev I_p_cut : List PyData → Rv → Prop := Im (fun (a : ((List Int) × Int)) => [(eL PyData.int) a.1, PyData.int a.2]) (fun (y : (Option (List Int))) => Rv.sh ((eO (eL PyData.int)) y)) (fun a => p_cut a.1 a.2)
theorem fn_p_cut {P : Program} {w : World} {K : PySem.W.Frag} {mg : Str → Option Value} {base : Heap} {f : Addr} {fd : FuncData} (F : FunD K "cut" "cut" (defArgs st_p_cut) (defBody st_p_cut) (defScope st_p_cut) [] [] f fd) (hg : mg "cut" = some (.ref f)) (T : Tx K mg) (G_beside : Fn P w K mg base "beside" 1 I_p_beside) : Fn P w K mg base "cut" 2 I_p_cut := by
  refine ⟨f, fd, ["row", "at"], fn_ok (N := NN_p_cut) (en := encR_p_cut) F sc_p_cut (fun _ => rfl) (fun _ => .inl rfl) (fun cdv A' outer s H E hr => ⟨_, (pss_cons (ps_if (PW.pt (pw_or (pt_not (pt_chain op_le op_lt pe_int (pv 1) (pe_op op_sub (pe_callB (call_lenK (K := K)) (by rfl) T.len (by decide +kernel) (pa_cons (pv 0) pa_nil)) pe_int))) (pw_or (pt_cmpR op_ne (pe_ix (ix_listK (K := K)) (pv 0) (pv 1) (fun _ _ => rfl)) (pe_ix (ix_listK (K := K)) (pv 0) (pe_op op_add (pv 1) pe_int) (fun _ _ => rfl)) (nomark _)) (pw_or1 (pt_not (pt_val (pe_fn G_beside (hr.mono (by decide)) (by rfl) (pa_cons (pe_ix (ix_listK (K := K)) (pv 0) (pv 1) (fun _ _ => rfl)) (pa_cons (pe_ix (ix_listK (K := K)) (pv 0) (pe_op op_add (pv 1) pe_int) (fun _ _ => rfl)) pa_nil))))))))) (pss_cons (ps_ret pe_non) pss_never) pss_nil) (pss_cons (ps_ret (pe_op op_cat (pe_slice (sl_listK (K := K)) (pv 0) po_none (po_some (pe_op op_add (pv 1) pe_int))) (pe_slice (sl_listK (K := K)) (pv 0) (po_some (pe_op op_add (pv 1) pe_int)) po_none))) pss_never)), fun a => ?_⟩), hg, F.kp, F.bindsN fun _ _ _ _ _ _ us hl => match us, hl with | [_, _], _ => rfl⟩
  obtain ⟨v_row, v_at⟩ := a
  exact (show BX K _ [.sh ((eL PyData.int) v_row), .sh (PyData.int v_at)] encR_p_cut (p_cut v_row v_at) from
   (bx_bind fun c6 hc6 => (bx_ifRet ((eto_or (eto_some (et_not (et_of (ex_chain (p := fun i j => decide (i ≤ j)) (p' := fun i j => decide (i < j)) (fun _ _ => rfl) (fun _ _ => rfl) ex_int (ex_var (i := 1) rfl) (ex_sub (ex_lenL (EX.l (ex_var (i := 0) rfl))) ex_int))))) (eto_or (eto_bind fun u1 hu1 => (eto_bind fun u2 hu2 => (eto_some (et_of (ex_neI (ex_ixL (EX.l (ex_var (i := 0) rfl)) (ex_var (i := 1) rfl) (atI_map hu1)) (ex_ixL (EX.l (ex_var (i := 0) rfl)) (ex_add (ex_var (i := 1) rfl) ex_int) (atI_map hu2))))))) (eto_bind fun u3 hu3 => (eto_bind fun u4 hu4 => (eto_bind fun u5 hu5 => (eto_some (et_not (et_B (ex_call (ea_cons (ex_ixL (EX.l (ex_var (i := 0) rfl)) (ex_var (i := 1) rfl) (atI_map hu3)) (ea_cons (ex_ixL (EX.l (ex_var (i := 0) rfl)) (ex_add (ex_var (i := 1) rfl) ex_int) (atI_map hu4)) ea_nil)) ⟨(u3, u4), u5, rfl, hu5, rfl⟩))))))))) c6 hc6) (fun _ => (bx_retS ex_non rfl)) (fun _ _ _ h => nomatch h) (fun _ => (bx_bind fun g7 hg7 => (bx_retS (EXw.sh (exw_catT (EXw.l (exw_sl (EX.l (ex_var (i := 0) rfl)) eo_none (eo_some (ex_add (ex_var (i := 1) rfl) ex_int)))) (EXw.l (exw_sl (EX.l (ex_var (i := 0) rfl)) (eo_some (ex_add (ex_var (i := 1) rfl) ex_int)) eo_none)) (grd_ok hg7))) rfl))))))
abbrev encR_p_grown (y : (Option (List Int))) : Out := .rt (.sh ((eO (eL PyData.int)) y))
abbrev st_p_grown : Stmt := top 100
abbrev NN_p_grown : List Str := ["pegs", "row", "at", "number"]
theorem sc_p_grown : FnScope NN_p_grown ["pegs", "row", "at", "number"] (defScope st_p_grown) := ⟨rfl, rfl, rfl, by decide +kernel, rfl, by decide +kernel, by decide +kernel⟩
abbrev I_p_grown : List PyData → Rv → Prop := Im (fun (a : (Int × (List Int) × Int × Int)) => [PyData.int a.1, (eL PyData.int) a.2.1, PyData.int a.2.2.1, PyData.int a.2.2.2]) (fun (y : (Option (List Int))) => Rv.sh ((eO (eL PyData.int)) y)) (fun a => p_grown a.1 a.2.1 a.2.2.1 a.2.2.2)
theorem fn_p_grown {P : Program} {w : World} {K : PySem.W.Frag} {mg : Str → Option Value} {base : Heap} {f : Addr} {fd : FuncData} (F : FunD K "grown" "grown" (defArgs st_p_grown) (defBody st_p_grown) (defScope st_p_grown) [] [] f fd) (hg : mg "grown" = some (.ref f)) (T : Tx K mg) (G_beside : Fn P w K mg base "beside" 1 I_p_beside) : Fn P w K mg base "grown" 2 I_p_grown := by
  refine ⟨f, fd, ["pegs", "row", "at", "number"], fn_ok (N := NN_p_grown) (en := encR_p_grown) F sc_p_grown (fun _ => rfl) (fun _ => .inl rfl) (fun cdv A' outer s H E hr => ⟨_, (pss_cons (ps_if (PW.pt (pw_or (pt_not (pt_chain op_le op_lt pe_int (pv 2) (pe_callB (call_lenK (K := K)) (by rfl) T.len (by decide +kernel) (pa_cons (pv 1) pa_nil)))) (pw_or (pt_not (pt_chain op_le op_lt pe_int (pv 3) (pe_op op_sub (pv 0) pe_int))) (pw_or1 (pt_not (pt_val (pe_fn G_beside (hr.mono (by decide)) (by rfl) (pa_cons (pe_ix (ix_listK (K := K)) (pv 1) (pv 2) (fun _ _ => rfl)) (pa_cons (pv 3) pa_nil))))))))) (pss_cons (ps_ret pe_non) pss_never) pss_nil) (pss_cons (ps_ret (pe_op op_cat (pe_op op_cat (pe_slice (sl_listK (K := K)) (pv 1) po_none (po_some (pe_op op_add (pv 2) pe_int))) (pe_lst (pa_cons (pv 3) (pa_cons (pe_ix (ix_listK (K := K)) (pv 1) (pv 2) (fun _ _ => rfl)) pa_nil)))) (pe_slice (sl_listK (K := K)) (pv 1) (po_some (pe_op op_add (pv 2) pe_int)) po_none))) pss_never)), fun a => ?_⟩), hg, F.kp, F.bindsN fun _ _ _ _ _ _ us hl => match us, hl with | [_, _, _, _], _ => rfl⟩
  obtain ⟨v_pegs, v_row, v_at, v_number⟩ := a
  exact (show BX K _ [.sh (PyData.int v_pegs), .sh ((eL PyData.int) v_row), .sh (PyData.int v_at), .sh (PyData.int v_number)] encR_p_grown (p_grown v_pegs v_row v_at v_number) from
   (bx_bind fun c3 hc3 => (bx_ifRet ((eto_or (eto_some (et_not (et_of (ex_chain (p := fun i j => decide (i ≤ j)) (p' := fun i j => decide (i < j)) (fun _ _ => rfl) (fun _ _ => rfl) ex_int (ex_var (i := 2) rfl) (ex_lenL (EX.l (ex_var (i := 1) rfl))))))) (eto_or (eto_some (et_not (et_of (ex_chain (p := fun i j => decide (i ≤ j)) (p' := fun i j => decide (i < j)) (fun _ _ => rfl) (fun _ _ => rfl) ex_int (ex_var (i := 3) rfl) (ex_sub (ex_var (i := 0) rfl) ex_int))))) (eto_bind fun u1 hu1 => (eto_bind fun u2 hu2 => (eto_some (et_not (et_B (ex_call (ea_cons (ex_ixL (EX.l (ex_var (i := 1) rfl)) (ex_var (i := 2) rfl) (atI_map hu1)) (ea_cons (ex_var (i := 3) rfl) ea_nil)) ⟨(u1, v_number), u2, rfl, hu2, rfl⟩)))))))) c3 hc3) (fun _ => (bx_retS ex_non rfl)) (fun _ _ _ h => nomatch h) (fun _ => (bx_bind fun u4 hu4 => (bx_bind fun g5 hg5 => (bx_bind fun g6 hg6 => (bx_retS (EXw.sh (exw_catT (EXw.l (exw_catT (EXw.l (exw_sl (EX.l (ex_var (i := 1) rfl)) eo_none (eo_some (ex_add (ex_var (i := 2) rfl) ex_int)))) (EXw.l (exw_lst (ds := ([v_number, u4] : (List Int)).map PyData.int) (ea_cons (ex_var (i := 3) rfl) (ea_cons (ex_ixL (EX.l (ex_var (i := 1) rfl)) (ex_var (i := 2) rfl) (atI_map hu4)) ea_nil)) (Nat.le_of_ble_eq_true rfl))) (grd_ok hg5))) (EXw.l (exw_sl (EX.l (ex_var (i := 1) rfl)) (eo_some (ex_add (ex_var (i := 2) rfl) ex_int)) eo_none)) (grd_ok hg6))) rfl))))))))
abbrev encR_p_behind (y : (Int × (Option (List Int)))) : Out := .rt (.sh ((eP PyData.int (eO (eL PyData.int))) y))
abbrev st_p_behind : Stmt := top 101
abbrev NN_p_behind : List Str := ["pegs", "rings", "row", "trade", "at"]
theorem sc_p_behind : FnScope NN_p_behind ["pegs", "rings", "row", "trade"] (defScope st_p_behind) := ⟨rfl, rfl, rfl, by decide +kernel, rfl, by decide +kernel, by decide +kernel⟩
abbrev I_p_behind : List PyData → Rv → Prop := Im (fun (a : (Int × Int × (List Int) × PyData)) => [PyData.int a.1, PyData.int a.2.1, (eL PyData.int) a.2.2.1, eD a.2.2.2]) (fun (y : (Int × (Option (List Int)))) => Rv.sh ((eP PyData.int (eO (eL PyData.int))) y)) (fun a => p_behind a.1 a.2.1 a.2.2.1 a.2.2.2)
theorem fn_p_behind {P : Program} {w : World} {K : PySem.W.Frag} {mg : Str → Option Value} {base : Heap} {f : Addr} {fd : FuncData} (F : FunD K "behind" "behind" (defArgs st_p_behind) (defBody st_p_behind) (defScope st_p_behind) [] [] f fd) (hg : mg "behind" = some (.ref f)) (T : Tx K mg) (G_grown : Fn P w K mg base "grown" 2 I_p_grown) (G_swapped : Fn P w K mg base "swapped" 1 I_p_swapped) (G_dropped : Fn P w K mg base "dropped" 1 I_p_dropped) (G_cut : Fn P w K mg base "cut" 2 I_p_cut) : Fn P w K mg base "behind" 3 I_p_behind := by
  refine ⟨f, fd, ["pegs", "rings", "row", "trade"], fn_ok (N := NN_p_behind) (en := encR_p_behind) F sc_p_behind (fun _ => rfl) (fun _ => .inl rfl) (fun cdv A' outer s H E hr => ⟨_, (pss_cons (ps_if (PW.pt (pw_and (pt_cmpR op_eq (pe_callB (call_lenK (K := K)) (by rfl) T.len (by decide +kernel) (pa_cons (pv 3) pa_nil)) pe_int (nomark _)) (pw_and1 (pt_cmpR op_eq (pe_ix (ix_tupK (K := K)) (pv 3) pe_int (fun _ _ => rfl)) pe_str (nomark _))))) (pss_cons (ps_ret (pe_tup (pa_cons (pv 1) (pa_cons (pe_fn G_grown (hr.mono (by decide)) (by rfl) (pa_cons (pv 0) (pa_cons (pv 2) (pa_cons (pe_ix (ix_tupK (K := K)) (pv 3) pe_int (fun _ _ => rfl)) (pa_cons (pe_ix (ix_tupK (K := K)) (pv 3) pe_int (fun _ _ => rfl)) pa_nil))))) pa_nil)))) pss_never) pss_nil) (pss_cons (ps_if (pt_cmpR op_ne (pe_callB (call_lenK (K := K)) (by rfl) T.len (by decide +kernel) (pa_cons (pv 3) pa_nil)) pe_int (nomark _)) (pss_cons (ps_ret (pe_tup (pa_cons (pv 1) (pa_cons pe_non pa_nil)))) pss_never) pss_nil) (pss_cons (ps_set (i := 4) sc_p_behind.nd rfl (by first | exact Or.inl rfl | exact Or.inr rfl) (pe_ix (ix_tupK (K := K)) (pv 3) pe_int (fun _ _ => rfl))) (pss_cons (ps_if (pt_cmpR op_eq (pe_ix (ix_tupK (K := K)) (pv 3) pe_int (fun _ _ => rfl)) pe_str (nomark _)) (pss_cons (ps_ret (pe_tup (pa_cons (pv 1) (pa_cons (pe_fn G_swapped (hr.mono (by decide)) (by rfl) (pa_cons (pv 2) (pa_cons (pv 4) pa_nil))) pa_nil)))) pss_never) pss_nil) (pss_cons (ps_if (pt_cmpR op_eq (pe_ix (ix_tupK (K := K)) (pv 3) pe_int (fun _ _ => rfl)) pe_str (nomark _)) (pss_cons (ps_ret (pe_tup (pa_cons (pe_op op_add (pv 1) pe_int) (pa_cons (pe_fn G_dropped (hr.mono (by decide)) (by rfl) (pa_cons (pv 2) (pa_cons (pv 4) pa_nil))) pa_nil)))) pss_never) pss_nil) (pss_cons (ps_if (pt_cmpR op_eq (pe_ix (ix_tupK (K := K)) (pv 3) pe_int (fun _ _ => rfl)) pe_str (nomark _)) (pss_cons (ps_ret (pe_tup (pa_cons (pv 1) (pa_cons (pe_fn G_cut (hr.mono (by decide)) (by rfl) (pa_cons (pv 2) (pa_cons (pv 4) pa_nil))) pa_nil)))) pss_never) pss_nil) (pss_cons (ps_if (PW.pt (pw_and (pt_cmpR op_eq (pe_ix (ix_tupK (K := K)) (pv 3) pe_int (fun _ _ => rfl)) pe_str (nomark _)) (pw_and (pt_cmpR op_gt (pv 1) pe_int (nomark _)) (pw_and1 (pt_chain op_le op_lt pe_int (pv 4) (pe_callB (call_lenK (K := K)) (by rfl) T.len (by decide +kernel) (pa_cons (pv 2) pa_nil))))))) (pss_cons (ps_ret (pe_tup (pa_cons (pe_op op_sub (pv 1) pe_int) (pa_cons (pe_op op_cat (pe_slice (sl_listK (K := K)) (pv 2) po_none (po_some (pe_op op_add (pv 4) pe_int))) (pe_slice (sl_listK (K := K)) (pv 2) (po_some (pv 4)) po_none)) pa_nil)))) pss_never) pss_nil) (pss_cons (ps_ret (pe_tup (pa_cons (pv 1) (pa_cons pe_non pa_nil)))) pss_never)))))))), fun a => ?_⟩), hg, F.kp, F.bindsN fun _ _ _ _ _ _ us hl => match us, hl with | [_, _, _, _], _ => rfl⟩
  obtain ⟨v_pegs, v_rings, v_row, v_trade⟩ := a
  exact (show BX K _ [.sh (PyData.int v_pegs), .sh (PyData.int v_rings), .sh ((eL PyData.int) v_row), .sh (eD v_trade), .un] encR_p_behind (p_behind v_pegs v_rings v_row v_trade) from
   (bx_bind fun u1 hu1 => (bx_bind fun c4 hc4 => (bx_ifRet ((eto_and (eto_some (et_of (ex_eqI (ex_lenD (ex_var (i := 3) rfl) hu1) ex_int))) (eto_bind fun u2 hu2 => (eto_bind fun u3 hu3 => (eto_some (et_of (ex_eqS (ex_is (ex_ixD (ex_var (i := 3) rfl) ex_int hu2) (decS_ok hu3)) (ex_str (Nat.le_of_ble_eq_true rfl)))))))) c4 hc4) (fun _ => (bx_bind fun u5 hu5 => (bx_bind fun u6 hu6 => (bx_bind fun u7 hu7 => (bx_bind fun u8 hu8 => (bx_bind fun u9 hu9 => (bx_retS (ex_tup (ea_cons (ex_var (i := 1) rfl) (ea_cons (ex_call (ea_cons (ex_var (i := 0) rfl) (ea_cons (ex_var (i := 2) rfl) (ea_cons (ex_is (ex_ixD (ex_var (i := 3) rfl) ex_int hu5) (decI_ok hu7)) (ea_cons (ex_is (ex_ixD (ex_var (i := 3) rfl) ex_int hu6) (decI_ok hu8)) ea_nil)))) ⟨(v_pegs, v_row, u7, u8), u9, rfl, hu9, rfl⟩) ea_nil)) (Nat.le_of_ble_eq_true rfl)) rfl))))))) (fun _ _ _ h => nomatch h) (fun _ => (bx_bind fun u10 hu10 => (bx_ifRet (et_of (ex_neI (ex_lenD (ex_var (i := 3) rfl) hu10) ex_int)) (fun _ => (bx_retS (ex_tup (ea_cons (ex_var (i := 1) rfl) (ea_cons ex_non ea_nil)) (Nat.le_of_ble_eq_true rfl)) rfl)) (fun _ _ _ h => nomatch h) (fun _ => (bx_bind fun u11 hu11 => (bx_asg (d := eD u11) (ex_ixD (ex_var (i := 3) rfl) ex_int hu11) (EGc.eg (egc_name (i := 4) (vs := [4]) (by decide))) (bx_bind fun u12 hu12 => (bx_bind fun u13 hu13 => (bx_ifRet (et_of (ex_eqS (ex_is (ex_ixD (ex_var (i := 3) rfl) ex_int hu12) (decS_ok hu13)) (ex_str (Nat.le_of_ble_eq_true rfl)))) (fun _ => (bx_bind fun u14 hu14 => (bx_bind fun u15 hu15 => (bx_retS (ex_tup (ea_cons (ex_var (i := 1) rfl) (ea_cons (ex_call (ea_cons (ex_var (i := 2) rfl) (ea_cons (ex_is (ex_var (i := 4) rfl) (decI_ok hu14)) ea_nil)) ⟨(v_row, u14), u15, rfl, hu15, rfl⟩) ea_nil)) (Nat.le_of_ble_eq_true rfl)) rfl)))) (fun _ _ _ h => nomatch h) (fun _ => (bx_bind fun u16 hu16 => (bx_bind fun u17 hu17 => (bx_ifRet (et_of (ex_eqS (ex_is (ex_ixD (ex_var (i := 3) rfl) ex_int hu16) (decS_ok hu17)) (ex_str (Nat.le_of_ble_eq_true rfl)))) (fun _ => (bx_bind fun u18 hu18 => (bx_bind fun u19 hu19 => (bx_retS (ex_tup (ea_cons (ex_add (ex_var (i := 1) rfl) ex_int) (ea_cons (ex_call (ea_cons (ex_var (i := 2) rfl) (ea_cons (ex_is (ex_var (i := 4) rfl) (decI_ok hu18)) ea_nil)) ⟨(v_row, u18), u19, rfl, hu19, rfl⟩) ea_nil)) (Nat.le_of_ble_eq_true rfl)) rfl)))) (fun _ _ _ h => nomatch h) (fun _ => (bx_bind fun u20 hu20 => (bx_bind fun u21 hu21 => (bx_ifRet (et_of (ex_eqS (ex_is (ex_ixD (ex_var (i := 3) rfl) ex_int hu20) (decS_ok hu21)) (ex_str (Nat.le_of_ble_eq_true rfl)))) (fun _ => (bx_bind fun u22 hu22 => (bx_bind fun u23 hu23 => (bx_retS (ex_tup (ea_cons (ex_var (i := 1) rfl) (ea_cons (ex_call (ea_cons (ex_var (i := 2) rfl) (ea_cons (ex_is (ex_var (i := 4) rfl) (decI_ok hu22)) ea_nil)) ⟨(v_row, u22), u23, rfl, hu23, rfl⟩) ea_nil)) (Nat.le_of_ble_eq_true rfl)) rfl)))) (fun _ _ _ h => nomatch h) (fun _ => (bx_bind fun u24 hu24 => (bx_bind fun u25 hu25 => (bx_bind fun c27 hc27 => (bx_ifRet ((eto_and (eto_some (et_of (ex_eqS (ex_is (ex_ixD (ex_var (i := 3) rfl) ex_int hu24) (decS_ok hu25)) (ex_str (Nat.le_of_ble_eq_true rfl))))) (eto_and (eto_some (et_of (ex_gt (ex_var (i := 1) rfl) ex_int))) (eto_bind fun u26 hu26 => (eto_some (et_of (ex_chain (p := fun i j => decide (i ≤ j)) (p' := fun i j => decide (i < j)) (fun _ _ => rfl) (fun _ _ => rfl) ex_int (ex_is (ex_var (i := 4) rfl) (decI_ok hu26)) (ex_lenL (EX.l (ex_var (i := 2) rfl))))))))) c27 hc27) (fun _ => (bx_bind fun u28 hu28 => (bx_bind fun u29 hu29 => (bx_bind fun g30 hg30 => (bx_retS (ex_tup (ea_cons (ex_sub (ex_var (i := 1) rfl) ex_int) (ea_cons (EXw.sh (exw_catT (EXw.l (exw_sl (EX.l (ex_var (i := 2) rfl)) eo_none (eo_some (ex_add (ex_is (ex_var (i := 4) rfl) (decI_ok hu28)) ex_int)))) (EXw.l (exw_sl (EX.l (ex_var (i := 2) rfl)) (eo_some (ex_is (ex_var (i := 4) rfl) (decI_ok hu29))) eo_none)) (grd_ok hg30))) ea_nil)) (Nat.le_of_ble_eq_true rfl)) rfl))))) (fun _ _ _ h => nomatch h) (fun _ => (bx_retS (ex_tup (ea_cons (ex_var (i := 1) rfl) (ea_cons ex_non ea_nil)) (Nat.le_of_ble_eq_true rfl)) rfl))))))))))))))))))))))))))))
abbrev encR_p_walked (y : (Int × (Option (List Int)))) : Out := .rt (.sh ((eP PyData.int (eO (eL PyData.int))) y))
abbrev st_p_walked : Stmt := top 102
abbrev NN_p_walked : List Str := ["pegs", "rings", "row", "trades", "found", "place", "trade"]
theorem sc_p_walked : FnScope NN_p_walked ["pegs", "rings", "row", "trades"] (defScope st_p_walked) := ⟨rfl, rfl, rfl, by decide +kernel, rfl, by decide +kernel, by decide +kernel⟩
abbrev I_p_walked : List PyData → Rv → Prop := Im (fun (a : (Int × Int × (List Int) × (List PyData))) => [PyData.int a.1, PyData.int a.2.1, (eL PyData.int) a.2.2.1, (eL eD) a.2.2.2]) (fun (y : (Int × (Option (List Int)))) => Rv.sh ((eP PyData.int (eO (eL PyData.int))) y)) (fun a => p_walked a.1 a.2.1 a.2.2.1 a.2.2.2)
theorem fn_p_walked {P : Program} {w : World} {K : PySem.W.Frag} {mg : Str → Option Value} {base : Heap} {f : Addr} {fd : FuncData} (F : FunD K "walked" "walked" (defArgs st_p_walked) (defBody st_p_walked) (defScope st_p_walked) [] [] f fd) (hg : mg "walked" = some (.ref f)) (T : Tx K mg) (G_ask_row : Fn P w K mg base "ask_row" 2 I_p_ask_row) (G_behind : Fn P w K mg base "behind" 3 I_p_behind) : Fn P w K mg base "walked" 4 I_p_walked := by
  refine ⟨f, fd, ["pegs", "rings", "row", "trades"], fn_ok (N := NN_p_walked) (en := encR_p_walked) F sc_p_walked (fun _ => rfl) (fun _ => .inl rfl) (fun cdv A' outer s H E hr => ⟨_, (pss_cons (ps_expr (pe_fn G_ask_row (hr.mono (by decide)) (by rfl) (pa_cons (pv 0) (pa_cons (pv 2) pa_nil)))) (pss_cons (ps_set (i := 4) sc_p_walked.nd rfl (by first | exact Or.inl rfl | exact Or.inr rfl) (pe_tup (pa_cons (pv 1) (pa_cons (pe_callTy (call_listK (K := K)) (by rfl) T.list (by decide +kernel) (pa_cons (pv 2) pa_nil)) pa_nil)))) (pss_cons (ps_for PassesOwn.never rfl (pi_enumK (K := K) (by rfl) T.enumerate (pa_cons (pv 3) pa_nil)) (pg_tupK (K := K) (n := 2) (by rfl) (pgs_cons (pg_name (i := 5) sc_p_walked.nd rfl (by first | exact Or.inl rfl | exact Or.inr rfl)) (pgs_cons (pg_name (i := 6) sc_p_walked.nd rfl (by first | exact Or.inl rfl | exact Or.inr rfl)) pgs_nil))) (pss_cons (ps_set (i := 4) sc_p_walked.nd rfl (by first | exact Or.inl rfl | exact Or.inr rfl) (pe_fn G_behind (hr.mono (by decide)) (by rfl) (pa_cons (pv 0) (pa_cons (pe_ix (ix_tupK (K := K)) (pv 4) pe_int (fun _ _ => rfl)) (pa_cons (pe_ix (ix_tupK (K := K)) (pv 4) pe_int (fun _ _ => rfl)) (pa_cons (pv 6) pa_nil)))))) (pss_cons (ps_if (pt_cmpR op_isN (pe_ix (ix_tupK (K := K)) (pv 4) pe_int (fun _ _ => rfl)) pe_non (nomark _)) pss_never pss_nil) pss_nil))) (pss_cons (ps_ret (pv 4)) pss_never)))), fun a => ?_⟩), hg, F.kp, F.bindsN fun _ _ _ _ _ _ us hl => match us, hl with | [_, _, _, _], _ => rfl⟩
  obtain ⟨v_pegs, v_rings, v_row, v_trades⟩ := a
  exact (show BX K _ [.sh (PyData.int v_pegs), .sh (PyData.int v_rings), .sh ((eL PyData.int) v_row), .sh ((eL eD) v_trades), .un, .un, .un] encR_p_walked (p_walked v_pegs v_rings v_row v_trades) from
   (bx_bind fun u1 hu1 => (bx_drop (ex_call (ea_cons (ex_var (i := 0) rfl) (ea_cons (ex_var (i := 2) rfl) ea_nil)) ⟨(v_pegs, v_row), u1, rfl, hu1, rfl⟩) (bx_asgB (e := (eP PyData.int (eO (eL PyData.int)))) (i := 4) (ex_tup (ea_cons (ex_var (i := 1) rfl) (ea_cons (EXw.sh (exw_listL (EX.l (ex_var (i := 2) rfl)))) ea_nil)) (Nat.le_of_ble_eq_true rfl)) (fun v_found_2 => (bx_then (envS := (fun (s_1 : (Int × (Option (List Int)))) => [.sh (PyData.int v_pegs), .sh (PyData.int v_rings), .sh ((eL PyData.int) v_row), .sh ((eL eD) v_trades), .sh ((eP PyData.int (eO (eL PyData.int))) s_1), .un, .un])) (bx_forS (envS := (fun (s_1 : (Int × (Option (List Int)))) => [.sh (PyData.int v_pegs), .sh (PyData.int v_rings), .sh ((eL PyData.int) v_row), .sh ((eL eD) v_trades), .sh ((eP PyData.int (eO (eL PyData.int))) s_1), .un, .un])) (e := (eP PyData.int eD)) (envB := (fun (s_1 : (Int × (Option (List Int)))) (x3 : (Int × PyData)) => [.sh (PyData.int v_pegs), .sh (PyData.int v_rings), .sh ((eL PyData.int) v_row), .sh ((eL eD) v_trades), .sh ((eP PyData.int (eO (eL PyData.int))) s_1), .sh (PyData.int x3.1), .sh (eD x3.2)])) (f := (p_walked_for1 v_pegs)) (eis_enumL (ex_var (i := 3) rfl)) (.same (.same (.same (.same (.same (.un (.un .nil))))))) (fun s_1 x3 _ => EGc.eg (vs := [5, 6]) (egc_tup (egs_cons (egc_name (i := 5) (by decide)) (egs_cons (egc_name (i := 6) (by decide)) egs_nil)) rfl)) (fun s_1 x3 _ => (bx_bind fun u4 hu4 => (bx_bind fun u5 hu5 => (bx_asg (d := (eP PyData.int (eO (eL PyData.int))) u5) (ex_call (ea_cons (ex_var (i := 0) rfl) (ea_cons (ex_ixT (ex_var (i := 4) rfl) ex_int rfl) (ea_cons (ex_is (ex_ixT (ex_var (i := 4) rfl) ex_int rfl) (congrArg (eO (eL PyData.int)) hu4)) (ea_cons (ex_var (i := 6) rfl) ea_nil)))) ⟨(v_pegs, s_1.1, u4, x3.2), u5, rfl, hu5, rfl⟩) (EGc.eg (egc_name (i := 4) (vs := [4]) (by decide))) (bx_ifNo (et_of (ex_isNO (e := (eL PyData.int)) (m := u5.2) (ex_ixT (ex_var (i := 4) rfl) ex_int rfl))) (fun _ => (bx_nx (.same (.same (.same (.same (.same (.un (.un .nil))))))) rfl)))))))) (fun s6 _ => (bx_retS (ex_var (i := 4) rfl) rfl))))))))
abbrev encE_x_walked (E : XK) (x : Exn) : Out := .ex [.un, .un, .un, .un, .un, .un, .un] x fun c d _ H => E c d H
abbrev encX_x_walked (E : XK) (z : Except Exn (Int × (Option (List Int)))) : Out := match z with
  | .ok y => .rt (.sh ((eP PyData.int (eO (eL PyData.int))) y))
  | .error x => .ex [.un, .un, .un, .un, .un, .un, .un] x fun c d _ H => E c d H
abbrev st_x_walked : Stmt := top 102
abbrev NN_x_walked : List Str := ["pegs", "rings", "row", "trades", "found", "place", "trade"]
theorem sc_x_walked : FnScope NN_x_walked ["pegs", "rings", "row", "trades"] (defScope st_x_walked) := ⟨rfl, rfl, rfl, by decide +kernel, rfl, by decide +kernel, by decide +kernel⟩
abbrev I_x_walked : List PyData → Rv ⊕ Exn → Prop := ImX (fun (a : (Int × Int × (List Int) × (List PyData))) => [PyData.int a.1, PyData.int a.2.1, (eL PyData.int) a.2.2.1, (eL eD) a.2.2.2]) (fun (y : (Int × (Option (List Int)))) => Rv.sh ((eP PyData.int (eO (eL PyData.int))) y)) (fun a => x_walked a.1 a.2.1 a.2.2.1 a.2.2.2)
theorem fn_x_walked {P : Program} {w : World} {K : PySem.W.Frag} {mg : Str → Option Value} {base : Heap} {f : Addr} {fd : FuncData} (F : FunD K "walked" "walked" (defArgs st_x_walked) (defBody st_x_walked) (defScope st_x_walked) [] [] f fd) (hg : mg "walked" = some (.ref f)) (T : Tx K mg) (G_x_ask_row : FnX P w K mg base "ask_row" 2 I_x_ask_row) (G_behind : Fn P w K mg base "behind" 3 I_p_behind) (X_BadTrade : ExI P w K mg base "at" "BadTrade") : FnX P w K mg base "walked" 4 I_x_walked := by
  refine ⟨f, fd, ["pegs", "rings", "row", "trades"], fn_okX (N := NN_x_walked) (en := encX_x_walked) F sc_x_walked (fun _ => rfl) (fun _ _ => .inl rfl) (fun _ _ => ⟨_, rfl⟩) (fun cdv A' outer s H E hr => ⟨_, (pss_cons (ps_expr (pe_fnX (K := K) G_x_ask_row (L2N.takes_of rfl rfl rfl rfl) (hr.mono (by decide)) (by rfl) (pa_cons (pv 0) (pa_cons (pv 2) pa_nil)))) (pss_cons (ps_set (i := 4) sc_x_walked.nd rfl (by first | exact Or.inl rfl | exact Or.inr rfl) (pe_tup (pa_cons (pv 1) (pa_cons (pe_callTy (call_listK (K := K)) (by rfl) T.list (by decide +kernel) (pa_cons (pv 2) pa_nil)) pa_nil)))) (pss_cons (ps_for (passes_of (by rfl)) rfl (pi_enumK (K := K) (by rfl) T.enumerate (pa_cons (pv 3) pa_nil)) (pg_tupK (K := K) (n := 2) (by rfl) (pgs_cons (pg_name (i := 5) sc_x_walked.nd rfl (by first | exact Or.inl rfl | exact Or.inr rfl)) (pgs_cons (pg_name (i := 6) sc_x_walked.nd rfl (by first | exact Or.inl rfl | exact Or.inr rfl)) pgs_nil))) (pss_cons (ps_set (i := 4) sc_x_walked.nd rfl (by first | exact Or.inl rfl | exact Or.inr rfl) (pe_fn G_behind (hr.mono (by decide)) (by rfl) (pa_cons (pv 0) (pa_cons (pe_ix (ix_tupK (K := K)) (pv 4) pe_int (fun _ _ => rfl)) (pa_cons (pe_ix (ix_tupK (K := K)) (pv 4) pe_int (fun _ _ => rfl)) (pa_cons (pv 6) pa_nil)))))) (pss_cons (ps_if (pt_cmpR op_isN (pe_ix (ix_tupK (K := K)) (pv 4) pe_int (fun _ _ => rfl)) pe_non (nomark _)) (pss_cons (ps_raiseF (K := K) rfl X_BadTrade (L2N.takes_of rfl rfl rfl rfl) (hr.mono (by decide)) (by rfl) (pa_cons (pv 5) pa_nil) (by rfl)) pss_never) pss_nil) pss_nil))) (pss_cons (ps_ret (pv 4)) pss_never)))), fun a => ?_⟩), hg, F.kp, F.bindsN fun _ _ _ _ _ _ us hl => match us, hl with | [_, _, _, _], _ => rfl⟩
  obtain ⟨v_pegs, v_rings, v_row, v_trades⟩ := a
  exact (show BX K _ [.sh (PyData.int v_pegs), .sh (PyData.int v_rings), .sh ((eL PyData.int) v_row), .sh ((eL eD) v_trades), .un, .un, .un] (encX_x_walked E) (x_walked v_pegs v_rings v_row v_trades) from
   (bx_bindX (fun e he => (bx_errDrop (err_callX (ea_cons (ex_var (i := 0) rfl) (ea_cons (ex_var (i := 2) rfl) ea_nil)) ⟨(v_pegs, v_row), .error e, rfl, he, rfl⟩) rfl (.un (.un (.un (.un (.un (.un (.un .nil))))))))) (fun u1 hu1 => (bx_drop (ex_callX (ea_cons (ex_var (i := 0) rfl) (ea_cons (ex_var (i := 2) rfl) ea_nil)) ⟨(v_pegs, v_row), .ok u1, rfl, hu1, rfl⟩) (bx_asgB (e := (eP PyData.int (eO (eL PyData.int)))) (i := 4) (ex_tup (ea_cons (ex_var (i := 1) rfl) (ea_cons (EXw.sh (exw_listL (EX.l (ex_var (i := 2) rfl)))) ea_nil)) (Nat.le_of_ble_eq_true rfl)) (fun v_found_2 => (bx_bindR (envS := (fun (s_1 : (Int × (Option (List Int)))) => [.sh (PyData.int v_pegs), .sh (PyData.int v_rings), .sh ((eL PyData.int) v_row), .sh ((eL eD) v_trades), .sh ((eP PyData.int (eO (eL PyData.int))) s_1), .un, .un])) (encR := (encX_x_walked E)) (bx_forR (encR := (encX_x_walked E)) (envS := (fun (s_1 : (Int × (Option (List Int)))) => [.sh (PyData.int v_pegs), .sh (PyData.int v_rings), .sh ((eL PyData.int) v_row), .sh ((eL eD) v_trades), .sh ((eP PyData.int (eO (eL PyData.int))) s_1), .un, .un])) (e := (eP PyData.int eD)) (envB := (fun (s_1 : (Int × (Option (List Int)))) (x3 : (Int × PyData)) => [.sh (PyData.int v_pegs), .sh (PyData.int v_rings), .sh ((eL PyData.int) v_row), .sh ((eL eD) v_trades), .sh ((eP PyData.int (eO (eL PyData.int))) s_1), .sh (PyData.int x3.1), .sh (eD x3.2)])) (f := (x_walked_for1 v_pegs)) (eis_enumL (ex_var (i := 3) rfl)) (.same (.same (.same (.same (.same (.un (.un .nil))))))) (fun r => by cases r <;> trivial) (fun s_1 x3 _ => EGc.eg (vs := [5, 6]) (egc_tup (egs_cons (egc_name (i := 5) (by decide)) (egs_cons (egc_name (i := 6) (by decide)) egs_nil)) rfl)) (fun s_1 x3 _ => (bx_bind fun u4 hu4 => (bx_bind fun u5 hu5 => (bx_asg (d := (eP PyData.int (eO (eL PyData.int))) u5) (ex_call (ea_cons (ex_var (i := 0) rfl) (ea_cons (ex_ixT (ex_var (i := 4) rfl) ex_int rfl) (ea_cons (ex_is (ex_ixT (ex_var (i := 4) rfl) ex_int rfl) (congrArg (eO (eL PyData.int)) hu4)) (ea_cons (ex_var (i := 6) rfl) ea_nil)))) ⟨(v_pegs, s_1.1, u4, x3.2), u5, rfl, hu5, rfl⟩) (EGc.eg (egc_name (i := 4) (vs := [4]) (by decide))) (bx_ifRetM (encR := (encX_x_walked E)) (et_of (ex_isNO (e := (eL PyData.int)) (m := u5.2) (ex_ixT (ex_var (i := 4) rfl) ex_int rfl))) (fun _ => (bx_raiseF (W := (fun c d _ H => E c d H)) T.oex_BadTrade (ea_cons (ex_var (i := 5) rfl) ea_nil) rfl (.un (.un (.un (.un (.un (.un (.un .nil))))))))) (fun r e h => by cases r <;> cases h) (fun _ => rfl) (fun _ => (bx_nx (.same (.same (.same (.same (.same (.un (.un .nil))))))) rfl)))))))) (fun _ => rfl) (fun r e h => by cases r <;> cases h) (fun s6 _ => (bx_retS (ex_var (i := 4) rfl) rfl)))))))))
abbrev encR_p_traded (y : (Int × (Option (List Int)))) : Out := .rt (.sh ((eP PyData.int (eO (eL PyData.int))) y))
abbrev st_p_traded : Stmt := top 103
abbrev NN_p_traded : List Str := ["pegs", "rings", "row", "trade"]
theorem sc_p_traded : FnScope NN_p_traded ["pegs", "rings", "row", "trade"] (defScope st_p_traded) := ⟨rfl, rfl, rfl, by decide +kernel, rfl, by decide +kernel, by decide +kernel⟩
abbrev I_p_traded : List PyData → Rv → Prop := Im (fun (a : (Int × Int × (List Int) × PyData)) => [PyData.int a.1, PyData.int a.2.1, (eL PyData.int) a.2.2.1, eD a.2.2.2]) (fun (y : (Int × (Option (List Int)))) => Rv.sh ((eP PyData.int (eO (eL PyData.int))) y)) (fun a => p_traded a.1 a.2.1 a.2.2.1 a.2.2.2)
theorem fn_p_traded {P : Program} {w : World} {K : PySem.W.Frag} {mg : Str → Option Value} {base : Heap} {f : Addr} {fd : FuncData} (F : FunD K "traded" "traded" (defArgs st_p_traded) (defBody st_p_traded) (defScope st_p_traded) [] [] f fd) (hg : mg "traded" = some (.ref f)) (T : Tx K mg) (G_walked : Fn P w K mg base "walked" 4 I_p_walked) : Fn P w K mg base "traded" 5 I_p_traded := by
  refine ⟨f, fd, ["pegs", "rings", "row", "trade"], fn_ok (N := NN_p_traded) (en := encR_p_traded) F sc_p_traded (fun _ => rfl) (fun _ => .inl rfl) (fun cdv A' outer s H E hr => ⟨_, (pss_cons (ps_ret (pe_fn G_walked (hr.mono (by decide)) (by rfl) (pa_cons (pv 0) (pa_cons (pv 1) (pa_cons (pv 2) (pa_cons (pe_lst (pa_cons (pv 3) pa_nil)) pa_nil)))))) pss_never), fun a => ?_⟩), hg, F.kp, F.bindsN fun _ _ _ _ _ _ us hl => match us, hl with | [_, _, _, _], _ => rfl⟩
  obtain ⟨v_pegs, v_rings, v_row, v_trade⟩ := a
  exact (show BX K _ [.sh (PyData.int v_pegs), .sh (PyData.int v_rings), .sh ((eL PyData.int) v_row), .sh (eD v_trade)] encR_p_traded (p_traded v_pegs v_rings v_row v_trade) from
   (bx_bind fun u1 hu1 => (bx_retS (ex_call (ea_cons (ex_var (i := 0) rfl) (ea_cons (ex_var (i := 1) rfl) (ea_cons (ex_var (i := 2) rfl) (ea_cons (EXw.sh (exw_lst (ds := ([v_trade] : (List PyData)).map eD) (ea_cons (ex_var (i := 3) rfl) ea_nil) (Nat.le_of_ble_eq_true rfl))) ea_nil)))) ⟨(v_pegs, v_rings, v_row, ([v_trade])), u1, rfl, hu1, rfl⟩) rfl)))
abbrev encE_x_traded (E : XK) (x : Exn) : Out := .ex [.un, .un, .un, .un] x fun c d _ H => E c d H
abbrev encX_x_traded (E : XK) (z : Except Exn (Int × (Option (List Int)))) : Out := match z with
  | .ok y => .rt (.sh ((eP PyData.int (eO (eL PyData.int))) y))
  | .error x => .ex [.un, .un, .un, .un] x fun c d _ H => E c d H
abbrev st_x_traded : Stmt := top 103
abbrev NN_x_traded : List Str := ["pegs", "rings", "row", "trade"]
theorem sc_x_traded : FnScope NN_x_traded ["pegs", "rings", "row", "trade"] (defScope st_x_traded) := ⟨rfl, rfl, rfl, by decide +kernel, rfl, by decide +kernel, by decide +kernel⟩
abbrev I_x_traded : List PyData → Rv ⊕ Exn → Prop := ImX (fun (a : (Int × Int × (List Int) × PyData)) => [PyData.int a.1, PyData.int a.2.1, (eL PyData.int) a.2.2.1, eD a.2.2.2]) (fun (y : (Int × (Option (List Int)))) => Rv.sh ((eP PyData.int (eO (eL PyData.int))) y)) (fun a => x_traded a.1 a.2.1 a.2.2.1 a.2.2.2)
theorem fn_x_traded {P : Program} {w : World} {K : PySem.W.Frag} {mg : Str → Option Value} {base : Heap} {f : Addr} {fd : FuncData} (F : FunD K "traded" "traded" (defArgs st_x_traded) (defBody st_x_traded) (defScope st_x_traded) [] [] f fd) (hg : mg "traded" = some (.ref f)) (T : Tx K mg) (G_x_walked : FnX P w K mg base "walked" 4 I_x_walked) : FnX P w K mg base "traded" 5 I_x_traded := by
  refine ⟨f, fd, ["pegs", "rings", "row", "trade"], fn_okX (N := NN_x_traded) (en := encX_x_traded) F sc_x_traded (fun _ => rfl) (fun _ _ => .inl rfl) (fun _ _ => ⟨_, rfl⟩) (fun cdv A' outer s H E hr => ⟨_, (pss_cons (ps_ret (pe_fnX (K := K) G_x_walked (L2N.takes_of rfl rfl rfl rfl) (hr.mono (by decide)) (by rfl) (pa_cons (pv 0) (pa_cons (pv 1) (pa_cons (pv 2) (pa_cons (pe_lst (pa_cons (pv 3) pa_nil)) pa_nil)))))) pss_never), fun a => ?_⟩), hg, F.kp, F.bindsN fun _ _ _ _ _ _ us hl => match us, hl with | [_, _, _, _], _ => rfl⟩
  obtain ⟨v_pegs, v_rings, v_row, v_trade⟩ := a
  exact (show BX K _ [.sh (PyData.int v_pegs), .sh (PyData.int v_rings), .sh ((eL PyData.int) v_row), .sh (eD v_trade)] (encX_x_traded E) (x_traded v_pegs v_rings v_row v_trade) from
   (bx_bindX (fun e he => (bx_errRet (err_callX (ea_cons (ex_var (i := 0) rfl) (ea_cons (ex_var (i := 1) rfl) (ea_cons (ex_var (i := 2) rfl) (ea_cons (EXw.sh (exw_lst (ds := ([v_trade] : (List PyData)).map eD) (ea_cons (ex_var (i := 3) rfl) ea_nil) (Nat.le_of_ble_eq_true rfl))) ea_nil)))) ⟨(v_pegs, v_rings, v_row, ([v_trade])), .error e, rfl, he, rfl⟩) rfl (.un (.un (.un (.un .nil)))))) (fun u1 hu1 => (bx_retS (ex_callX (ea_cons (ex_var (i := 0) rfl) (ea_cons (ex_var (i := 1) rfl) (ea_cons (ex_var (i := 2) rfl) (ea_cons (EXw.sh (exw_lst (ds := ([v_trade] : (List PyData)).map eD) (ea_cons (ex_var (i := 3) rfl) ea_nil) (Nat.le_of_ble_eq_true rfl))) ea_nil)))) ⟨(v_pegs, v_rings, v_row, ([v_trade])), .ok u1, rfl, hu1, rfl⟩) rfl))))
abbrev encR_p_like_ahead (y : (Option (Int × (List Int)))) : Out := .rt (.sh ((eO (eP PyData.int (eL PyData.int))) y))
abbrev st_p_like_ahead : Stmt := top 104
abbrev NN_p_like_ahead : List Str := ["row", "last", "between", "first"]
theorem sc_p_like_ahead : FnScope NN_p_like_ahead ["row", "last"] (defScope st_p_like_ahead) := ⟨rfl, rfl, rfl, by decide +kernel, rfl, by decide +kernel, by decide +kernel⟩
abbrev I_p_like_ahead : List PyData → Rv → Prop := Im (fun (a : ((List Int) × Int)) => [(eL PyData.int) a.1, PyData.int a.2]) (fun (y : (Option (Int × (List Int)))) => Rv.sh ((eO (eP PyData.int (eL PyData.int))) y)) (fun a => p_like_ahead a.1 a.2)
theorem fn_p_like_ahead {P : Program} {w : World} {K : PySem.W.Frag} {mg : Str → Option Value} {base : Heap} {f : Addr} {fd : FuncData} (F : FunD K "like_ahead" "like_ahead" (defArgs st_p_like_ahead) (defBody st_p_like_ahead) (defScope st_p_like_ahead) [] [] f fd) (hg : mg "like_ahead" = some (.ref f)) (T : Tx K mg) (G_beside : Fn P w K mg base "beside" 1 I_p_beside) : Fn P w K mg base "like_ahead" 2 I_p_like_ahead := by
  refine ⟨f, fd, ["row", "last"], fn_ok (N := NN_p_like_ahead) (en := encR_p_like_ahead) F sc_p_like_ahead (fun _ => rfl) (fun _ => .inl rfl) (fun cdv A' outer s H E hr => ⟨_, (pss_cons (ps_set (i := 2) sc_p_like_ahead.nd rfl (by first | exact Or.inl rfl | exact Or.inr rfl) (pe_lst pa_nil)) (pss_cons (ps_for PassesOwn.never rfl (pi_range3 (by rfl) T.range (pa_cons (pe_op op_sub (pv 1) pe_int) (pa_cons (pe_un un_neg pe_int) (pa_cons (pe_un un_neg pe_int) pa_nil)))) (pg_name (i := 3) sc_p_like_ahead.nd rfl (by first | exact Or.inl rfl | exact Or.inr rfl)) (pss_cons (ps_if (pt_cmpR op_eq (pe_ix (ix_listK (K := K)) (pv 0) (pv 3) (fun _ _ => rfl)) (pe_ix (ix_listK (K := K)) (pv 0) (pv 1) (fun _ _ => rfl)) (nomark _)) (pss_cons (ps_ret (pe_tup (pa_cons (pv 3) (pa_cons (pv 2) pa_nil)))) pss_never) pss_nil) (pss_cons (ps_if (pt_val (pe_fn G_beside (hr.mono (by decide)) (by rfl) (pa_cons (pe_ix (ix_listK (K := K)) (pv 0) (pv 3) (fun _ _ => rfl)) (pa_cons (pe_ix (ix_listK (K := K)) (pv 0) (pv 1) (fun _ _ => rfl)) pa_nil)))) (pss_cons (ps_expr (pe_bm PySem.F.plainAttrs_list PySem.F.slot_list_append PySem.F.type_list_append mt_append (pv 2) (pa_cons (pv 3) pa_nil))) pss_nil) pss_nil) pss_nil))) (pss_cons (ps_ret pe_non) pss_never))), fun a => ?_⟩), hg, F.kp, F.bindsN fun _ _ _ _ _ _ us hl => match us, hl with | [_, _], _ => rfl⟩
  obtain ⟨v_row, v_last⟩ := a
  exact (show BX K _ [.sh ((eL PyData.int) v_row), .sh (PyData.int v_last), .un, .un] encR_p_like_ahead (p_like_ahead v_row v_last) from
   (bx_asgW (exw_lst (ds := (([] : (List Int)) : (List Int)).map PyData.int) ea_nil (Nat.le_of_ble_eq_true rfl)) (bx_bind fun g1 hg1 => (bx_bindR (envS := (fun (s_1 : (List Int)) => [.sh ((eL PyData.int) v_row), .sh (PyData.int v_last), .ow (s_1.map PyData.int), .un])) (encR := encR_p_like_ahead) (bx_forR (encR := encR_p_like_ahead) (envS := (fun (s_1 : (List Int)) => [.sh ((eL PyData.int) v_row), .sh (PyData.int v_last), .ow (s_1.map PyData.int), .un])) (e := PyData.int) (envB := (fun (s_1 : (List Int)) (x2 : Int) => [.sh ((eL PyData.int) v_row), .sh (PyData.int v_last), .ow (s_1.map PyData.int), .sh (PyData.int x2)])) (f := (p_like_ahead_for1 v_row v_last)) (eis_rng3 (ex_sub (ex_var (i := 1) rfl) ex_int) (ex_neg ex_int) (ex_neg ex_int) (grd_ok hg1) (by decide) (by decide) (by decide)) (.same (.same (.same (.un .nil)))) (fun _ => trivial) (fun s_1 x2 _ => EGc.eg (vs := [3]) (egc_name (i := 3) (by decide))) (fun s_1 x2 _ => (bx_bind fun u3 hu3 => (bx_bind fun u4 hu4 => (bx_ifRetM (encR := encR_p_like_ahead) (et_of (ex_eqI (ex_ixL (EX.l (ex_var (i := 0) rfl)) (ex_var (i := 3) rfl) (atI_map hu3)) (ex_ixL (EX.l (ex_var (i := 0) rfl)) (ex_var (i := 1) rfl) (atI_map hu4)))) (fun _ => (bx_freeze 2 rfl (bx_retS (ex_tup (ea_cons (ex_var (i := 3) rfl) (ea_cons (ex_var (i := 2) rfl) ea_nil)) (Nat.le_of_ble_eq_true rfl)) rfl))) (fun _ _ h => nomatch h) (fun _ => rfl) (fun _ => (bx_bind fun u5 hu5 => (bx_bind fun u6 hu6 => (bx_bind fun u7 hu7 => (bx_last (bx_if (et_B (ex_call (ea_cons (ex_ixL (EX.l (ex_var (i := 0) rfl)) (ex_var (i := 3) rfl) (atI_map hu5)) (ea_cons (ex_ixL (EX.l (ex_var (i := 0) rfl)) (ex_var (i := 1) rfl) (atI_map hu6)) ea_nil)) ⟨(u5, u6), u7, rfl, hu7, rfl⟩)) (fun _ => (bx_bind fun u8 hu8 => (bx_app (e := PyData.int) (x := x2) rfl (ex_var (i := 3) rfl) hu8 (bx_nx (.same (.same (.same (.un .nil)))) rfl)))) (fun _ => (bx_nx (.same (.same (.same (.un .nil)))) rfl))))))))))))) (fun _ => rfl) (fun _ _ h => nomatch h) (fun s9 _ => (bx_retS ex_non rfl))))))
abbrev encR_p_fold (y : (Option (Int × Int × (List Int)))) : Out := .rt (.sh ((eO (eP3 PyData.int PyData.int (eL PyData.int))) y))
abbrev st_p_fold : Stmt := top 105
abbrev NN_p_fold : List Str := ["row", "last", "found"]
theorem sc_p_fold : FnScope NN_p_fold ["row"] (defScope st_p_fold) := ⟨rfl, rfl, rfl, by decide +kernel, rfl, by decide +kernel, by decide +kernel⟩
abbrev I_p_fold : List PyData → Rv → Prop := Im (fun (a : ((List Int))) => [(eL PyData.int) a]) (fun (y : (Option (Int × Int × (List Int)))) => Rv.sh ((eO (eP3 PyData.int PyData.int (eL PyData.int))) y)) (fun a => p_fold a)
theorem fn_p_fold {P : Program} {w : World} {K : PySem.W.Frag} {mg : Str → Option Value} {base : Heap} {f : Addr} {fd : FuncData} (F : FunD K "fold" "fold" (defArgs st_p_fold) (defBody st_p_fold) (defScope st_p_fold) [] [] f fd) (hg : mg "fold" = some (.ref f)) (T : Tx K mg) (G_like_ahead : Fn P w K mg base "like_ahead" 2 I_p_like_ahead) : Fn P w K mg base "fold" 3 I_p_fold := by
  refine ⟨f, fd, ["row"], fn_ok (N := NN_p_fold) (en := encR_p_fold) F sc_p_fold (fun _ => rfl) (fun _ => .inl rfl) (fun cdv A' outer s H E hr => ⟨_, (pss_cons (ps_for PassesOwn.never rfl (pi_range1 (by rfl) T.range (pa_cons (pe_callB (call_lenK (K := K)) (by rfl) T.len (by decide +kernel) (pa_cons (pv 0) pa_nil)) pa_nil)) (pg_name (i := 1) sc_p_fold.nd rfl (by first | exact Or.inl rfl | exact Or.inr rfl)) (pss_cons (ps_set (i := 2) sc_p_fold.nd rfl (by first | exact Or.inl rfl | exact Or.inr rfl) (pe_fn G_like_ahead (hr.mono (by decide)) (by rfl) (pa_cons (pv 0) (pa_cons (pv 1) pa_nil)))) (pss_cons (ps_if (PW.pt (pw_and (pt_cmpR op_notN (pv 2) pe_non (nomark _)) (pw_and1 (pt_cmpR op_lt (pe_callB (call_lenK (K := K)) (by rfl) T.len (by decide +kernel) (pa_cons (pe_ix (ix_tupK (K := K)) (pv 2) pe_int (fun _ _ => rfl)) pa_nil)) pe_int (nomark _))))) (pss_cons (ps_ret (pe_tup (pa_cons (pe_ix (ix_tupK (K := K)) (pv 2) pe_int (fun _ _ => rfl)) (pa_cons (pv 1) (pa_cons (pe_ix (ix_tupK (K := K)) (pv 2) pe_int (fun _ _ => rfl)) pa_nil))))) pss_never) pss_nil) pss_nil))) (pss_cons (ps_ret pe_non) pss_never)), fun v_row => ?_⟩), hg, F.kp, F.bindsN fun _ _ _ _ _ _ us hl => match us, hl with | [_], _ => rfl⟩
  exact (show BX K _ [.sh ((eL PyData.int) v_row), .un, .un] encR_p_fold (p_fold v_row) from
   (bx_bind fun g1 hg1 => (bx_bindR (envS := (fun (s_1 : Unit) => [.sh ((eL PyData.int) v_row), .un, .un])) (encR := encR_p_fold) (bx_forR (encR := encR_p_fold) (envS := (fun (s_1 : Unit) => [.sh ((eL PyData.int) v_row), .un, .un])) (e := PyData.int) (envB := (fun (s_1 : Unit) (x2 : Int) => [.sh ((eL PyData.int) v_row), .sh (PyData.int x2), .un])) (f := (p_fold_for1 v_row)) (eis_rng1 (ex_lenL (EX.l (ex_var (i := 0) rfl))) (grd_ok hg1)) (.same (.un (.un .nil))) (fun _ => trivial) (fun s_1 x2 _ => EGc.eg (vs := [1]) (egc_name (i := 1) (by decide))) (fun s_1 x2 _ => (bx_bind fun u3 hu3 => (bx_asg (d := (eO (eP PyData.int (eL PyData.int))) u3) (ex_call (ea_cons (ex_var (i := 0) rfl) (ea_cons (ex_var (i := 1) rfl) ea_nil)) ⟨(v_row, x2), u3, rfl, hu3, rfl⟩) (EGc.eg (egc_name (i := 2) (vs := [2]) (by decide))) (bx_bind fun c5 hc5 => (bx_ifRetM (encR := encR_p_fold) ((eto_and (eto_some (et_of (ex_notNO (e := (eP PyData.int (eL PyData.int))) (m := u3) (ex_var (i := 2) rfl)))) (eto_bind fun u4 hu4 => (eto_some (et_of (ex_lt (ex_lenL (EX.l (ex_ixT (ex_is (ex_var (i := 2) rfl) (congrArg (eO (eP PyData.int (eL PyData.int))) hu4)) ex_int rfl))) ex_int))))) c5 hc5) (fun _ => (bx_bind fun u6 hu6 => (bx_bind fun u7 hu7 => (bx_retS (ex_tup (ea_cons (ex_ixT (ex_is (ex_var (i := 2) rfl) (congrArg (eO (eP PyData.int (eL PyData.int))) hu6)) ex_int rfl) (ea_cons (ex_var (i := 1) rfl) (ea_cons (ex_ixT (ex_is (ex_var (i := 2) rfl) (congrArg (eO (eP PyData.int (eL PyData.int))) hu7)) ex_int rfl) ea_nil))) (Nat.le_of_ble_eq_true rfl)) rfl)))) (fun _ _ h => nomatch h) (fun _ => rfl) (fun _ => (bx_nx (.same (.un (.un .nil))) rfl)))))))) (fun _ => rfl) (fun _ _ h => nomatch h) (fun s8 _ => (bx_retS ex_non rfl)))))
abbrev encR_p_folding (y : (List PyData)) : Out := .rt (.sh ((eL eD) y))
abbrev st_p_folding : Stmt := top 106
abbrev NN_p_folding : List Str := ["first", "last", "between", "middle", "moves", "at"]
theorem sc_p_folding : FnScope NN_p_folding ["first", "last", "between"] (defScope st_p_folding) := ⟨rfl, rfl, rfl, by decide +kernel, rfl, by decide +kernel, by decide +kernel⟩
abbrev I_p_folding : List PyData → Rv → Prop := Im (fun (a : (Int × Int × (List Int))) => [PyData.int a.1, PyData.int a.2.1, (eL PyData.int) a.2.2]) (fun (y : (List PyData)) => Rv.sh ((eL eD) y)) (fun a => p_folding a.1 a.2.1 a.2.2)
theorem fn_p_folding {P : Program} {w : World} {K : PySem.W.Frag} {mg : Str → Option Value} {base : Heap} {f : Addr} {fd : FuncData} (F : FunD K "folding" "folding" (defArgs st_p_folding) (defBody st_p_folding) (defScope st_p_folding) [] [] f fd) (hg : mg "folding" = some (.ref f)) (T : Tx K mg)  : Fn P w K mg base "folding" 1 I_p_folding := by
  refine ⟨f, fd, ["first", "last", "between"], fn_ok (N := NN_p_folding) (en := encR_p_folding) F sc_p_folding (fun _ => rfl) (fun _ => .inl rfl) (fun cdv A' outer s H E hr => ⟨_, (pss_cons (ps_if (pt_cmpR (op_eqDK (K := K) hr.units) (pv 2) (pe_lst pa_nil) (nomark _)) (pss_cons (ps_ret (pe_op op_cat (pe_lc (own := [("at", 5)]) (tt := tYes) rfl sc_p_folding.nd (pi_range3 (by rfl) T.range (pa_cons (pe_op op_sub (pv 1) pe_int) (pa_cons (pv 0) (pa_cons (pe_un un_neg pe_int) pa_nil)))) (blkOk_by (N := NN_p_folding) (sc := defScope st_p_folding) (by decide +kernel)) (fun _ _ _ _ _ => (pg_name (i := 5) sc_p_folding.nd rfl (by first | exact Or.inl rfl | exact Or.inr rfl))) (fun _ _ _ _ _ => pts_nil) (fun _ _ _ _ _ => (pe_tup (pa_cons pe_str (pa_cons (pv 5) pa_nil))))) (pe_lst (pa_cons (pe_tup (pa_cons pe_str (pa_cons (pv 0) pa_nil))) pa_nil)))) pss_never) pss_nil) (pss_cons (ps_set (i := 3) sc_p_folding.nd rfl (by first | exact Or.inl rfl | exact Or.inr rfl) (pe_ix (ix_listK (K := K)) (pv 2) pe_int (fun _ _ => rfl))) (pss_cons (ps_setLc (i := 4) (own := [("at", 5)]) (tt := tYes) rfl sc_p_folding.nd rfl rfl (sw_true rfl rfl rfl (by decide +kernel)) (pi_range3 (by rfl) T.range (pa_cons (pe_op op_sub (pv 1) pe_int) (pa_cons (pv 3) (pa_cons (pe_un un_neg pe_int) pa_nil)))) (blkOk_by (N := NN_p_folding) (sc := defScope st_p_folding) (by decide +kernel)) (fun _ _ _ _ _ => (pg_name (i := 5) sc_p_folding.nd rfl (by first | exact Or.inl rfl | exact Or.inr rfl))) (fun _ _ _ _ _ => pts_nil) (fun _ _ _ _ _ => (pe_tup (pa_cons pe_str (pa_cons (pv 5) pa_nil))))) (pss_cons (ps_ret (pe_op op_cat (pe_op op_cat (pv 4) (pe_lc (own := [("at", 5)]) (tt := tYes) rfl sc_p_folding.nd (pi_range2 (by rfl) T.range (pa_cons (pv 0) (pa_cons (pe_op op_sub (pv 3) pe_int) pa_nil))) (blkOk_by (N := NN_p_folding) (sc := defScope st_p_folding) (by decide +kernel)) (fun _ _ _ _ _ => (pg_name (i := 5) sc_p_folding.nd rfl (by first | exact Or.inl rfl | exact Or.inr rfl))) (fun _ _ _ _ _ => pts_nil) (fun _ _ _ _ _ => (pe_tup (pa_cons pe_str (pa_cons (pv 5) pa_nil)))))) (pe_lst (pa_cons (pe_tup (pa_cons pe_str (pa_cons (pe_op op_sub (pv 3) pe_int) pa_nil))) pa_nil)))) pss_never)))), fun a => ?_⟩), hg, F.kp, F.bindsN fun _ _ _ _ _ _ us hl => match us, hl with | [_, _, _], _ => rfl⟩
  obtain ⟨v_first, v_last, v_between⟩ := a
  exact (show BX K _ [.sh (PyData.int v_first), .sh (PyData.int v_last), .sh ((eL PyData.int) v_between), .un, .un, .un] encR_p_folding (p_folding v_first v_last v_between) from
   (bx_ifRet (et_of (ex_eqT (x := (v_between : (List Int))) (y := (([] : (List Int)) : (List Int))) (EnOk.list EnOk.int) (EX.q (ex_var (i := 2) rfl)) (EXl.q (EXw.l (exw_lst (ds := (([] : (List Int)) : (List Int)).map PyData.int) ea_nil (Nat.le_of_ble_eq_true rfl)))))) (fun _ => (bx_bind fun g1 hg1 => (bx_bind fun g2 hg2 => (bx_bind fun g4 hg4 => (bx_retS (EXw.sh (exw_catT (EXw.l (exw_lcm (e := PyData.int) (e' := eD) (envB := (fun x3 => [.sh (PyData.int v_first), .sh (PyData.int v_last), .sh ((eL PyData.int) v_between), .un, .un, .sh (PyData.int x3)])) (EIs.i (eis_rng3 (ex_sub (ex_var (i := 1) rfl) ex_int) (ex_var (i := 0) rfl) (ex_neg ex_int) (grd_ok hg1) (grd_ok hg2) (by decide) (by decide))) (fun x3 _ => (egc_name (i := 5) (by decide))) (fun x3 _ => (ex_tup (ea_cons (ex_str (Nat.le_of_ble_eq_true rfl)) (ea_cons (ex_var (i := 5) rfl) ea_nil)) (Nat.le_of_ble_eq_true rfl))))) (EXw.l (exw_lst (ds := ([((eP PyData.str PyData.int) ((Str.ofString "drop"), v_first))] : (List PyData)).map eD) (ea_cons (ex_tup (ea_cons (ex_str (Nat.le_of_ble_eq_true rfl)) (ea_cons (ex_var (i := 0) rfl) ea_nil)) (Nat.le_of_ble_eq_true rfl)) ea_nil) (Nat.le_of_ble_eq_true rfl))) (grd_ok hg4))) rfl))))) (fun _ _ _ h => nomatch h) (fun _ => (bx_bind fun u5 hu5 => (bx_asg (d := PyData.int u5) (ex_ixL (EX.l (ex_var (i := 2) rfl)) ex_int (atI_map hu5)) (EGc.eg (egc_name (i := 3) (vs := [3]) (by decide))) (bx_bind fun g6 hg6 => (bx_bind fun g7 hg7 => (bx_asgB (e := (eL eD)) (i := 4) (EXw.sh (exw_lcm (e := PyData.int) (e' := eD) (envB := (fun x8 => [.sh (PyData.int v_first), .sh (PyData.int v_last), .sh ((eL PyData.int) v_between), .sh (PyData.int u5), .un, .sh (PyData.int x8)])) (EIs.i (eis_rng3 (ex_sub (ex_var (i := 1) rfl) ex_int) (ex_var (i := 3) rfl) (ex_neg ex_int) (grd_ok hg6) (grd_ok hg7) (by decide) (by decide))) (fun x8 _ => (egc_name (i := 5) (by decide))) (fun x8 _ => (ex_tup (ea_cons (ex_str (Nat.le_of_ble_eq_true rfl)) (ea_cons (ex_var (i := 5) rfl) ea_nil)) (Nat.le_of_ble_eq_true rfl))))) (fun v_moves_9 => (bx_bind fun g10 hg10 => (bx_bind fun g11 hg11 => (bx_bind fun g13 hg13 => (bx_bind fun g14 hg14 => (bx_retS (EXw.sh (exw_catT (EXw.l (exw_catT (EX.l (ex_var (i := 4) rfl)) (EXw.l (exw_lcm (e := PyData.int) (e' := eD) (envB := (fun x12 => [.sh (PyData.int v_first), .sh (PyData.int v_last), .sh ((eL PyData.int) v_between), .sh (PyData.int u5), .sh ((eL eD) v_moves_9), .sh (PyData.int x12)])) (EIs.i (eis_rng2 (ex_var (i := 0) rfl) (ex_sub (ex_var (i := 3) rfl) ex_int) (grd_ok hg10) (grd_ok hg11))) (fun x12 _ => (egc_name (i := 5) (by decide))) (fun x12 _ => (ex_tup (ea_cons (ex_str (Nat.le_of_ble_eq_true rfl)) (ea_cons (ex_var (i := 5) rfl) ea_nil)) (Nat.le_of_ble_eq_true rfl))))) (grd_ok hg13))) (EXw.l (exw_lst (ds := ([((eP PyData.str PyData.int) ((Str.ofString "cut"), (u5 - (1 : Int))))] : (List PyData)).map eD) (ea_cons (ex_tup (ea_cons (ex_str (Nat.le_of_ble_eq_true rfl)) (ea_cons (ex_sub (ex_var (i := 3) rfl) ex_int) ea_nil)) (Nat.le_of_ble_eq_true rfl)) ea_nil) (Nat.le_of_ble_eq_true rfl))) (grd_ok hg14))) rfl))))))))))))))
abbrev encR_p_out_of_order (y : (Option Int)) : Out := .rt (.sh ((eO PyData.int) y))
abbrev st_p_out_of_order : Stmt := top 107
abbrev NN_p_out_of_order : List Str := ["row", "at"]
theorem sc_p_out_of_order : FnScope NN_p_out_of_order ["row"] (defScope st_p_out_of_order) := ⟨rfl, rfl, rfl, by decide +kernel, rfl, by decide +kernel, by decide +kernel⟩
abbrev I_p_out_of_order : List PyData → Rv → Prop := Im (fun (a : ((List Int))) => [(eL PyData.int) a]) (fun (y : (Option Int)) => Rv.sh ((eO PyData.int) y)) (fun a => p_out_of_order a)
theorem fn_p_out_of_order {P : Program} {w : World} {K : PySem.W.Frag} {mg : Str → Option Value} {base : Heap} {f : Addr} {fd : FuncData} (F : FunD K "out_of_order" "out_of_order" (defArgs st_p_out_of_order) (defBody st_p_out_of_order) (defScope st_p_out_of_order) [] [] f fd) (hg : mg "out_of_order" = some (.ref f)) (T : Tx K mg)  : Fn P w K mg base "out_of_order" 1 I_p_out_of_order := by
  refine ⟨f, fd, ["row"], fn_ok (N := NN_p_out_of_order) (en := encR_p_out_of_order) F sc_p_out_of_order (fun _ => rfl) (fun _ => .inl rfl) (fun cdv A' outer s H E hr => ⟨_, (pss_cons (ps_for PassesOwn.never rfl (pi_range1 (by rfl) T.range (pa_cons (pe_op op_sub (pe_callB (call_lenK (K := K)) (by rfl) T.len (by decide +kernel) (pa_cons (pv 0) pa_nil)) pe_int) pa_nil)) (pg_name (i := 1) sc_p_out_of_order.nd rfl (by first | exact Or.inl rfl | exact Or.inr rfl)) (pss_cons (ps_if (pt_cmpR op_gt (pe_ix (ix_listK (K := K)) (pv 0) (pv 1) (fun _ _ => rfl)) (pe_op op_add (pe_ix (ix_listK (K := K)) (pv 0) (pe_op op_add (pv 1) pe_int) (fun _ _ => rfl)) pe_int) (nomark _)) (pss_cons (ps_ret (pv 1)) pss_never) pss_nil) pss_nil)) (pss_cons (ps_ret pe_non) pss_never)), fun v_row => ?_⟩), hg, F.kp, F.bindsN fun _ _ _ _ _ _ us hl => match us, hl with | [_], _ => rfl⟩
  exact (show BX K _ [.sh ((eL PyData.int) v_row), .un] encR_p_out_of_order (p_out_of_order v_row) from
   (bx_bind fun g1 hg1 => (bx_bindR (envS := (fun (s_1 : Unit) => [.sh ((eL PyData.int) v_row), .un])) (encR := encR_p_out_of_order) (bx_forR (encR := encR_p_out_of_order) (envS := (fun (s_1 : Unit) => [.sh ((eL PyData.int) v_row), .un])) (e := PyData.int) (envB := (fun (s_1 : Unit) (x2 : Int) => [.sh ((eL PyData.int) v_row), .sh (PyData.int x2)])) (f := (p_out_of_order_for1 v_row)) (eis_rng1 (ex_sub (ex_lenL (EX.l (ex_var (i := 0) rfl))) ex_int) (grd_ok hg1)) (.same (.un .nil)) (fun _ => trivial) (fun s_1 x2 _ => EGc.eg (vs := [1]) (egc_name (i := 1) (by decide))) (fun s_1 x2 _ => (bx_bind fun u3 hu3 => (bx_bind fun u4 hu4 => (bx_ifRetM (encR := encR_p_out_of_order) (et_of (ex_gt (ex_ixL (EX.l (ex_var (i := 0) rfl)) (ex_var (i := 1) rfl) (atI_map hu3)) (ex_add (ex_ixL (EX.l (ex_var (i := 0) rfl)) (ex_add (ex_var (i := 1) rfl) ex_int) (atI_map hu4)) ex_int))) (fun _ => (bx_retS (ex_var (i := 1) rfl) rfl)) (fun _ _ h => nomatch h) (fun _ => rfl) (fun _ => (bx_nx (.same (.un .nil)) rfl))))))) (fun _ => rfl) (fun _ _ h => nomatch h) (fun s5 _ => (bx_retS ex_non rfl)))))
abbrev encR_p_next_trades (y : (List PyData)) : Out := .rt (.sh ((eL eD) y))
abbrev st_p_next_trades : Stmt := top 108
abbrev NN_p_next_trades : List Str := ["row", "found", "at"]
theorem sc_p_next_trades : FnScope NN_p_next_trades ["row"] (defScope st_p_next_trades) := ⟨rfl, rfl, rfl, by decide +kernel, rfl, by decide +kernel, by decide +kernel⟩
abbrev I_p_next_trades : List PyData → Rv → Prop := Im (fun (a : ((List Int))) => [(eL PyData.int) a]) (fun (y : (List PyData)) => Rv.sh ((eL eD) y)) (fun a => p_next_trades a)
theorem fn_p_next_trades {P : Program} {w : World} {K : PySem.W.Frag} {mg : Str → Option Value} {base : Heap} {f : Addr} {fd : FuncData} (F : FunD K "next_trades" "next_trades" (defArgs st_p_next_trades) (defBody st_p_next_trades) (defScope st_p_next_trades) [] [] f fd) (hg : mg "next_trades" = some (.ref f)) (T : Tx K mg) (G_fold : Fn P w K mg base "fold" 3 I_p_fold) (G_folding : Fn P w K mg base "folding" 1 I_p_folding) (G_out_of_order : Fn P w K mg base "out_of_order" 1 I_p_out_of_order) : Fn P w K mg base "next_trades" 4 I_p_next_trades := by
  refine ⟨f, fd, ["row"], fn_ok (N := NN_p_next_trades) (en := encR_p_next_trades) F sc_p_next_trades (fun _ => rfl) (fun _ => .inl rfl) (fun cdv A' outer s H E hr => ⟨_, (pss_cons (ps_set (i := 1) sc_p_next_trades.nd rfl (by first | exact Or.inl rfl | exact Or.inr rfl) (pe_fn G_fold (hr.mono (by decide)) (by rfl) (pa_cons (pv 0) pa_nil))) (pss_cons (ps_if (pt_cmpR op_notN (pv 1) pe_non (nomark _)) (pss_cons (ps_ret (pe_fn G_folding (hr.mono (by decide)) (by rfl) (pa_cons (pe_ix (ix_tupK (K := K)) (pv 1) pe_int (fun _ _ => rfl)) (pa_cons (pe_ix (ix_tupK (K := K)) (pv 1) pe_int (fun _ _ => rfl)) (pa_cons (pe_ix (ix_tupK (K := K)) (pv 1) pe_int (fun _ _ => rfl)) pa_nil))))) pss_never) pss_nil) (pss_cons (ps_set (i := 2) sc_p_next_trades.nd rfl (by first | exact Or.inl rfl | exact Or.inr rfl) (pe_fn G_out_of_order (hr.mono (by decide)) (by rfl) (pa_cons (pv 0) pa_nil))) (pss_cons (ps_if (pt_cmpR op_notN (pv 2) pe_non (nomark _)) (pss_cons (ps_ret (pe_lst (pa_cons (pe_tup (pa_cons pe_str (pa_cons (pv 2) pa_nil))) pa_nil))) pss_never) pss_nil) (pss_cons (ps_ret (pe_lst pa_nil)) pss_never))))), fun v_row => ?_⟩), hg, F.kp, F.bindsN fun _ _ _ _ _ _ us hl => match us, hl with | [_], _ => rfl⟩
  exact (show BX K _ [.sh ((eL PyData.int) v_row), .un, .un] encR_p_next_trades (p_next_trades v_row) from
   (bx_bind fun u1 hu1 => (bx_asg (d := (eO (eP3 PyData.int PyData.int (eL PyData.int))) u1) (ex_call (ea_cons (ex_var (i := 0) rfl) ea_nil) ⟨v_row, u1, rfl, hu1, rfl⟩) (EGc.eg (egc_name (i := 1) (vs := [1]) (by decide))) (bx_ifRet (et_of (ex_notNO (e := (eP3 PyData.int PyData.int (eL PyData.int))) (m := u1) (ex_var (i := 1) rfl))) (fun _ => (bx_bind fun u2 hu2 => (bx_bind fun u3 hu3 => (bx_bind fun u4 hu4 => (bx_bind fun u5 hu5 => (bx_retS (ex_call (ea_cons (ex_ixT (ex_is (ex_var (i := 1) rfl) (congrArg (eO (eP3 PyData.int PyData.int (eL PyData.int))) hu2)) ex_int rfl) (ea_cons (ex_ixT (ex_is (ex_var (i := 1) rfl) (congrArg (eO (eP3 PyData.int PyData.int (eL PyData.int))) hu3)) ex_int rfl) (ea_cons (ex_ixT (ex_is (ex_var (i := 1) rfl) (congrArg (eO (eP3 PyData.int PyData.int (eL PyData.int))) hu4)) ex_int rfl) ea_nil))) ⟨(u2.1, u3.2.1, u4.2.2), u5, rfl, hu5, rfl⟩) rfl)))))) (fun _ _ _ h => nomatch h) (fun _ => (bx_bind fun u6 hu6 => (bx_asg (d := (eO PyData.int) u6) (ex_call (ea_cons (ex_var (i := 0) rfl) ea_nil) ⟨v_row, u6, rfl, hu6, rfl⟩) (EGc.eg (egc_name (i := 2) (vs := [2]) (by decide))) (bx_ifRet (et_of (ex_notNO (e := PyData.int) (m := u6) (ex_var (i := 2) rfl))) (fun _ => (bx_retS (EXw.sh (exw_lst (ds := ([((eP PyData.str (eO PyData.int)) ((Str.ofString "swap"), u6))] : (List PyData)).map eD) (ea_cons (ex_tup (ea_cons (ex_str (Nat.le_of_ble_eq_true rfl)) (ea_cons (ex_var (i := 2) rfl) ea_nil)) (Nat.le_of_ble_eq_true rfl)) ea_nil) (Nat.le_of_ble_eq_true rfl))) rfl)) (fun _ _ _ h => nomatch h) (fun _ => (bx_retS (EXw.sh (exw_lst (ds := (([] : (List PyData)) : (List PyData)).map eD) ea_nil (Nat.le_of_ble_eq_true rfl))) rfl))))))))))
abbrev encR_p_descent (y : ((List (Int × (Option (List Int)))) × (List PyData))) : Out := .rt (.sh ((eP (eL (eP PyData.int (eO (eL PyData.int)))) (eL eD)) y))
abbrev st_p_descent : Stmt := top 109
abbrev NN_p_descent : List Str := ["pegs", "pair", "pairs", "trades", "moves", "trade"]
theorem sc_p_descent : FnScope NN_p_descent ["pegs", "pair"] (defScope st_p_descent) := ⟨rfl, rfl, rfl, by decide +kernel, rfl, by decide +kernel, by decide +kernel⟩
abbrev I_p_descent : List PyData → Rv → Prop := Im (fun (a : (Int × (Int × (List Int)))) => [PyData.int a.1, (eP PyData.int (eL PyData.int)) a.2]) (fun (y : ((List (Int × (Option (List Int)))) × (List PyData))) => Rv.sh ((eP (eL (eP PyData.int (eO (eL PyData.int)))) (eL eD)) y)) (fun a => p_descent a.1 a.2)
theorem fn_p_descent {P : Program} {w : World} {K : PySem.W.Frag} {mg : Str → Option Value} {base : Heap} {f : Addr} {fd : FuncData} (F : FunD K "descent" "descent" (defArgs st_p_descent) (defBody st_p_descent) (defScope st_p_descent) [] [] f fd) (hg : mg "descent" = some (.ref f)) (T : Tx K mg) (G_next_trades : Fn P w K mg base "next_trades" 4 I_p_next_trades) (G_behind : Fn P w K mg base "behind" 3 I_p_behind) : Fn P w K mg base "descent" 5 I_p_descent := by
  refine ⟨f, fd, ["pegs", "pair"], fn_ok (N := NN_p_descent) (en := encR_p_descent) F sc_p_descent (fun _ => rfl) (fun _ => .inl rfl) (fun cdv A' outer s H E hr => ⟨_, (pss_cons (ps_set (i := 2) sc_p_descent.nd rfl (by first | exact Or.inl rfl | exact Or.inr rfl) (pe_lst (pa_cons (pe_tup (pa_cons (pe_ix (ix_tupK (K := K)) (pv 1) pe_int (fun _ _ => rfl)) (pa_cons (pe_callTy (call_listK (K := K)) (by rfl) T.list (by decide +kernel) (pa_cons (pe_ix (ix_tupK (K := K)) (pv 1) pe_int (fun _ _ => rfl)) pa_nil)) pa_nil))) pa_nil))) (pss_cons (ps_set (i := 3) sc_p_descent.nd rfl (by first | exact Or.inl rfl | exact Or.inr rfl) (pe_lst pa_nil)) (pss_cons (ps_set (i := 4) sc_p_descent.nd rfl (by first | exact Or.inl rfl | exact Or.inr rfl) (pe_fn G_next_trades (hr.mono (by decide)) (by rfl) (pa_cons (pe_ix (ix_tupK (K := K)) (pe_ix (ix_listK (K := K)) (pv 2) (pe_un un_neg pe_int) (fun _ _ => rfl)) pe_int (fun _ _ => rfl)) pa_nil))) (pss_cons (ps_while PassesOwn.never (pt_cmpR (op_neDK (K := K) hr.units) (pv 4) (pe_lst pa_nil) (nomark _)) (pss_cons (ps_for PassesOwn.never rfl (pi_listK (K := K) (pv 4)) (pg_name (i := 5) sc_p_descent.nd rfl (by first | exact Or.inl rfl | exact Or.inr rfl)) (pss_cons (ps_expr (pe_bm PySem.F.plainAttrs_list PySem.F.slot_list_append PySem.F.type_list_append mt_append (pv 2) (pa_cons (pe_fn G_behind (hr.mono (by decide)) (by rfl) (pa_cons (pv 0) (pa_cons (pe_ix (ix_tupK (K := K)) (pe_ix (ix_listK (K := K)) (pv 2) (pe_un un_neg pe_int) (fun _ _ => rfl)) pe_int (fun _ _ => rfl)) (pa_cons (pe_ix (ix_tupK (K := K)) (pe_ix (ix_listK (K := K)) (pv 2) (pe_un un_neg pe_int) (fun _ _ => rfl)) pe_int (fun _ _ => rfl)) (pa_cons (pv 5) pa_nil))))) pa_nil))) pss_nil)) (pss_cons (ps_set (i := 3) sc_p_descent.nd rfl (by first | exact Or.inl rfl | exact Or.inr rfl) (pe_op op_cat (pv 3) (pv 4))) (pss_cons (ps_set (i := 4) sc_p_descent.nd rfl (by first | exact Or.inl rfl | exact Or.inr rfl) (pe_fn G_next_trades (hr.mono (by decide)) (by rfl) (pa_cons (pe_ix (ix_tupK (K := K)) (pe_ix (ix_listK (K := K)) (pv 2) (pe_un un_neg pe_int) (fun _ _ => rfl)) pe_int (fun _ _ => rfl)) pa_nil))) pss_nil)))) (pss_cons (ps_ret (pe_tup (pa_cons (pv 2) (pa_cons (pv 3) pa_nil)))) pss_never))))), fun a => ?_⟩), hg, F.kp, F.bindsN fun _ _ _ _ _ _ us hl => match us, hl with | [_, _], _ => rfl⟩
  obtain ⟨v_pegs, v_pair⟩ := a
  exact (show BX K _ [.sh (PyData.int v_pegs), .sh ((eP PyData.int (eL PyData.int)) v_pair), .un, .un, .un, .un] encR_p_descent (p_descent v_pegs v_pair) from
   (bx_asgWB (e := (eP PyData.int (eO (eL PyData.int)))) (i := 2) (exw_lst (ds := ([(v_pair.1, (some v_pair.2))] : (List (Int × (Option (List Int))))).map (eP PyData.int (eO (eL PyData.int)))) (ea_cons (ex_tup (ea_cons (ex_ixT (ex_var (i := 1) rfl) ex_int rfl) (ea_cons (EXw.sh (exw_listL (EX.l (ex_ixT (ex_var (i := 1) rfl) ex_int rfl)))) ea_nil)) (Nat.le_of_ble_eq_true rfl)) ea_nil) (Nat.le_of_ble_eq_true rfl)) (fun v_pairs_1 => (bx_asg (d := (eL eD) ([] : (List PyData))) (EXw.sh (exw_lst (ds := (([] : (List PyData)) : (List PyData)).map eD) ea_nil (Nat.le_of_ble_eq_true rfl))) (EGc.eg (egc_name (i := 3) (vs := [3]) (by decide))) (bx_bind fun u2 hu2 => (bx_bind fun u3 hu3 => (bx_bind fun u4 hu4 => (bx_asg (d := (eL eD) u4) (ex_call (ea_cons (ex_is (ex_ixT (ex_ixL (exl_var (i := 2) rfl) (ex_neg ex_int) (atI_map hu2)) ex_int rfl) (congrArg (eO (eL PyData.int)) hu3)) ea_nil) ⟨u3, u4, rfl, hu4, rfl⟩) (EGc.eg (egc_name (i := 4) (vs := [4]) (by decide))) (bx_then (envS := (fun (s_1 : (List (Int × (Option (List Int)))) × (List PyData) × (List PyData)) => [.sh (PyData.int v_pegs), .sh ((eP PyData.int (eL PyData.int)) v_pair), .ow (s_1.1.map (eP PyData.int (eO (eL PyData.int)))), .sh ((eL eD) s_1.2.1), .sh ((eL eD) s_1.2.2), .un])) (bx_whS (envS := (fun (s_1 : (List (Int × (Option (List Int)))) × (List PyData) × (List PyData)) => [.sh (PyData.int v_pegs), .sh ((eP PyData.int (eL PyData.int)) v_pair), .ow (s_1.1.map (eP PyData.int (eO (eL PyData.int)))), .sh ((eL eD) s_1.2.1), .sh ((eL eD) s_1.2.2), .un])) (cc := (p_descent_while1_c v_pegs)) (f := (p_descent_while1 v_pegs)) (.same (.same (.same (.same (.same (.un .nil)))))) (fun s_1 => (eto_bind fun g5 hg5 => (eto_bind fun g6 hg6 => (eto_some (et_of (ex_neDG (d := ((eL eD) s_1.2.2)) (e := ((eL eD) ([] : (List PyData)))) (grd_ok hg5) (grd_ok hg6) (EX.q (ex_var (i := 4) rfl)) (EXl.q (EXw.l (exw_lst (ds := (([] : (List PyData)) : (List PyData)).map eD) ea_nil (Nat.le_of_ble_eq_true rfl)))))))))) (fun s_1 => (bx_then (envS := (fun (s_2 : (List (Int × (Option (List Int))))) => [.sh (PyData.int v_pegs), .sh ((eP PyData.int (eL PyData.int)) v_pair), .ow (s_2.map (eP PyData.int (eO (eL PyData.int)))), .sh ((eL eD) s_1.2.1), .sh ((eL eD) s_1.2.2), .un])) (bx_forS (envS := (fun (s_2 : (List (Int × (Option (List Int))))) => [.sh (PyData.int v_pegs), .sh ((eP PyData.int (eL PyData.int)) v_pair), .ow (s_2.map (eP PyData.int (eO (eL PyData.int)))), .sh ((eL eD) s_1.2.1), .sh ((eL eD) s_1.2.2), .un])) (e := eD) (envB := (fun (s_2 : (List (Int × (Option (List Int))))) (x7 : PyData) => [.sh (PyData.int v_pegs), .sh ((eP PyData.int (eL PyData.int)) v_pair), .ow (s_2.map (eP PyData.int (eO (eL PyData.int)))), .sh ((eL eD) s_1.2.1), .sh ((eL eD) s_1.2.2), .sh (eD x7)])) (f := (p_descent_for2 v_pegs)) (eis_list (ex_var (i := 4) rfl)) (.same (.same (.same (.same (.same (.un .nil)))))) (fun s_2 x7 _ => EGc.eg (vs := [5]) (egc_name (i := 5) (by decide))) (fun s_2 x7 _ => (bx_bind fun u8 hu8 => (bx_bind fun u9 hu9 => (bx_bind fun u10 hu10 => (bx_bind fun u11 hu11 => (bx_bind fun u12 hu12 => (bx_app (e := (eP PyData.int (eO (eL PyData.int)))) (x := u11) rfl (ex_call (ea_cons (ex_var (i := 0) rfl) (ea_cons (ex_ixT (ex_ixL (exl_var (i := 2) rfl) (ex_neg ex_int) (atI_map hu8)) ex_int rfl) (ea_cons (ex_is (ex_ixT (ex_ixL (exl_var (i := 2) rfl) (ex_neg ex_int) (atI_map hu9)) ex_int rfl) (congrArg (eO (eL PyData.int)) hu10)) (ea_cons (ex_var (i := 5) rfl) ea_nil)))) ⟨(v_pegs, u8.1, u10, x7), u11, rfl, hu11, rfl⟩) hu12 (bx_nx (.same (.same (.same (.same (.same (.un .nil)))))) rfl))))))))) (fun s13 _ => (bx_bind fun g14 hg14 => (bx_asgB (e := (eL eD)) (i := 3) (EXw.sh (exw_catT (EX.l (ex_var (i := 3) rfl)) (EX.l (ex_var (i := 4) rfl)) (grd_ok hg14))) (fun v_trades_15 => (bx_bind fun u16 hu16 => (bx_bind fun u17 hu17 => (bx_bind fun u18 hu18 => (bx_asg (d := (eL eD) u18) (ex_call (ea_cons (ex_is (ex_ixT (ex_ixL (exl_var (i := 2) rfl) (ex_neg ex_int) (atI_map hu16)) ex_int rfl) (congrArg (eO (eL PyData.int)) hu17)) ea_nil) ⟨u17, u18, rfl, hu18, rfl⟩) (EGc.eg (egc_name (i := 4) (vs := [4]) (by decide))) (bx_nx (.same (.same (.same (.same (.same (.un .nil)))))) rfl)))))))))))) (fun s19 _ => (bx_freeze 2 rfl (bx_retS (ex_tup (ea_cons (ex_var (i := 2) rfl) (ea_cons (ex_var (i := 3) rfl) ea_nil)) (Nat.le_of_ble_eq_true rfl)) rfl))))))))))))
abbrev encR_p_contrary (y : PyData) : Out := .rt (.sh (eD y))
abbrev st_p_contrary : Stmt := top 110
abbrev NN_p_contrary : List Str := ["pair", "trade"]
theorem sc_p_contrary : FnScope NN_p_contrary ["pair", "trade"] (defScope st_p_contrary) := ⟨rfl, rfl, rfl, by decide +kernel, rfl, by decide +kernel, by decide +kernel⟩
abbrev I_p_contrary : List PyData → Rv → Prop := Im (fun (a : ((Int × (Option (List Int))) × PyData)) => [(eP PyData.int (eO (eL PyData.int))) a.1, eD a.2]) (fun (y : PyData) => Rv.sh (eD y)) (fun a => p_contrary a.1 a.2)
theorem fn_p_contrary {P : Program} {w : World} {K : PySem.W.Frag} {mg : Str → Option Value} {base : Heap} {f : Addr} {fd : FuncData} (F : FunD K "contrary" "contrary" (defArgs st_p_contrary) (defBody st_p_contrary) (defScope st_p_contrary) [] [] f fd) (hg : mg "contrary" = some (.ref f)) (T : Tx K mg)  : Fn P w K mg base "contrary" 1 I_p_contrary := by
  refine ⟨f, fd, ["pair", "trade"], fn_ok (N := NN_p_contrary) (en := encR_p_contrary) F sc_p_contrary (fun _ => rfl) (fun _ => .inl rfl) (fun cdv A' outer s H E hr => ⟨_, (pss_cons (ps_if (pt_cmpR op_eq (pe_ix (ix_tupK (K := K)) (pv 1) pe_int (fun _ _ => rfl)) pe_str (nomark _)) (pss_cons (ps_ret (pe_tup (pa_cons pe_str (pa_cons (pe_ix (ix_tupK (K := K)) (pv 1) pe_int (fun _ _ => rfl)) pa_nil)))) pss_never) pss_nil) (pss_cons (ps_if (pt_cmpR op_eq (pe_ix (ix_tupK (K := K)) (pv 1) pe_int (fun _ _ => rfl)) pe_str (nomark _)) (pss_cons (ps_ret (pe_tup (pa_cons pe_str (pa_cons (pe_ix (ix_tupK (K := K)) (pv 1) pe_int (fun _ _ => rfl)) (pa_cons (pe_ix (ix_listK (K := K)) (pe_ix (ix_tupK (K := K)) (pv 0) pe_int (fun _ _ => rfl)) (pe_op op_add (pe_ix (ix_tupK (K := K)) (pv 1) pe_int (fun _ _ => rfl)) pe_int) (fun _ _ => rfl)) pa_nil))))) pss_never) pss_nil) (pss_cons (ps_ret (pv 1)) pss_never))), fun a => ?_⟩), hg, F.kp, F.bindsN fun _ _ _ _ _ _ us hl => match us, hl with | [_, _], _ => rfl⟩
  obtain ⟨v_pair, v_trade⟩ := a
  exact (show BX K _ [.sh ((eP PyData.int (eO (eL PyData.int))) v_pair), .sh (eD v_trade)] encR_p_contrary (p_contrary v_pair v_trade) from
   (bx_bind fun u1 hu1 => (bx_bind fun u2 hu2 => (bx_ifRet (et_of (ex_eqS (ex_is (ex_ixD (ex_var (i := 1) rfl) ex_int hu1) (decS_ok hu2)) (ex_str (Nat.le_of_ble_eq_true rfl)))) (fun _ => (bx_bind fun u3 hu3 => (bx_retS (ex_tup (ea_cons (ex_str (Nat.le_of_ble_eq_true rfl)) (ea_cons (ex_ixD (ex_var (i := 1) rfl) ex_int hu3) ea_nil)) (Nat.le_of_ble_eq_true rfl)) rfl))) (fun _ _ _ h => nomatch h) (fun _ => (bx_bind fun u4 hu4 => (bx_bind fun u5 hu5 => (bx_ifRet (et_of (ex_eqS (ex_is (ex_ixD (ex_var (i := 1) rfl) ex_int hu4) (decS_ok hu5)) (ex_str (Nat.le_of_ble_eq_true rfl)))) (fun _ => (bx_bind fun u6 hu6 => (bx_bind fun u7 hu7 => (bx_bind fun u8 hu8 => (bx_bind fun u9 hu9 => (bx_bind fun u10 hu10 => (bx_retS (ex_tup (ea_cons (ex_str (Nat.le_of_ble_eq_true rfl)) (ea_cons (ex_ixD (ex_var (i := 1) rfl) ex_int hu6) (ea_cons (ex_ixL (EX.l (ex_is (ex_ixT (ex_var (i := 0) rfl) ex_int rfl) (congrArg (eO (eL PyData.int)) hu7))) (ex_add (ex_is (ex_ixD (ex_var (i := 1) rfl) ex_int hu8) (decI_ok hu9)) ex_int) (atI_map hu10)) ea_nil))) (Nat.le_of_ble_eq_true rfl)) rfl))))))) (fun _ _ _ h => nomatch h) (fun _ => (bx_retS (ex_var (i := 1) rfl) rfl))))))))))
abbrev encR_p_bridge (y : (Option (List PyData))) : Out := .rt (.sh ((eO (eL eD)) y))
abbrev st_p_bridge : Stmt := top 111
abbrev NN_p_bridge : List Str := ["pegs", "one", "other", "first", "rings", "last", "more", "pairs", "trades", "back", "pair", "trade"]
theorem sc_p_bridge : FnScope NN_p_bridge ["pegs", "one", "other"] (defScope st_p_bridge) := ⟨rfl, rfl, rfl, by decide +kernel, rfl, by decide +kernel, by decide +kernel⟩
abbrev I_p_bridge : List PyData → Rv → Prop := Im (fun (a : (Int × (Int × (List Int)) × (Int × (List Int)))) => [PyData.int a.1, (eP PyData.int (eL PyData.int)) a.2.1, (eP PyData.int (eL PyData.int)) a.2.2]) (fun (y : (Option (List PyData))) => Rv.sh ((eO (eL eD)) y)) (fun a => p_bridge a.1 a.2.1 a.2.2)
theorem fn_p_bridge {P : Program} {w : World} {K : PySem.W.Frag} {mg : Str → Option Value} {base : Heap} {f : Addr} {fd : FuncData} (F : FunD K "bridge" "bridge" (defArgs st_p_bridge) (defBody st_p_bridge) (defScope st_p_bridge) [] [] f fd) (hg : mg "bridge" = some (.ref f)) (T : Tx K mg) (G_ask_pegs : Fn P w K mg base "ask_pegs" 1 I_p_ask_pegs) (G_made : Fn P w K mg base "made" 4 I_p_made) (G_descent : Fn P w K mg base "descent" 5 I_p_descent) (G_contrary : Fn P w K mg base "contrary" 1 I_p_contrary) : Fn P w K mg base "bridge" 6 I_p_bridge := by
  refine ⟨f, fd, ["pegs", "one", "other"], fn_ok (N := NN_p_bridge) (en := encR_p_bridge) F sc_p_bridge (fun _ => rfl) (fun _ => .inl rfl) (fun cdv A' outer s H E hr => ⟨_, (pss_cons (ps_expr (pe_fn G_ask_pegs (hr.mono (by decide)) (by rfl) (pa_cons (pv 0) pa_nil))) (pss_cons (ps_asg (pe_fn G_made (hr.mono (by decide)) (by rfl) (pa_cons (pv 0) (pa_cons (pe_ix (ix_tupK (K := K)) (pv 1) pe_int (fun _ _ => rfl)) pa_nil))) (pg_tupK (K := K) (n := 2) (by rfl) (pgs_cons (pg_name (i := 3) sc_p_bridge.nd rfl (by first | exact Or.inl rfl | exact Or.inr rfl)) (pgs_cons (pg_name (i := 4) sc_p_bridge.nd rfl (by first | exact Or.inl rfl | exact Or.inr rfl)) pgs_nil)))) (pss_cons (ps_asg (pe_fn G_made (hr.mono (by decide)) (by rfl) (pa_cons (pv 0) (pa_cons (pe_ix (ix_tupK (K := K)) (pv 2) pe_int (fun _ _ => rfl)) pa_nil))) (pg_tupK (K := K) (n := 2) (by rfl) (pgs_cons (pg_name (i := 5) sc_p_bridge.nd rfl (by first | exact Or.inl rfl | exact Or.inr rfl)) (pgs_cons (pg_name (i := 6) sc_p_bridge.nd rfl (by first | exact Or.inl rfl | exact Or.inr rfl)) pgs_nil)))) (pss_cons (ps_if (PW.pt (pw_or (pt_cmpR (op_neDK (K := K) hr.units) (pv 3) (pv 5) (nomark _)) (pw_or1 (pt_cmpR op_ne (pe_op op_add (pe_ix (ix_tupK (K := K)) (pv 1) pe_int (fun _ _ => rfl)) (pv 4)) (pe_op op_add (pe_ix (ix_tupK (K := K)) (pv 2) pe_int (fun _ _ => rfl)) (pv 6)) (nomark _))))) (pss_cons (ps_ret pe_non) pss_never) pss_nil) (pss_cons (ps_asg (pe_fn G_descent (hr.mono (by decide)) (by rfl) (pa_cons (pv 0) (pa_cons (pv 2) pa_nil))) (pg_tupK (K := K) (n := 2) (by rfl) (pgs_cons (pg_name (i := 7) sc_p_bridge.nd rfl (by first | exact Or.inl rfl | exact Or.inr rfl)) (pgs_cons (pg_name (i := 8) sc_p_bridge.nd rfl (by first | exact Or.inl rfl | exact Or.inr rfl)) pgs_nil)))) (pss_cons (ps_setLc (i := 9) (own := [("pair", 10), ("trade", 11)]) (tt := tYes) rfl sc_p_bridge.nd rfl rfl (sw_true rfl rfl rfl (by decide +kernel)) (pi_zipK (K := K) (by rfl) T.zip (pa_cons (pv 7) (pa_cons (pv 8) pa_nil))) (blkOk_by (N := NN_p_bridge) (sc := defScope st_p_bridge) (by decide +kernel)) (fun _ _ _ _ _ => (pg_tupK (K := K) (n := 2) (by rfl) (pgs_cons (pg_name (i := 10) sc_p_bridge.nd rfl (by first | exact Or.inl rfl | exact Or.inr rfl)) (pgs_cons (pg_name (i := 11) sc_p_bridge.nd rfl (by first | exact Or.inl rfl | exact Or.inr rfl)) pgs_nil)))) (fun _ _ _ _ _ => pts_nil) (fun _ _ _ _ _ => (pe_fn G_contrary (hr.mono (by decide)) (by rfl) (pa_cons (pv 10) (pa_cons (pv 11) pa_nil))))) (pss_cons (ps_ret (pe_op op_cat (pe_ix (ix_tupK (K := K)) (pe_fn G_descent (hr.mono (by decide)) (by rfl) (pa_cons (pv 0) (pa_cons (pv 1) pa_nil))) pe_int (fun _ _ => rfl)) (pe_revK (K := K) (pv 9)))) pss_never))))))), fun a => ?_⟩), hg, F.kp, F.bindsN fun _ _ _ _ _ _ us hl => match us, hl with | [_, _, _], _ => rfl⟩
  obtain ⟨v_pegs, v_one, v_other⟩ := a
  exact (show BX K _ [.sh (PyData.int v_pegs), .sh ((eP PyData.int (eL PyData.int)) v_one), .sh ((eP PyData.int (eL PyData.int)) v_other), .un, .un, .un, .un, .un, .un, .un, .un, .un] encR_p_bridge (p_bridge v_pegs v_one v_other) from
   (bx_bind fun u1 hu1 => (bx_drop (ex_call (ea_cons (ex_var (i := 0) rfl) ea_nil) ⟨v_pegs, u1, rfl, hu1, rfl⟩) (bx_bind fun u2 hu2 => (bx_asg (d := (eP (eT PyData.int) PyData.int) u2) (ex_call (ea_cons (ex_var (i := 0) rfl) (ea_cons (ex_ixT (ex_var (i := 1) rfl) ex_int rfl) ea_nil)) ⟨(v_pegs, v_one.2), u2, rfl, hu2, rfl⟩) (EGc.eg (vs := [3, 4]) (egc_tup (egs_cons (egc_name (i := 3) (by decide)) (egs_cons (egc_name (i := 4) (by decide)) egs_nil)) rfl)) (bx_bind fun u3 hu3 => (bx_asg (d := (eP (eT PyData.int) PyData.int) u3) (ex_call (ea_cons (ex_var (i := 0) rfl) (ea_cons (ex_ixT (ex_var (i := 2) rfl) ex_int rfl) ea_nil)) ⟨(v_pegs, v_other.2), u3, rfl, hu3, rfl⟩) (EGc.eg (vs := [5, 6]) (egc_tup (egs_cons (egc_name (i := 5) (by decide)) (egs_cons (egc_name (i := 6) (by decide)) egs_nil)) rfl)) (bx_ifRet (et_or (et_of (ex_neT (x := (u2.1 : (List Int))) (y := (u3.1 : (List Int))) (EnOk.tup EnOk.int) (EX.q (ex_var (i := 3) rfl)) (EX.q (ex_var (i := 5) rfl)))) (et_of (ex_neI (ex_add (ex_ixT (ex_var (i := 1) rfl) ex_int rfl) (ex_var (i := 4) rfl)) (ex_add (ex_ixT (ex_var (i := 2) rfl) ex_int rfl) (ex_var (i := 6) rfl))))) (fun _ => (bx_retS ex_non rfl)) (fun _ _ _ h => nomatch h) (fun _ => (bx_bind fun u4 hu4 => (bx_asg (d := (eP (eL (eP PyData.int (eO (eL PyData.int)))) (eL eD)) u4) (ex_call (ea_cons (ex_var (i := 0) rfl) (ea_cons (ex_var (i := 2) rfl) ea_nil)) ⟨(v_pegs, v_other), u4, rfl, hu4, rfl⟩) (EGc.eg (vs := [7, 8]) (egc_tup (egs_cons (egc_name (i := 7) (by decide)) (egs_cons (egc_name (i := 8) (by decide)) egs_nil)) rfl)) (bx_bind fun u7 hu7 => (bx_asg (d := (eL eD) u7) (EXw.sh (exw_lc (e := (eP (eP PyData.int (eO (eL PyData.int))) eD)) (e' := eD) (envB := (fun x5 => [.sh (PyData.int v_pegs), .sh ((eP PyData.int (eL PyData.int)) v_one), .sh ((eP PyData.int (eL PyData.int)) v_other), .sh ((eT PyData.int) u2.1), .sh (PyData.int u2.2), .sh ((eT PyData.int) u3.1), .sh (PyData.int u3.2), .sh ((eL (eP PyData.int (eO (eL PyData.int)))) u4.1), .sh ((eL eD) u4.2), .un, .sh ((eP PyData.int (eO (eL PyData.int))) x5.1), .sh (eD x5.2)])) (ei_zipL (EX.l (ex_var (i := 7) rfl)) (EX.l (ex_var (i := 8) rfl))) hu7 (fun x5 _ => (egc_tup (egs_cons (egc_name (i := 10) (by decide)) (egs_cons (egc_name (i := 11) (by decide)) egs_nil)) rfl)) (fun x5 _ => (eto_some et_yes)) (fun x5 _ => (exo_bind fun u6 hu6 => (exo_some (e := eD) (ex_call (ea_cons (ex_var (i := 10) rfl) (ea_cons (ex_var (i := 11) rfl) ea_nil)) ⟨(x5.1, x5.2), u6, rfl, hu6, rfl⟩)))))) (EGc.eg (egc_name (i := 9) (vs := [9]) (by decide))) (bx_bind fun u8 hu8 => (bx_bind fun g9 hg9 => (bx_retS (EXw.sh (exw_catT (EX.l (ex_ixT (ex_call (ea_cons (ex_var (i := 0) rfl) (ea_cons (ex_var (i := 1) rfl) ea_nil)) ⟨(v_pegs, v_one), u8, rfl, hu8, rfl⟩) ex_int rfl)) (EXw.l (exw_rev (EX.l (ex_var (i := 9) rfl)))) (grd_ok hg9))) rfl))))))))))))))))
abbrev encE_x_bridge (E : XK) (x : Exn) : Out := .ex [.un, .un, .un, .un, .un, .un, .un, .un, .un, .un, .un, .un] x fun c d _ H => E c d H
abbrev encX_x_bridge (E : XK) (z : Except Exn (Option (List PyData))) : Out := match z with
  | .ok y => .rt (.sh ((eO (eL eD)) y))
  | .error x => .ex [.un, .un, .un, .un, .un, .un, .un, .un, .un, .un, .un, .un] x fun c d _ H => E c d H
abbrev st_x_bridge : Stmt := top 111
abbrev NN_x_bridge : List Str := ["pegs", "one", "other", "first", "rings", "last", "more", "pairs", "trades", "back", "pair", "trade"]
theorem sc_x_bridge : FnScope NN_x_bridge ["pegs", "one", "other"] (defScope st_x_bridge) := ⟨rfl, rfl, rfl, by decide +kernel, rfl, by decide +kernel, by decide +kernel⟩
abbrev I_x_bridge : List PyData → Rv ⊕ Exn → Prop := ImX (fun (a : (Int × (Int × (List Int)) × (Int × (List Int)))) => [PyData.int a.1, (eP PyData.int (eL PyData.int)) a.2.1, (eP PyData.int (eL PyData.int)) a.2.2]) (fun (y : (Option (List PyData))) => Rv.sh ((eO (eL eD)) y)) (fun a => x_bridge a.1 a.2.1 a.2.2)
theorem fn_x_bridge {P : Program} {w : World} {K : PySem.W.Frag} {mg : Str → Option Value} {base : Heap} {f : Addr} {fd : FuncData} (F : FunD K "bridge" "bridge" (defArgs st_x_bridge) (defBody st_x_bridge) (defScope st_x_bridge) [] [] f fd) (hg : mg "bridge" = some (.ref f)) (T : Tx K mg) (G_x_ask_pegs : FnX P w K mg base "ask_pegs" 1 I_x_ask_pegs) (G_x_made : FnX P w K mg base "made" 4 I_x_made) (G_descent : Fn P w K mg base "descent" 5 I_p_descent) (G_contrary : Fn P w K mg base "contrary" 1 I_p_contrary) : FnX P w K mg base "bridge" 6 I_x_bridge := by
  refine ⟨f, fd, ["pegs", "one", "other"], fn_okX (N := NN_x_bridge) (en := encX_x_bridge) F sc_x_bridge (fun _ => rfl) (fun _ _ => .inl rfl) (fun _ _ => ⟨_, rfl⟩) (fun cdv A' outer s H E hr => ⟨_, (pss_cons (ps_expr (pe_fnX (K := K) G_x_ask_pegs (L2N.takes_of rfl rfl rfl rfl) (hr.mono (by decide)) (by rfl) (pa_cons (pv 0) pa_nil))) (pss_cons (ps_asg (pe_fnX (K := K) G_x_made (L2N.takes_of rfl rfl rfl rfl) (hr.mono (by decide)) (by rfl) (pa_cons (pv 0) (pa_cons (pe_ix (ix_tupK (K := K)) (pv 1) pe_int (fun _ _ => rfl)) pa_nil))) (pg_tupK (K := K) (n := 2) (by rfl) (pgs_cons (pg_name (i := 3) sc_x_bridge.nd rfl (by first | exact Or.inl rfl | exact Or.inr rfl)) (pgs_cons (pg_name (i := 4) sc_x_bridge.nd rfl (by first | exact Or.inl rfl | exact Or.inr rfl)) pgs_nil)))) (pss_cons (ps_asg (pe_fnX (K := K) G_x_made (L2N.takes_of rfl rfl rfl rfl) (hr.mono (by decide)) (by rfl) (pa_cons (pv 0) (pa_cons (pe_ix (ix_tupK (K := K)) (pv 2) pe_int (fun _ _ => rfl)) pa_nil))) (pg_tupK (K := K) (n := 2) (by rfl) (pgs_cons (pg_name (i := 5) sc_x_bridge.nd rfl (by first | exact Or.inl rfl | exact Or.inr rfl)) (pgs_cons (pg_name (i := 6) sc_x_bridge.nd rfl (by first | exact Or.inl rfl | exact Or.inr rfl)) pgs_nil)))) (pss_cons (ps_if (PW.pt (pw_or (pt_cmpR (op_neDK (K := K) hr.units) (pv 3) (pv 5) (nomark _)) (pw_or1 (pt_cmpR op_ne (pe_op op_add (pe_ix (ix_tupK (K := K)) (pv 1) pe_int (fun _ _ => rfl)) (pv 4)) (pe_op op_add (pe_ix (ix_tupK (K := K)) (pv 2) pe_int (fun _ _ => rfl)) (pv 6)) (nomark _))))) (pss_cons (ps_ret pe_non) pss_never) pss_nil) (pss_cons (ps_asg (pe_fn G_descent (hr.mono (by decide)) (by rfl) (pa_cons (pv 0) (pa_cons (pv 2) pa_nil))) (pg_tupK (K := K) (n := 2) (by rfl) (pgs_cons (pg_name (i := 7) sc_x_bridge.nd rfl (by first | exact Or.inl rfl | exact Or.inr rfl)) (pgs_cons (pg_name (i := 8) sc_x_bridge.nd rfl (by first | exact Or.inl rfl | exact Or.inr rfl)) pgs_nil)))) (pss_cons (ps_setLc (i := 9) (own := [("pair", 10), ("trade", 11)]) (tt := tYes) rfl sc_x_bridge.nd rfl rfl (sw_true rfl rfl rfl (by decide +kernel)) (pi_zipK (K := K) (by rfl) T.zip (pa_cons (pv 7) (pa_cons (pv 8) pa_nil))) (blkOk_by (N := NN_x_bridge) (sc := defScope st_x_bridge) (by decide +kernel)) (fun _ _ _ _ _ => (pg_tupK (K := K) (n := 2) (by rfl) (pgs_cons (pg_name (i := 10) sc_x_bridge.nd rfl (by first | exact Or.inl rfl | exact Or.inr rfl)) (pgs_cons (pg_name (i := 11) sc_x_bridge.nd rfl (by first | exact Or.inl rfl | exact Or.inr rfl)) pgs_nil)))) (fun _ _ _ _ _ => pts_nil) (fun _ _ _ _ _ => (pe_fn G_contrary (hr.mono (by decide)) (by rfl) (pa_cons (pv 10) (pa_cons (pv 11) pa_nil))))) (pss_cons (ps_ret (pe_op op_cat (pe_ix (ix_tupK (K := K)) (pe_fn G_descent (hr.mono (by decide)) (by rfl) (pa_cons (pv 0) (pa_cons (pv 1) pa_nil))) pe_int (fun _ _ => rfl)) (pe_revK (K := K) (pv 9)))) pss_never))))))), fun a => ?_⟩), hg, F.kp, F.bindsN fun _ _ _ _ _ _ us hl => match us, hl with | [_, _, _], _ => rfl⟩
  obtain ⟨v_pegs, v_one, v_other⟩ := a
  exact (show BX K _ [.sh (PyData.int v_pegs), .sh ((eP PyData.int (eL PyData.int)) v_one), .sh ((eP PyData.int (eL PyData.int)) v_other), .un, .un, .un, .un, .un, .un, .un, .un, .un] (encX_x_bridge E) (x_bridge v_pegs v_one v_other) from
   (bx_bindX (fun e he => (bx_errDrop (err_callX (ea_cons (ex_var (i := 0) rfl) ea_nil) ⟨v_pegs, .error e, rfl, he, rfl⟩) rfl (.un (.un (.un (.un (.un (.un (.un (.un (.un (.un (.un (.un .nil)))))))))))))) (fun u1 hu1 => (bx_drop (ex_callX (ea_cons (ex_var (i := 0) rfl) ea_nil) ⟨v_pegs, .ok u1, rfl, hu1, rfl⟩) (bx_bindX (fun e he => (bx_errAsg (err_callX (ea_cons (ex_var (i := 0) rfl) (ea_cons (ex_ixT (ex_var (i := 1) rfl) ex_int rfl) ea_nil)) ⟨(v_pegs, v_one.2), .error e, rfl, he, rfl⟩) rfl (.un (.un (.un (.un (.un (.un (.un (.un (.un (.un (.un (.un .nil)))))))))))))) (fun u2 hu2 => (bx_asg (d := (eP (eT PyData.int) PyData.int) u2) (ex_callX (ea_cons (ex_var (i := 0) rfl) (ea_cons (ex_ixT (ex_var (i := 1) rfl) ex_int rfl) ea_nil)) ⟨(v_pegs, v_one.2), .ok u2, rfl, hu2, rfl⟩) (EGc.eg (vs := [3, 4]) (egc_tup (egs_cons (egc_name (i := 3) (by decide)) (egs_cons (egc_name (i := 4) (by decide)) egs_nil)) rfl)) (bx_bindX (fun e he => (bx_errAsg (err_callX (ea_cons (ex_var (i := 0) rfl) (ea_cons (ex_ixT (ex_var (i := 2) rfl) ex_int rfl) ea_nil)) ⟨(v_pegs, v_other.2), .error e, rfl, he, rfl⟩) rfl (.un (.un (.un (.un (.un (.un (.un (.un (.un (.un (.un (.un .nil)))))))))))))) (fun u3 hu3 => (bx_asg (d := (eP (eT PyData.int) PyData.int) u3) (ex_callX (ea_cons (ex_var (i := 0) rfl) (ea_cons (ex_ixT (ex_var (i := 2) rfl) ex_int rfl) ea_nil)) ⟨(v_pegs, v_other.2), .ok u3, rfl, hu3, rfl⟩) (EGc.eg (vs := [5, 6]) (egc_tup (egs_cons (egc_name (i := 5) (by decide)) (egs_cons (egc_name (i := 6) (by decide)) egs_nil)) rfl)) (bx_ifRet (et_or (et_of (ex_neT (x := (u2.1 : (List Int))) (y := (u3.1 : (List Int))) (EnOk.tup EnOk.int) (EX.q (ex_var (i := 3) rfl)) (EX.q (ex_var (i := 5) rfl)))) (et_of (ex_neI (ex_add (ex_ixT (ex_var (i := 1) rfl) ex_int rfl) (ex_var (i := 4) rfl)) (ex_add (ex_ixT (ex_var (i := 2) rfl) ex_int rfl) (ex_var (i := 6) rfl))))) (fun _ => (bx_retS ex_non rfl)) (fun o e _ h => by cases o <;> cases h) (fun _ => (bx_bind fun u4 hu4 => (bx_asg (d := (eP (eL (eP PyData.int (eO (eL PyData.int)))) (eL eD)) u4) (ex_call (ea_cons (ex_var (i := 0) rfl) (ea_cons (ex_var (i := 2) rfl) ea_nil)) ⟨(v_pegs, v_other), u4, rfl, hu4, rfl⟩) (EGc.eg (vs := [7, 8]) (egc_tup (egs_cons (egc_name (i := 7) (by decide)) (egs_cons (egc_name (i := 8) (by decide)) egs_nil)) rfl)) (bx_bind fun u7 hu7 => (bx_asg (d := (eL eD) u7) (EXw.sh (exw_lc (e := (eP (eP PyData.int (eO (eL PyData.int))) eD)) (e' := eD) (envB := (fun x5 => [.sh (PyData.int v_pegs), .sh ((eP PyData.int (eL PyData.int)) v_one), .sh ((eP PyData.int (eL PyData.int)) v_other), .sh ((eT PyData.int) u2.1), .sh (PyData.int u2.2), .sh ((eT PyData.int) u3.1), .sh (PyData.int u3.2), .sh ((eL (eP PyData.int (eO (eL PyData.int)))) u4.1), .sh ((eL eD) u4.2), .un, .sh ((eP PyData.int (eO (eL PyData.int))) x5.1), .sh (eD x5.2)])) (ei_zipL (EX.l (ex_var (i := 7) rfl)) (EX.l (ex_var (i := 8) rfl))) hu7 (fun x5 _ => (egc_tup (egs_cons (egc_name (i := 10) (by decide)) (egs_cons (egc_name (i := 11) (by decide)) egs_nil)) rfl)) (fun x5 _ => (eto_some et_yes)) (fun x5 _ => (exo_bind fun u6 hu6 => (exo_some (e := eD) (ex_call (ea_cons (ex_var (i := 10) rfl) (ea_cons (ex_var (i := 11) rfl) ea_nil)) ⟨(x5.1, x5.2), u6, rfl, hu6, rfl⟩)))))) (EGc.eg (egc_name (i := 9) (vs := [9]) (by decide))) (bx_bind fun u8 hu8 => (bx_bind fun g9 hg9 => (bx_retS (EXw.sh (exw_catT (EX.l (ex_ixT (ex_call (ea_cons (ex_var (i := 0) rfl) (ea_cons (ex_var (i := 1) rfl) ea_nil)) ⟨(v_pegs, v_one), u8, rfl, hu8, rfl⟩) ex_int rfl)) (EXw.l (exw_rev (EX.l (ex_var (i := 9) rfl)))) (grd_ok hg9))) rfl)))))))))))))))))))
abbrev encR_l_kin (y : Str) : Out := .rt (.sh (PyData.str y))
abbrev st_l_kin : Stmt := top 113
abbrev NN_l_kin : List Str := ["_law_e", "_law_found", "_law_words", "_law_word_here", "_law_kin_here"]
theorem sc_l_kin : FnScope NN_l_kin ["_law_e"] (defScope st_l_kin) := ⟨rfl, rfl, rfl, by decide +kernel, rfl, by decide +kernel, by decide +kernel⟩
theorem fn_l_kin {P : Program} {w : World} {K : PySem.W.Frag} {mg : Str → Option Value} {f : Addr} {fd : FuncData} (F : FunD K "_law_kin" "_law_kin" (defArgs st_l_kin) (defBody st_l_kin) (defScope st_l_kin) [] [] f fd) (hg : mg "_law_kin" = some (.ref f)) (T : Tx K mg) : KinOk P w K mg "_law_kin" 0 := by
  refine ⟨f, fd, "_law_e", "_law_kin", _, _, _, NN_l_kin, hg, F, sc_l_kin, F.bindsN fun _ _ _ _ _ _ us hl => match us, hl with | [_], _ => rfl, fun base cdv A outer s H p xd v_e hr hot hx hn => ⟨_, (pss_cons (ps_set (i := 1) sc_l_kin.nd rfl (by first | exact Or.inl rfl | exact Or.inr rfl) (pe_lst (pa_cons (pe_callB (call_isX (K := K) (p := p) List.mem_cons_self) (by rfl) T.isinstance (by decide +kernel) (pa_cons (pv 0) (pa_cons (pe_glob (v := .ref (He.ga K "BadPegs")) (by rfl) T.cls_BadPegs rfl) pa_nil))) (pa_cons (pe_callB (call_isX (K := K) (p := p) List.mem_cons_self) (by rfl) T.isinstance (by decide +kernel) (pa_cons (pv 0) (pa_cons (pe_glob (v := .ref (He.ga K "BadFrame")) (by rfl) T.cls_BadFrame rfl) pa_nil))) (pa_cons (pe_callB (call_isX (K := K) (p := p) List.mem_cons_self) (by rfl) T.isinstance (by decide +kernel) (pa_cons (pv 0) (pa_cons (pe_glob (v := .ref (He.ga K "BadHalf")) (by rfl) T.cls_BadHalf rfl) pa_nil))) (pa_cons (pe_callB (call_isX (K := K) (p := p) List.mem_cons_self) (by rfl) T.isinstance (by decide +kernel) (pa_cons (pv 0) (pa_cons (pe_glob (v := .ref (He.ga K "BadHook")) (by rfl) T.cls_BadHook rfl) pa_nil))) pa_nil)))))) (pss_cons (ps_set (i := 1) sc_l_kin.nd rfl (by first | exact Or.inl rfl | exact Or.inr rfl) (pe_op op_cat (pv 1) (pe_lst (pa_cons (pe_callB (call_isX (K := K) (p := p) List.mem_cons_self) (by rfl) T.isinstance (by decide +kernel) (pa_cons (pv 0) (pa_cons (pe_glob (v := .ref (He.ga K "BadName")) (by rfl) T.cls_BadName rfl) pa_nil))) (pa_cons (pe_callB (call_isX (K := K) (p := p) List.mem_cons_self) (by rfl) T.isinstance (by decide +kernel) (pa_cons (pv 0) (pa_cons (pe_glob (v := .ref (He.ga K "NoNumber")) (by rfl) T.cls_NoNumber rfl) pa_nil))) (pa_cons (pe_callB (call_isX (K := K) (p := p) List.mem_cons_self) (by rfl) T.isinstance (by decide +kernel) (pa_cons (pv 0) (pa_cons (pe_glob (v := .ref (He.ga K "NoFrame")) (by rfl) T.cls_NoFrame rfl) pa_nil))) (pa_cons (pe_callB (call_isX (K := K) (p := p) List.mem_cons_self) (by rfl) T.isinstance (by decide +kernel) (pa_cons (pv 0) (pa_cons (pe_glob (v := .ref (He.ga K "NoStack")) (by rfl) T.cls_NoStack rfl) pa_nil))) pa_nil))))))) (pss_cons (ps_set (i := 1) sc_l_kin.nd rfl (by first | exact Or.inl rfl | exact Or.inr rfl) (pe_op op_cat (pv 1) (pe_lst (pa_cons (pe_callB (call_isX (K := K) (p := p) List.mem_cons_self) (by rfl) T.isinstance (by decide +kernel) (pa_cons (pv 0) (pa_cons (pe_glob (v := .ref (He.ga K "NoPlace")) (by rfl) T.cls_NoPlace rfl) pa_nil))) (pa_cons (pe_callB (call_isX (K := K) (p := p) List.mem_cons_self) (by rfl) T.isinstance (by decide +kernel) (pa_cons (pv 0) (pa_cons (pe_glob (v := .ref (He.ga K "Taken")) (by rfl) T.cls_Taken rfl) pa_nil))) (pa_cons (pe_callB (call_isX (K := K) (p := p) List.mem_cons_self) (by rfl) T.isinstance (by decide +kernel) (pa_cons (pv 0) (pa_cons (pe_glob (v := .ref (He.ga K "Full")) (by rfl) T.cls_Full rfl) pa_nil))) (pa_cons (pe_callB (call_isX (K := K) (p := p) List.mem_cons_self) (by rfl) T.isinstance (by decide +kernel) (pa_cons (pv 0) (pa_cons (pe_glob (v := .ref (He.ga K "NothingThere")) (by rfl) T.cls_NothingThere rfl) pa_nil))) pa_nil))))))) (pss_cons (ps_set (i := 1) sc_l_kin.nd rfl (by first | exact Or.inl rfl | exact Or.inr rfl) (pe_op op_cat (pv 1) (pe_lst (pa_cons (pe_callB (call_isX (K := K) (p := p) List.mem_cons_self) (by rfl) T.isinstance (by decide +kernel) (pa_cons (pv 0) (pa_cons (pe_glob (v := .ref (He.ga K "BadTrade")) (by rfl) T.cls_BadTrade rfl) pa_nil))) (pa_cons (pe_callB (call_isX (K := K) (p := p) List.mem_cons_self) (by rfl) T.isinstance (by decide +kernel) (pa_cons (pv 0) (pa_cons (pe_glob (v := .ref (He.ga K "Hangs")) (by rfl) T.cls_Hangs rfl) pa_nil))) (pa_cons (pe_callB (call_isX (K := K) (p := p) List.mem_cons_self) (by rfl) T.isinstance (by decide +kernel) (pa_cons (pv 0) (pa_cons (pe_glob (v := .ref (He.ga K "BadPage")) (by rfl) T.cls_BadPage rfl) pa_nil))) pa_nil)))))) (pss_cons (ps_expr (pe_bm PySem.F.plainAttrs_list PySem.F.slot_list_append PySem.F.type_list_append mt_append (pv 1) (pa_cons (pe_not (pe_callB (call_isX (K := K) (p := p) List.mem_cons_self) (by rfl) T.isinstance (by decide +kernel) (pa_cons (pv 0) (pa_cons (pe_bltn (u := .type "ValueError") (v := .ty "ValueError") (by rfl) T.ValueError (by decide +kernel) rfl) pa_nil)))) pa_nil))) (pss_cons (ps_set (i := 2) sc_l_kin.nd rfl (by first | exact Or.inl rfl | exact Or.inr rfl) (pe_lst (pa_cons pe_str (pa_cons pe_str (pa_cons pe_str (pa_cons pe_str (pa_cons pe_str (pa_cons pe_str (pa_cons pe_str (pa_cons pe_str (pa_cons pe_str pa_nil))))))))))) (pss_cons (ps_set (i := 2) sc_l_kin.nd rfl (by first | exact Or.inl rfl | exact Or.inr rfl) (pe_op op_cat (pv 2) (pe_lst (pa_cons pe_str (pa_cons pe_str (pa_cons pe_str (pa_cons pe_str (pa_cons pe_str (pa_cons pe_str (pa_cons pe_str pa_nil)))))))))) (pss_cons (ps_ret (pe_joinK (K := K) pe_str (pe_lcH (own := [("_law_word_here", 3), ("_law_kin_here", 4)]) ⟨p, hot, List.mem_cons_self⟩ sc_l_kin.nd (pi_zipH (K := K) (by rfl) T.zip (pa_cons (pv 2) (pa_cons (pv 1) pa_nil))) (blkOk_by (N := NN_l_kin) (sc := defScope st_l_kin) (by decide +kernel)) (fun _ _ _ _ _ q hq => (pg_tupH (K := K) (n := 2) ⟨q, hq, List.mem_cons_self⟩ (pgs_cons (pg_name (i := 3) sc_l_kin.nd rfl (by first | exact Or.inl rfl | exact Or.inr rfl)) (pgs_cons (pg_name (i := 4) sc_l_kin.nd rfl (by first | exact Or.inl rfl | exact Or.inr rfl)) pgs_nil)))) (fun _ _ _ _ _ _ _ => (pts_one (pt_val (pv 4)))) (fun _ _ _ _ _ _ _ => (pv 3))))) pss_never)))))))), ?_⟩⟩
  rw [← l_kin_ok v_e hn]
  exact (show BX K _ [.xo p.1 xd, .un, .un, .un, .un] encR_l_kin (l_kin v_e) from
   (bx_asgWB (e := PyData.bool) (i := 1) (exw_lst (ds := ([(decide (v_e = "BadPegs")), (decide (v_e = "BadFrame")), (decide (v_e = "BadHalf")), (decide (v_e = "BadHook"))] : (List Bool)).map PyData.bool) (ea_cons (ex_isX (i := 0) (y := "BadPegs") rfl hx (exB_ok T.exB hn) (by decide +kernel)) (ea_cons (ex_isX (i := 0) (y := "BadFrame") rfl hx (exB_ok T.exB hn) (by decide +kernel)) (ea_cons (ex_isX (i := 0) (y := "BadHalf") rfl hx (exB_ok T.exB hn) (by decide +kernel)) (ea_cons (ex_isX (i := 0) (y := "BadHook") rfl hx (exB_ok T.exB hn) (by decide +kernel)) ea_nil)))) (Nat.le_of_ble_eq_true rfl)) (fun v_found_1 => (bx_bind fun g2 hg2 => (bx_asgWB (e := PyData.bool) (i := 1) (exw_catT (exl_var (i := 1) rfl) (EXw.l (exw_lst (ds := ([(decide (v_e = "BadName")), (decide (v_e = "NoNumber")), (decide (v_e = "NoFrame")), (decide (v_e = "NoStack"))] : (List Bool)).map PyData.bool) (ea_cons (ex_isX (i := 0) (y := "BadName") rfl hx (exB_ok T.exB hn) (by decide +kernel)) (ea_cons (ex_isX (i := 0) (y := "NoNumber") rfl hx (exB_ok T.exB hn) (by decide +kernel)) (ea_cons (ex_isX (i := 0) (y := "NoFrame") rfl hx (exB_ok T.exB hn) (by decide +kernel)) (ea_cons (ex_isX (i := 0) (y := "NoStack") rfl hx (exB_ok T.exB hn) (by decide +kernel)) ea_nil)))) (Nat.le_of_ble_eq_true rfl))) (grd_ok hg2)) (fun v_found_3 => (bx_bind fun g4 hg4 => (bx_asgWB (e := PyData.bool) (i := 1) (exw_catT (exl_var (i := 1) rfl) (EXw.l (exw_lst (ds := ([(decide (v_e = "NoPlace")), (decide (v_e = "Taken")), (decide (v_e = "Full")), (decide (v_e = "NothingThere"))] : (List Bool)).map PyData.bool) (ea_cons (ex_isX (i := 0) (y := "NoPlace") rfl hx (exB_ok T.exB hn) (by decide +kernel)) (ea_cons (ex_isX (i := 0) (y := "Taken") rfl hx (exB_ok T.exB hn) (by decide +kernel)) (ea_cons (ex_isX (i := 0) (y := "Full") rfl hx (exB_ok T.exB hn) (by decide +kernel)) (ea_cons (ex_isX (i := 0) (y := "NothingThere") rfl hx (exB_ok T.exB hn) (by decide +kernel)) ea_nil)))) (Nat.le_of_ble_eq_true rfl))) (grd_ok hg4)) (fun v_found_5 => (bx_bind fun g6 hg6 => (bx_asgWB (e := PyData.bool) (i := 1) (exw_catT (exl_var (i := 1) rfl) (EXw.l (exw_lst (ds := ([(decide (v_e = "BadTrade")), (decide (v_e = "Hangs")), (decide (v_e = "BadPage"))] : (List Bool)).map PyData.bool) (ea_cons (ex_isX (i := 0) (y := "BadTrade") rfl hx (exB_ok T.exB hn) (by decide +kernel)) (ea_cons (ex_isX (i := 0) (y := "Hangs") rfl hx (exB_ok T.exB hn) (by decide +kernel)) (ea_cons (ex_isX (i := 0) (y := "BadPage") rfl hx (exB_ok T.exB hn) (by decide +kernel)) ea_nil))) (Nat.le_of_ble_eq_true rfl))) (grd_ok hg6)) (fun v_found_7 => (bx_bind fun u8 hu8 => (bx_app (e := PyData.bool) (x := (!true)) rfl (ex_notV (ex_isVE (i := 0) rfl hx (exB_ok T.exB hn))) hu8 (bx_asgB (e := (eL PyData.str)) (i := 2) (EXw.sh (exw_lst (ds := ([(Str.ofString "BadPegs"), (Str.ofString "BadFrame"), (Str.ofString "BadHalf"), (Str.ofString "BadHook"), (Str.ofString "BadName"), (Str.ofString "NoNumber"), (Str.ofString "NoFrame"), (Str.ofString "NoStack"), (Str.ofString "NoPlace")] : (List Str)).map PyData.str) (ea_cons (ex_str (Nat.le_of_ble_eq_true rfl)) (ea_cons (ex_str (Nat.le_of_ble_eq_true rfl)) (ea_cons (ex_str (Nat.le_of_ble_eq_true rfl)) (ea_cons (ex_str (Nat.le_of_ble_eq_true rfl)) (ea_cons (ex_str (Nat.le_of_ble_eq_true rfl)) (ea_cons (ex_str (Nat.le_of_ble_eq_true rfl)) (ea_cons (ex_str (Nat.le_of_ble_eq_true rfl)) (ea_cons (ex_str (Nat.le_of_ble_eq_true rfl)) (ea_cons (ex_str (Nat.le_of_ble_eq_true rfl)) ea_nil))))))))) (Nat.le_of_ble_eq_true rfl))) (fun v_words_9 => (bx_bind fun g10 hg10 => (bx_asgB (e := (eL PyData.str)) (i := 2) (EXw.sh (exw_catT (EX.l (ex_var (i := 2) rfl)) (EXw.l (exw_lst (ds := ([(Str.ofString "Taken"), (Str.ofString "Full"), (Str.ofString "NothingThere"), (Str.ofString "BadTrade"), (Str.ofString "Hangs"), (Str.ofString "BadPage"), (Str.ofString "odd")] : (List Str)).map PyData.str) (ea_cons (ex_str (Nat.le_of_ble_eq_true rfl)) (ea_cons (ex_str (Nat.le_of_ble_eq_true rfl)) (ea_cons (ex_str (Nat.le_of_ble_eq_true rfl)) (ea_cons (ex_str (Nat.le_of_ble_eq_true rfl)) (ea_cons (ex_str (Nat.le_of_ble_eq_true rfl)) (ea_cons (ex_str (Nat.le_of_ble_eq_true rfl)) (ea_cons (ex_str (Nat.le_of_ble_eq_true rfl)) ea_nil))))))) (Nat.le_of_ble_eq_true rfl))) (grd_ok hg10))) (fun v_words_11 => (bx_bind fun g13 hg13 => (bx_retS (ex_joinG (ex_str (Nat.le_of_ble_eq_true rfl)) (EXw.l (exw_lcp (e := (eP PyData.str PyData.bool)) (e' := PyData.str) (envB := (fun x12 => [.xo p.1 xd, .ow (u8.map PyData.bool), .sh ((eL PyData.str) v_words_11), .sh (PyData.str x12.1), .sh (PyData.bool x12.2)])) (ei_zipH (EX.l (ex_var (i := 2) rfl)) (exl_var (i := 1) rfl)) (fun x12 _ => (egc_tup (egs_cons (egc_name (i := 3) (by decide)) (egs_cons (egc_name (i := 4) (by decide)) egs_nil)) rfl)) (fun x12 _ => (et_B (ex_var (i := 4) rfl))) (fun x12 _ => (ex_var (i := 3) rfl)))) (grd_ok hg13)) rfl)))))))))))))))))))))
abbrev encR_l_mix (y : Int) : Out := .rt (.sh (PyData.int y))
abbrev st_l_mix : Stmt := top 114
abbrev NN_l_mix : List Str := ["_law_seed", "_law_one", "_law_two"]
theorem sc_l_mix : FnScope NN_l_mix ["_law_seed"] (defScope st_l_mix) := ⟨rfl, rfl, rfl, by decide +kernel, rfl, by decide +kernel, by decide +kernel⟩
abbrev I_l_mix : List PyData → Rv → Prop := Im (fun (a : (Int)) => [PyData.int a]) (fun (y : Int) => Rv.sh (PyData.int y)) (fun a => l_mix a)
theorem fn_l_mix {P : Program} {w : World} {K : PySem.W.Frag} {mg : Str → Option Value} {base : Heap} {f : Addr} {fd : FuncData} (F : FunD K "_law_mix" "_law_mix" (defArgs st_l_mix) (defBody st_l_mix) (defScope st_l_mix) [] [] f fd) (hg : mg "_law_mix" = some (.ref f)) (T : Tx K mg)  : Fn P w K mg base "_law_mix" 1 I_l_mix := by
  refine ⟨f, fd, ["_law_seed"], fn_ok (N := NN_l_mix) (en := encR_l_mix) F sc_l_mix (fun _ => rfl) (fun _ => .inl rfl) (fun cdv A' outer s H E hr => ⟨_, (pss_cons (ps_set (i := 1) sc_l_mix.nd rfl (by first | exact Or.inl rfl | exact Or.inr rfl) (pe_op op_mod (pe_op op_add (pe_op op_mul (pv 0) pe_int) pe_int) pe_int)) (pss_cons (ps_set (i := 2) sc_l_mix.nd rfl (by first | exact Or.inl rfl | exact Or.inr rfl) (pe_op op_mod (pe_op op_add (pe_op op_add (pe_op op_mul (pv 1) (pv 1)) (pe_op op_mul pe_int (pv 1))) (pv 0)) pe_int)) (pss_cons (ps_ret (pe_op op_mod (pe_op op_add (pe_op op_add (pe_op op_mul (pv 2) (pv 2)) (pe_op op_mul pe_int (pv 2))) (pv 1)) pe_int)) pss_never))), fun v_seed => ?_⟩), hg, F.kp, F.bindsN fun _ _ _ _ _ _ us hl => match us, hl with | [_], _ => rfl⟩
  exact (show BX K _ [.sh (PyData.int v_seed), .un, .un] encR_l_mix (l_mix v_seed) from
   (bx_asgB (e := PyData.int) (i := 1) (ex_mod (ex_add (ex_mul (ex_var (i := 0) rfl) ex_int (.inr ⟨by decide, by decide⟩)) ex_int) ex_int (by decide)) (fun v_one_1 => (bx_bind fun g2 hg2 => (bx_asgB (e := PyData.int) (i := 2) (ex_mod (ex_add (ex_add (ex_mul (ex_var (i := 1) rfl) (ex_var (i := 1) rfl) (grd_ok hg2)) (ex_mul ex_int (ex_var (i := 1) rfl) (.inl ⟨by decide, by decide⟩))) (ex_var (i := 0) rfl)) ex_int (by decide)) (fun v_two_3 => (bx_bind fun g4 hg4 => (bx_retS (ex_mod (ex_add (ex_add (ex_mul (ex_var (i := 2) rfl) (ex_var (i := 2) rfl) (grd_ok hg4)) (ex_mul ex_int (ex_var (i := 2) rfl) (.inl ⟨by decide, by decide⟩))) (ex_var (i := 1) rfl)) ex_int (by decide)) rfl))))))))
abbrev encR_l_raw (y : Int) : Out := .rt (.sh (PyData.int y))
abbrev st_l_raw : Stmt := top 115
abbrev NN_l_raw : List Str := ["_law_script", "_law_k", "_law_cell", "_law_found", "_law_turn"]
theorem sc_l_raw : FnScope NN_l_raw ["_law_script", "_law_k"] (defScope st_l_raw) := ⟨rfl, rfl, rfl, by decide +kernel, rfl, by decide +kernel, by decide +kernel⟩
abbrev I_l_raw : List PyData → Rv → Prop := Im (fun (a : ((List Int) × Int)) => [(eL PyData.int) a.1, PyData.int a.2]) (fun (y : Int) => Rv.sh (PyData.int y)) (fun a => l_raw a.1 a.2)
theorem fn_l_raw {P : Program} {w : World} {K : PySem.W.Frag} {mg : Str → Option Value} {base : Heap} {f : Addr} {fd : FuncData} (F : FunD K "_law_raw" "_law_raw" (defArgs st_l_raw) (defBody st_l_raw) (defScope st_l_raw) [] [] f fd) (hg : mg "_law_raw" = some (.ref f)) (T : Tx K mg) (G__law_mix : Fn P w K mg base "_law_mix" 1 I_l_mix) : Fn P w K mg base "_law_raw" 2 I_l_raw := by
  refine ⟨f, fd, ["_law_script", "_law_k"], fn_ok (N := NN_l_raw) (en := encR_l_raw) F sc_l_raw (fun _ => rfl) (fun _ => .inl rfl) (fun cdv A' outer s H E hr => ⟨_, (pss_cons (ps_set (i := 2) sc_l_raw.nd rfl (by first | exact Or.inl rfl | exact Or.inr rfl) (pe_op op_add (pe_op op_mul pe_int (pv 1)) pe_int)) (pss_cons (ps_if (pt_cmpR op_gt (pe_callB (call_lenK (K := K)) (by rfl) T.len (by decide +kernel) (pa_cons (pv 0) pa_nil)) pe_int (nomark _)) (pss_cons (ps_set (i := 2) sc_l_raw.nd rfl (by first | exact Or.inl rfl | exact Or.inr rfl) (pe_op op_add (pe_ix (ix_listK (K := K)) (pv 0) (pe_op op_mod (pv 1) (pe_callB (call_lenK (K := K)) (by rfl) T.len (by decide +kernel) (pa_cons (pv 0) pa_nil))) (fun _ _ => rfl)) (pe_op op_mul pe_int (pe_op op_fdivW (pv 1) (pe_callB (call_lenK (K := K)) (by rfl) T.len (by decide +kernel) (pa_cons (pv 0) pa_nil)))))) pss_nil) pss_nil) (pss_cons (ps_if (PW.pt (pw_and (pt_cmpR op_lt (pv 1) (pe_callB (call_lenK (K := K)) (by rfl) T.len (by decide +kernel) (pa_cons (pv 0) pa_nil)) (nomark _)) (pw_and1 (pt_cmpR op_ge (pv 2) (pe_op op_pow pe_int pe_int) (nomark _))))) (pss_cons (ps_ret (pe_op op_sub (pv 2) (pe_op op_pow pe_int pe_int))) pss_never) pss_nil) (pss_cons (ps_set (i := 3) sc_l_raw.nd rfl (by first | exact Or.inl rfl | exact Or.inr rfl) pe_int) (pss_cons (ps_for PassesOwn.never rfl (pi_range1 (by rfl) T.range (pa_cons pe_int pa_nil)) (pg_name (i := 4) sc_l_raw.nd rfl (by first | exact Or.inl rfl | exact Or.inr rfl)) (pss_cons (ps_set (i := 3) sc_l_raw.nd rfl (by first | exact Or.inl rfl | exact Or.inr rfl) (pe_op op_add (pe_op op_mul (pv 3) pe_int) (pe_fn G__law_mix (hr.mono (by decide)) (by rfl) (pa_cons (pe_op op_add (pe_op op_add (pv 2) (pe_op op_mul pe_int (pv 1))) (pe_op op_mul pe_int (pv 4))) pa_nil)))) pss_nil)) (pss_cons (ps_ret (pv 3)) pss_never)))))), fun a => ?_⟩), hg, F.kp, F.bindsN fun _ _ _ _ _ _ us hl => match us, hl with | [_, _], _ => rfl⟩
  obtain ⟨v_script, v_k⟩ := a
  exact (show BX K _ [.sh ((eL PyData.int) v_script), .sh (PyData.int v_k), .un, .un, .un] encR_l_raw (l_raw v_script v_k) from
   (bx_asgB (e := PyData.int) (i := 2) (ex_add (ex_mul ex_int (ex_var (i := 1) rfl) (.inl ⟨by decide, by decide⟩)) ex_int) (fun v_cell_1 => (bx_then (envS := fun (s2 : Int) => [.sh ((eL PyData.int) v_script), .sh (PyData.int v_k), .sh (PyData.int s2), .un, .un]) (bx_if (et_of (ex_gt (ex_lenL (EX.l (ex_var (i := 0) rfl))) ex_int)) (fun _ => (bx_bind fun g3 hg3 => (bx_bind fun u4 hu4 => (bx_bind fun g5 hg5 => (bx_asgB (e := PyData.int) (i := 2) (ex_add (ex_ixL (EX.l (ex_var (i := 0) rfl)) (ex_mod (ex_var (i := 1) rfl) (ex_lenL (EX.l (ex_var (i := 0) rfl))) (grd_ok hg3)) (atI_map hu4)) (ex_mul ex_int (ex_fdiv (ex_var (i := 1) rfl) (ex_lenL (EX.l (ex_var (i := 0) rfl))) (grd_ok hg5)) (.inl ⟨by decide, by decide⟩))) (fun v_cell_6 => (bx_nx (.same (.same (.same (.un (.un .nil))))) rfl))))))) (fun _ => (bx_nx (.same (.same (.same (.un (.un .nil))))) rfl))) (fun s2 _ => (bx_ifRet (et_and (et_of (ex_lt (ex_var (i := 1) rfl) (ex_lenL (EX.l (ex_var (i := 0) rfl))))) (et_of (ex_ge (ex_var (i := 2) rfl) (ex_pow ex_int ex_int ⟨by decide, by decide, by decide⟩)))) (fun _ => (bx_retS (ex_sub (ex_var (i := 2) rfl) (ex_pow ex_int ex_int ⟨by decide, by decide, by decide⟩)) rfl)) (fun _ _ _ h => nomatch h) (fun _ => (bx_asg (d := PyData.int (0 : Int)) ex_int (EGc.eg (egc_name (i := 3) (vs := [3]) (by decide))) (bx_then (envS := (fun (s_1 : Int) => [.sh ((eL PyData.int) v_script), .sh (PyData.int v_k), .sh (PyData.int s2), .sh (PyData.int s_1), .un])) (bx_forS (envS := (fun (s_1 : Int) => [.sh ((eL PyData.int) v_script), .sh (PyData.int v_k), .sh (PyData.int s2), .sh (PyData.int s_1), .un])) (e := PyData.int) (envB := (fun (s_1 : Int) (x7 : Int) => [.sh ((eL PyData.int) v_script), .sh (PyData.int v_k), .sh (PyData.int s2), .sh (PyData.int s_1), .sh (PyData.int x7)])) (f := (l_raw_for1 v_k s2)) (eis_rng1 ex_int (by decide)) (.same (.same (.same (.same (.un .nil))))) (fun s_1 x7 _ => EGc.eg (vs := [4]) (egc_name (i := 4) (by decide))) (fun s_1 x7 _ => (bx_bind fun u8 hu8 => (bx_asgB (e := PyData.int) (i := 3) (ex_add (ex_mul (ex_var (i := 3) rfl) ex_int (.inr ⟨by decide, by decide⟩)) (ex_call (ea_cons (ex_add (ex_add (ex_var (i := 2) rfl) (ex_mul ex_int (ex_var (i := 1) rfl) (.inl ⟨by decide, by decide⟩))) (ex_mul ex_int (ex_var (i := 4) rfl) (.inl ⟨by decide, by decide⟩))) ea_nil) ⟨((s2 + ((1009 : Int) * v_k)) + ((7919 : Int) * x7)), u8, rfl, hu8, rfl⟩)) (fun v_found_9 => (bx_nx (.same (.same (.same (.same (.un .nil))))) rfl)))))) (fun s10 _ => (bx_retS (ex_var (i := 3) rfl) rfl)))))))))))
abbrev encR_l_digits (y : (List Int)) : Out := .rt (.fr (y.map PyData.int))
abbrev st_l_digits : Stmt := top 116
abbrev NN_l_digits : List Str := ["_law_script", "_law_k", "_law_sizes", "_law_rest", "_law_found", "_law_size"]
theorem sc_l_digits : FnScope NN_l_digits ["_law_script", "_law_k", "_law_sizes"] (defScope st_l_digits) := ⟨rfl, rfl, rfl, by decide +kernel, rfl, by decide +kernel, by decide +kernel⟩
abbrev I_l_digits : List PyData → Rv → Prop := Im (fun (a : ((List Int) × Int × (List Int))) => [(eL PyData.int) a.1, PyData.int a.2.1, (eL PyData.int) a.2.2]) (fun (y : (List Int)) => Rv.fr (y.map PyData.int)) (fun a => l_digits a.1 a.2.1 a.2.2)
theorem fn_l_digits {P : Program} {w : World} {K : PySem.W.Frag} {mg : Str → Option Value} {base : Heap} {f : Addr} {fd : FuncData} (F : FunD K "_law_digits" "_law_digits" (defArgs st_l_digits) (defBody st_l_digits) (defScope st_l_digits) [] [] f fd) (hg : mg "_law_digits" = some (.ref f)) (T : Tx K mg) (G__law_raw : Fn P w K mg base "_law_raw" 2 I_l_raw) : Fn P w K mg base "_law_digits" 3 I_l_digits := by
  refine ⟨f, fd, ["_law_script", "_law_k", "_law_sizes"], fn_ok (N := NN_l_digits) (en := encR_l_digits) F sc_l_digits (fun _ => rfl) (fun _ => .inl rfl) (fun cdv A' outer s H E hr => ⟨_, (pss_cons (ps_set (i := 3) sc_l_digits.nd rfl (by first | exact Or.inl rfl | exact Or.inr rfl) (pe_fn G__law_raw (hr.mono (by decide)) (by rfl) (pa_cons (pv 0) (pa_cons (pv 1) pa_nil)))) (pss_cons (ps_set (i := 4) sc_l_digits.nd rfl (by first | exact Or.inl rfl | exact Or.inr rfl) (pe_lst pa_nil)) (pss_cons (ps_for PassesOwn.never rfl (pi_listK (K := K) (pv 2)) (pg_name (i := 5) sc_l_digits.nd rfl (by first | exact Or.inl rfl | exact Or.inr rfl)) (pss_cons (ps_expr (pe_bm PySem.F.plainAttrs_list PySem.F.slot_list_append PySem.F.type_list_append mt_append (pv 4) (pa_cons (pe_op op_mod (pv 3) (pv 5)) pa_nil))) (pss_cons (ps_set (i := 3) sc_l_digits.nd rfl (by first | exact Or.inl rfl | exact Or.inr rfl) (pe_op op_fdivW (pv 3) (pv 5))) pss_nil))) (pss_cons (ps_ret (pv 4)) pss_never)))), fun a => ?_⟩), hg, F.kp, F.bindsN fun _ _ _ _ _ _ us hl => match us, hl with | [_, _, _], _ => rfl⟩
  obtain ⟨v_script, v_k, v_sizes⟩ := a
  exact (show BX K _ [.sh ((eL PyData.int) v_script), .sh (PyData.int v_k), .sh ((eL PyData.int) v_sizes), .un, .un, .un] encR_l_digits (l_digits v_script v_k v_sizes) from
   (bx_bind fun u1 hu1 => (bx_asg (d := PyData.int u1) (ex_call (ea_cons (ex_var (i := 0) rfl) (ea_cons (ex_var (i := 1) rfl) ea_nil)) ⟨(v_script, v_k), u1, rfl, hu1, rfl⟩) (EGc.eg (egc_name (i := 3) (vs := [3]) (by decide))) (bx_asgW (exw_lst (ds := (([] : (List Int)) : (List Int)).map PyData.int) ea_nil (Nat.le_of_ble_eq_true rfl)) (bx_then (envS := (fun (s_1 : Int × (List Int)) => [.sh ((eL PyData.int) v_script), .sh (PyData.int v_k), .sh ((eL PyData.int) v_sizes), .sh (PyData.int s_1.1), .ow (s_1.2.map PyData.int), .un])) (bx_forS (envS := (fun (s_1 : Int × (List Int)) => [.sh ((eL PyData.int) v_script), .sh (PyData.int v_k), .sh ((eL PyData.int) v_sizes), .sh (PyData.int s_1.1), .ow (s_1.2.map PyData.int), .un])) (e := PyData.int) (envB := (fun (s_1 : Int × (List Int)) (x2 : Int) => [.sh ((eL PyData.int) v_script), .sh (PyData.int v_k), .sh ((eL PyData.int) v_sizes), .sh (PyData.int s_1.1), .ow (s_1.2.map PyData.int), .sh (PyData.int x2)])) (f := l_digits_for1) (eis_list (ex_var (i := 2) rfl)) (.same (.same (.same (.same (.same (.un .nil)))))) (fun s_1 x2 _ => EGc.eg (vs := [5]) (egc_name (i := 5) (by decide))) (fun s_1 x2 _ => (bx_bind fun g3 hg3 => (bx_bind fun u4 hu4 => (bx_app (e := PyData.int) (x := (s_1.1 % x2)) rfl (ex_mod (ex_var (i := 3) rfl) (ex_var (i := 5) rfl) (grd_ok hg3)) hu4 (bx_bind fun g5 hg5 => (bx_asgB (e := PyData.int) (i := 3) (ex_fdiv (ex_var (i := 3) rfl) (ex_var (i := 5) rfl) (grd_ok hg5)) (fun v_rest_6 => (bx_nx (.same (.same (.same (.same (.same (.un .nil)))))) rfl))))))))) (fun s7 _ => (bx_retO (i := 4) rfl rfl)))))))
abbrev encE_x_ask_more (E : XK) (x : Exn) : Out := .ex [.un, .un] x fun c d _ H => E c d H
abbrev encX_x_ask_more (E : XK) (z : Except Exn Unit) : Out := match z with
  | .ok y => .rt .un
  | .error x => .ex [.un, .un] x fun c d _ H => E c d H
abbrev st_x_ask_more : Stmt := top 118
abbrev NN_x_ask_more : List Str := ["_law_door", "_law_pegs"]
theorem sc_x_ask_more : FnScope NN_x_ask_more ["_law_door", "_law_pegs"] (defScope st_x_ask_more) := ⟨rfl, rfl, rfl, by decide +kernel, rfl, by decide +kernel, by decide +kernel⟩
abbrev I_x_ask_more : List PyData → Rv ⊕ Exn → Prop := ImX (fun (a : (Int × Int)) => [PyData.int a.1, PyData.int a.2]) (fun _ => Rv.un) (fun a => x_ask_more a.1 a.2)
theorem fn_x_ask_more {P : Program} {w : World} {K : PySem.W.Frag} {mg : Str → Option Value} {base : Heap} {f : Addr} {fd : FuncData} (F : FunD K "_law_ask_more" "_law_ask_more" (defArgs st_x_ask_more) (defBody st_x_ask_more) (defScope st_x_ask_more) [] [] f fd) (hg : mg "_law_ask_more" = some (.ref f)) (T : Tx K mg) (G_x_hook_hooks : FnX P w K mg base "hook_hooks" 3 I_x_hook_hooks) (G_x_made : FnX P w K mg base "made" 4 I_x_made) (G_x_traded : FnX P w K mg base "traded" 5 I_x_traded) (G_x_walked : FnX P w K mg base "walked" 4 I_x_walked) (G_x_bridge : FnX P w K mg base "bridge" 6 I_x_bridge) (M_Loft : MkE P w K mg base "Loft" 2 (I_mk_Loft K)) (M_Desk : MkE P w K mg base "Desk" 4 (I_mk_Desk K)) : FnX P w K mg base "_law_ask_more" 7 I_x_ask_more := by
  refine ⟨f, fd, ["_law_door", "_law_pegs"], fn_okX (N := NN_x_ask_more) (en := encX_x_ask_more) F sc_x_ask_more (fun _ => rfl) (fun _ _ => .inl rfl) (fun _ _ => ⟨_, rfl⟩) (fun cdv A' outer s H E hr => ⟨_, (pss_cons (ps_if (pt_cmpR op_eq (pv 0) pe_int (nomark _)) (pss_cons (ps_ret (pe_fnX (K := K) G_x_hook_hooks (L2N.takes_of rfl rfl rfl rfl) (hr.mono (by decide)) (by rfl) (pa_cons (pv 1) (pa_cons pe_int pa_nil)))) pss_never) pss_nil) (pss_cons (ps_if (pt_cmpR op_eq (pv 0) pe_int (nomark _)) (pss_cons (ps_ret (pe_fnX (K := K) G_x_made (L2N.takes_of rfl rfl rfl rfl) (hr.mono (by decide)) (by rfl) (pa_cons (pv 1) (pa_cons (pe_lst (pa_cons pe_int pa_nil)) pa_nil)))) pss_never) pss_nil) (pss_cons (ps_if (pt_cmpR op_eq (pv 0) pe_int (nomark _)) (pss_cons (ps_ret (pe_fnX (K := K) G_x_traded (L2N.takes_of rfl rfl rfl rfl) (hr.mono (by decide)) (by rfl) (pa_cons (pv 1) (pa_cons pe_int (pa_cons (pe_lst (pa_cons pe_int pa_nil)) (pa_cons (pe_tup (pa_cons pe_str (pa_cons pe_int pa_nil))) pa_nil)))))) pss_never) pss_nil) (pss_cons (ps_if (pt_cmpR op_eq (pv 0) pe_int (nomark _)) (pss_cons (ps_ret (pe_fnX (K := K) G_x_walked (L2N.takes_of rfl rfl rfl rfl) (hr.mono (by decide)) (by rfl) (pa_cons (pv 1) (pa_cons pe_int (pa_cons (pe_lst (pa_cons pe_int pa_nil)) (pa_cons (pe_lst pa_nil) pa_nil)))))) pss_never) pss_nil) (pss_cons (ps_if (pt_cmpR op_eq (pv 0) pe_int (nomark _)) (pss_cons (ps_ret (pe_fnX (K := K) G_x_bridge (L2N.takes_of rfl rfl rfl rfl) (hr.mono (by decide)) (by rfl) (pa_cons (pv 1) (pa_cons (pe_tup (pa_cons pe_int (pa_cons (pe_lst (pa_cons pe_int pa_nil)) pa_nil))) (pa_cons (pe_tup (pa_cons pe_int (pa_cons (pe_lst pa_nil) pa_nil))) pa_nil))))) pss_never) pss_nil) (pss_cons (ps_if (pt_cmpR op_eq (pv 0) pe_int (nomark _)) (pss_cons (ps_ret (pe_mkE M_Loft (L2N.takes_of rfl rfl rfl rfl) (hr.mono (by decide)) (by rfl) (pa_cons (pv 1) pa_nil))) pss_never) pss_nil) (pss_cons (ps_if (pt_cmpR op_eq (pv 0) pe_int (nomark _)) (pss_cons (ps_ret (pe_fnX (K := K) G_x_bridge (L2N.takes_of rfl rfl rfl rfl) (hr.mono (by decide)) (by rfl) (pa_cons (pv 1) (pa_cons (pe_tup (pa_cons pe_int (pa_cons (pe_lst pa_nil) pa_nil))) (pa_cons (pe_tup (pa_cons pe_int (pa_cons (pe_lst (pa_cons pe_int pa_nil)) pa_nil))) pa_nil))))) pss_never) pss_nil) (pss_cons (ps_ret (pe_mkE M_Desk (L2N.takes_of rfl rfl rfl rfl) (hr.mono (by decide)) (by rfl) (pa_cons (pv 1) pa_nil))) pss_never)))))))), fun a => ?_⟩), hg, F.kp, F.bindsN fun _ _ _ _ _ _ us hl => match us, hl with | [_, _], _ => rfl⟩
  obtain ⟨v_door, v_pegs⟩ := a
  exact (show BX K _ [.sh (PyData.int v_door), .sh (PyData.int v_pegs)] (encX_x_ask_more E) (x_ask_more v_door v_pegs) from
   (bx_ifRet (et_of (ex_eqI (ex_var (i := 0) rfl) ex_int)) (fun _ => (bx_bindX (fun e he => (bx_errRet (err_callX (ea_cons (ex_var (i := 1) rfl) (ea_cons ex_int ea_nil)) ⟨(v_pegs, (99 : Int)), .error e, rfl, he, rfl⟩) rfl (.un (.un .nil)))) (fun u1 hu1 => (bx_retU (EX.unseen (ex_callX (ea_cons (ex_var (i := 1) rfl) (ea_cons ex_int ea_nil)) ⟨(v_pegs, (99 : Int)), .ok u1, rfl, hu1, rfl⟩)) rfl)))) (fun o e _ h => by cases o <;> cases h) (fun _ => (bx_ifRet (et_of (ex_eqI (ex_var (i := 0) rfl) ex_int)) (fun _ => (bx_bindX (fun e he => (bx_errRet (err_callX (ea_cons (ex_var (i := 1) rfl) (ea_cons (EXw.sh (exw_lst (ds := ([(99 : Int)] : (List Int)).map PyData.int) (ea_cons ex_int ea_nil) (Nat.le_of_ble_eq_true rfl))) ea_nil)) ⟨(v_pegs, ([(99 : Int)])), .error e, rfl, he, rfl⟩) rfl (.un (.un .nil)))) (fun u2 hu2 => (bx_retU (EX.unseen (ex_callX (ea_cons (ex_var (i := 1) rfl) (ea_cons (EXw.sh (exw_lst (ds := ([(99 : Int)] : (List Int)).map PyData.int) (ea_cons ex_int ea_nil) (Nat.le_of_ble_eq_true rfl))) ea_nil)) ⟨(v_pegs, ([(99 : Int)])), .ok u2, rfl, hu2, rfl⟩)) rfl)))) (fun o e _ h => by cases o <;> cases h) (fun _ => (bx_ifRet (et_of (ex_eqI (ex_var (i := 0) rfl) ex_int)) (fun _ => (bx_bindX (fun e he => (bx_errRet (err_callX (ea_cons (ex_var (i := 1) rfl) (ea_cons ex_int (ea_cons (EXw.sh (exw_lst (ds := ([(99 : Int)] : (List Int)).map PyData.int) (ea_cons ex_int ea_nil) (Nat.le_of_ble_eq_true rfl))) (ea_cons (ex_tup (ea_cons (ex_str (Nat.le_of_ble_eq_true rfl)) (ea_cons ex_int ea_nil)) (Nat.le_of_ble_eq_true rfl)) ea_nil)))) ⟨(v_pegs, (0 : Int), ([(99 : Int)]), ((eP PyData.str PyData.int) ((Str.ofString "swap"), (0 : Int)))), .error e, rfl, he, rfl⟩) rfl (.un (.un .nil)))) (fun u3 hu3 => (bx_retU (EX.unseen (ex_callX (ea_cons (ex_var (i := 1) rfl) (ea_cons ex_int (ea_cons (EXw.sh (exw_lst (ds := ([(99 : Int)] : (List Int)).map PyData.int) (ea_cons ex_int ea_nil) (Nat.le_of_ble_eq_true rfl))) (ea_cons (ex_tup (ea_cons (ex_str (Nat.le_of_ble_eq_true rfl)) (ea_cons ex_int ea_nil)) (Nat.le_of_ble_eq_true rfl)) ea_nil)))) ⟨(v_pegs, (0 : Int), ([(99 : Int)]), ((eP PyData.str PyData.int) ((Str.ofString "swap"), (0 : Int)))), .ok u3, rfl, hu3, rfl⟩)) rfl)))) (fun o e _ h => by cases o <;> cases h) (fun _ => (bx_ifRet (et_of (ex_eqI (ex_var (i := 0) rfl) ex_int)) (fun _ => (bx_bindX (fun e he => (bx_errRet (err_callX (ea_cons (ex_var (i := 1) rfl) (ea_cons ex_int (ea_cons (EXw.sh (exw_lst (ds := ([(99 : Int)] : (List Int)).map PyData.int) (ea_cons ex_int ea_nil) (Nat.le_of_ble_eq_true rfl))) (ea_cons (EXw.sh (exw_lst (ds := (([] : (List PyData)) : (List PyData)).map eD) ea_nil (Nat.le_of_ble_eq_true rfl))) ea_nil)))) ⟨(v_pegs, (0 : Int), ([(99 : Int)]), ([] : (List PyData))), .error e, rfl, he, rfl⟩) rfl (.un (.un .nil)))) (fun u4 hu4 => (bx_retU (EX.unseen (ex_callX (ea_cons (ex_var (i := 1) rfl) (ea_cons ex_int (ea_cons (EXw.sh (exw_lst (ds := ([(99 : Int)] : (List Int)).map PyData.int) (ea_cons ex_int ea_nil) (Nat.le_of_ble_eq_true rfl))) (ea_cons (EXw.sh (exw_lst (ds := (([] : (List PyData)) : (List PyData)).map eD) ea_nil (Nat.le_of_ble_eq_true rfl))) ea_nil)))) ⟨(v_pegs, (0 : Int), ([(99 : Int)]), ([] : (List PyData))), .ok u4, rfl, hu4, rfl⟩)) rfl)))) (fun o e _ h => by cases o <;> cases h) (fun _ => (bx_ifRet (et_of (ex_eqI (ex_var (i := 0) rfl) ex_int)) (fun _ => (bx_bindX (fun e he => (bx_errRet (err_callX (ea_cons (ex_var (i := 1) rfl) (ea_cons (ex_tup (ea_cons ex_int (ea_cons (EXw.sh (exw_lst (ds := ([(99 : Int)] : (List Int)).map PyData.int) (ea_cons ex_int ea_nil) (Nat.le_of_ble_eq_true rfl))) ea_nil)) (Nat.le_of_ble_eq_true rfl)) (ea_cons (ex_tup (ea_cons ex_int (ea_cons (EXw.sh (exw_lst (ds := (([] : (List Int)) : (List Int)).map PyData.int) ea_nil (Nat.le_of_ble_eq_true rfl))) ea_nil)) (Nat.le_of_ble_eq_true rfl)) ea_nil))) ⟨(v_pegs, ((0 : Int), ([(99 : Int)])), ((0 : Int), ([] : (List Int)))), .error e, rfl, he, rfl⟩) rfl (.un (.un .nil)))) (fun u5 hu5 => (bx_retU (EX.unseen (ex_callX (ea_cons (ex_var (i := 1) rfl) (ea_cons (ex_tup (ea_cons ex_int (ea_cons (EXw.sh (exw_lst (ds := ([(99 : Int)] : (List Int)).map PyData.int) (ea_cons ex_int ea_nil) (Nat.le_of_ble_eq_true rfl))) ea_nil)) (Nat.le_of_ble_eq_true rfl)) (ea_cons (ex_tup (ea_cons ex_int (ea_cons (EXw.sh (exw_lst (ds := (([] : (List Int)) : (List Int)).map PyData.int) ea_nil (Nat.le_of_ble_eq_true rfl))) ea_nil)) (Nat.le_of_ble_eq_true rfl)) ea_nil))) ⟨(v_pegs, ((0 : Int), ([(99 : Int)])), ((0 : Int), ([] : (List Int)))), .ok u5, rfl, hu5, rfl⟩)) rfl)))) (fun o e _ h => by cases o <;> cases h) (fun _ => (bx_ifRet (et_of (ex_eqI (ex_var (i := 0) rfl) ex_int)) (fun _ => (bx_bindX (fun e he => (bx_errRet (err_make (eag_d (ex_var (i := 1) rfl) eag_nil) sr_one sr_oneM ⟨v_pegs, .error e, rfl, he, rfl⟩) rfl (.un (.un .nil)))) (fun u6 hu6 => (bx_retU (EXt.unseen (ext_make (eag_d (ex_var (i := 1) rfl) eag_nil) sr_one sr_oneM ⟨v_pegs, .ok u6, rfl, hu6, rfl⟩)) rfl)))) (fun o e _ h => by cases o <;> cases h) (fun _ => (bx_ifRet (et_of (ex_eqI (ex_var (i := 0) rfl) ex_int)) (fun _ => (bx_bindX (fun e he => (bx_errRet (err_callX (ea_cons (ex_var (i := 1) rfl) (ea_cons (ex_tup (ea_cons ex_int (ea_cons (EXw.sh (exw_lst (ds := (([] : (List Int)) : (List Int)).map PyData.int) ea_nil (Nat.le_of_ble_eq_true rfl))) ea_nil)) (Nat.le_of_ble_eq_true rfl)) (ea_cons (ex_tup (ea_cons ex_int (ea_cons (EXw.sh (exw_lst (ds := ([(99 : Int)] : (List Int)).map PyData.int) (ea_cons ex_int ea_nil) (Nat.le_of_ble_eq_true rfl))) ea_nil)) (Nat.le_of_ble_eq_true rfl)) ea_nil))) ⟨(v_pegs, ((0 : Int), ([] : (List Int))), ((0 : Int), ([(99 : Int)]))), .error e, rfl, he, rfl⟩) rfl (.un (.un .nil)))) (fun u7 hu7 => (bx_retU (EX.unseen (ex_callX (ea_cons (ex_var (i := 1) rfl) (ea_cons (ex_tup (ea_cons ex_int (ea_cons (EXw.sh (exw_lst (ds := (([] : (List Int)) : (List Int)).map PyData.int) ea_nil (Nat.le_of_ble_eq_true rfl))) ea_nil)) (Nat.le_of_ble_eq_true rfl)) (ea_cons (ex_tup (ea_cons ex_int (ea_cons (EXw.sh (exw_lst (ds := ([(99 : Int)] : (List Int)).map PyData.int) (ea_cons ex_int ea_nil) (Nat.le_of_ble_eq_true rfl))) ea_nil)) (Nat.le_of_ble_eq_true rfl)) ea_nil))) ⟨(v_pegs, ((0 : Int), ([] : (List Int))), ((0 : Int), ([(99 : Int)]))), .ok u7, rfl, hu7, rfl⟩)) rfl)))) (fun o e _ h => by cases o <;> cases h) (fun _ => (bx_bindX (fun e he => (bx_errRet (err_make (eag_d (ex_var (i := 1) rfl) eag_nil) sr_one sr_oneM ⟨v_pegs, .error e, rfl, he, rfl⟩) rfl (.un (.un .nil)))) (fun u8 hu8 => (bx_retU (EXt.unseen (ext_make (eag_d (ex_var (i := 1) rfl) eag_nil) sr_one sr_oneM ⟨v_pegs, .ok u8, rfl, hu8, rfl⟩)) rfl))))))))))))))))))
abbrev encE_x_ask (E : XK) (x : Exn) : Out := .ex [.un, .un] x fun c d _ H => E c d H
abbrev encX_x_ask (E : XK) (z : Except Exn Unit) : Out := match z with
  | .ok y => .rt .un
  | .error x => .ex [.un, .un] x fun c d _ H => E c d H
abbrev st_x_ask : Stmt := top 117
abbrev NN_x_ask : List Str := ["_law_door", "_law_pegs"]
theorem sc_x_ask : FnScope NN_x_ask ["_law_door", "_law_pegs"] (defScope st_x_ask) := ⟨rfl, rfl, rfl, by decide +kernel, rfl, by decide +kernel, by decide +kernel⟩
abbrev I_x_ask : List PyData → Rv ⊕ Exn → Prop := ImX (fun (a : (Int × Int)) => [PyData.int a.1, PyData.int a.2]) (fun _ => Rv.un) (fun a => x_ask a.1 a.2)
theorem fn_x_ask {P : Program} {w : World} {K : PySem.W.Frag} {mg : Str → Option Value} {base : Heap} {f : Addr} {fd : FuncData} (F : FunD K "_law_ask" "_law_ask" (defArgs st_x_ask) (defBody st_x_ask) (defScope st_x_ask) [] [] f fd) (hg : mg "_law_ask" = some (.ref f)) (T : Tx K mg) (G_x_plain : FnX P w K mg base "plain" 2 I_x_plain) (G_x_stacked : FnX P w K mg base "stacked" 5 I_x_stacked) (G_x_how_many : FnX P w K mg base "how_many" 2 I_x_how_many) (G_x_numbered : FnX P w K mg base "numbered" 4 I_x_numbered) (G_x_every : FnX P w K mg base "every" 5 I_x_every) (G_x_how_many_halves : FnX P w K mg base "how_many_halves" 3 I_x_how_many_halves) (G_x_half_of : FnX P w K mg base "half_of" 3 I_x_half_of) (G_x_ask_more : FnX P w K mg base "_law_ask_more" 7 I_x_ask_more) : FnX P w K mg base "_law_ask" 8 I_x_ask := by
  refine ⟨f, fd, ["_law_door", "_law_pegs"], fn_okX (N := NN_x_ask) (en := encX_x_ask) F sc_x_ask (fun _ => rfl) (fun _ _ => .inl rfl) (fun _ _ => ⟨_, rfl⟩) (fun cdv A' outer s H E hr => ⟨_, (pss_cons (ps_if (pt_cmpR op_eq (pv 0) pe_int (nomark _)) (pss_cons (ps_ret (pe_fnX (K := K) G_x_plain (L2N.takes_of rfl rfl rfl rfl) (hr.mono (by decide)) (by rfl) (pa_cons (pv 1) pa_nil))) pss_never) pss_nil) (pss_cons (ps_if (pt_cmpR op_eq (pv 0) pe_int (nomark _)) (pss_cons (ps_ret (pe_fnX (K := K) G_x_stacked (L2N.takes_of rfl rfl rfl rfl) (hr.mono (by decide)) (by rfl) (pa_cons (pv 1) (pa_cons (pe_lst (pa_cons (pe_tup (pa_cons pe_int (pa_cons pe_int pa_nil))) pa_nil)) pa_nil)))) pss_never) pss_nil) (pss_cons (ps_if (pt_cmpR op_eq (pv 0) pe_int (nomark _)) (pss_cons (ps_ret (pe_fnX (K := K) G_x_how_many (L2N.takes_of rfl rfl rfl rfl) (hr.mono (by decide)) (by rfl) (pa_cons (pv 1) pa_nil))) pss_never) pss_nil) (pss_cons (ps_if (pt_cmpR op_eq (pv 0) pe_int (nomark _)) (pss_cons (ps_ret (pe_fnX (K := K) G_x_numbered (L2N.takes_of rfl rfl rfl rfl) (hr.mono (by decide)) (by rfl) (pa_cons (pv 1) (pa_cons (pe_un un_neg pe_int) pa_nil)))) pss_never) pss_nil) (pss_cons (ps_if (pt_cmpR op_eq (pv 0) pe_int (nomark _)) (pss_cons (ps_ret (pe_fnX (K := K) G_x_every (L2N.takes_of rfl rfl rfl rfl) (hr.mono (by decide)) (by rfl) (pa_cons (pv 1) pa_nil))) pss_never) pss_nil) (pss_cons (ps_if (pt_cmpR op_eq (pv 0) pe_int (nomark _)) (pss_cons (ps_ret (pe_fnX (K := K) G_x_how_many_halves (L2N.takes_of rfl rfl rfl rfl) (hr.mono (by decide)) (by rfl) (pa_cons (pv 1) (pa_cons pe_int pa_nil)))) pss_never) pss_nil) (pss_cons (ps_if (pt_cmpR op_eq (pv 0) pe_int (nomark _)) (pss_cons (ps_ret (pe_fnX (K := K) G_x_half_of (L2N.takes_of rfl rfl rfl rfl) (hr.mono (by decide)) (by rfl) (pa_cons (pv 1) (pa_cons pe_int (pa_cons (pe_un un_neg pe_int) pa_nil))))) pss_never) pss_nil) (pss_cons (ps_ret (pe_fnX (K := K) G_x_ask_more (L2N.takes_of rfl rfl rfl rfl) (hr.mono (by decide)) (by rfl) (pa_cons (pv 0) (pa_cons (pv 1) pa_nil)))) pss_never)))))))), fun a => ?_⟩), hg, F.kp, F.bindsN fun _ _ _ _ _ _ us hl => match us, hl with | [_, _], _ => rfl⟩
  obtain ⟨v_door, v_pegs⟩ := a
  exact (show BX K _ [.sh (PyData.int v_door), .sh (PyData.int v_pegs)] (encX_x_ask E) (x_ask v_door v_pegs) from
   (bx_ifRet (et_of (ex_eqI (ex_var (i := 0) rfl) ex_int)) (fun _ => (bx_bindX (fun e he => (bx_errRet (err_callX (ea_cons (ex_var (i := 1) rfl) ea_nil) ⟨v_pegs, .error e, rfl, he, rfl⟩) rfl (.un (.un .nil)))) (fun u1 hu1 => (bx_retU (EX.unseen (ex_callX (ea_cons (ex_var (i := 1) rfl) ea_nil) ⟨v_pegs, .ok u1, rfl, hu1, rfl⟩)) rfl)))) (fun o e _ h => by cases o <;> cases h) (fun _ => (bx_ifRet (et_of (ex_eqI (ex_var (i := 0) rfl) ex_int)) (fun _ => (bx_bindX (fun e he => (bx_errRet (err_callX (ea_cons (ex_var (i := 1) rfl) (ea_cons (EXw.sh (exw_lst (ds := ([[(0 : Int), (0 : Int)]] : (List (List Int))).map (eT PyData.int)) (ea_cons (ex_tup (ea_cons ex_int (ea_cons ex_int ea_nil)) (Nat.le_of_ble_eq_true rfl)) ea_nil) (Nat.le_of_ble_eq_true rfl))) ea_nil)) ⟨(v_pegs, ([[(0 : Int), (0 : Int)]])), .error e, rfl, he, rfl⟩) rfl (.un (.un .nil)))) (fun u2 hu2 => (bx_retU (EX.unseen (ex_callX (ea_cons (ex_var (i := 1) rfl) (ea_cons (EXw.sh (exw_lst (ds := ([[(0 : Int), (0 : Int)]] : (List (List Int))).map (eT PyData.int)) (ea_cons (ex_tup (ea_cons ex_int (ea_cons ex_int ea_nil)) (Nat.le_of_ble_eq_true rfl)) ea_nil) (Nat.le_of_ble_eq_true rfl))) ea_nil)) ⟨(v_pegs, ([[(0 : Int), (0 : Int)]])), .ok u2, rfl, hu2, rfl⟩)) rfl)))) (fun o e _ h => by cases o <;> cases h) (fun _ => (bx_ifRet (et_of (ex_eqI (ex_var (i := 0) rfl) ex_int)) (fun _ => (bx_bindX (fun e he => (bx_errRet (err_callX (ea_cons (ex_var (i := 1) rfl) ea_nil) ⟨v_pegs, .error e, rfl, he, rfl⟩) rfl (.un (.un .nil)))) (fun u3 hu3 => (bx_retU (EX.unseen (ex_callX (ea_cons (ex_var (i := 1) rfl) ea_nil) ⟨v_pegs, .ok u3, rfl, hu3, rfl⟩)) rfl)))) (fun o e _ h => by cases o <;> cases h) (fun _ => (bx_ifRet (et_of (ex_eqI (ex_var (i := 0) rfl) ex_int)) (fun _ => (bx_bindX (fun e he => (bx_errRet (err_callX (ea_cons (ex_var (i := 1) rfl) (ea_cons (ex_neg ex_int) ea_nil)) ⟨(v_pegs, (-(1 : Int))), .error e, rfl, he, rfl⟩) rfl (.un (.un .nil)))) (fun u4 hu4 => (bx_retU (EX.unseen (ex_callX (ea_cons (ex_var (i := 1) rfl) (ea_cons (ex_neg ex_int) ea_nil)) ⟨(v_pegs, (-(1 : Int))), .ok u4, rfl, hu4, rfl⟩)) rfl)))) (fun o e _ h => by cases o <;> cases h) (fun _ => (bx_ifRet (et_of (ex_eqI (ex_var (i := 0) rfl) ex_int)) (fun _ => (bx_bindX (fun e he => (bx_errRet (err_callX (ea_cons (ex_var (i := 1) rfl) ea_nil) ⟨v_pegs, .error e, rfl, he, rfl⟩) rfl (.un (.un .nil)))) (fun u5 hu5 => (bx_retU (EXw.unseen (exw_callX (ea_cons (ex_var (i := 1) rfl) ea_nil) ⟨v_pegs, .ok u5, rfl, hu5, rfl⟩)) rfl)))) (fun o e _ h => by cases o <;> cases h) (fun _ => (bx_ifRet (et_of (ex_eqI (ex_var (i := 0) rfl) ex_int)) (fun _ => (bx_bindX (fun e he => (bx_errRet (err_callX (ea_cons (ex_var (i := 1) rfl) (ea_cons ex_int ea_nil)) ⟨(v_pegs, (3 : Int)), .error e, rfl, he, rfl⟩) rfl (.un (.un .nil)))) (fun u6 hu6 => (bx_retU (EX.unseen (ex_callX (ea_cons (ex_var (i := 1) rfl) (ea_cons ex_int ea_nil)) ⟨(v_pegs, (3 : Int)), .ok u6, rfl, hu6, rfl⟩)) rfl)))) (fun o e _ h => by cases o <;> cases h) (fun _ => (bx_ifRet (et_of (ex_eqI (ex_var (i := 0) rfl) ex_int)) (fun _ => (bx_bindX (fun e he => (bx_errRet (err_callX (ea_cons (ex_var (i := 1) rfl) (ea_cons ex_int (ea_cons (ex_neg ex_int) ea_nil))) ⟨(v_pegs, (0 : Int), (-(1 : Int))), .error e, rfl, he, rfl⟩) rfl (.un (.un .nil)))) (fun u7 hu7 => (bx_retU (EX.unseen (ex_callX (ea_cons (ex_var (i := 1) rfl) (ea_cons ex_int (ea_cons (ex_neg ex_int) ea_nil))) ⟨(v_pegs, (0 : Int), (-(1 : Int))), .ok u7, rfl, hu7, rfl⟩)) rfl)))) (fun o e _ h => by cases o <;> cases h) (fun _ => (bx_bindX (fun e he => (bx_errRet (err_callX (ea_cons (ex_var (i := 0) rfl) (ea_cons (ex_var (i := 1) rfl) ea_nil)) ⟨(v_door, v_pegs), .error e, rfl, he, rfl⟩) rfl (.un (.un .nil)))) (fun u8 hu8 => (bx_retU (exu_callX (ea_cons (ex_var (i := 0) rfl) (ea_cons (ex_var (i := 1) rfl) ea_nil)) ⟨(v_door, v_pegs), .ok u8, rfl, hu8, rfl⟩) rfl))))))))))))))))))
abbrev encR_l_word (y : Str) : Out := .rt (.sh (PyData.str y))
abbrev st_l_word : Stmt := top 119
abbrev NN_l_word : List Str := ["_law_door", "_law_pegs", "_law_word_here", "_law_e"]
theorem sc_l_word : FnScope NN_l_word ["_law_door", "_law_pegs"] (defScope st_l_word) := ⟨rfl, rfl, rfl, by decide +kernel, rfl, by decide +kernel, by decide +kernel⟩
abbrev I_l_word : List PyData → Rv → Prop := Im (fun (a : (Int × Int)) => [PyData.int a.1, PyData.int a.2]) (fun (y : Str) => Rv.sh (PyData.str y)) (fun a => l_word a.1 a.2)
theorem fn_l_word {P : Program} {w : World} {K : PySem.W.Frag} {mg : Str → Option Value} {base : Heap} {f : Addr} {fd : FuncData} (F : FunD K "_law_word" "_law_word" (defArgs st_l_word) (defBody st_l_word) (defScope st_l_word) [] [] f fd) (hg : mg "_law_word" = some (.ref f)) (T : Tx K mg) (G_x_ask : FnX P w K mg base "_law_ask" 8 I_x_ask) (G__law_kin : KinOk P w K mg "_law_kin" 0) : Fn P w K mg base "_law_word" 9 I_l_word := by
  refine ⟨f, fd, ["_law_door", "_law_pegs"], fn_ok (N := NN_l_word) (en := encR_l_word) F sc_l_word (fun _ => rfl) (fun _ => .inl rfl) (fun cdv A' outer s H E hr => ⟨_, (pss_cons (ps_set (i := 2) sc_l_word.nd rfl (by first | exact Or.inl rfl | exact Or.inr rfl) pe_str) (pss_cons (ps_tryCl (K := K) rfl rfl sc_l_word.nd takes_none (fun W pn xe tk po => (pss_cons (ps_expr (pe_fnX (K := K) G_x_ask tk (hr.mono (by decide)) (by rfl) (pa_cons (pv 0) (pa_cons (pv 1) pa_nil)))) pss_nil)) (ClOk.cons (i := 3) rfl rfl ⟨by rfl, by decide, .inl T.cls_RibbonError⟩ (fun a oe cls d pn hz hf => (pss_cons (ps_set (i := 2) sc_l_word.nd rfl (by first | exact Or.inl rfl | exact Or.inr rfl) (pe_kin (K := K) G__law_kin (hr.mono (by decide)) (by rfl) hz hf (pv 3))) pss_nil)) ClOk.nil)) (pss_cons (ps_ret (pv 2)) pss_never))), fun a => ?_⟩), hg, F.kp, F.bindsN fun _ _ _ _ _ _ us hl => match us, hl with | [_, _], _ => rfl⟩
  obtain ⟨v_door, v_pegs⟩ := a
  exact (show BX K _ [.sh (PyData.int v_door), .sh (PyData.int v_pegs), .un, .un] encR_l_word (l_word v_door v_pegs) from
   (bx_asg (d := PyData.str (Str.ofString "")) (ex_str (Nat.le_of_ble_eq_true rfl)) (EGc.eg (egc_name (i := 2) (vs := [2]) (by decide))) (bx_then (envS := (fun (s1 : Str) => [.sh (PyData.int v_door), .sh (PyData.int v_pegs), .sh (PyData.str s1), .un])) (bx_tryCl (envS := (fun (s1 : Str) => [.sh (PyData.int v_door), .sh (PyData.int v_pegs), .sh (PyData.str s1), .un])) (envX := [.sh (PyData.int v_door), .sh (PyData.int v_pegs), .sh (PyData.str (Str.ofString "")), .un]) (fun W => (bx_bindX (fun e he => (bx_errDrop (err_callX (ea_cons (ex_var (i := 0) rfl) (ea_cons (ex_var (i := 1) rfl) ea_nil)) ⟨(v_door, v_pegs), .error e, rfl, he, rfl⟩) rfl (.same (.same (.same (.un .nil)))))) (fun u2 hu2 => (bx_exprU (exu_callX (ea_cons (ex_var (i := 0) rfl) (ea_cons (ex_var (i := 1) rfl) ea_nil)) ⟨(v_door, v_pegs), .ok u2, rfl, hu2, rfl⟩) (bx_nx (.same (.same (.same (.un .nil)))) rfl))))) (fun s _ => bx_nx (.same (.same (.same (.un .nil)))) rfl) (fun xE _ => (hc_all T.exB (Nat.le_of_ble_eq_true rfl) (fun o => .inr ⟨_, rfl, rfl⟩) (bh_of (Nat.le_of_ble_eq_true rfl) fun a dd => (bx_bind fun n3 hn3 => (bx_asgB (e := PyData.str) (i := 2) (ex_kin (i := 3) rfl hn3) (fun v_word_here_4 => (bx_nx (.same (.same (.same (.un .nil)))) rfl)))))))) (fun s1 _ => (bx_retS (ex_var (i := 2) rfl) rfl)))))
abbrev encR_l_law (y : Bool) : Out := .rt (.sh (PyData.bool y))
abbrev st_l_law : Stmt := top 120
abbrev NN_l_law : List Str := ["_law_script", "_law_good", "_law_k", "_law_way", "_law_far", "_law_pegs", "_law_door", "_law_word_here"]
theorem sc_l_law : FnScope NN_l_law ["_law_script"] (defScope st_l_law) := ⟨rfl, rfl, rfl, by decide +kernel, rfl, by decide +kernel, by decide +kernel⟩
theorem fn_law {P : Program} {w : World} {K : PySem.W.Frag} {mg : Str → Option Value} {base : Heap} {f : Addr} {fd : FuncData} (F : FunD K "law" "law" (defArgs st_l_law) (defBody st_l_law) (defScope st_l_law) [] [] f fd) (T : Tx K mg) (G__law_digits : Fn P w K mg base "_law_digits" 3 I_l_digits) (G__law_word : Fn P w K mg base "_law_word" 9 I_l_word) (ht : ∀ ns : List Int, ns.length ≤ 63 → l_law ns = some true) : FnOk P w K mg base CX0 10 f fd ["_law_script"] (spLaw K) := by
  refine law_ok (N := NN_l_law) F sc_l_law (fun cdv A' outer s H E hr => ⟨_, (pss_cons (ps_set (i := 0) sc_l_law.nd rfl (by first | exact Or.inl rfl | exact Or.inr rfl) (pe_slice (sl_listK (K := K)) (pv 0) po_none (po_some pe_int))) (pss_cons (ps_set (i := 1) sc_l_law.nd rfl (by first | exact Or.inl rfl | exact Or.inr rfl) (pe_lst (pa_cons pe_str (pa_cons pe_str (pa_cons pe_str (pa_cons pe_str (pa_cons pe_str (pa_cons pe_str (pa_cons pe_str (pa_cons pe_str (pa_cons pe_str (pa_cons pe_str (pa_cons pe_str (pa_cons pe_str pa_nil)))))))))))))) (pss_cons (ps_set (i := 1) sc_l_law.nd rfl (by first | exact Or.inl rfl | exact Or.inr rfl) (pe_op op_cat (pv 1) (pe_lst (pa_cons pe_str (pa_cons pe_str (pa_cons pe_str pa_nil)))))) (pss_cons (ps_for PassesOwn.never rfl (pi_range1 (by rfl) T.range (pa_cons pe_int pa_nil)) (pg_name (i := 2) sc_l_law.nd rfl (by first | exact Or.inl rfl | exact Or.inr rfl)) (pss_cons (ps_asg (pe_fn G__law_digits (hr.mono (by decide)) (by rfl) (pa_cons (pv 0) (pa_cons (pv 2) (pa_cons (pe_lst (pa_cons pe_int (pa_cons (pe_op op_pow pe_int pe_int) pa_nil))) pa_nil)))) (pg_lstK (K := K) (by rfl) (pgs_cons (pg_name (i := 3) sc_l_law.nd rfl (by first | exact Or.inl rfl | exact Or.inr rfl)) (pgs_cons (pg_name (i := 4) sc_l_law.nd rfl (by first | exact Or.inl rfl | exact Or.inr rfl)) pgs_nil)))) (pss_cons (ps_set (i := 5) sc_l_law.nd rfl (by first | exact Or.inl rfl | exact Or.inr rfl) (pe_ix (ix_listK (K := K)) (pe_lst (pa_cons pe_int (pa_cons pe_int (pa_cons (pe_op op_add pe_int (pv 4)) (pa_cons (pe_op op_sub (pe_op op_sub pe_int pe_int) (pv 4)) (pa_cons (pe_op op_add pe_int (pe_op op_mod (pv 4) pe_int)) (pa_cons (pe_op op_add pe_int (pe_op op_mod (pv 4) pe_int)) pa_nil))))))) (pv 3) (fun _ _ => rfl))) (pss_cons (ps_for PassesOwn.never rfl (pi_range1 (by rfl) T.range (pa_cons pe_int pa_nil)) (pg_name (i := 6) sc_l_law.nd rfl (by first | exact Or.inl rfl | exact Or.inr rfl)) (pss_cons (ps_set (i := 7) sc_l_law.nd rfl (by first | exact Or.inl rfl | exact Or.inr rfl) (pe_ix (ix_listK (K := K)) (pv 1) (pv 6) (fun _ _ => rfl))) (pss_cons (ps_if (PW.pt (pw_or (pt_not (pt_chain op_lt op_lt pe_int (pv 5) pe_int)) (pw_or1 (PW.pt (pw_and (pt_cmpR op_eq (pv 6) pe_int (nomark _)) (pw_and1 (pt_cmpR op_gt (pv 5) pe_int (nomark _)))))))) (pss_cons (ps_set (i := 7) sc_l_law.nd rfl (by first | exact Or.inl rfl | exact Or.inr rfl) pe_str) pss_nil) pss_nil) (pss_cons (ps_if (pt_cmpR op_ne (pe_fn G__law_word (hr.mono (by decide)) (by rfl) (pa_cons (pv 6) (pa_cons (pv 5) pa_nil))) (pv 7) (nomark _)) (pss_cons (ps_ret pe_bl) pss_never) pss_nil) pss_nil)))) pss_nil)))) (pss_cons (ps_ret pe_bl) pss_never))))), fun ns => ?_⟩) ht
  exact (show BX K _ [.sc (ns.map PyData.int), .un, .un, .un, .un, .un, .un, .un] encR_l_law (l_law ns) from
   (bx_asgB (e := (eL PyData.int)) (i := 0) (EXw.sh (exw_slSc (i := 0) rfl eo_none (eo_some ex_int))) (fun ns_1 => (bx_asgB (e := (eL PyData.str)) (i := 1) (EXw.sh (exw_lst (ds := ([(Str.ofString ""), (Str.ofString "BadFrame"), (Str.ofString ""), (Str.ofString "NoNumber"), (Str.ofString ""), (Str.ofString ""), (Str.ofString "NoNumber"), (Str.ofString "BadHook"), (Str.ofString "BadHook"), (Str.ofString "BadHook"), (Str.ofString "BadHook"), (Str.ofString "BadHook")] : (List Str)).map PyData.str) (ea_cons (ex_str (Nat.le_of_ble_eq_true rfl)) (ea_cons (ex_str (Nat.le_of_ble_eq_true rfl)) (ea_cons (ex_str (Nat.le_of_ble_eq_true rfl)) (ea_cons (ex_str (Nat.le_of_ble_eq_true rfl)) (ea_cons (ex_str (Nat.le_of_ble_eq_true rfl)) (ea_cons (ex_str (Nat.le_of_ble_eq_true rfl)) (ea_cons (ex_str (Nat.le_of_ble_eq_true rfl)) (ea_cons (ex_str (Nat.le_of_ble_eq_true rfl)) (ea_cons (ex_str (Nat.le_of_ble_eq_true rfl)) (ea_cons (ex_str (Nat.le_of_ble_eq_true rfl)) (ea_cons (ex_str (Nat.le_of_ble_eq_true rfl)) (ea_cons (ex_str (Nat.le_of_ble_eq_true rfl)) ea_nil)))))))))))) (Nat.le_of_ble_eq_true rfl))) (fun v_good_2 => (bx_bind fun g3 hg3 => (bx_asgB (e := (eL PyData.str)) (i := 1) (EXw.sh (exw_catT (EX.l (ex_var (i := 1) rfl)) (EXw.l (exw_lst (ds := ([(Str.ofString ""), (Str.ofString "BadHook"), (Str.ofString "")] : (List Str)).map PyData.str) (ea_cons (ex_str (Nat.le_of_ble_eq_true rfl)) (ea_cons (ex_str (Nat.le_of_ble_eq_true rfl)) (ea_cons (ex_str (Nat.le_of_ble_eq_true rfl)) ea_nil))) (Nat.le_of_ble_eq_true rfl))) (grd_ok hg3))) (fun v_good_4 => (bx_bindR (envS := (fun (s_1 : Unit) => [.sh ((eL PyData.int) ns_1), .sh ((eL PyData.str) v_good_4), .un, .un, .un, .un, .un, .un])) (encR := encR_l_law) (bx_forR (encR := encR_l_law) (envS := (fun (s_1 : Unit) => [.sh ((eL PyData.int) ns_1), .sh ((eL PyData.str) v_good_4), .un, .un, .un, .un, .un, .un])) (e := PyData.int) (envB := (fun (s_1 : Unit) (x5 : Int) => [.sh ((eL PyData.int) ns_1), .sh ((eL PyData.str) v_good_4), .sh (PyData.int x5), .un, .un, .un, .un, .un])) (f := (l_law_for1 ns_1 v_good_4)) (eis_rng1 ex_int (by decide)) (.same (.same (.un (.un (.un (.un (.un (.un .nil)))))))) (fun _ => trivial) (fun s_1 x5 _ => EGc.eg (vs := [2]) (egc_name (i := 2) (by decide))) (fun s_1 x5 _ => (bx_bind fun u6 hu6 => (bx_bind fun u9 hu9 => (bx_asg (d := (eL PyData.int) [u9.1, u9.2]) (ex_is (EXw.sh (exw_call (ea_cons (ex_var (i := 0) rfl) (ea_cons (ex_var (i := 2) rfl) (ea_cons (EXw.sh (exw_lst (ds := ([(6 : Int), ((10 : Int) ^ Int.toNat (29 : Int))] : (List Int)).map PyData.int) (ea_cons ex_int (ea_cons (ex_pow ex_int ex_int ⟨by decide, by decide, by decide⟩) ea_nil)) (Nat.le_of_ble_eq_true rfl))) ea_nil))) ⟨(ns_1, x5, ([(6 : Int), ((10 : Int) ^ Int.toNat (29 : Int))])), u6, rfl, hu6, rfl⟩)) (congrArg (eL PyData.int) (unp2_ok hu9))) (EGc.eg (vs := [3, 4]) (egc_lst (egs_cons (egc_name (i := 3) (by decide)) (egs_cons (egc_name (i := 4) (by decide)) egs_nil)) rfl)) (bx_bind fun u10 hu10 => (bx_asg (d := PyData.int u10) (ex_ixL (EXw.l (exw_lst (ds := ([(0 : Int), (11 : Int), ((11 : Int) + u9.2), (((0 : Int) - (1 : Int)) - u9.2), ((1 : Int) + (u9.2 % (10 : Int))), ((1 : Int) + (u9.2 % (6 : Int)))] : (List Int)).map PyData.int) (ea_cons ex_int (ea_cons ex_int (ea_cons (ex_add ex_int (ex_var (i := 4) rfl)) (ea_cons (ex_sub (ex_sub ex_int ex_int) (ex_var (i := 4) rfl)) (ea_cons (ex_add ex_int (ex_mod (ex_var (i := 4) rfl) ex_int (by decide))) (ea_cons (ex_add ex_int (ex_mod (ex_var (i := 4) rfl) ex_int (by decide))) ea_nil)))))) (Nat.le_of_ble_eq_true rfl))) (ex_var (i := 3) rfl) (atI_map hu10)) (EGc.eg (egc_name (i := 5) (vs := [5]) (by decide))) (bx_bindR (envS := (fun (s_2 : Unit) => [.sh ((eL PyData.int) ns_1), .sh ((eL PyData.str) v_good_4), .sh (PyData.int x5), .sh (PyData.int u9.1), .sh (PyData.int u9.2), .sh (PyData.int u10), .un, .un])) (encR := encR_l_law) (bx_forR (encR := encR_l_law) (envS := (fun (s_2 : Unit) => [.sh ((eL PyData.int) ns_1), .sh ((eL PyData.str) v_good_4), .sh (PyData.int x5), .sh (PyData.int u9.1), .sh (PyData.int u9.2), .sh (PyData.int u10), .un, .un])) (e := PyData.int) (envB := (fun (s_2 : Unit) (x11 : Int) => [.sh ((eL PyData.int) ns_1), .sh ((eL PyData.str) v_good_4), .sh (PyData.int x5), .sh (PyData.int u9.1), .sh (PyData.int u9.2), .sh (PyData.int u10), .sh (PyData.int x11), .un])) (f := (l_law_for2 v_good_4 u10)) (eis_rng1 ex_int (by decide)) (.same (.same (.same (.same (.same (.same (.un (.un .nil)))))))) (fun _ => trivial) (fun s_2 x11 _ => EGc.eg (vs := [6]) (egc_name (i := 6) (by decide))) (fun s_2 x11 _ => (bx_bind fun u12 hu12 => (bx_asg (d := PyData.str u12) (ex_ixL (EX.l (ex_var (i := 1) rfl)) (ex_var (i := 6) rfl) (atI_map hu12)) (EGc.eg (egc_name (i := 7) (vs := [7]) (by decide))) (bx_then (envS := fun (s13 : Str) => [.sh ((eL PyData.int) ns_1), .sh ((eL PyData.str) v_good_4), .sh (PyData.int x5), .sh (PyData.int u9.1), .sh (PyData.int u9.2), .sh (PyData.int u10), .sh (PyData.int x11), .sh (PyData.str s13)]) (bx_if (et_or (et_not (et_of (ex_chain (p := fun i j => decide (i < j)) (p' := fun i j => decide (i < j)) (fun _ _ => rfl) (fun _ _ => rfl) ex_int (ex_var (i := 5) rfl) ex_int))) (et_and (et_of (ex_eqI (ex_var (i := 6) rfl) ex_int)) (et_of (ex_gt (ex_var (i := 5) rfl) ex_int)))) (fun _ => (bx_asg (d := PyData.str (Str.ofString "BadPegs")) (ex_str (Nat.le_of_ble_eq_true rfl)) (EGc.eg (egc_name (i := 7) (vs := [7]) (by decide))) (bx_nx (.same (.same (.same (.same (.same (.same (.same (.same .nil)))))))) rfl))) (fun _ => (bx_nx (.same (.same (.same (.same (.same (.same (.same (.same .nil)))))))) rfl))) (fun s13 _ => (bx_bind fun u14 hu14 => (bx_ifRetM (encR := encR_l_law) (et_of (ex_neS (ex_call (ea_cons (ex_var (i := 6) rfl) (ea_cons (ex_var (i := 5) rfl) ea_nil)) ⟨(x11, u10), u14, rfl, hu14, rfl⟩) (ex_var (i := 7) rfl))) (fun _ => (bx_retS ex_bl rfl)) (fun _ _ h => nomatch h) (fun _ => rfl) (fun _ => (bx_nx (.same (.same (.same (.same (.same (.same (.un (.un .nil)))))))) rfl)))))))))) (fun _ => rfl) (fun _ _ h => nomatch h) (fun s15 _ => (bx_nx (.same (.same (.un (.un (.un (.un (.un (.un .nil)))))))) rfl)))))))))) (fun _ => rfl) (fun _ _ h => nomatch h) (fun s16 _ => (bx_retS ex_bl rfl)))))))))))
end Rb.M_k07

set_option Elab.async false
set_option linter.all false
set_option maxRecDepth 100000
set_option maxHeartbeats 0
namespace Rb.M_k07
open PySem PySem.Spec PyProof.Rows L2 Rb
theorem t_x {P : Program} {w : World} {K : PySem.W.Frag} {h : Heap} {mg : Str → Option Value} (X : K.In h) (G : h.Ns mainGlobals mg) (c : He.SaysD fa fn K) (hE : exA K = true) : Tx K mg := ⟨trivial, ⟨He.glo_ok X G (c.fact 66 (f := .glo "BadFrame") rfl), c.fact 62 (f := .exc "BadFrame") rfl⟩, ⟨He.glo_ok X G (c.fact 68 (f := .glo "BadHook") rfl), c.fact 63 (f := .exc "BadHook") rfl⟩, ⟨He.glo_ok X G (c.fact 71 (f := .glo "BadPegs") rfl), c.fact 64 (f := .exc "BadPegs") rfl⟩, ⟨He.glo_ok X G (c.fact 76 (f := .glo "NoNumber") rfl), c.fact 65 (f := .exc "NoNumber") rfl⟩, He.glo_ok X G (c.fact 66 (f := .glo "BadFrame") rfl), He.glo_ok X G (c.fact 67 (f := .glo "BadHalf") rfl), He.glo_ok X G (c.fact 68 (f := .glo "BadHook") rfl), He.glo_ok X G (c.fact 69 (f := .glo "BadName") rfl), He.glo_ok X G (c.fact 70 (f := .glo "BadPage") rfl), He.glo_ok X G (c.fact 71 (f := .glo "BadPegs") rfl), He.glo_ok X G (c.fact 72 (f := .glo "BadTrade") rfl), He.glo_ok X G (c.fact 73 (f := .glo "Full") rfl), He.glo_ok X G (c.fact 74 (f := .glo "Hangs") rfl), He.glo_ok X G (c.fact 75 (f := .glo "NoFrame") rfl), He.glo_ok X G (c.fact 76 (f := .glo "NoNumber") rfl), He.glo_ok X G (c.fact 77 (f := .glo "NoPlace") rfl), He.glo_ok X G (c.fact 78 (f := .glo "NoStack") rfl), He.glo_ok X G (c.fact 79 (f := .glo "NothingThere") rfl), He.glo_ok X G (c.fact 80 (f := .glo "RibbonError") rfl), He.glo_ok X G (c.fact 81 (f := .glo "Taken") rfl), (Bool.and_eq_true_iff.mp hE).1, oexB_ok (List.all_eq_true.mp (Bool.and_eq_true_iff.mp hE).2 ("at", "BadTrade") (by simp)), He.free_ok X G (c.fact 52 (f := .free "ValueError") rfl), He.free_ok X G (c.fact 53 (f := .free "abs") rfl), He.free_ok X G (c.fact 54 (f := .free "enumerate") rfl), He.free_ok X G (c.fact 55 (f := .free "isinstance") rfl), He.free_ok X G (c.fact 56 (f := .free "len") rfl), He.free_ok X G (c.fact 57 (f := .free "list") rfl), He.free_ok X G (c.fact 58 (f := .free "range") rfl), He.free_ok X G (c.fact 59 (f := .free "sorted") rfl), He.free_ok X G (c.fact 60 (f := .free "tuple") rfl), He.free_ok X G (c.fact 61 (f := .free "zip") rfl), He.int_ok X G (c.fact 94 (f := .int "MOST_LISTED" 6) rfl), He.int_ok X G (c.fact 95 (f := .int "MOST_PEGS" 10) rfl)⟩
theorem hX_BadTrade {P : Program} {w : World} {K : PySem.W.Frag} {h : Heap} {mg : Str → Option Value} (X : K.In h) (G : h.Ns mainGlobals mg) (c : He.SaysD fa fn K) (T : Tx K mg) (base : Heap) : ExI P w K mg base "at" "BadTrade" := by
  obtain ⟨fd, F⟩ := c.def_ 52 (d := dI_BadTrade) rfl
  exact ⟨T.cls_BadTrade, T.oex_BadTrade, _, ini_ok F ⟨rfl, rfl, rfl, by decide +kernel, rfl, by decide +kernel, by decide +kernel⟩ (fun _ _ _ _ _ _ => pss_cons (ps_ost (pv 0) (pv 1)) pss_nil), F.bindsN (fun _ _ _ _ _ _ us hl => match us, hl with | [_, _], _ => rfl)⟩
theorem hG_ask_pegs {P : Program} {w : World} {K : PySem.W.Frag} {h : Heap} {mg : Str → Option Value} (X : K.In h) (G : h.Ns mainGlobals mg) (c : He.SaysD fa fn K) (T : Tx K mg) (base : Heap) : Fn P w K mg base "ask_pegs" 1 I_p_ask_pegs := by
  obtain ⟨fd, F⟩ := c.def_ 0 (d := dD 20 "ask_pegs") rfl
  exact fn_p_ask_pegs (P := P) (w := w) (base := base) F (He.glo_ok X G (c.fact 0 (f := .glo "ask_pegs") rfl)) T 
theorem hG_x_ask_pegs {P : Program} {w : World} {K : PySem.W.Frag} {h : Heap} {mg : Str → Option Value} (X : K.In h) (G : h.Ns mainGlobals mg) (c : He.SaysD fa fn K) (T : Tx K mg) (base : Heap) : FnX P w K mg base "ask_pegs" 1 I_x_ask_pegs := by
  obtain ⟨fd, F⟩ := c.def_ 0 (d := dD 20 "ask_pegs") rfl
  exact fn_x_ask_pegs (P := P) (w := w) (base := base) F (He.glo_ok X G (c.fact 0 (f := .glo "ask_pegs") rfl)) T 
theorem hM_Loft {P : Program} {w : World} {K : PySem.W.Frag} {h : Heap} {mg : Str → Option Value} (X : K.In h) (G : h.Ns mainGlobals mg) (c : He.SaysD fa fn K) (T : Tx K mg) (base : Heap) : MkE P w K mg base "Loft" 2 (I_mk_Loft K) := by
  obtain ⟨fd, F⟩ := c.def_ 54 (d := dI_Loft) rfl
  exact fn_mk_Loft (P := P) (w := w) (base := base) F (He.mkr_ok (c.fact 88 (f := .mkr "Loft") rfl)) (He.glo_ok X G (c.fact 86 (f := .glo "Loft") rfl)) (He.cls_ok (c.fact 87 (f := .cls "Loft") rfl)) (He.noat_ok (c.fact 89 (f := .noat "Loft" "width") rfl)) (He.noat_ok (c.fact 90 (f := .noat "Loft" "known") rfl)) (He.noat_ok (c.fact 91 (f := .noat "Loft" "piles") rfl)) (He.noat_ok (c.fact 92 (f := .noat "Loft" "past") rfl)) (He.noat_ok (c.fact 93 (f := .noat "Loft" "ahead") rfl)) T (hG_x_ask_pegs X G c T base)
theorem hM_Desk {P : Program} {w : World} {K : PySem.W.Frag} {h : Heap} {mg : Str → Option Value} (X : K.In h) (G : h.Ns mainGlobals mg) (c : He.SaysD fa fn K) (T : Tx K mg) (base : Heap) : MkE P w K mg base "Desk" 4 (I_mk_Desk K) := by
  obtain ⟨fd, F⟩ := c.def_ 53 (d := dI_Desk) rfl
  exact fn_mk_Desk (P := P) (w := w) (base := base) F (He.mkr_ok (c.fact 84 (f := .mkr "Desk") rfl)) (He.glo_ok X G (c.fact 82 (f := .glo "Desk") rfl)) (He.cls_ok (c.fact 83 (f := .cls "Desk") rfl)) (He.noat_ok (c.fact 85 (f := .noat "Desk" "own") rfl)) T (hM_Loft X G c T base)
theorem hG_turned_round {P : Program} {w : World} {K : PySem.W.Frag} {h : Heap} {mg : Str → Option Value} (X : K.In h) (G : h.Ns mainGlobals mg) (c : He.SaysD fa fn K) (T : Tx K mg) (base : Heap) : Fn P w K mg base "turned_round" 1 I_p_turned_round := by
  obtain ⟨fd, F⟩ := c.def_ 1 (d := dD 21 "turned_round") rfl
  exact fn_p_turned_round (P := P) (w := w) (base := base) F (He.glo_ok X G (c.fact 1 (f := .glo "turned_round") rfl)) T 
theorem hG_in_round {P : Program} {w : World} {K : PySem.W.Frag} {h : Heap} {mg : Str → Option Value} (X : K.In h) (G : h.Ns mainGlobals mg) (c : He.SaysD fa fn K) (T : Tx K mg) (base : Heap) : Fn P w K mg base "in_round" 2 I_p_in_round := by
  obtain ⟨fd, F⟩ := c.def_ 2 (d := dD 22 "in_round") rfl
  exact fn_p_in_round (P := P) (w := w) (base := base) F (He.glo_ok X G (c.fact 2 (f := .glo "in_round") rfl)) T (hG_turned_round X G c T base)
theorem hG_in_round_L {P : Program} {w : World} {K : PySem.W.Frag} {h : Heap} {mg : Str → Option Value} (X : K.In h) (G : h.Ns mainGlobals mg) (c : He.SaysD fa fn K) (T : Tx K mg) (base : Heap) : Fn P w K mg base "in_round" 2 I_p_in_round_L := by
  obtain ⟨fd, F⟩ := c.def_ 2 (d := dD 22 "in_round") rfl
  exact fn_p_in_round_L (P := P) (w := w) (base := base) F (He.glo_ok X G (c.fact 2 (f := .glo "in_round") rfl)) T (hG_turned_round X G c T base)
theorem hG_out_of_round {P : Program} {w : World} {K : PySem.W.Frag} {h : Heap} {mg : Str → Option Value} (X : K.In h) (G : h.Ns mainGlobals mg) (c : He.SaysD fa fn K) (T : Tx K mg) (base : Heap) : Fn P w K mg base "out_of_round" 2 I_p_out_of_round := by
  obtain ⟨fd, F⟩ := c.def_ 3 (d := dD 23 "out_of_round") rfl
  exact fn_p_out_of_round (P := P) (w := w) (base := base) F (He.glo_ok X G (c.fact 3 (f := .glo "out_of_round") rfl)) T (hG_turned_round X G c T base)
theorem hG_are_ties {P : Program} {w : World} {K : PySem.W.Frag} {h : Heap} {mg : Str → Option Value} (X : K.In h) (G : h.Ns mainGlobals mg) (c : He.SaysD fa fn K) (T : Tx K mg) (base : Heap) : Fn P w K mg base "are_ties" 1 I_p_are_ties := by
  obtain ⟨fd, F⟩ := c.def_ 4 (d := dD 24 "are_ties") rfl
  exact fn_p_are_ties (P := P) (w := w) (base := base) F (He.glo_ok X G (c.fact 4 (f := .glo "are_ties") rfl)) T 
theorem hG_nested {P : Program} {w : World} {K : PySem.W.Frag} {h : Heap} {mg : Str → Option Value} (X : K.In h) (G : h.Ns mainGlobals mg) (c : He.SaysD fa fn K) (T : Tx K mg) (base : Heap) : Fn P w K mg base "nested" 1 I_p_nested := by
  obtain ⟨fd, F⟩ := c.def_ 5 (d := dD 25 "nested") rfl
  exact fn_p_nested (P := P) (w := w) (base := base) F (He.glo_ok X G (c.fact 5 (f := .glo "nested") rfl)) T 
theorem hG_is_frame {P : Program} {w : World} {K : PySem.W.Frag} {h : Heap} {mg : Str → Option Value} (X : K.In h) (G : h.Ns mainGlobals mg) (c : He.SaysD fa fn K) (T : Tx K mg) (base : Heap) : Fn P w K mg base "is_frame" 3 I_p_is_frame := by
  obtain ⟨fd, F⟩ := c.def_ 6 (d := dD 26 "is_frame") rfl
  exact fn_p_is_frame (P := P) (w := w) (base := base) F (He.glo_ok X G (c.fact 6 (f := .glo "is_frame") rfl)) T (hG_are_ties X G c T base) (hG_in_round X G c T base) (hG_nested X G c T base)
theorem hG_ask_frame {P : Program} {w : World} {K : PySem.W.Frag} {h : Heap} {mg : Str → Option Value} (X : K.In h) (G : h.Ns mainGlobals mg) (c : He.SaysD fa fn K) (T : Tx K mg) (base : Heap) : Fn P w K mg base "ask_frame" 4 I_p_ask_frame := by
  obtain ⟨fd, F⟩ := c.def_ 7 (d := dD 27 "ask_frame") rfl
  exact fn_p_ask_frame (P := P) (w := w) (base := base) F (He.glo_ok X G (c.fact 7 (f := .glo "ask_frame") rfl)) T (hG_is_frame X G c T base)
theorem hG_x_ask_frame {P : Program} {w : World} {K : PySem.W.Frag} {h : Heap} {mg : Str → Option Value} (X : K.In h) (G : h.Ns mainGlobals mg) (c : He.SaysD fa fn K) (T : Tx K mg) (base : Heap) : FnX P w K mg base "ask_frame" 4 I_x_ask_frame := by
  obtain ⟨fd, F⟩ := c.def_ 7 (d := dD 27 "ask_frame") rfl
  exact fn_x_ask_frame (P := P) (w := w) (base := base) F (He.glo_ok X G (c.fact 7 (f := .glo "ask_frame") rfl)) T (hG_is_frame X G c T base)
theorem hG_plain {P : Program} {w : World} {K : PySem.W.Frag} {h : Heap} {mg : Str → Option Value} (X : K.In h) (G : h.Ns mainGlobals mg) (c : He.SaysD fa fn K) (T : Tx K mg) (base : Heap) : Fn P w K mg base "plain" 2 I_p_plain := by
  obtain ⟨fd, F⟩ := c.def_ 8 (d := dD 28 "plain") rfl
  exact fn_p_plain (P := P) (w := w) (base := base) F (He.glo_ok X G (c.fact 8 (f := .glo "plain") rfl)) T (hG_ask_pegs X G c T base)
theorem hG_x_plain {P : Program} {w : World} {K : PySem.W.Frag} {h : Heap} {mg : Str → Option Value} (X : K.In h) (G : h.Ns mainGlobals mg) (c : He.SaysD fa fn K) (T : Tx K mg) (base : Heap) : FnX P w K mg base "plain" 2 I_x_plain := by
  obtain ⟨fd, F⟩ := c.def_ 8 (d := dD 28 "plain") rfl
  exact fn_x_plain (P := P) (w := w) (base := base) F (He.glo_ok X G (c.fact 8 (f := .glo "plain") rfl)) T (hG_x_ask_pegs X G c T base)
theorem hG_from_brackets {P : Program} {w : World} {K : PySem.W.Frag} {h : Heap} {mg : Str → Option Value} (X : K.In h) (G : h.Ns mainGlobals mg) (c : He.SaysD fa fn K) (T : Tx K mg) (base : Heap) : Fn P w K mg base "from_brackets" 3 I_p_from_brackets := by
  obtain ⟨fd, F⟩ := c.def_ 9 (d := dD 33 "from_brackets") rfl
  exact fn_p_from_brackets (P := P) (w := w) (base := base) F (He.glo_ok X G (c.fact 9 (f := .glo "from_brackets") rfl)) T (hG_out_of_round X G c T base)
theorem hG_followed {P : Program} {w : World} {K : PySem.W.Frag} {h : Heap} {mg : Str → Option Value} (X : K.In h) (G : h.Ns mainGlobals mg) (c : He.SaysD fa fn K) (T : Tx K mg) (base : Heap) : Fn P w K mg base "followed" 1 I_p_followed := by
  obtain ⟨fd, F⟩ := c.def_ 10 (d := dD 35 "followed") rfl
  exact fn_p_followed (P := P) (w := w) (base := base) F (He.glo_ok X G (c.fact 10 (f := .glo "followed") rfl)) T 
theorem hG_rings_left {P : Program} {w : World} {K : PySem.W.Frag} {h : Heap} {mg : Str → Option Value} (X : K.In h) (G : h.Ns mainGlobals mg) (c : He.SaysD fa fn K) (T : Tx K mg) (base : Heap) : Fn P w K mg base "rings_left" 1 I_p_rings_left := by
  obtain ⟨fd, F⟩ := c.def_ 11 (d := dD 36 "rings_left") rfl
  exact fn_p_rings_left (P := P) (w := w) (base := base) F (He.glo_ok X G (c.fact 11 (f := .glo "rings_left") rfl)) T 
theorem hG_put_together {P : Program} {w : World} {K : PySem.W.Frag} {h : Heap} {mg : Str → Option Value} (X : K.In h) (G : h.Ns mainGlobals mg) (c : He.SaysD fa fn K) (T : Tx K mg) (base : Heap) : Fn P w K mg base "put_together" 2 I_p_put_together := by
  obtain ⟨fd, F⟩ := c.def_ 12 (d := dD 37 "put_together") rfl
  exact fn_p_put_together (P := P) (w := w) (base := base) F (He.glo_ok X G (c.fact 12 (f := .glo "put_together") rfl)) T (hG_followed X G c T base) (hG_rings_left X G c T base)
theorem hG_stacked {P : Program} {w : World} {K : PySem.W.Frag} {h : Heap} {mg : Str → Option Value} (X : K.In h) (G : h.Ns mainGlobals mg) (c : He.SaysD fa fn K) (T : Tx K mg) (base : Heap) : Fn P w K mg base "stacked" 5 I_p_stacked := by
  obtain ⟨fd, F⟩ := c.def_ 13 (d := dD 38 "stacked") rfl
  exact fn_p_stacked (P := P) (w := w) (base := base) F (He.glo_ok X G (c.fact 13 (f := .glo "stacked") rfl)) T (hG_plain X G c T base) (hG_ask_frame X G c T base) (hG_put_together X G c T base)
theorem hG_x_stacked {P : Program} {w : World} {K : PySem.W.Frag} {h : Heap} {mg : Str → Option Value} (X : K.In h) (G : h.Ns mainGlobals mg) (c : He.SaysD fa fn K) (T : Tx K mg) (base : Heap) : FnX P w K mg base "stacked" 5 I_x_stacked := by
  obtain ⟨fd, F⟩ := c.def_ 13 (d := dD 38 "stacked") rfl
  exact fn_x_stacked (P := P) (w := w) (base := base) F (He.glo_ok X G (c.fact 13 (f := .glo "stacked") rfl)) T (hG_x_plain X G c T base) (hG_x_ask_frame X G c T base) (hG_put_together X G c T base)
theorem hG_ask_hook {P : Program} {w : World} {K : PySem.W.Frag} {h : Heap} {mg : Str → Option Value} (X : K.In h) (G : h.Ns mainGlobals mg) (c : He.SaysD fa fn K) (T : Tx K mg) (base : Heap) : Fn P w K mg base "ask_hook" 1 I_p_ask_hook := by
  obtain ⟨fd, F⟩ := c.def_ 14 (d := dD 40 "ask_hook") rfl
  exact fn_p_ask_hook (P := P) (w := w) (base := base) F (He.glo_ok X G (c.fact 14 (f := .glo "ask_hook") rfl)) T 
theorem hG_x_ask_hook {P : Program} {w : World} {K : PySem.W.Frag} {h : Heap} {mg : Str → Option Value} (X : K.In h) (G : h.Ns mainGlobals mg) (c : He.SaysD fa fn K) (T : Tx K mg) (base : Heap) : FnX P w K mg base "ask_hook" 1 I_x_ask_hook := by
  obtain ⟨fd, F⟩ := c.def_ 14 (d := dD 40 "ask_hook") rfl
  exact fn_x_ask_hook (P := P) (w := w) (base := base) F (He.glo_ok X G (c.fact 14 (f := .glo "ask_hook") rfl)) T 
theorem hG_ask_row {P : Program} {w : World} {K : PySem.W.Frag} {h : Heap} {mg : Str → Option Value} (X : K.In h) (G : h.Ns mainGlobals mg) (c : He.SaysD fa fn K) (T : Tx K mg) (base : Heap) : Fn P w K mg base "ask_row" 2 I_p_ask_row := by
  obtain ⟨fd, F⟩ := c.def_ 15 (d := dD 41 "ask_row") rfl
  exact fn_p_ask_row (P := P) (w := w) (base := base) F (He.glo_ok X G (c.fact 15 (f := .glo "ask_row") rfl)) T (hG_ask_pegs X G c T base) (hG_ask_hook X G c T base)
theorem hG_x_ask_row {P : Program} {w : World} {K : PySem.W.Frag} {h : Heap} {mg : Str → Option Value} (X : K.In h) (G : h.Ns mainGlobals mg) (c : He.SaysD fa fn K) (T : Tx K mg) (base : Heap) : FnX P w K mg base "ask_row" 2 I_x_ask_row := by
  obtain ⟨fd, F⟩ := c.def_ 15 (d := dD 41 "ask_row") rfl
  exact fn_x_ask_row (P := P) (w := w) (base := base) F (He.glo_ok X G (c.fact 15 (f := .glo "ask_row") rfl)) T (hG_x_ask_pegs X G c T base) (hG_x_ask_hook X G c T base)
theorem hG_hook {P : Program} {w : World} {K : PySem.W.Frag} {h : Heap} {mg : Str → Option Value} (X : K.In h) (G : h.Ns mainGlobals mg) (c : He.SaysD fa fn K) (T : Tx K mg) (base : Heap) : Fn P w K mg base "hook" 3 I_p_hook := by
  obtain ⟨fd, F⟩ := c.def_ 16 (d := dD 42 "hook") rfl
  exact fn_p_hook (P := P) (w := w) (base := base) F (He.glo_ok X G (c.fact 16 (f := .glo "hook") rfl)) T (hG_ask_pegs X G c T base) (hG_ask_hook X G c T base) (hG_plain X G c T base)
theorem hG_hook_hooks {P : Program} {w : World} {K : PySem.W.Frag} {h : Heap} {mg : Str → Option Value} (X : K.In h) (G : h.Ns mainGlobals mg) (c : He.SaysD fa fn K) (T : Tx K mg) (base : Heap) : Fn P w K mg base "hook_hooks" 3 I_p_hook_hooks := by
  obtain ⟨fd, F⟩ := c.def_ 51 (d := dA 42 "hook_hooks" "hook") rfl
  exact fn_p_hook_hooks (P := P) (w := w) (base := base) F (He.glo_ok X G (c.fact 51 (f := .glo "hook_hooks") rfl)) T (hG_ask_pegs X G c T base) (hG_ask_hook X G c T base) (hG_plain X G c T base)
theorem hG_x_hook_hooks {P : Program} {w : World} {K : PySem.W.Frag} {h : Heap} {mg : Str → Option Value} (X : K.In h) (G : h.Ns mainGlobals mg) (c : He.SaysD fa fn K) (T : Tx K mg) (base : Heap) : FnX P w K mg base "hook_hooks" 3 I_x_hook_hooks := by
  obtain ⟨fd, F⟩ := c.def_ 51 (d := dA 42 "hook_hooks" "hook") rfl
  exact fn_x_hook_hooks (P := P) (w := w) (base := base) F (He.glo_ok X G (c.fact 51 (f := .glo "hook_hooks") rfl)) T (hG_x_ask_pegs X G c T base) (hG_x_ask_hook X G c T base) (hG_plain X G c T base)
theorem hG_made {P : Program} {w : World} {K : PySem.W.Frag} {h : Heap} {mg : Str → Option Value} (X : K.In h) (G : h.Ns mainGlobals mg) (c : He.SaysD fa fn K) (T : Tx K mg) (base : Heap) : Fn P w K mg base "made" 4 I_p_made := by
  obtain ⟨fd, F⟩ := c.def_ 17 (d := dD 44 "made") rfl
  exact fn_p_made (P := P) (w := w) (base := base) F (He.glo_ok X G (c.fact 17 (f := .glo "made") rfl)) T (hG_ask_row X G c T base) (hG_plain X G c T base) (hG_hook_hooks X G c T base) (hG_put_together X G c T base)
theorem hG_x_made {P : Program} {w : World} {K : PySem.W.Frag} {h : Heap} {mg : Str → Option Value} (X : K.In h) (G : h.Ns mainGlobals mg) (c : He.SaysD fa fn K) (T : Tx K mg) (base : Heap) : FnX P w K mg base "made" 4 I_x_made := by
  obtain ⟨fd, F⟩ := c.def_ 17 (d := dD 44 "made") rfl
  exact fn_x_made (P := P) (w := w) (base := base) F (He.glo_ok X G (c.fact 17 (f := .glo "made") rfl)) T (hG_x_ask_row X G c T base) (hG_plain X G c T base) (hG_hook_hooks X G c T base) (hG_put_together X G c T base)
theorem hG_ways_on {P : Program} {w : World} {K : PySem.W.Frag} {h : Heap} {mg : Str → Option Value} (X : K.In h) (G : h.Ns mainGlobals mg) (c : He.SaysD fa fn K) (T : Tx K mg) (base : Heap) : Fn P w K mg base "ways_on" 1 I_p_ways_on := by
  obtain ⟨fd, F⟩ := c.def_ 18 (d := dD 86 "ways_on") rfl
  exact fn_p_ways_on (P := P) (w := w) (base := base) F (He.glo_ok X G (c.fact 18 (f := .glo "ways_on") rfl)) T 
theorem hG_how_many {P : Program} {w : World} {K : PySem.W.Frag} {h : Heap} {mg : Str → Option Value} (X : K.In h) (G : h.Ns mainGlobals mg) (c : He.SaysD fa fn K) (T : Tx K mg) (base : Heap) : Fn P w K mg base "how_many" 2 I_p_how_many := by
  obtain ⟨fd, F⟩ := c.def_ 19 (d := dD 87 "how_many") rfl
  exact fn_p_how_many (P := P) (w := w) (base := base) F (He.glo_ok X G (c.fact 19 (f := .glo "how_many") rfl)) T (hG_ask_pegs X G c T base) (hG_ways_on X G c T base)
theorem hG_x_how_many {P : Program} {w : World} {K : PySem.W.Frag} {h : Heap} {mg : Str → Option Value} (X : K.In h) (G : h.Ns mainGlobals mg) (c : He.SaysD fa fn K) (T : Tx K mg) (base : Heap) : FnX P w K mg base "how_many" 2 I_x_how_many := by
  obtain ⟨fd, F⟩ := c.def_ 19 (d := dD 87 "how_many") rfl
  exact fn_x_how_many (P := P) (w := w) (base := base) F (He.glo_ok X G (c.fact 19 (f := .glo "how_many") rfl)) T (hG_x_ask_pegs X G c T base) (hG_ways_on X G c T base)
theorem hG_numbered {P : Program} {w : World} {K : PySem.W.Frag} {h : Heap} {mg : Str → Option Value} (X : K.In h) (G : h.Ns mainGlobals mg) (c : He.SaysD fa fn K) (T : Tx K mg) (base : Heap) : Fn P w K mg base "numbered" 4 I_p_numbered := by
  obtain ⟨fd, F⟩ := c.def_ 20 (d := dD 88 "numbered") rfl
  exact fn_p_numbered (P := P) (w := w) (base := base) F (He.glo_ok X G (c.fact 20 (f := .glo "numbered") rfl)) T (hG_ask_pegs X G c T base) (hG_how_many X G c T base) (hG_ways_on X G c T base) (hG_from_brackets X G c T base)
theorem hG_x_numbered {P : Program} {w : World} {K : PySem.W.Frag} {h : Heap} {mg : Str → Option Value} (X : K.In h) (G : h.Ns mainGlobals mg) (c : He.SaysD fa fn K) (T : Tx K mg) (base : Heap) : FnX P w K mg base "numbered" 4 I_x_numbered := by
  obtain ⟨fd, F⟩ := c.def_ 20 (d := dD 88 "numbered") rfl
  exact fn_x_numbered (P := P) (w := w) (base := base) F (He.glo_ok X G (c.fact 20 (f := .glo "numbered") rfl)) T (hG_x_ask_pegs X G c T base) (hG_how_many X G c T base) (hG_ways_on X G c T base) (hG_from_brackets X G c T base)
theorem hG_every {P : Program} {w : World} {K : PySem.W.Frag} {h : Heap} {mg : Str → Option Value} (X : K.In h) (G : h.Ns mainGlobals mg) (c : He.SaysD fa fn K) (T : Tx K mg) (base : Heap) : Fn P w K mg base "every" 5 I_p_every := by
  obtain ⟨fd, F⟩ := c.def_ 21 (d := dD 89 "every") rfl
  exact fn_p_every (P := P) (w := w) (base := base) F (He.glo_ok X G (c.fact 21 (f := .glo "every") rfl)) T (hG_ask_pegs X G c T base) (hG_how_many X G c T base) (hG_numbered X G c T base)
theorem hG_x_every {P : Program} {w : World} {K : PySem.W.Frag} {h : Heap} {mg : Str → Option Value} (X : K.In h) (G : h.Ns mainGlobals mg) (c : He.SaysD fa fn K) (T : Tx K mg) (base : Heap) : FnX P w K mg base "every" 5 I_x_every := by
  obtain ⟨fd, F⟩ := c.def_ 21 (d := dD 89 "every") rfl
  exact fn_x_every (P := P) (w := w) (base := base) F (He.glo_ok X G (c.fact 21 (f := .glo "every") rfl)) T (hG_x_ask_pegs X G c T base) (hG_how_many X G c T base) (hG_numbered X G c T base)
theorem hG_texts {P : Program} {w : World} {K : PySem.W.Frag} {h : Heap} {mg : Str → Option Value} (X : K.In h) (G : h.Ns mainGlobals mg) (c : He.SaysD fa fn K) (T : Tx K mg) (base : Heap) : Fn P w K mg base "texts" 1 I_p_texts := by
  obtain ⟨fd, F⟩ := c.def_ 22 (d := dD 90 "texts") rfl
  exact fn_p_texts (P := P) (w := w) (base := base) F (He.glo_ok X G (c.fact 22 (f := .glo "texts") rfl)) T 
theorem hG_half_in {P : Program} {w : World} {K : PySem.W.Frag} {h : Heap} {mg : Str → Option Value} (X : K.In h) (G : h.Ns mainGlobals mg) (c : He.SaysD fa fn K) (T : Tx K mg) (base : Heap) : Fn P w K mg base "half_in" 1 I_p_half_in := by
  obtain ⟨fd, F⟩ := c.def_ 23 (d := dD 91 "half_in") rfl
  exact fn_p_half_in (P := P) (w := w) (base := base) F (He.glo_ok X G (c.fact 23 (f := .glo "half_in") rfl)) T 
theorem hG_halves {P : Program} {w : World} {K : PySem.W.Frag} {h : Heap} {mg : Str → Option Value} (X : K.In h) (G : h.Ns mainGlobals mg) (c : He.SaysD fa fn K) (T : Tx K mg) (base : Heap) : Fn P w K mg base "halves" 2 I_p_halves := by
  obtain ⟨fd, F⟩ := c.def_ 24 (d := dD 92 "halves") rfl
  exact fn_p_halves (P := P) (w := w) (base := base) F (He.glo_ok X G (c.fact 24 (f := .glo "halves") rfl)) T (hG_texts X G c T base) (hG_half_in X G c T base)
theorem hG_how_many_halves {P : Program} {w : World} {K : PySem.W.Frag} {h : Heap} {mg : Str → Option Value} (X : K.In h) (G : h.Ns mainGlobals mg) (c : He.SaysD fa fn K) (T : Tx K mg) (base : Heap) : Fn P w K mg base "how_many_halves" 3 I_p_how_many_halves := by
  obtain ⟨fd, F⟩ := c.def_ 25 (d := dD 93 "how_many_halves") rfl
  exact fn_p_how_many_halves (P := P) (w := w) (base := base) F (He.glo_ok X G (c.fact 25 (f := .glo "how_many_halves") rfl)) T (hG_ask_pegs X G c T base) (hG_halves X G c T base)
theorem hG_x_how_many_halves {P : Program} {w : World} {K : PySem.W.Frag} {h : Heap} {mg : Str → Option Value} (X : K.In h) (G : h.Ns mainGlobals mg) (c : He.SaysD fa fn K) (T : Tx K mg) (base : Heap) : FnX P w K mg base "how_many_halves" 3 I_x_how_many_halves := by
  obtain ⟨fd, F⟩ := c.def_ 25 (d := dD 93 "how_many_halves") rfl
  exact fn_x_how_many_halves (P := P) (w := w) (base := base) F (He.glo_ok X G (c.fact 25 (f := .glo "how_many_halves") rfl)) T (hG_x_ask_pegs X G c T base) (hG_halves X G c T base)
theorem hG_half_of {P : Program} {w : World} {K : PySem.W.Frag} {h : Heap} {mg : Str → Option Value} (X : K.In h) (G : h.Ns mainGlobals mg) (c : He.SaysD fa fn K) (T : Tx K mg) (base : Heap) : Fn P w K mg base "half_of" 3 I_p_half_of := by
  obtain ⟨fd, F⟩ := c.def_ 26 (d := dD 94 "half_of") rfl
  exact fn_p_half_of (P := P) (w := w) (base := base) F (He.glo_ok X G (c.fact 26 (f := .glo "half_of") rfl)) T (hG_ask_pegs X G c T base) (hG_halves X G c T base)
theorem hG_x_half_of {P : Program} {w : World} {K : PySem.W.Frag} {h : Heap} {mg : Str → Option Value} (X : K.In h) (G : h.Ns mainGlobals mg) (c : He.SaysD fa fn K) (T : Tx K mg) (base : Heap) : FnX P w K mg base "half_of" 3 I_x_half_of := by
  obtain ⟨fd, F⟩ := c.def_ 26 (d := dD 94 "half_of") rfl
  exact fn_x_half_of (P := P) (w := w) (base := base) F (He.glo_ok X G (c.fact 26 (f := .glo "half_of") rfl)) T (hG_x_ask_pegs X G c T base) (hG_halves X G c T base)
theorem hG_beside {P : Program} {w : World} {K : PySem.W.Frag} {h : Heap} {mg : Str → Option Value} (X : K.In h) (G : h.Ns mainGlobals mg) (c : He.SaysD fa fn K) (T : Tx K mg) (base : Heap) : Fn P w K mg base "beside" 1 I_p_beside := by
  obtain ⟨fd, F⟩ := c.def_ 27 (d := dD 96 "beside") rfl
  exact fn_p_beside (P := P) (w := w) (base := base) F (He.glo_ok X G (c.fact 27 (f := .glo "beside") rfl)) T 
theorem hG_swapped {P : Program} {w : World} {K : PySem.W.Frag} {h : Heap} {mg : Str → Option Value} (X : K.In h) (G : h.Ns mainGlobals mg) (c : He.SaysD fa fn K) (T : Tx K mg) (base : Heap) : Fn P w K mg base "swapped" 1 I_p_swapped := by
  obtain ⟨fd, F⟩ := c.def_ 28 (d := dD 97 "swapped") rfl
  exact fn_p_swapped (P := P) (w := w) (base := base) F (He.glo_ok X G (c.fact 28 (f := .glo "swapped") rfl)) T 
theorem hG_dropped {P : Program} {w : World} {K : PySem.W.Frag} {h : Heap} {mg : Str → Option Value} (X : K.In h) (G : h.Ns mainGlobals mg) (c : He.SaysD fa fn K) (T : Tx K mg) (base : Heap) : Fn P w K mg base "dropped" 1 I_p_dropped := by
  obtain ⟨fd, F⟩ := c.def_ 29 (d := dD 98 "dropped") rfl
  exact fn_p_dropped (P := P) (w := w) (base := base) F (He.glo_ok X G (c.fact 29 (f := .glo "dropped") rfl)) T 
theorem hG_cut {P : Program} {w : World} {K : PySem.W.Frag} {h : Heap} {mg : Str → Option Value} (X : K.In h) (G : h.Ns mainGlobals mg) (c : He.SaysD fa fn K) (T : Tx K mg) (base : Heap) : Fn P w K mg base "cut" 2 I_p_cut := by
  obtain ⟨fd, F⟩ := c.def_ 30 (d := dD 99 "cut") rfl
  exact fn_p_cut (P := P) (w := w) (base := base) F (He.glo_ok X G (c.fact 30 (f := .glo "cut") rfl)) T (hG_beside X G c T base)
theorem hG_grown {P : Program} {w : World} {K : PySem.W.Frag} {h : Heap} {mg : Str → Option Value} (X : K.In h) (G : h.Ns mainGlobals mg) (c : He.SaysD fa fn K) (T : Tx K mg) (base : Heap) : Fn P w K mg base "grown" 2 I_p_grown := by
  obtain ⟨fd, F⟩ := c.def_ 31 (d := dD 100 "grown") rfl
  exact fn_p_grown (P := P) (w := w) (base := base) F (He.glo_ok X G (c.fact 31 (f := .glo "grown") rfl)) T (hG_beside X G c T base)
theorem hG_behind {P : Program} {w : World} {K : PySem.W.Frag} {h : Heap} {mg : Str → Option Value} (X : K.In h) (G : h.Ns mainGlobals mg) (c : He.SaysD fa fn K) (T : Tx K mg) (base : Heap) : Fn P w K mg base "behind" 3 I_p_behind := by
  obtain ⟨fd, F⟩ := c.def_ 32 (d := dD 101 "behind") rfl
  exact fn_p_behind (P := P) (w := w) (base := base) F (He.glo_ok X G (c.fact 32 (f := .glo "behind") rfl)) T (hG_grown X G c T base) (hG_swapped X G c T base) (hG_dropped X G c T base) (hG_cut X G c T base)
theorem hG_walked {P : Program} {w : World} {K : PySem.W.Frag} {h : Heap} {mg : Str → Option Value} (X : K.In h) (G : h.Ns mainGlobals mg) (c : He.SaysD fa fn K) (T : Tx K mg) (base : Heap) : Fn P w K mg base "walked" 4 I_p_walked := by
  obtain ⟨fd, F⟩ := c.def_ 33 (d := dD 102 "walked") rfl
  exact fn_p_walked (P := P) (w := w) (base := base) F (He.glo_ok X G (c.fact 33 (f := .glo "walked") rfl)) T (hG_ask_row X G c T base) (hG_behind X G c T base)
theorem hG_x_walked {P : Program} {w : World} {K : PySem.W.Frag} {h : Heap} {mg : Str → Option Value} (X : K.In h) (G : h.Ns mainGlobals mg) (c : He.SaysD fa fn K) (T : Tx K mg) (base : Heap) : FnX P w K mg base "walked" 4 I_x_walked := by
  obtain ⟨fd, F⟩ := c.def_ 33 (d := dD 102 "walked") rfl
  exact fn_x_walked (P := P) (w := w) (base := base) F (He.glo_ok X G (c.fact 33 (f := .glo "walked") rfl)) T (hG_x_ask_row X G c T base) (hG_behind X G c T base) (hX_BadTrade X G c T base)
theorem hG_traded {P : Program} {w : World} {K : PySem.W.Frag} {h : Heap} {mg : Str → Option Value} (X : K.In h) (G : h.Ns mainGlobals mg) (c : He.SaysD fa fn K) (T : Tx K mg) (base : Heap) : Fn P w K mg base "traded" 5 I_p_traded := by
  obtain ⟨fd, F⟩ := c.def_ 34 (d := dD 103 "traded") rfl
  exact fn_p_traded (P := P) (w := w) (base := base) F (He.glo_ok X G (c.fact 34 (f := .glo "traded") rfl)) T (hG_walked X G c T base)
theorem hG_x_traded {P : Program} {w : World} {K : PySem.W.Frag} {h : Heap} {mg : Str → Option Value} (X : K.In h) (G : h.Ns mainGlobals mg) (c : He.SaysD fa fn K) (T : Tx K mg) (base : Heap) : FnX P w K mg base "traded" 5 I_x_traded := by
  obtain ⟨fd, F⟩ := c.def_ 34 (d := dD 103 "traded") rfl
  exact fn_x_traded (P := P) (w := w) (base := base) F (He.glo_ok X G (c.fact 34 (f := .glo "traded") rfl)) T (hG_x_walked X G c T base)
theorem hG_like_ahead {P : Program} {w : World} {K : PySem.W.Frag} {h : Heap} {mg : Str → Option Value} (X : K.In h) (G : h.Ns mainGlobals mg) (c : He.SaysD fa fn K) (T : Tx K mg) (base : Heap) : Fn P w K mg base "like_ahead" 2 I_p_like_ahead := by
  obtain ⟨fd, F⟩ := c.def_ 35 (d := dD 104 "like_ahead") rfl
  exact fn_p_like_ahead (P := P) (w := w) (base := base) F (He.glo_ok X G (c.fact 35 (f := .glo "like_ahead") rfl)) T (hG_beside X G c T base)
theorem hG_fold {P : Program} {w : World} {K : PySem.W.Frag} {h : Heap} {mg : Str → Option Value} (X : K.In h) (G : h.Ns mainGlobals mg) (c : He.SaysD fa fn K) (T : Tx K mg) (base : Heap) : Fn P w K mg base "fold" 3 I_p_fold := by
  obtain ⟨fd, F⟩ := c.def_ 36 (d := dD 105 "fold") rfl
  exact fn_p_fold (P := P) (w := w) (base := base) F (He.glo_ok X G (c.fact 36 (f := .glo "fold") rfl)) T (hG_like_ahead X G c T base)
theorem hG_folding {P : Program} {w : World} {K : PySem.W.Frag} {h : Heap} {mg : Str → Option Value} (X : K.In h) (G : h.Ns mainGlobals mg) (c : He.SaysD fa fn K) (T : Tx K mg) (base : Heap) : Fn P w K mg base "folding" 1 I_p_folding := by
  obtain ⟨fd, F⟩ := c.def_ 37 (d := dD 106 "folding") rfl
  exact fn_p_folding (P := P) (w := w) (base := base) F (He.glo_ok X G (c.fact 37 (f := .glo "folding") rfl)) T 
theorem hG_out_of_order {P : Program} {w : World} {K : PySem.W.Frag} {h : Heap} {mg : Str → Option Value} (X : K.In h) (G : h.Ns mainGlobals mg) (c : He.SaysD fa fn K) (T : Tx K mg) (base : Heap) : Fn P w K mg base "out_of_order" 1 I_p_out_of_order := by
  obtain ⟨fd, F⟩ := c.def_ 38 (d := dD 107 "out_of_order") rfl
  exact fn_p_out_of_order (P := P) (w := w) (base := base) F (He.glo_ok X G (c.fact 38 (f := .glo "out_of_order") rfl)) T 
theorem hG_next_trades {P : Program} {w : World} {K : PySem.W.Frag} {h : Heap} {mg : Str → Option Value} (X : K.In h) (G : h.Ns mainGlobals mg) (c : He.SaysD fa fn K) (T : Tx K mg) (base : Heap) : Fn P w K mg base "next_trades" 4 I_p_next_trades := by
  obtain ⟨fd, F⟩ := c.def_ 39 (d := dD 108 "next_trades") rfl
  exact fn_p_next_trades (P := P) (w := w) (base := base) F (He.glo_ok X G (c.fact 39 (f := .glo "next_trades") rfl)) T (hG_fold X G c T base) (hG_folding X G c T base) (hG_out_of_order X G c T base)
theorem hG_descent {P : Program} {w : World} {K : PySem.W.Frag} {h : Heap} {mg : Str → Option Value} (X : K.In h) (G : h.Ns mainGlobals mg) (c : He.SaysD fa fn K) (T : Tx K mg) (base : Heap) : Fn P w K mg base "descent" 5 I_p_descent := by
  obtain ⟨fd, F⟩ := c.def_ 40 (d := dD 109 "descent") rfl
  exact fn_p_descent (P := P) (w := w) (base := base) F (He.glo_ok X G (c.fact 40 (f := .glo "descent") rfl)) T (hG_next_trades X G c T base) (hG_behind X G c T base)
theorem hG_contrary {P : Program} {w : World} {K : PySem.W.Frag} {h : Heap} {mg : Str → Option Value} (X : K.In h) (G : h.Ns mainGlobals mg) (c : He.SaysD fa fn K) (T : Tx K mg) (base : Heap) : Fn P w K mg base "contrary" 1 I_p_contrary := by
  obtain ⟨fd, F⟩ := c.def_ 41 (d := dD 110 "contrary") rfl
  exact fn_p_contrary (P := P) (w := w) (base := base) F (He.glo_ok X G (c.fact 41 (f := .glo "contrary") rfl)) T 
theorem hG_bridge {P : Program} {w : World} {K : PySem.W.Frag} {h : Heap} {mg : Str → Option Value} (X : K.In h) (G : h.Ns mainGlobals mg) (c : He.SaysD fa fn K) (T : Tx K mg) (base : Heap) : Fn P w K mg base "bridge" 6 I_p_bridge := by
  obtain ⟨fd, F⟩ := c.def_ 42 (d := dD 111 "bridge") rfl
  exact fn_p_bridge (P := P) (w := w) (base := base) F (He.glo_ok X G (c.fact 42 (f := .glo "bridge") rfl)) T (hG_ask_pegs X G c T base) (hG_made X G c T base) (hG_descent X G c T base) (hG_contrary X G c T base)
theorem hG_x_bridge {P : Program} {w : World} {K : PySem.W.Frag} {h : Heap} {mg : Str → Option Value} (X : K.In h) (G : h.Ns mainGlobals mg) (c : He.SaysD fa fn K) (T : Tx K mg) (base : Heap) : FnX P w K mg base "bridge" 6 I_x_bridge := by
  obtain ⟨fd, F⟩ := c.def_ 42 (d := dD 111 "bridge") rfl
  exact fn_x_bridge (P := P) (w := w) (base := base) F (He.glo_ok X G (c.fact 42 (f := .glo "bridge") rfl)) T (hG_x_ask_pegs X G c T base) (hG_x_made X G c T base) (hG_descent X G c T base) (hG_contrary X G c T base)
theorem hG__law_kin {P : Program} {w : World} {K : PySem.W.Frag} {h : Heap} {mg : Str → Option Value} (X : K.In h) (G : h.Ns mainGlobals mg) (c : He.SaysD fa fn K) (T : Tx K mg) (base : Heap) : KinOk P w K mg "_law_kin" 0 := by
  obtain ⟨fd, F⟩ := c.def_ 43 (d := dD 113 "_law_kin") rfl
  exact fn_l_kin (P := P) (w := w) F (He.glo_ok X G (c.fact 43 (f := .glo "_law_kin") rfl)) T 
theorem hG__law_mix {P : Program} {w : World} {K : PySem.W.Frag} {h : Heap} {mg : Str → Option Value} (X : K.In h) (G : h.Ns mainGlobals mg) (c : He.SaysD fa fn K) (T : Tx K mg) (base : Heap) : Fn P w K mg base "_law_mix" 1 I_l_mix := by
  obtain ⟨fd, F⟩ := c.def_ 44 (d := dD 114 "_law_mix") rfl
  exact fn_l_mix (P := P) (w := w) (base := base) F (He.glo_ok X G (c.fact 44 (f := .glo "_law_mix") rfl)) T 
theorem hG__law_raw {P : Program} {w : World} {K : PySem.W.Frag} {h : Heap} {mg : Str → Option Value} (X : K.In h) (G : h.Ns mainGlobals mg) (c : He.SaysD fa fn K) (T : Tx K mg) (base : Heap) : Fn P w K mg base "_law_raw" 2 I_l_raw := by
  obtain ⟨fd, F⟩ := c.def_ 45 (d := dD 115 "_law_raw") rfl
  exact fn_l_raw (P := P) (w := w) (base := base) F (He.glo_ok X G (c.fact 45 (f := .glo "_law_raw") rfl)) T (hG__law_mix X G c T base)
theorem hG__law_digits {P : Program} {w : World} {K : PySem.W.Frag} {h : Heap} {mg : Str → Option Value} (X : K.In h) (G : h.Ns mainGlobals mg) (c : He.SaysD fa fn K) (T : Tx K mg) (base : Heap) : Fn P w K mg base "_law_digits" 3 I_l_digits := by
  obtain ⟨fd, F⟩ := c.def_ 46 (d := dD 116 "_law_digits") rfl
  exact fn_l_digits (P := P) (w := w) (base := base) F (He.glo_ok X G (c.fact 46 (f := .glo "_law_digits") rfl)) T (hG__law_raw X G c T base)
theorem hG_x_ask_more {P : Program} {w : World} {K : PySem.W.Frag} {h : Heap} {mg : Str → Option Value} (X : K.In h) (G : h.Ns mainGlobals mg) (c : He.SaysD fa fn K) (T : Tx K mg) (base : Heap) : FnX P w K mg base "_law_ask_more" 7 I_x_ask_more := by
  obtain ⟨fd, F⟩ := c.def_ 48 (d := dD 118 "_law_ask_more") rfl
  exact fn_x_ask_more (P := P) (w := w) (base := base) F (He.glo_ok X G (c.fact 48 (f := .glo "_law_ask_more") rfl)) T (hG_x_hook_hooks X G c T base) (hG_x_made X G c T base) (hG_x_traded X G c T base) (hG_x_walked X G c T base) (hG_x_bridge X G c T base) (hM_Loft X G c T base) (hM_Desk X G c T base)
theorem hG_x_ask {P : Program} {w : World} {K : PySem.W.Frag} {h : Heap} {mg : Str → Option Value} (X : K.In h) (G : h.Ns mainGlobals mg) (c : He.SaysD fa fn K) (T : Tx K mg) (base : Heap) : FnX P w K mg base "_law_ask" 8 I_x_ask := by
  obtain ⟨fd, F⟩ := c.def_ 47 (d := dD 117 "_law_ask") rfl
  exact fn_x_ask (P := P) (w := w) (base := base) F (He.glo_ok X G (c.fact 47 (f := .glo "_law_ask") rfl)) T (hG_x_plain X G c T base) (hG_x_stacked X G c T base) (hG_x_how_many X G c T base) (hG_x_numbered X G c T base) (hG_x_every X G c T base) (hG_x_how_many_halves X G c T base) (hG_x_half_of X G c T base) (hG_x_ask_more X G c T base)
theorem hG__law_word {P : Program} {w : World} {K : PySem.W.Frag} {h : Heap} {mg : Str → Option Value} (X : K.In h) (G : h.Ns mainGlobals mg) (c : He.SaysD fa fn K) (T : Tx K mg) (base : Heap) : Fn P w K mg base "_law_word" 9 I_l_word := by
  obtain ⟨fd, F⟩ := c.def_ 49 (d := dD 119 "_law_word") rfl
  exact fn_l_word (P := P) (w := w) (base := base) F (He.glo_ok X G (c.fact 49 (f := .glo "_law_word") rfl)) T (hG_x_ask X G c T base) (hG__law_kin X G c T base)
theorem facts (ht : ∀ ns : List Int, ns.length ≤ 63 → l_law ns = some true) {P : Program} {w : World} {K : PySem.W.Frag} {h : Heap} {mg : Str → Option Value} {f : Addr} (X : K.In h) (G : h.Ns mainGlobals mg) (hfa : mg ("law" : Str) = some (.ref f)) (c : He.SaysD fa fn K) (hE : exA K = true) :
    ∃ fd : FuncData, (∀ (s : Shared) (v : Value), BindsTo s fd ⟨[v], []⟩ [("_law_script", v)]) ∧ ∀ base : Heap, K.In base → base.Ns mainGlobals mg → FnOk P w K mg base CX0 10 f fd ["_law_script"] (spLaw K) := by
  obtain ⟨fd, F⟩ := c.def_ 50 (d := dD 120 "law") rfl
  have e := hfa.symm.trans (He.glo_ok X G (c.fact 50 (f := .glo "law") rfl))
  cases e
  have T : Tx K mg := t_x (P := P) (w := w) X G c hE
  refine ⟨fd, fun s v => FunD.bindsA (ps := ["_law_script"]) F (fun _ _ _ _ _ _ us hl => match us, hl with | [_], _ => rfl) s [v] rfl, fun base _ _ => ?_⟩
  exact fn_law F T (hG__law_digits X G c T base) (hG__law_word X G c T base) ht
end Rb.M_k07
open PySem PySem.W PySem.Calls PyProof.Rows
set_option maxHeartbeats 0 in
theorem PySem.Challenge.cw_ribbonloft_k07_numbers_of_pegs_refused_holds : PySem.Challenge.rw_ribbonloft_k07_numbers_of_pegs_refused.Holds := by
  refine Rb.M_k07.z_law fun said => ?_
  refine HandSHeadRun.head_any (r := OpenLaw.row PySem.Challenge.rw_ribbonloft_k07_numbers_of_pegs_refused) (q := view (OpenLaw.row PySem.Challenge.rw_ribbonloft_k07_numbers_of_pegs_refused).prog [120]) (H := Rb.M_k07.hk) (ob := Rb.M_k07.ob) (M := 30000) (loose := Rb.M_k07.loose) (d := HandSHeadRun.topDef (OpenLaw.row PySem.Challenge.rw_ribbonloft_k07_numbers_of_pegs_refused).prog 120) (kwd := []) Rb.M_k07.ob_eq
    Rb.M_k07.z_e Rb.M_k07.z_f Rb.M_k07.run Rb.M_k07.z_def Rb.M_k07.z_p Rb.M_k07.z_k Rb.M_k07.z_wr said Rb.M_k07.z_ok Rb.M_k07.z_b ?hw ?hc
  case hw => w_witness2
  case hc =>
    refine L2.walk_ofE (l := PySem.Challenge.rw_ribbonloft_k07_numbers_of_pegs_refused) (n := 63) (k := 10) (x := "_law_script") (CX := L2.CX0) rfl (by decide) (by kernel_rfl) ⟨rfl, by decide, by decide⟩ ?F (fun _ _ _ _ z => z)
    intro w mg fa h Y G hmg0
    obtain ⟨K, KX, c⟩ := Y
    have hmg : mg ("law" : PySem.Str) = some (.ref fa) := by
      have e : (HandSHeadRun.topDef (OpenLaw.row PySem.Challenge.rw_ribbonloft_k07_numbers_of_pegs_refused).prog 120).name = ("law" : PySem.Str) := by kernel_rfl
      rw [← e]
      exact hmg0
    obtain ⟨fd, hb, hF⟩ := Rb.M_k07.facts Rb.M_k07.law_true (P := (PySem.Challenge.rw_ribbonloft_k07_numbers_of_pegs_refused).prog) (w := w) KX G hmg c.1.d c.2
    exact ⟨K, fd, Rb.spLaw K, KX, hb, fun H a ns hl _ hS => ⟨a, ns, rfl, hS, hl, fun _ => rfl⟩, hF⟩

