import PyProof.Rows.All
import Wide.All
import OpenK.AllK
import Wide.FinOn
import HandS.ForMost
import HandS.Exc
import HandS.TryOnly
import HandS.ExcOwn
import HandS.WordsExc
import HandS.Defaults
import HandS.Evl
import HandS.Wide
import HandS.SetFor
import HandS.Walk
import HandS.Conv
import HandS.Zip
import HandS.HeadHook2
import KE.GoesEnum
import HandS.Style
import HandS.IsInst
import HandS.Dict
import HandS.SortInts
import HandS.HeadHook4
import HandS.ExcIs
import HandS.Text
import HandS.TryMany
import HandS.ExcCtx
import HandS.HotCalls
import KE.KExcIs
import HandS.ExcField
import HandS.ExcInit
import HandS.WordsDict
import HandS.TupLen
import HandS.Set
import HandS.Strs
import PyProof.Rows.SetFrom
import KE.KSortTup
import HandS.TupSets
import HandS.SortOrd
import PyProof.Rows.SortShellAny
import HandS.Deep
import HandS.More
import HandS.TupAny
import KE.KRevSl
import HandS.Small
import HandS.Steps
import PySem.Challenge.RW_ribbonloft_k31_trades_one_behind_the_oth
import KE.KStateDown
import Lean
import HandS.Head0
import HandS.Head1
import HandS.Head2
import HandS.HeadEnd
set_option Elab.async false
set_option linter.all false
set_option maxRecDepth 100000
set_option maxHeartbeats 4000000
namespace Rb
open PySem PySem.Spec PyProof.Rows L2
def exNames : List Str := ["BadPegs", "BadFrame", "BadHalf", "BadHook", "BadName", "NoNumber", "NoFrame", "NoStack", "NoPlace", "Taken", "Full", "NothingThere", "BadTrade", "Hangs", "BadPage"]
def exB (K : PySem.W.Frag) : Bool :=
  exNames.all (fun x => decide (PySem.W.exmOne K (.ref (He.ga K x)) (.ref (He.ga K "RibbonError")) = some true) &&
    exNames.all (fun y => decide (PySem.W.exmOne K (.ref (He.ga K x)) (.ref (He.ga K y)) = some (decide (x = y)) ∧ PySem.W.kitOne K (.ref (He.ga K x)) (.ref (He.ga K y)) = some (decide (x = y)))) &&
    decide (PySem.W.kitOne K (.ref (He.ga K x)) (.type "ValueError") = some true) &&
    decide (PySem.W.findIn K (.ref (He.ga K x)) "__getattribute__" = some (some (.builtin "BaseException.__getattribute__"))) &&
    decide (PySem.W.findIn K (.ref (He.ga K x)) "__getattr__" = some none) &&
    decide (PySem.W.subIn K (.ref (He.ga K x)) (.type "BaseException") = some true) &&
    PySem.W.hasDictIn K (He.ga K x) &&
    decide (PySem.W.findIn K (.ref (He.ga K x)) "__class__" = some (some (.builtin "object.__class__"))) &&
    decide (PySem.W.specialIn K (.builtin "object.__class__") "__get__" = some (some (.builtin "getset_descriptor.__get__"))) &&
    decide (PySem.W.takesIn K (.builtin "object.__class__") = some true) &&
    decide (PySem.W.mroIn K (He.ga K x) (.type "object") = some true))
def oexB (K : PySem.W.Frag) (f x : Str) : Bool :=
  (match K.lookup (He.ga K x) with
    | some ⟨.type "type", _, .cls q, s⟩ => (match q.mro, s.toList with
      | .ref z :: l, [_, _, _, _, some (.builtin g), _] => decide (z = He.ga K x) && (decide (g = "ValueError.__new__") && (!q.hasDel && (q.hasDict && PySem.HandSPX.refsVE l)))
      | _, _ => false)
    | _ => false) &&
  (decide (PySem.W.findIn K (.ref (He.ga K x)) "__setattr__" = some (some (.builtin "object.__setattr__"))) &&
  (decide (PySem.W.subIn K (.ref (He.ga K x)) (.type "BaseException") = some true) &&
  (decide (PySem.W.typeIn K (.ref (He.ga K x)) = some (.type "type")) &&
  (PySem.W.keepIn K (.ref (He.ga K x)) &&
  (decide (PySem.W.findIn K (.ref (He.ga K x)) "__init__" = some (some (.ref (He.ma K (He.ga K x) "__init__")))) &&
  (decide (PySem.W.typeIn K (.ref (He.ma K (He.ga K x) "__init__")) = some (.type "function")) &&
  (decide (PySem.W.findIn K (.ref (He.ga K x)) f = some none) && xfB K (He.ga K x))))))))
def clsStmt (s : Stmt) (j : Nat) : Stmt := match s with
  | .ClassDef _ _ _ b .. => b.getD j (.Pass ⟨0, 0, 0, 0⟩)
  | _ => .Pass ⟨0, 0, 0, 0⟩
def exBN (N : List Str) (K : PySem.W.Frag) : Bool :=
  N.all fun x => decide (PySem.W.exmOne K (.ref (He.ga K x)) (.ref (He.ga K "RibbonError")) = some true) && N.all fun y => decide (PySem.W.exmOne K (.ref (He.ga K x)) (.ref (He.ga K y)) = some (decide (x = y)))
end Rb

set_option Elab.async false
set_option linter.all false
set_option maxRecDepth 100000
set_option maxHeartbeats 0
namespace Rb.M_k31
open PySem PySem.Spec PyProof.Rows L2 Rb
def top (i : Nat) : Stmt := PySem.Challenge.pw_ribbonloft_k31_trades_one_behind_the_oth.main.body.getD i (.Pass ⟨0, 0, 0, 0⟩)
abbrev sti_BadTrade : Stmt := clsStmt (top 14) 0
def dI_BadTrade : He.DefD := ⟨("BadTrade", some "__init__"), "__init__", "BadTrade.__init__", defArgs sti_BadTrade, defBody sti_BadTrade, defScope sti_BadTrade, [], []⟩
def exA (K : PySem.W.Frag) : Bool := exB K && (([("at", "BadTrade")] : List (Str × Str)).all fun q => oexB K q.1 q.2)
def dD (i : Nat) (x : Str) : He.DefD := ⟨(x, none), x, x, defArgs (top i), defBody (top i), defScope (top i), [], []⟩
def fn : List He.DefD := [dD 19 "ask_pegs", dD 21 "ask_hook", dD 22 "ask_row", dD 24 "beside", dD 25 "swapped", dD 26 "dropped", dD 27 "cut", dD 28 "grown", dD 29 "behind", dD 30 "walked", dD 32 "_law_kin", dD 33 "_law_mix", dD 34 "_law_raw", dD 35 "_law_digits", dD 36 "_law_hooks", dD 37 "_law_after", dD 38 "_law_some_trade", dD 39 "_law_same", dD 40 "_law_word", dD 41 "law", dI_BadTrade]
def fa : List He.Fa := [.glo "ask_pegs", .glo "ask_hook", .glo "ask_row", .glo "beside", .glo "swapped", .glo "dropped", .glo "cut", .glo "grown", .glo "behind", .glo "walked", .glo "_law_kin", .glo "_law_mix", .glo "_law_raw", .glo "_law_digits", .glo "_law_hooks", .glo "_law_after", .glo "_law_some_trade", .glo "_law_same", .glo "_law_word", .glo "law", .free "ValueError", .free "abs", .free "all", .free "bool", .free "enumerate", .free "int", .free "isinstance", .free "len", .free "list", .free "max", .free "min", .free "range", .free "str", .free "tuple", .free "zip", .glo "BadFrame", .glo "BadHalf", .glo "BadHook", .glo "BadName", .glo "BadPage", .glo "BadPegs", .glo "BadTrade", .glo "Full", .glo "Hangs", .glo "NoFrame", .glo "NoNumber", .glo "NoPlace", .glo "NoStack", .glo "NothingThere", .glo "Taken", .int "MOST_PEGS" 10]
def loose0 : List Str := ["RibbonError", "BadPegs", "BadFrame", "BadHalf", "BadHook", "BadName", "NoNumber", "NoFrame", "NoStack", "NoPlace", "Taken", "Full", "NothingThere", "BadTrade", "Hangs", "BadPage", "MOST_PEGS", "ask_pegs", "ask_hook", "ask_row", "beside", "swapped", "dropped", "cut", "grown", "behind", "walked", "_law_kin", "_law_mix", "_law_raw"]
def loose1 : List Str := ["_law_digits", "_law_hooks", "_law_after", "_law_some_trade", "_law_same", "_law_word"]
def loose : List Str := loose0 ++ loose1
abbrev R0 : PySem.W.OpenRow := PySem.W.OpenLaw.row PySem.Challenge.rw_ribbonloft_k31_trades_one_behind_the_oth
def bfs (g : Addr → Option Obj) : Nat → List Addr → List Addr
  | 0, as => as
  | n + 1, as => as ++ bfs g n (as.flatMap fun a => match g a with
    | some o => He.refsD o
    | none => [])
def frQ (g : Addr → Option Obj) : PySem.W.Frag := He.frT g (bfs g 4 [mainGlobals])
def obQ (fa : List He.Fa) (fn : List He.DefD) (ex : PySem.W.Frag → Bool) (g : Addr → Option Obj) : He.AlX := (He.obsT fa fn [] (frQ g), ex (frQ g))
def hookQ (fa : List He.Fa) (fn : List He.DefD) (ex : PySem.W.Frag → Bool) : PySem.W.Hook where
  α := He.AlX
  obs := fun s => obQ fa fn ex s.heap.get?
  val := fun w => He.valX fn [] w
  says := fun w h => ∃ K : PySem.W.Frag, K.In h ∧ (He.SaysT fa fn [] w K ∧ ex K = true)
  of := fun _ _ e => ⟨_, He.frT_in, congrArg (fun z : He.AlX => z.1) e, congrArg (fun z : He.AlX => z.2) e⟩
  keeps := fun _ _ _ ⟨K, hK, c⟩ k => ⟨K, PySem.W.Frag.In.keeps hK k, c⟩
abbrev hk : PySem.W.Hook := hookQ fa fn exA
def ob (s : PySem.W.SharedT) : He.AlX := obQ fa fn exA (HandSHeadRun.getT s)
theorem ob_eq (s : PySem.W.SharedT) : ob s = hk.obs s.abs := by
  show obQ fa fn exA (HandSHeadRun.getT s) = obQ fa fn exA s.abs.heap.get?
  rw [show HandSHeadRun.getT s = s.abs.heap.get? from funext (HandSHeadRun.getT_eq s)]
theorem run_a (w : World) : HandSHeadRun.RunEq R0 (PySem.W.view R0.prog [41]) hk ob 6000 loose w := by
  intro os
  kernel_rfl
theorem run (w : World) : HandSHeadRun.RunEq R0 (PySem.W.view R0.prog [41]) hk ob 6000 loose w := by
  exact run_a w
open PySem.W PySem.Calls in
theorem z_law (h : PySem.Challenge.rw_ribbonloft_k31_trades_one_behind_the_oth.row.wellSaid = true → PySem.Challenge.rw_ribbonloft_k31_trades_one_behind_the_oth.row.Holds) : PySem.Challenge.rw_ribbonloft_k31_trades_one_behind_the_oth.Holds := by
  w_on; o_law
  exact h (by assumption)
open PySem.W PySem.Calls in
theorem z_e : opening R0.prog = plainProg R0.prog.main.scope.names := by kernel_rfl
open PySem.W PySem.Calls in
theorem z_f : ∀ s, fenceModules? R0.prog s = some s := fun s => by kernel_rfl
open PySem.W PySem.Calls in
theorem z_def : defOf (PySem.W.view R0.prog [41]) R0.name = some ((HandSHeadRun.topDef R0.prog 41), []) := by kernel_rfl
open PySem.W PySem.Calls in
theorem z_p : R0.prog.theDef R0.name = some ((HandSHeadRun.topDef R0.prog 41).params, (HandSHeadRun.topDef R0.prog 41).body, (HandSHeadRun.topDef R0.prog 41).scope) := by kernel_rfl
open PySem.W PySem.Calls in
theorem z_k : kwWritten? (HandSHeadRun.topDef R0.prog 41).params.kwonlyargs (HandSHeadRun.topDef R0.prog 41).params.kw_defaults = some [] := by kernel_rfl
open PySem.W PySem.Calls in
theorem z_ok : (chainsOk (PySem.W.view R0.prog [41]) && opensWell R0.prog && (frees R0.toRowW && R0.within.isEmpty)) = true := by kernel_rfl
open PySem.W PySem.Calls in
theorem z_b : R0.prog.bare := ⟨rfl, rfl, rfl, rfl, rfl, by decide +kernel⟩
open PySem.W PySem.Calls in
theorem z_wr : (!R0.writes || R0.records.isEmpty) = true := by rfl
end Rb.M_k31
set_option maxHeartbeats 4000000

set_option Elab.async false
set_option linter.all false
set_option maxRecDepth 100000
set_option maxHeartbeats 2000000
namespace Rb
open PySem PySem.Spec PyProof.Rows L2
abbrev Ex := Evl.Ex
abbrev Frag := PySem.W.Frag
def lim : Nat := 100000
theorem lim_le {n : Nat} (h : n ≤ lim) : n ≤ sizeLine := Nat.le_trans h (by decide)
theorem lim_lt {n : Nat} (h : n < lim) : n < sizeLine := Nat.lt_of_lt_of_le h (by decide)

def kD : Key → PyData
  | .inl i => .int i
  | .inr s => .str s
def kvD (p : Key × PyData) : PyData × PyData := (kD p.1, p.2)
def kOk : Key → Prop
  | .inl _ => True
  | .inr s => s.length ≤ lim
def DtL (kvs : List (List Key × PyData)) : Prop := kvs.length ≤ lim ∧ ∀ p, p ∈ kvs → p.1.length ≤ lim
def DkL (kvs : List (Key × PyData)) : Prop := kvs.length ≤ lim ∧ ∀ p, p ∈ kvs → kOk p.1
mutual
inductive Dq (H : Hp) : V → PyData → Prop
  | non : Dq H .non .none
  | bl (b : Bool) : Dq H (.bl b) (.bool b)
  | int (i : Int) : Dq H (.int i) (.int i)
  | str (x : Str) : x.length ≤ lim → Dq H (.str x) (.str x)
  | lst {a : Addr} {xs : List V} {ds : List PyData} : H a = some (.lst xs) → DqAll H xs ds → ds.length ≤ lim → Dq H (.ref a) (.list ds)
  | tup {a : Addr} {xs : List V} {ds : List PyData} : H a = some (.tup xs) → DqAll H xs ds → ds.length ≤ lim → Dq H (.ref a) (.tuple ds)
  /-- a dict that never changes again -/
  | dct {a : Addr} {o : Obj} {xs : List (Key × V)} {kvs : List (Key × PyData)} {ps : List (PyData × PyData)} : H a = some (.frz o (.dK xs)) → xs.map (·.1) = kvs.map (·.1) → DqAll H (xs.map (·.2)) (kvs.map (·.2)) → DkL kvs → ps = kvs.map kvD → Dq H (.ref a) (.dict ps)
inductive DqAll (H : Hp) : List V → List PyData → Prop
  | nil : DqAll H [] []
  | cons {v : V} {vs : List V} {d : PyData} {ds : List PyData} : Dq H v d → DqAll H vs ds → DqAll H (v :: vs) (d :: ds)
end
mutual
theorem Dq.mono' {H H' : Hp} (e : Ex H H') : ∀ {d : PyData} {v : V}, Dq H v d → Dq H' v d
  | _, _, .non => .non
  | _, _, .bl b => .bl b
  | _, _, .int i => .int i
  | _, _, .str x z => .str x z
  | _, _, .lst h1 h2 h3 => .lst (e _ _ h1) (DqAll.mono' e h2) h3
  | _, _, .tup h1 h2 h3 => .tup (e _ _ h1) (DqAll.mono' e h2) h3
  | _, _, .dct h1 h2 h3 h4 h5 => .dct (e _ _ h1) h2 (DqAll.mono' e h3) h4 h5
theorem DqAll.mono' {H H' : Hp} (e : Ex H H') : ∀ {ds : List PyData} {vs : List V}, DqAll H vs ds → DqAll H' vs ds
  | _, _, .nil => .nil
  | _, _, .cons h1 h2 => .cons (Dq.mono' e h1) (DqAll.mono' e h2)
end
theorem Dq.mono {H H' : Hp} (e : Ex H H') (d : PyData) (v : V) (h : Dq H v d) : Dq H' v d := h.mono' e
theorem DqAll.mono {H H' : Hp} (e : Ex H H') (ds : List PyData) (vs : List V) (h : DqAll H vs ds) : DqAll H' vs ds := h.mono' e
mutual
theorem Dq.dp {K : Frag} {H : Hp} : ∀ (d : PyData) (v : V), PyData.canLay0 d = true → Dq H v d → Dp K H v d
  | .none, _, _, h => by cases h; exact .non
  | .bool b, _, _, h => by cases h; exact .bl b
  | .int i, _, _, h => by cases h; exact .int i
  | .str x, _, _, h => by cases h; exact .str x
  | .list ds, _, c, h => by cases h with | lst h1 h2 h3 => exact .lst (SqL.of h1) (DqAll.dp ds _ c h2)
  | .tuple ds, _, c, h => by cases h with | tup h1 h2 h3 => exact .tup (SqT.of h1) (DqAll.dp ds _ c h2)
  | .dict _, _, c, _ => by cases c
theorem DqAll.dp {K : Frag} {H : Hp} : ∀ (ds : List PyData) (vs : List V), PyData.canLayAll0 ds = true → DqAll H vs ds → DpAll K H vs ds
  | [], _, _, h => by cases h; exact .nil
  | d :: ds, _, c, h => by
    have c' : (PyData.canLay0 d && PyData.canLayAll0 ds) = true := c
    cases h with | cons h1 h2 => exact .cons (Dq.dp d _ (Bool.and_eq_true_iff.mp c').1 h1) (DqAll.dp ds _ (Bool.and_eq_true_iff.mp c').2 h2)
end
theorem DqAll.len {H : Hp} : ∀ {ds : List PyData} {vs : List V}, DqAll H vs ds → vs.length = ds.length
  | [], _, h => by cases h; rfl
  | d :: ds, _, h => by cases h with | cons h1 h2 => rw [List.length_cons, List.length_cons, h2.len]
theorem DqAll.get {H : Hp} : ∀ {ds : List PyData} {vs : List V} {i : Nat} {d : PyData}, DqAll H vs ds → ds[i]? = some d → ∃ v, vs[i]? = some v ∧ Dq H v d
  | [], _, _, _, _, e => by simp at e
  | d :: ds, _, 0, _, .cons h1 h2, e => by simp at e; subst e; exact ⟨_, rfl, h1⟩
  | d :: ds, _, i + 1, _, .cons h1 h2, e => by
    obtain ⟨v, e1, e2⟩ := DqAll.get h2 (by simpa using e)
    exact ⟨v, by simpa using e1, e2⟩
theorem DqAll.app {H : Hp} : ∀ {ds es : List PyData} {vs ws : List V}, DqAll H vs ds → DqAll H ws es → DqAll H (vs ++ ws) (ds ++ es)
  | [], _, _, _, .nil, h => h
  | _ :: _, _, _, _, .cons h1 h2, h => .cons h1 (h2.app h)
theorem DqAll.take {H : Hp} : ∀ {ds : List PyData} {vs : List V} (n : Nat), DqAll H vs ds → DqAll H (vs.take n) (ds.take n)
  | _, _, 0, _ => .nil
  | [], _, _ + 1, .nil => .nil
  | _ :: _, _, n + 1, .cons h1 h2 => .cons h1 (h2.take n)
theorem DqAll.drop {H : Hp} : ∀ {ds : List PyData} {vs : List V} (n : Nat), DqAll H vs ds → DqAll H (vs.drop n) (ds.drop n)
  | _, _, 0, h => h
  | [], _, _ + 1, .nil => .nil
  | _ :: _, _, n + 1, .cons h1 h2 => h2.drop n
theorem DqAll.set {H : Hp} {v : V} {d : PyData} (h : Dq H v d) : ∀ {ds : List PyData} {vs : List V} (i : Nat), DqAll H vs ds → DqAll H (vs.set i v) (ds.set i d)
  | [], _, _, .nil => .nil
  | _ :: _, _, 0, .cons h1 h2 => .cons h h2
  | _ :: _, _, n + 1, .cons h1 h2 => .cons h1 (h2.set h n)
theorem DqAll.rev {H : Hp} : ∀ {ds : List PyData} {vs : List V}, DqAll H vs ds → DqAll H vs.reverse ds.reverse
  | [], _, .nil => .nil
  | _ :: _, _, .cons h1 h2 => by
    rw [List.reverse_cons, List.reverse_cons]
    exact h2.rev.app (.cons h1 .nil)
theorem DqAll.dropLast {H : Hp} {ds : List PyData} {vs : List V} (h : DqAll H vs ds) : DqAll H vs.dropLast ds.dropLast := by
  rw [List.dropLast_eq_take, List.dropLast_eq_take, h.len]
  exact h.take _
theorem DqAll.ints {H : Hp} : ∀ {ns : List Int} {vs : List V}, DqAll H vs (ns.map PyData.int) → vs = ns.map V.int
  | [], _, h => by cases h; rfl
  | n :: ns, _, h => by
    cases h with
    | cons h1 h2 =>
      cases h1
      rw [List.map_cons, h2.ints]
theorem DqAll.ints' {H : Hp} : ∀ (ns : List Int), DqAll H (ns.map V.int) (ns.map PyData.int)
  | [] => .nil
  | n :: ns => .cons (.int n) (DqAll.ints' ns)
theorem DqAll.bls {H : Hp} : ∀ {ns : List Bool} {vs : List V}, DqAll H vs (ns.map PyData.bool) → vs = ns.map V.bl
  | [], _, h => by cases h; rfl
  | n :: ns, _, h => by
    cases h with
    | cons h1 h2 =>
      cases h1
      rw [List.map_cons, h2.bls]
theorem DqAll.strs {H : Hp} : ∀ {ns : List Str} {vs : List V}, DqAll H vs (ns.map PyData.str) → vs = ns.map V.str
  | [], _, h => by cases h; rfl
  | n :: ns, _, h => by
    cases h with
    | cons h1 h2 =>
      cases h1
      rw [List.map_cons, h2.strs]
def NoTup (o : HO) : Prop := ∀ xs, o ≠ .tup xs
structure Fz (F H F' H' : Hp) : Prop where
  f : Ex F F'
  fh : Ex F' H'
  own' : ∀ p o, H p = some o → F p = none → (NoTup o → F' p = none) ∧ H' p = some o
theorem Fz.own {F H F' H' : Hp} (z : Fz F H F' H') (p : Addr) (o : HO) (h : H p = some o) (n : F p = none) (nt : NoTup o := by exact fun _ z => nomatch z) : F' p = none ∧ H' p = some o := ⟨(z.own' p o h n).1 nt, (z.own' p o h n).2⟩
theorem Fz.refl {F H : Hp} (e : Ex F H) : Fz F H F H := ⟨Evl.Ex.refl F, e, fun _ _ h n => ⟨fun _ => n, h⟩⟩
theorem Fz.trans {F H F1 H1 F2 H2 : Hp} (a : Fz F H F1 H1) (b : Fz F1 H1 F2 H2) : Fz F H F2 H2 :=
  ⟨a.f.trans b.f, b.fh, fun p o h n => by
    obtain ⟨x, y⟩ := a.own' p o h n
    cases r : F1 p with
    | none => exact b.own' p o y r
    | some u =>
      have e := a.fh p u r
      rw [y] at e
      cases e
      exact ⟨fun z => (by rw [x z] at r; cases r), b.fh p _ (b.f p _ r)⟩⟩
theorem Fz.hh {F H F' H' : Hp} (e : Ex F H) (a : Fz F H F' H') : Ex H H' := fun p o h => by
  cases q : F p with
  | none => exact (a.own' p o h q).2
  | some u =>
    have e1 := e p u q
    rw [h] at e1
    cases e1
    exact a.fh p o (a.f p o q)
theorem Fz.hn {F H F' H' : Hp} (z : Fz F H F' H') {p : Addr} (h : H' p = none) : H p = none := by
  cases q : H p with
  | none => rfl
  | some o =>
    cases r : F p with
    | none => rw [(z.own' p o q r).2] at h; cases h
    | some u => rw [z.fh p u (z.f p u r)] at h; cases h
theorem Fz.tup {F H : Hp} {p : Addr} {xs : List V} (e : Ex F H) (h : H p = some (.tup xs)) : ∃ F', Fz F H F' H ∧ F' p = some (.tup xs) := by
  cases r : F p with
  | some u =>
    have e1 := e p u r
    rw [h] at e1
    cases e1
    exact ⟨F, Fz.refl e, r⟩
  | none =>
    refine ⟨upd F p (.tup xs), ⟨Evl.Ex.new r, fun a u q => ?_, fun a u q n => ⟨fun nt => ?_, q⟩⟩, upd_same⟩
    · by_cases z : a = p
      · subst z; rw [upd_same] at q; rw [h]; exact q
      · rw [upd_ne z] at q; exact e a u q
    · by_cases z : a = p
      · subst z; rw [h] at q; cases q; exact absurd rfl (nt xs)
      · rw [upd_ne z]; exact n
theorem Fz.new {F H : Hp} {p : Addr} {o : HO} (e : Ex F H) (h : H p = none) : Fz F H (upd F p o) (upd H p o) := by
  have hF : F p = none := Evl.fresh_back e h
  refine ⟨Evl.Ex.new hF, fun a u q => ?_, fun a u q n => ?_⟩
  · by_cases z : a = p
    · subst z; rw [upd_same] at q ⊢; exact q
    · rw [upd_ne z] at q ⊢; exact e a u q
  · have z := ne_of_none q h
    rw [upd_ne z, upd_ne z]
    exact ⟨fun _ => n, q⟩
theorem Fz.add {F H : Hp} {p : Addr} {o : HO} (e : Ex F H) (h : H p = none) : Fz F H F (upd H p o) := by
  refine ⟨Evl.Ex.refl F, fun a u q => ?_, fun a u q n => ?_⟩
  · rw [upd_ne (ne_of_none (e a u q) h)]; exact e a u q
  · rw [upd_ne (ne_of_none q h)]; exact ⟨fun _ => n, q⟩
theorem Fz.settle {F H F1 H1 : Hp} {p : Addr} {o : HO} (a : Fz F H F1 H1) (h : H p = none) (h1 : H1 p = some o) (f1 : F1 p = none) : Fz F H (upd F1 p o) H1 := by
  refine ⟨a.f.trans (Evl.Ex.new f1), fun b u q => ?_, fun b u q n => ?_⟩
  · by_cases z : b = p
    · subst z; rw [upd_same] at q; rw [h1]; exact q
    · rw [upd_ne z] at q; exact a.fh b u q
  · rw [upd_ne (ne_of_none q h)]; exact a.own' b u q n

def KvOk {κ : Type} (F : Hp) (xs : List (κ × V)) (ys : List (κ × PyData)) : Prop := xs.map (·.1) = ys.map (·.1) ∧ DqAll F (xs.map (·.2)) (ys.map (·.2))
theorem KvOk.mono {κ : Type} {F F' : Hp} {xs : List (κ × V)} {ys : List (κ × PyData)} (e : Ex F F') (h : KvOk F xs ys) : KvOk F' xs ys := ⟨h.1, DqAll.mono e _ _ h.2⟩
inductive OT where
  /-- settled data -/
  | d (d : PyData)
  /-- a list of settled data -/
  | lst (ds : List PyData)
  /-- a dict of settled data -/
  | dk (kvs : List (Key × PyData))
  /-- an instance of the class at C -/
  | obj (C : Addr) (ns : List Str) (ts : List OT)
  /-- a dict whose values are such things -/
  | rc (ns : List Key) (ts : List OT)
  /-- a list of such things -/
  | arr (ts : List OT)
  /-- this very value, of which nothing is owned -/
  | val (v : V)
  /-- a tuple of such things -/
  | tup (ts : List OT)
  /-- the thing, which stands at this very address -/
  | pin (p : Addr) (t : OT)
mutual
inductive Tr (F H : Hp) : V → OT → List Addr → Prop
  | d {v : V} {d : PyData} : Dq F v d → Tr F H v (.d d) []
  | lst {p : Addr} {vs : List V} {ds : List PyData} : H p = some (.lst vs) → DqAll F vs ds → ds.length ≤ lim → Tr F H (.ref p) (.lst ds) [p]
  | dk {p : Addr} {xs : List (Key × V)} {kvs : List (Key × PyData)} : H p = some (.dK xs) → KvOk F xs kvs → DkL kvs → Tr F H (.ref p) (.dk kvs) [p]
  | obj {p C dx : Addr} {fs : List (Str × V)} {ns : List Str} {ts : List OT} {A : List Addr} : H p = some (.ins C dx fs) → H dx = some (.own p) → fs.map (·.1) = ns → TrAll F H (fs.map (·.2)) ts A → Tr F H (.ref p) (.obj C ns ts) (p :: dx :: A)
  | rc {p : Addr} {xs : List (Key × V)} {ns : List Key} {ts : List OT} {A : List Addr} : H p = some (.dK xs) → xs.map (·.1) = ns → TrAll F H (xs.map (·.2)) ts A → Tr F H (.ref p) (.rc ns ts) (p :: A)
  | arr {p : Addr} {vs : List V} {ts : List OT} {A : List Addr} : H p = some (.lst vs) → TrAll F H vs ts A → ts.length ≤ lim → Tr F H (.ref p) (.arr ts) (p :: A)
  | val {v : V} : Tr F H v (.val v) []
  | tup {p : Addr} {vs : List V} {ts : List OT} {A : List Addr} : F p = some (.tup vs) → TrAll F H vs ts A → ts.length ≤ lim → Tr F H (.ref p) (.tup ts) A
  | pin {p : Addr} {t : OT} {A : List Addr} : Tr F H (.ref p) t A → Tr F H (.ref p) (.pin p t) A
inductive TrAll (F H : Hp) : List V → List OT → List Addr → Prop
  | nil : TrAll F H [] [] []
  | cons {v : V} {vs : List V} {t : OT} {ts : List OT} {A B : List Addr} : Tr F H v t A → TrAll F H vs ts B → TrAll F H (v :: vs) (t :: ts) (A ++ B)
end
mutual
theorem Tr.keep {F H F' H' : Hp} (e : Ex F F') : ∀ {v : V} {t : OT} {A : List Addr}, Tr F H v t A → (∀ a, a ∈ A → ∀ u, H a = some u → H' a = some u) → Tr F' H' v t A
  | _, _, _, .d h, _ => .d (h.mono' e)
  | _, _, _, .lst h1 h2 h3, k => .lst (k _ List.mem_cons_self _ h1) (h2.mono' e) h3
  | _, _, _, .dk h1 h2 h3, k => .dk (k _ List.mem_cons_self _ h1) (h2.mono e) h3
  | _, _, _, .obj h1 h2 h3 h4, k => .obj (k _ List.mem_cons_self _ h1) (k _ (List.mem_cons_of_mem _ List.mem_cons_self) _ h2) h3 (h4.keep e fun a ha => k a (List.mem_cons_of_mem _ (List.mem_cons_of_mem _ ha)))
  | _, _, _, .rc h1 h2 h3, k => .rc (k _ List.mem_cons_self _ h1) h2 (h3.keep e fun a ha => k a (List.mem_cons_of_mem _ ha))
  | _, _, _, .arr h1 h2 h3, k => .arr (k _ List.mem_cons_self _ h1) (h2.keep e fun a ha => k a (List.mem_cons_of_mem _ ha)) h3
  | _, _, _, .val, _ => .val
  | _, _, _, .tup h1 h2 h3, k => .tup (e _ _ h1) (h2.keep e k) h3
  | _, _, _, .pin h, k => .pin (h.keep e k)
theorem TrAll.keep {F H F' H' : Hp} (e : Ex F F') : ∀ {vs : List V} {ts : List OT} {A : List Addr}, TrAll F H vs ts A → (∀ a, a ∈ A → ∀ u, H a = some u → H' a = some u) → TrAll F' H' vs ts A
  | _, _, _, .nil, _ => .nil
  | _, _, _, .cons h1 h2, k => .cons (h1.keep e fun a ha => k a (List.mem_append_left _ ha)) (h2.keep e fun a ha => k a (List.mem_append_right _ ha))
end
def NoXd (o : HO) : Prop := (∀ fs, o ≠ .xd fs) ∧ NoTup o
mutual
theorem Tr.at {F H : Hp} : ∀ {v : V} {t : OT} {A : List Addr}, Tr F H v t A → ∀ a, a ∈ A → ∃ u, H a = some u ∧ NoXd u
  | _, _, _, .d _, a, h => by cases h
  | _, _, _, .lst h1 _ _, a, h => by
    rcases List.mem_cons.mp h with rfl | h
    · exact ⟨_, h1, ⟨fun _ z => (nomatch z), fun _ z => (nomatch z)⟩⟩
    · cases h
  | _, _, _, .dk h1 _ _, a, h => by
    rcases List.mem_cons.mp h with rfl | h
    · exact ⟨_, h1, ⟨fun _ z => (nomatch z), fun _ z => (nomatch z)⟩⟩
    · cases h
  | _, _, _, .obj h1 h2 _ h4, a, h => by
    rcases List.mem_cons.mp h with rfl | h
    · exact ⟨_, h1, ⟨fun _ z => (nomatch z), fun _ z => (nomatch z)⟩⟩
    · rcases List.mem_cons.mp h with rfl | h
      · exact ⟨_, h2, ⟨fun _ z => (nomatch z), fun _ z => (nomatch z)⟩⟩
      · exact h4.at a h
  | _, _, _, .rc h1 _ h3, a, h => by
    rcases List.mem_cons.mp h with rfl | h
    · exact ⟨_, h1, ⟨fun _ z => (nomatch z), fun _ z => (nomatch z)⟩⟩
    · exact h3.at a h
  | _, _, _, .arr h1 h2 _, a, h => by
    rcases List.mem_cons.mp h with rfl | h
    · exact ⟨_, h1, ⟨fun _ z => (nomatch z), fun _ z => (nomatch z)⟩⟩
    · exact h2.at a h
  | _, _, _, .val, a, h => by cases h
  | _, _, _, .tup _ h2 _, a, h => h2.at a h
  | _, _, _, .pin h2, a, h => h2.at a h
theorem TrAll.at {F H : Hp} : ∀ {vs : List V} {ts : List OT} {A : List Addr}, TrAll F H vs ts A → ∀ a, a ∈ A → ∃ u, H a = some u ∧ NoXd u
  | _, _, _, .nil, a, h => by cases h
  | _, _, _, .cons h1 h2, a, h => by
    rcases List.mem_append.mp h with h | h
    · exact h1.at a h
    · exact h2.at a h
end
inductive Sl where
  /-- nothing is known -/
  | un
  /-- settled data -/
  | sh (d : PyData)
  /-- a list of this frame's own, which it may change -/
  | ow (ds : List PyData)
  /-- a list that is only read -/
  | sc (ds : List PyData)
  /-- a dict of this frame's own: keys ints and texts; keys tuples of these -/
  | dk (kvs : List (Key × PyData))
  | dt (kvs : List (List Key × PyData))
  /-- a dict with such keys that never changes again -/
  | ft (kvs : List (List Key × PyData))
  /-- this very address (a caught exception's), with its dict of one field -/
  | xo (a : Addr) (d : Option (Addr × Str × PyData))
  /-- a thing of this frame's own; one that is lent, at p; one that is only looked at -/
  | tr (t : OT)
  | tb (p : Addr) (t : OT)
  | ro (t : OT)
def Sl.owned : Sl → Bool
  | .ow _ => true
  | .dk _ => true
  | .dt _ => true
  | _ => false
def XdOk (F H : Hp) : Option (Addr × Str × PyData) → Prop
  | none => True
  | some (dd, f, q) => ∃ v, Dq F v q ∧ ((F dd = some (.xd [(f, v)])) ∨ (F dd = none ∧ H dd = some (.xd [(f, v)])))
theorem XdOk.at {F H : Hp} {dd : Addr} {f : Str} {q : PyData} (e : Ex F H) : XdOk F H (some (dd, f, q)) → ∃ v, Dq F v q ∧ H dd = some (.xd [(f, v)])
  | ⟨v, a, b⟩ => ⟨v, a, by
    rcases b with b | b
    · exact e _ _ b
    · exact b.2⟩
theorem XdOk.of {F H : Hp} {dd : Addr} {f : Str} {q : PyData} {v : V} (e : Ex F H) (a : Dq F v q) (h : H dd = some (.xd [(f, v)])) : XdOk F H (some (dd, f, q)) := ⟨v, a, by
  cases r : F dd with
  | none => exact .inr ⟨rfl, h⟩
  | some u =>
    rw [e _ _ r] at h
    exact .inl h⟩
def SlOk (K : Frag) (H0 F H : Hp) (o : Option V) : Sl → Prop
  | .un => True
  | .sh d => ∃ v, o = some v ∧ Dq F v d
  | .ow ds => ∃ p vs, o = some (.ref p) ∧ H0 p = none ∧ F p = none ∧ H p = some (.lst vs) ∧ DqAll F vs ds ∧ ds.length ≤ lim
  | .sc ds => ∃ p vs, o = some (.ref p) ∧ SqL K F p vs ∧ DqAll F vs ds ∧ ds.length ≤ lim
  | .dk kvs => ∃ p xs, o = some (.ref p) ∧ H0 p = none ∧ F p = none ∧ H p = some (.dK xs) ∧ KvOk F xs kvs ∧ DkL kvs
  | .dt kvs => ∃ p xs, o = some (.ref p) ∧ H0 p = none ∧ F p = none ∧ H p = some (.dT xs) ∧ KvOk F xs kvs ∧ DtL kvs
  | .ft kvs => ∃ p ob xs, o = some (.ref p) ∧ F p = some (.frz ob (.dT xs)) ∧ KvOk F xs kvs ∧ DtL kvs
  | .xo a d => o = some (.ref a) ∧ XdOk F H d
  | .tr t => ∃ v A, o = some v ∧ Tr F H v t A ∧ A.Nodup ∧ ∀ a, a ∈ A → F a = none ∧ H0 a = none
  | .tb p t => ∃ A, o = some (.ref p) ∧ Tr F H (.ref p) t A ∧ A.Nodup ∧ ∀ a, a ∈ A → F a = none ∧ H0 a = none
  | .ro t => ∃ v A, o = some v ∧ Tr F H v t A ∧ ∀ a, a ∈ A → F a = none ∧ ∃ u, H0 a = some u
def SlA (K : Frag) (H0 F H : Hp) (o : Option V) (A : List Addr) : Sl → Prop
  | .ow ds => ∃ p vs, o = some (.ref p) ∧ H0 p = none ∧ F p = none ∧ H p = some (.lst vs) ∧ DqAll F vs ds ∧ ds.length ≤ lim ∧ A = [p]
  | .dk kvs => ∃ p xs, o = some (.ref p) ∧ H0 p = none ∧ F p = none ∧ H p = some (.dK xs) ∧ KvOk F xs kvs ∧ DkL kvs ∧ A = [p]
  | .dt kvs => ∃ p xs, o = some (.ref p) ∧ H0 p = none ∧ F p = none ∧ H p = some (.dT xs) ∧ KvOk F xs kvs ∧ DtL kvs ∧ A = [p]
  | .tr t => ∃ v, o = some v ∧ Tr F H v t A ∧ A.Nodup ∧ ∀ a, a ∈ A → F a = none ∧ H0 a = none
  | .tb p t => o = some (.ref p) ∧ Tr F H (.ref p) t A ∧ A.Nodup ∧ ∀ a, a ∈ A → F a = none ∧ H0 a = none
  | s => SlOk K H0 F H o s ∧ A = []
theorem SlA.ok {K : Frag} {H0 F H : Hp} {o : Option V} {A : List Addr} : ∀ {s : Sl}, SlA K H0 F H o A s → SlOk K H0 F H o s
  | .un, h => h.1
  | .sh _, h => h.1
  | .sc _, h => h.1
  | .ft _, h => h.1
  | .xo _ _, h => h.1
  | .ro _, h => h.1
  | .ow _, ⟨p, vs, a, b, c, d, e, f, _⟩ => ⟨p, vs, a, b, c, d, e, f⟩
  | .dk _, ⟨p, vs, a, b, c, d, e, f, _⟩ => ⟨p, vs, a, b, c, d, e, f⟩
  | .dt _, ⟨p, vs, a, b, c, d, e, f, _⟩ => ⟨p, vs, a, b, c, d, e, f⟩
  | .tr _, ⟨v, a, b, c⟩ => ⟨v, A, a, b, c⟩
  | .tb _ _, ⟨a, b, c⟩ => ⟨A, a, b, c⟩
theorem SlOk.a {K : Frag} {H0 F H : Hp} {o : Option V} : ∀ {s : Sl}, SlOk K H0 F H o s → ∃ A, SlA K H0 F H o A s
  | .un, h => ⟨[], h, rfl⟩
  | .sh _, h => ⟨[], h, rfl⟩
  | .sc _, h => ⟨[], h, rfl⟩
  | .ft _, h => ⟨[], h, rfl⟩
  | .xo _ _, h => ⟨[], h, rfl⟩
  | .ro _, h => ⟨[], h, rfl⟩
  | .ow _, ⟨p, vs, a, b, c, d, e, f⟩ => ⟨[p], p, vs, a, b, c, d, e, f, rfl⟩
  | .dk _, ⟨p, vs, a, b, c, d, e, f⟩ => ⟨[p], p, vs, a, b, c, d, e, f, rfl⟩
  | .dt _, ⟨p, vs, a, b, c, d, e, f⟩ => ⟨[p], p, vs, a, b, c, d, e, f, rfl⟩
  | .tr _, ⟨v, A, a, b, c⟩ => ⟨A, v, a, b, c⟩
  | .tb _ _, ⟨A, a, b, c⟩ => ⟨A, a, b, c⟩
theorem SlA.free {K : Frag} {H0 F H : Hp} {o : Option V} {A : List Addr} : ∀ {s : Sl}, SlA K H0 F H o A s → ∀ a, a ∈ A → F a = none ∧ H0 a = none ∧ ∃ u, H a = some u ∧ NoXd u
  | .un, h, a, m => by rw [h.2] at m; cases m
  | .sh _, h, a, m => by rw [h.2] at m; cases m
  | .sc _, h, a, m => by rw [h.2] at m; cases m
  | .ft _, h, a, m => by rw [h.2] at m; cases m
  | .xo _ _, h, a, m => by rw [h.2] at m; cases m
  | .ro _, h, a, m => by rw [h.2] at m; cases m
  | .ow _, ⟨p, vs, _, b, c, d, _, _, e⟩, a, m => by
    rw [e] at m
    obtain rfl := List.mem_singleton.mp m
    exact ⟨c, b, _, d, ⟨fun _ z => (nomatch z), fun _ z => (nomatch z)⟩⟩
  | .dk _, ⟨p, vs, _, b, c, d, _, _, e⟩, a, m => by
    rw [e] at m
    obtain rfl := List.mem_singleton.mp m
    exact ⟨c, b, _, d, ⟨fun _ z => (nomatch z), fun _ z => (nomatch z)⟩⟩
  | .dt _, ⟨p, vs, _, b, c, d, _, _, e⟩, a, m => by
    rw [e] at m
    obtain rfl := List.mem_singleton.mp m
    exact ⟨c, b, _, d, ⟨fun _ z => (nomatch z), fun _ z => (nomatch z)⟩⟩
  | .tr _, ⟨v, _, b, _, c⟩, a, m => ⟨(c a m).1, (c a m).2, b.at a m⟩
  | .tb _ _, ⟨_, b, _, c⟩, a, m => ⟨(c a m).1, (c a m).2, b.at a m⟩
theorem sq_mono {K : Frag} {F F' : Hp} {p : Addr} {vs : List V} (e : Ex F F') (h : SqL K F p vs) : SqL K F' p vs := Evl.ex_l e h
theorem both {p q r : Prop} (h : (p → q) ∧ r) (x : p) : q ∧ r := ⟨h.1 x, h.2⟩
theorem SlA.keep {K : Frag} {H0 F H F' H' : Hp} {o : Option V} {A C : List Addr} (e : Ex F F') (k : ∀ a u, H a = some u → F a = none → a ∉ C → (NoTup u → F' a = none) ∧ H' a = some u) (cz : ∀ a, a ∈ C → H0 a = none ∧ ∀ u, H a = some u → NoXd u) :
    ∀ {s : Sl}, SlA K H0 F H o A s → (∀ a, a ∈ A → a ∉ C) → SlA K H0 F' H' o A s
  | .un, h, _ => h
  | .sh d, ⟨⟨v, h1, h2⟩, h3⟩, _ => ⟨⟨v, h1, h2.mono' e⟩, h3⟩
  | .sc ds, ⟨⟨p, vs, h1, h2, h3, h4⟩, h5⟩, _ => ⟨⟨p, vs, h1, sq_mono e h2, h3.mono' e, h4⟩, h5⟩
  | .ft kvs, ⟨⟨p, ob, xs, h1, h2, h3, h4⟩, h5⟩, _ => ⟨⟨p, ob, xs, h1, e _ _ h2, h3.mono e, h4⟩, h5⟩
  | .xo a none, ⟨⟨h1, _⟩, h3⟩, _ => ⟨⟨h1, trivial⟩, h3⟩
  | .xo a (some (dd, f, q)), ⟨⟨h1, v, h4, h5⟩, h3⟩, _ => ⟨⟨h1, v, h4.mono' e, by
    rcases h5 with b | ⟨b1, b2⟩
    · exact .inl (e _ _ b)
    · exact .inr (both (k _ _ b2 b1 fun z => ((cz _ z).2 _ b2).1 _ rfl) fun _ z => nomatch z)⟩, h3⟩
  | .ro t, ⟨⟨v, B, h1, h2, h3⟩, h4⟩, _ => by
    have kk : ∀ a, a ∈ B → F' a = none ∧ ∀ u, H a = some u → H' a = some u := fun a ha => by
      obtain ⟨f0, u0, hu0⟩ := h3 a ha
      obtain ⟨u, hu, nx⟩ := h2.at a ha
      have nc : a ∉ C := fun z => by rw [(cz a z).1] at hu0; cases hu0
      exact ⟨(k a u hu f0 nc).1 nx.2, fun u' hu' => (k a u' hu' f0 nc).2⟩
    exact ⟨⟨v, B, h1, h2.keep e fun a ha => (kk a ha).2, fun a ha => ⟨(kk a ha).1, (h3 a ha).2⟩⟩, h4⟩
  | .ow ds, ⟨p, vs, a, b, c, d, f, g, h⟩, n => by
    have nc := n p (by rw [h]; exact List.mem_singleton.mpr rfl)
    exact ⟨p, vs, a, b, (k _ _ d c nc).1 (fun _ z => nomatch z), (k _ _ d c nc).2, f.mono' e, g, h⟩
  | .dk ds, ⟨p, vs, a, b, c, d, f, g, h⟩, n => by
    have nc := n p (by rw [h]; exact List.mem_singleton.mpr rfl)
    exact ⟨p, vs, a, b, (k _ _ d c nc).1 (fun _ z => nomatch z), (k _ _ d c nc).2, f.mono e, g, h⟩
  | .dt ds, ⟨p, vs, a, b, c, d, f, g, h⟩, n => by
    have nc := n p (by rw [h]; exact List.mem_singleton.mpr rfl)
    exact ⟨p, vs, a, b, (k _ _ d c nc).1 (fun _ z => nomatch z), (k _ _ d c nc).2, f.mono e, g, h⟩
  | .tr t, ⟨v, a, b, c, d⟩, n => by
    have kk : ∀ a, a ∈ A → F' a = none ∧ ∀ u, H a = some u → H' a = some u := fun a ha => by
      obtain ⟨u, hu, nx⟩ := b.at a ha
      exact ⟨(k a u hu (d a ha).1 (n a ha)).1 nx.2, fun u' hu' => (k a u' hu' (d a ha).1 (n a ha)).2⟩
    exact ⟨v, a, b.keep e fun a ha => (kk a ha).2, c, fun a ha => ⟨(kk a ha).1, (d a ha).2⟩⟩
  | .tb p t, ⟨a, b, c, d⟩, n => by
    have kk : ∀ a, a ∈ A → F' a = none ∧ ∀ u, H a = some u → H' a = some u := fun a ha => by
      obtain ⟨u, hu, nx⟩ := b.at a ha
      exact ⟨(k a u hu (d a ha).1 (n a ha)).1 nx.2, fun u' hu' => (k a u' hu' (d a ha).1 (n a ha)).2⟩
    exact ⟨a, b.keep e fun a ha => (kk a ha).2, c, fun a ha => ⟨(kk a ha).1, (d a ha).2⟩⟩
structure EnvOk (K : Frag) (F0 H0 F H : Hp) (σ : List (Option V)) (env : List Sl) : Prop where
  z : Fz F0 H0 F H
  len : σ.length = env.length
  as : ∃ As : Nat → List Addr, (∀ (i : Nat) (s : Sl), env[i]? = some s → ∃ o : Option V, σ[i]? = some o ∧ SlA K H0 F H o (As i) s) ∧ ∀ (i j : Nat) (s t : Sl) (a : Addr), env[i]? = some s → env[j]? = some t → a ∈ As i → a ∈ As j → i = j
section
variable {K : Frag} {F0 H0 F H F' H' : Hp} {σ : List (Option V)} {env env' : List Sl}
theorem EnvOk.fh (E : EnvOk K F0 H0 F H σ env) : Ex F H := E.z.fh
theorem EnvOk.sl (E : EnvOk K F0 H0 F H σ env) (i : Nat) (s : Sl) (h : env[i]? = some s) : ∃ o : Option V, σ[i]? = some o ∧ SlOk K H0 F H o s := by
  obtain ⟨As, a, _⟩ := E.as
  obtain ⟨o, h1, h2⟩ := a i s h
  exact ⟨o, h1, h2.ok⟩
theorem EnvOk.lt (E : EnvOk K F0 H0 F H σ env) {i : Nat} {s : Sl} (h : env[i]? = some s) : i < σ.length := by
  rw [E.len]; exact (List.getElem?_eq_some_iff.mp h).1
theorem EnvOk.flat (z : Fz F0 H0 F H) (l : σ.length = env.length) (h : ∀ (i : Nat) (s : Sl), env[i]? = some s → ∃ o : Option V, σ[i]? = some o ∧ SlA K H0 F H o [] s) : EnvOk K F0 H0 F H σ env :=
  ⟨z, l, fun _ => [], h, fun i j s t a _ _ m _ => by cases m⟩
theorem EnvOk.step (E : EnvOk K F0 H0 F H σ env) (z : Fz F H F' H') : EnvOk K F0 H0 F' H' σ env := by
  obtain ⟨As, a, b⟩ := E.as
  refine ⟨E.z.trans z, E.len, As, fun i s h => ?_, b⟩
  obtain ⟨o, h1, h2⟩ := a i s h
  exact ⟨o, h1, h2.keep (C := []) z.f (fun p u hp hf _ => z.own' p u hp hf) (fun _ m => by cases m) fun _ _ m => by cases m⟩
theorem set_env {i j : Nat} {s t : Sl} (h : (env.set i s)[j]? = some t) : (j = i ∧ t = s ∧ i < env.length) ∨ (j ≠ i ∧ env[j]? = some t) := by
  rw [List.getElem?_set] at h
  by_cases e : i = j
  · subst e
    rw [if_pos rfl] at h
    by_cases l : i < env.length
    · rw [if_pos l] at h; cases h; exact .inl ⟨rfl, rfl, l⟩
    · rw [if_neg l] at h; cases h
  · rw [if_neg e] at h
    exact .inr ⟨fun z => e z.symm, h⟩
theorem EnvOk.put (E : EnvOk K F0 H0 F H σ env) (i : Nat) (v : Option V) {t : Sl} {B C : List Addr} (e : Ex F F') (fh : Ex F' H') (k : ∀ a u, H a = some u → F a = none → a ∉ C → (NoTup u → F' a = none) ∧ H' a = some u)
    (hc : C = [] ∨ ∃ s o, env[i]? = some s ∧ σ[i]? = some o ∧ ∀ A, SlA K H0 F H o A s → ∀ c, c ∈ C → c ∈ A)
    (hb : ∀ b, b ∈ B → H b = none ∨ b ∈ C) (ht : SlA K H0 F' H' v B t) : EnvOk K F0 H0 F' H' (σ.set i v) (env.set i t) := by
  obtain ⟨As, a, d⟩ := E.as
  have cA : ∀ c, c ∈ C → i < env.length ∧ c ∈ As i ∧ F c = none ∧ H0 c = none ∧ ∃ u, H c = some u ∧ NoXd u := fun c m => by
    rcases hc with rfl | ⟨s, o, e1, e2, h⟩
    · cases m
    · obtain ⟨o', h1, h2⟩ := a i s e1
      rw [e2] at h1
      cases h1
      have := h _ h2 c m
      exact ⟨(List.getElem?_eq_some_iff.mp e1).1, this, h2.free c this⟩
  refine ⟨⟨E.z.f.trans e, fh, fun p u q n => ?_⟩, by rw [List.length_set, List.length_set, E.len], fun j => if j = i then B else As j, fun j s h => ?_, fun j l s u p hj hl mj ml => ?_⟩
  · obtain ⟨x, y⟩ := E.z.own' p u q n
    cases r : F p with
    | none => exact k p u y r fun m => by rw [(cA p m).2.2.2.1] at q; cases q
    | some w =>
      have e1 := E.z.fh p w r
      rw [y] at e1
      cases e1
      exact ⟨fun nt => (by rw [x nt] at r; cases r), fh p _ (e p _ r)⟩
  · rcases set_env h with ⟨rfl, rfl, l⟩ | ⟨n, h⟩
    · refine ⟨v, ?_, ?_⟩
      · rw [List.getElem?_set, if_pos rfl, if_pos (by rw [E.len]; exact l)]
      · dsimp only; rw [if_pos rfl]; exact ht
    · obtain ⟨o, h1, h2⟩ := a j s h
      refine ⟨o, ?_, ?_⟩
      · rw [List.getElem?_set, if_neg fun z => n z.symm]; exact h1
      · dsimp only; rw [if_neg n]
        refine h2.keep e k (fun c m => ⟨(cA c m).2.2.2.1, fun u hu => ?_⟩) fun c m mc => ?_
        · obtain ⟨_, _, _, _, u', hu', nx⟩ := cA c m
          rw [hu] at hu'; cases hu'
          exact nx
        · obtain ⟨l, mi, _⟩ := cA c mc
          exact n (d j i s env[i] c h (List.getElem?_eq_getElem l) m mi)
  · have ne : ∀ {j : Nat} {s : Sl}, j ≠ i → env[j]? = some s → p ∈ B → p ∈ As j → False := fun {j s} n h mb mj => by
      obtain ⟨o, h1, h2⟩ := a j s h
      rcases hb p mb with z | z
      · obtain ⟨_, _, u, hu, _⟩ := h2.free p mj
        rw [z] at hu; cases hu
      · obtain ⟨l, mi, _⟩ := cA p z
        exact n (d j i s env[i] p h (List.getElem?_eq_getElem l) mj mi)
    dsimp only at mj ml
    rcases set_env hj with ⟨ej, _, lj⟩ | ⟨nj, hj'⟩
    · rcases set_env hl with ⟨el, _, ll⟩ | ⟨nl, hl'⟩
      · rw [ej, el]
      · rw [if_pos ej] at mj
        rw [if_neg nl] at ml
        exact (ne nl hl' mj ml).elim
    · rw [if_neg nj] at mj
      rcases set_env hl with ⟨el, _, ll⟩ | ⟨nl, hl'⟩
      · rw [if_pos el] at ml
        exact (ne nj hj' ml mj).elim
      · rw [if_neg nl] at ml
        exact d j l s u p hj' hl' mj ml
theorem set_self {α : Type} {xs : List α} {i : Nat} {x : α} (h : xs[i]? = some x) : xs.set i x = xs := by
  refine List.ext_getElem? fun j => ?_
  rw [List.getElem?_set]
  by_cases e : i = j
  · subst e
    rw [if_pos rfl, if_pos (List.getElem?_eq_some_iff.mp h).1, h]
  · rw [if_neg e]
theorem EnvOk.set0 (E : EnvOk K F0 H0 F H σ env) (i : Nat) (v : Option V) {s : Sl} (hs : SlA K H0 F H v [] s) : EnvOk K F0 H0 F H (σ.set i v) (env.set i s) :=
  E.put i v (B := []) (C := []) (Evl.Ex.refl F) E.fh (fun _ _ h f _ => ⟨fun _ => f, h⟩) (.inl rfl) (fun _ m => by cases m) hs
theorem EnvOk.setS (E : EnvOk K F0 H0 F H σ env) (i : Nat) {v : V} {d : PyData} (h : Dq F v d) : EnvOk K F0 H0 F H (σ.set i (some v)) (env.set i (.sh d)) :=
  E.set0 i _ ⟨⟨v, rfl, h⟩, rfl⟩
theorem EnvOk.setU (E : EnvOk K F0 H0 F H σ env) (i : Nat) {v : V} : EnvOk K F0 H0 F H (σ.set i (some v)) (env.set i .un) :=
  E.set0 i _ ⟨trivial, rfl⟩
theorem EnvOk.forget (E : EnvOk K F0 H0 F H σ env) (i : Nat) (o : Option V) : EnvOk K F0 H0 F H (σ.set i o) (env.set i .un) := E.set0 i _ ⟨trivial, rfl⟩
theorem EnvOk.setN (E : EnvOk K F0 H0 F H σ env) {F' H' : Hp} (z : Fz F H F' H') (i : Nat) {v : V} {s : Sl} {B : List Addr} (hn : ∀ b, b ∈ B → H b = none) (hs : SlA K H0 F' H' (some v) B s) : EnvOk K F0 H0 F' H' (σ.set i (some v)) (env.set i s) :=
  E.put i _ (B := B) (C := []) z.f z.fh (fun a u h f _ => z.own' a u h f) (.inl rfl) (fun b m => .inl (hn b m)) hs
theorem EnvOk.setO (E : EnvOk K F0 H0 F H σ env) {F' H' : Hp} (z : Fz F H F' H') (i : Nat) {p : Addr} {s : Sl} (hn : H p = none) (hs : SlOk K H0 F' H' (Option.some (.ref p)) s) (os : s.owned = true := by rfl) : EnvOk K F0 H0 F' H' (σ.set i (Option.some (.ref p))) (env.set i s) := by
  obtain ⟨B, hB⟩ := hs.a
  refine E.setN z i (fun b m => ?_) hB
  have : B = [p] := by
    cases s with
    | ow ds => obtain ⟨_, _, e, _, _, _, _, _, h⟩ := hB; cases e; exact h
    | dk ds => obtain ⟨_, _, e, _, _, _, _, _, h⟩ := hB; cases e; exact h
    | dt ds => obtain ⟨_, _, e, _, _, _, _, _, h⟩ := hB; cases e; exact h
    | _ => cases os
  rw [this] at m
  obtain rfl := List.mem_singleton.mp m
  exact hn
theorem EnvOk.mutT (E : EnvOk K F0 H0 F H σ env) {i : Nat} {s t : Sl} {o : Option V} {A B : List Addr} (fh : Ex F' H') (e : Ex F F') (hs : env[i]? = some s) (hi : σ[i]? = some o) (hA : ∀ A', SlA K H0 F H o A' s → ∀ c, c ∈ A → c ∈ A') (k : ∀ a u, H a = some u → F a = none → a ∉ A → (NoTup u → F' a = none) ∧ H' a = some u)
    (hb : ∀ b, b ∈ B → H b = none ∨ b ∈ A) (ht : SlA K H0 F' H' o B t) : EnvOk K F0 H0 F' H' σ (env.set i t) := by
  have := E.put i o (B := B) (C := A) e fh k (.inr ⟨s, o, hs, hi, hA⟩) hb ht
  rw [set_self hi] at this
  exact this
theorem owned_at {s : Sl} {p : Addr} (os : s.owned = true) {A : List Addr} (h : SlA K H0 F H (some (.ref p)) A s) : A = [p] := by
  cases s with
  | ow ds => obtain ⟨_, _, e, _, _, _, _, _, h⟩ := h; cases e; exact h
  | dk ds => obtain ⟨_, _, e, _, _, _, _, _, h⟩ := h; cases e; exact h
  | dt ds => obtain ⟨_, _, e, _, _, _, _, _, h⟩ := h; cases e; exact h
  | _ => cases os
theorem EnvOk.mut (E : EnvOk K F0 H0 F H σ env) {i : Nat} {p : Addr} {s t : Sl} {o : HO} (hs : env[i]? = some s) (os : s.owned = true) (hi : σ[i]? = Option.some (Option.some (.ref p))) (ht : SlOk K H0 F (upd H p o) (Option.some (.ref p)) t) (ot : t.owned = true) :
    EnvOk K F0 H0 F (upd H p o) σ (env.set i t) := by
  obtain ⟨B, hB⟩ := ht.a
  have eB := owned_at ot hB
  subst eB
  have hF : F p = none := (hB.free p (List.mem_singleton.mpr rfl)).1
  refine E.mutT (A := [p]) (B := [p]) (fun a u q => ?_) (Evl.Ex.refl F) hs hi (fun A' h c m => by rw [owned_at os h]; exact m) (fun a u h f n => ⟨fun _ => f, ?_⟩) (fun b m => .inr m) hB
  · rw [upd_ne (ne_of_none q hF)]; exact E.fh a u q
  · rw [upd_ne fun z => n (by rw [z]; exact List.mem_singleton.mpr rfl)]; exact h
theorem EnvOk.freeze {ds : List PyData} (E : EnvOk K F0 H0 F H σ env) {i : Nat} (hs : env[i]? = some (.ow ds)) : ∃ F', EnvOk K F0 H0 F' H σ (env.set i (.sh (.list ds))) := by
  obtain ⟨o, e1, p, vs, e, h0, f, h, a, l⟩ := E.sl i _ hs
  subst e
  have m := Evl.Ex.new (o := HO.lst vs) f
  refine ⟨upd F p (.lst vs), E.mutT (s := .ow ds) (A := [p]) (B := []) (fun a u q => ?_) m hs e1 (fun A' h c m => by rw [owned_at rfl h]; exact m) (fun a u h f n => ⟨fun _ => ?_, h⟩) (fun b m => by cases m) ⟨⟨_, rfl, .lst upd_same (a.mono' m) l⟩, rfl⟩⟩
  · by_cases z : a = p
    · subst z; rw [upd_same] at q; rw [h]; exact q
    · rw [upd_ne z] at q; exact E.fh a u q
  · rw [upd_ne fun z => n (by rw [z]; exact List.mem_singleton.mpr rfl)]; exact f
inductive Wk : List Sl → List Sl → Prop
  | nil : Wk [] []
  | same {s : Sl} {e e' : List Sl} : Wk e e' → Wk (s :: e) (s :: e')
  | un {s : Sl} {e e' : List Sl} : Wk e e' → Wk (s :: e) (.un :: e')
  | tb {p : Addr} {t : OT} {e e' : List Sl} : Wk e e' → Wk (.tb p t :: e) (.tr t :: e')
theorem Wk.get : ∀ {e e' : List Sl} {i : Nat} {s : Sl}, Wk e e' → e'[i]? = some s → s = .un ∧ i < e.length ∨ e[i]? = some s ∨ ∃ p t, s = .tr t ∧ e[i]? = some (.tb p t)
  | _, _, _, _, .nil, h => by simp at h
  | _, _, 0, _, .same _, h => .inr (.inl (by simpa using h))
  | _, _, i + 1, _, .same w, h => by
    rcases w.get (i := i) (by simpa using h) with ⟨a, b⟩ | a | ⟨p, t, a, b⟩
    · exact .inl ⟨a, by rw [List.length_cons]; omega⟩
    · exact .inr (.inl (by simpa using a))
    · exact .inr (.inr ⟨p, t, a, by simpa using b⟩)
  | _, _, 0, _, .un _, h => .inl ⟨by simp at h; exact h.symm, by simp⟩
  | _, _, i + 1, _, .un w, h => by
    rcases w.get (i := i) (by simpa using h) with ⟨a, b⟩ | a | ⟨p, t, a, b⟩
    · exact .inl ⟨a, by rw [List.length_cons]; omega⟩
    · exact .inr (.inl (by simpa using a))
    · exact .inr (.inr ⟨p, t, a, by simpa using b⟩)
  | _, _, 0, _, .tb (p := p) (t := t) _, h => .inr (.inr ⟨p, t, by simp at h; exact h.symm, by simp⟩)
  | _, _, i + 1, _, .tb w, h => by
    rcases w.get (i := i) (by simpa using h) with ⟨a, b⟩ | a | ⟨p, t, a, b⟩
    · exact .inl ⟨a, by rw [List.length_cons]; omega⟩
    · exact .inr (.inl (by simpa using a))
    · exact .inr (.inr ⟨p, t, a, by simpa using b⟩)
theorem Wk.len : ∀ {e e' : List Sl}, Wk e e' → e.length = e'.length
  | _, _, .nil => rfl
  | _, _, .same w => by rw [List.length_cons, List.length_cons, w.len]
  | _, _, .un w => by rw [List.length_cons, List.length_cons, w.len]
  | _, _, .tb w => by rw [List.length_cons, List.length_cons, w.len]
theorem EnvOk.weak (E : EnvOk K F0 H0 F H σ env) (w : Wk env env') : EnvOk K F0 H0 F H σ env' := by
  obtain ⟨As, a, b⟩ := E.as
  have key : ∀ i s, env'[i]? = some s → ∃ s', env[i]? = some s' ∧ ∀ o, SlA K H0 F H o (As i) s' → ∃ A, SlA K H0 F H o A s ∧ (A = [] ∨ A = As i) := fun i s h => by
    rcases w.get h with ⟨rfl, l⟩ | h' | ⟨p, t, rfl, h'⟩
    · exact ⟨_, List.getElem?_eq_getElem l, fun o _ => ⟨[], ⟨trivial, rfl⟩, .inl rfl⟩⟩
    · exact ⟨s, h', fun o x => ⟨_, x, .inr rfl⟩⟩
    · refine ⟨_, h', fun o x => ?_⟩
      have x : o = some (.ref p) ∧ Tr F H (.ref p) t (As i) ∧ (As i).Nodup ∧ ∀ a, a ∈ As i → F a = none ∧ H0 a = none := x
      exact ⟨As i, ⟨_, x.1, x.2⟩, .inr rfl⟩
  have : ∀ i, ∃ A, (A = [] ∨ A = As i) ∧ ∀ s, env'[i]? = some s → ∃ o, σ[i]? = some o ∧ SlA K H0 F H o A s := fun i => by
    by_cases l : i < env'.length
    · obtain ⟨s', h1, h2⟩ := key i _ (List.getElem?_eq_getElem l)
      obtain ⟨o, h3, h4⟩ := a i s' h1
      obtain ⟨A, h5, h6⟩ := h2 o h4
      refine ⟨A, h6, fun s hs => ⟨o, h3, ?_⟩⟩
      rw [List.getElem?_eq_getElem l] at hs
      cases hs
      exact h5
    · exact ⟨[], .inl rfl, fun s hs => absurd (List.getElem?_eq_some_iff.mp hs).1 l⟩
  refine ⟨E.z, by rw [E.len, w.len], fun i => (this i).choose, fun i s h => (this i).choose_spec.2 s h, fun i j s t p hi hj mi mj => ?_⟩
  obtain ⟨s', h1, _⟩ := key i s hi
  obtain ⟨t', h2, _⟩ := key j t hj
  have sub : ∀ i, p ∈ (this i).choose → p ∈ As i := fun i m => by
    rcases (this i).choose_spec.1 with z | z
    · rw [z] at m; cases m
    · rw [z] at m; exact m
  exact b i j s' t' p h1 h2 (sub i mi) (sub j mj)
end
theorem Fz.base {F H F1 H1 F2 H2 : Hp} (z : Fz F H F1 H1) (f : Ex F1 F2) (z2 : Fz F H F2 H2) : Fz F1 H F2 H2 := ⟨f, z2.fh, fun p o h n => z2.own' p o h (by
  cases r : F p with
  | none => rfl
  | some u => rw [z.f p u r] at n; cases n)⟩
theorem Fz.back {F H F1 H1 F2 H2 : Hp} (z : Fz F H F1 H1) (z2 : Fz F1 H F2 H2) : Fz F H F2 H2 := ⟨z.f.trans z2.f, z2.fh, fun p o h n => by
  obtain ⟨x, y⟩ := z.own' p o h n
  cases r : F1 p with
  | none => exact z2.own' p o h r
  | some u =>
    have e := z.fh p u r
    rw [y] at e
    cases e
    exact ⟨fun nt => (by rw [x nt] at r; cases r), z2.fh p _ (z2.f p _ r)⟩⟩
theorem EnvOk.base {K : Frag} {F0 H0 F H : Hp} {σ : List (Option V)} {env : List Sl} (E : EnvOk K F0 H0 F H σ env) : EnvOk K F H0 F H σ env := ⟨E.z.base (Evl.Ex.refl F) E.z, E.len, E.as⟩
theorem EnvOk.back {K : Frag} {F0 H0 F H F1 H1 : Hp} {σ : List (Option V)} {env : List Sl} (z : Fz F0 H0 F1 H1) (E : EnvOk K F1 H0 F H σ env) : EnvOk K F0 H0 F H σ env := ⟨z.back E.z, E.len, E.as⟩
end Rb

set_option Elab.async false
set_option linter.all false
set_option maxRecDepth 100000
set_option maxHeartbeats 2000000
namespace Rb
open PySem PySem.Spec PyProof.Rows L2
theorem lay_of {d : PyData} (h : SeqAt.shaped d = true) : PyData.canLay0 d = true := (Bool.and_eq_true_iff.mp h).1
def EX (K : Frag) (te : TE) (env : List Sl) (d : PyData) : Prop := ∀ ⦃F0 H0 F H : Hp⦄ ⦃σ : List (Option V)⦄, EnvOk K F0 H0 F H σ env → ∀ Q : VK, (∀ v F' H', Fz F H F' H' → Dq F' v d → Q v H') → te σ H Q
def EXl (K : Frag) (te : TE) (env : List Sl) (ds : List PyData) : Prop := ∀ ⦃F0 H0 F H : Hp⦄ ⦃σ : List (Option V)⦄, EnvOk K F0 H0 F H σ env → ∀ Q : VK, (∀ p vs F' H', Fz F H F' H' → H' p = some (.lst vs) → DqAll F' vs ds → ds.length ≤ lim → Q (.ref p) H') → te σ H Q
def EXw (K : Frag) (te : TE) (env : List Sl) (ds : List PyData) : Prop := ∀ ⦃F0 H0 F H : Hp⦄ ⦃σ : List (Option V)⦄, EnvOk K F0 H0 F H σ env → ∀ Q : VK, (∀ p vs F' H', Fz F H F' H' → H p = none → F' p = none → H' p = some (.lst vs) → DqAll F' vs ds → ds.length ≤ lim → Q (.ref p) H') → te σ H Q
def EXq (K : Frag) (te : TE) (env : List Sl) (d : PyData) : Prop := ∀ ⦃F0 H0 F H : Hp⦄ ⦃σ : List (Option V)⦄, EnvOk K F0 H0 F H σ env → ∀ Q : VK, (∀ v F' H', Fz F H F' H' → Dq H' v d → Q v H') → te σ H Q
def ET (K : Frag) (tt : TT) (env : List Sl) (b : Bool) : Prop := ∀ ⦃F0 H0 F H : Hp⦄ ⦃σ : List (Option V)⦄, EnvOk K F0 H0 F H σ env → ∀ Q : Bool → Hp → Prop, (∀ F' H', Fz F H F' H' → Q b H') → tt σ H Q
def EA (K : Frag) (ta : TA) (env : List Sl) (ds : List PyData) : Prop := ∀ ⦃F0 H0 F H : Hp⦄ ⦃σ : List (Option V)⦄, EnvOk K F0 H0 F H σ env → ∀ Q : List V → Hp → Prop, (∀ vs F' H', Fz F H F' H' → DqAll F' vs ds → Q vs H') → ta σ H Q
def EO (K : Frag) (to : TO) (env : List Sl) (o : Option Int) : Prop := ∀ ⦃F0 H0 F H : Hp⦄ ⦃σ : List (Option V)⦄, EnvOk K F0 H0 F H σ env → ∀ Q : Option Int → Hp → Prop, (∀ F' H', Fz F H F' H' → Q o H') → to σ H Q
def EXo (K : Frag) (te : TE) (env : List Sl) {α : Type} (e : α → PyData) (m : Option α) : Prop := ∀ x, m = some x → EX K te env (e x)
def ETo (K : Frag) (tt : TT) (env : List Sl) (m : Option Bool) : Prop := ∀ x, m = some x → ET K tt env x

section
variable {K : Frag} {env : List Sl} {ta tb tc te : TE} {t u : TT} {d e : PyData} {ds es : List PyData} {α β : Type}
theorem EX.l (h : EX K te env (.list ds)) : EXl K te env ds := fun F0 H0 F H σ E Q q => h E Q fun v F' H' z hv => by
  cases hv with
  | lst h1 h2 h3 => exact q _ _ F' H' z (z.fh _ _ h1) h2 h3
theorem EXw.l (h : EXw K te env ds) : EXl K te env ds := fun F0 H0 F H σ E Q q => h E Q fun p vs F' H' z _ _ h1 h2 h3 => q p vs F' H' z h1 h2 h3
theorem EXw.sh (h : EXw K te env ds) : EX K te env (.list ds) := fun F0 H0 F H σ E Q q => h E Q fun p vs F' H' z hn hf h1 h2 h3 =>
  q _ _ H' (z.settle hn h1 hf) (.lst upd_same (DqAll.mono (Evl.Ex.new hf) _ _ h2) h3)
theorem EX.q (h : EX K te env d) : EXq K te env d := fun F0 H0 F H σ E Q q => h E Q fun v F' H' z hv => q v F' H' z (Dq.mono z.fh _ _ hv)
theorem EXl.q (h : EXl K te env ds) : EXq K te env (.list ds) := fun F0 H0 F H σ E Q q => h E Q fun p vs F' H' z h1 h2 h3 => q _ F' H' z (.lst h1 (DqAll.mono z.fh _ _ h2) h3)
theorem exo_bind {e : β → PyData} {m : Option α} {k : α → Option β} (h : ∀ x, m = some x → EXo K te env e (k x)) : EXo K te env e (m.bind k) := fun y hy => by
  obtain ⟨x, h1, h2⟩ := Option.bind_eq_some_iff.mp hy
  exact h x h1 y h2
theorem exo_some {e : α → PyData} {x : α} (h : EX K te env (e x)) : EXo K te env e (some x) := fun y hy => by cases hy; exact h
theorem eto_bind {m : Option α} {k : α → Option Bool} (h : ∀ x, m = some x → ETo K t env (k x)) : ETo K t env (m.bind k) := fun y hy => by
  obtain ⟨x, h1, h2⟩ := Option.bind_eq_some_iff.mp hy
  exact h x h1 y h2
theorem eto_some {b : Bool} (h : ET K t env b) : ETo K t env (some b) := fun y hy => by cases hy; exact h

theorem ex_var {i : Nat} (h : env[i]? = some (.sh d)) : EX K (tVar i) env d := fun F0 H0 F H σ E Q q => by
  obtain ⟨o, h1, v, h2, h3⟩ := E.sl i _ h
  subst h2
  exact ⟨v, h1, q v F H (Fz.refl E.fh) h3⟩
theorem exl_var {i : Nat} (h : env[i]? = some (.ow ds)) : EXl K (tVar i) env ds := fun F0 H0 F H σ E Q q => by
  obtain ⟨o, h1, p, vs, h2, h3, h4, h5, h6, h7⟩ := E.sl i _ h
  subst h2
  exact ⟨_, h1, q p vs F H (Fz.refl E.fh) h5 h6 h7⟩
theorem ex_int {i : Int} : EX K (tC (.int i)) env (.int i) := fun F0 H0 F H σ E Q q => q _ F H (Fz.refl E.fh) (.int i)
theorem ex_bl {b : Bool} : EX K (tC (.bl b)) env (.bool b) := fun F0 H0 F H σ E Q q => q _ F H (Fz.refl E.fh) (.bl b)
theorem ex_non : EX K (tC .non) env .none := fun F0 H0 F H σ E Q q => q _ F H (Fz.refl E.fh) .non
theorem ex_str {x : Str} (h : x.length ≤ lim) : EX K (tC (.str x)) env (.str x) := fun F0 H0 F H σ E Q q => q _ F H (Fz.refl E.fh) (.str x h)

theorem ex_i0 {g : Int → Int → V} {i j : Int} (ha : EX K ta env (.int i)) (hb : EX K tb env (.int j)) (hd : ∀ F, Dq F (g i j) d) : EX K (tOp (rI0 g) ta tb) env d := fun F0 H0 F H σ E Q q =>
  ha E _ fun v F1 H1 z1 h1 => hb (E.step z1) _ fun w F2 H2 z2 h2 => by
    cases h1; cases h2
    exact ⟨i, j, rfl, rfl, q _ F2 H2 (z1.trans z2) (hd F2)⟩
theorem ex_iC {C : Int → Int → Prop} {g : Int → Int → V} {i j : Int} (ha : EX K ta env (.int i)) (hb : EX K tb env (.int j)) (hc : C i j) (hd : ∀ F, Dq F (g i j) d) : EX K (tOp (rI C g) ta tb) env d := fun F0 H0 F H σ E Q q =>
  ha E _ fun v F1 H1 z1 h1 => hb (E.step z1) _ fun w F2 H2 z2 h2 => by
    cases h1; cases h2
    exact ⟨i, j, rfl, rfl, hc, q _ F2 H2 (z1.trans z2) (hd F2)⟩
theorem ex_add {i j : Int} (ha : EX K ta env (.int i)) (hb : EX K tb env (.int j)) : EX K (tOp (rI0 fun i j => .int (i + j)) ta tb) env (.int (i + j)) := ex_i0 ha hb fun _ => .int _
theorem ex_sub {i j : Int} (ha : EX K ta env (.int i)) (hb : EX K tb env (.int j)) : EX K (tOp (rI0 fun i j => .int (i - j)) ta tb) env (.int (i - j)) := ex_i0 ha hb fun _ => .int _
theorem ex_mul {i j : Int} (ha : EX K ta env (.int i)) (hb : EX K tb env (.int j)) (hc : CMul i j) : EX K (tOp (rI CMul fun i j => .int (i * j)) ta tb) env (.int (i * j)) := ex_iC ha hb hc fun _ => .int _
theorem ex_mod {i j : Int} (ha : EX K ta env (.int i)) (hb : EX K tb env (.int j)) (hc : 0 < j) : EX K (tOp (rI (fun _ j => 0 < j) fun i j => .int (i % j)) ta tb) env (.int (i % j)) := ex_iC ha hb hc fun _ => .int _
theorem ex_fdiv {i j : Int} (ha : EX K ta env (.int i)) (hb : EX K tb env (.int j)) (hc : CDivW i j) : EX K (tOp (rI CDivW fun i j => .int (i / j)) ta tb) env (.int (i / j)) := ex_iC ha hb hc fun _ => .int _
theorem ex_pow {i j : Int} (ha : EX K ta env (.int i)) (hb : EX K tb env (.int j)) (hc : CPow i j) : EX K (tOp (rI CPow fun i j => .int (i ^ j.toNat)) ta tb) env (.int (i ^ j.toNat)) := ex_iC ha hb hc fun _ => .int _
theorem ex_lt {i j : Int} (ha : EX K ta env (.int i)) (hb : EX K tb env (.int j)) : EX K (tOp (rI0 fun i j => .bl (decide (i < j))) ta tb) env (.bool (decide (i < j))) := ex_i0 ha hb fun _ => .bl _
theorem ex_gt {i j : Int} (ha : EX K ta env (.int i)) (hb : EX K tb env (.int j)) : EX K (tOp (rI0 fun i j => .bl (decide (j < i))) ta tb) env (.bool (decide (j < i))) := ex_i0 ha hb fun _ => .bl _
theorem ex_ge {i j : Int} (ha : EX K ta env (.int i)) (hb : EX K tb env (.int j)) : EX K (tOp (rI0 fun i j => .bl (decide (j ≤ i))) ta tb) env (.bool (decide (j ≤ i))) := ex_i0 ha hb fun _ => .bl _
theorem ex_neg {i : Int} (ha : EX K ta env (.int i)) : EX K (tUn (rU fun i => .int (-i)) ta) env (.int (-i)) := fun F0 H0 F H σ E Q q =>
  ha E _ fun v F1 H1 z1 h1 => by
    cases h1
    exact ⟨i, rfl, q _ F1 H1 z1 (.int _)⟩
theorem ex_eqI {i j : Int} (ha : EX K ta env (.int i)) (hb : EX K tb env (.int j)) : EX K (tOp rEq ta tb) env (.bool (decide (i = j))) := fun F0 H0 F H σ E Q q =>
  ha E _ fun v F1 H1 z1 h1 => hb (E.step z1) _ fun w F2 H2 z2 h2 => by
    cases h1; cases h2
    have e : decide (V.int i = V.int j) = decide (i = j) := by
      by_cases c : i = j
      · rw [decide_eq_true c, c, decide_eq_true rfl]
      · rw [decide_eq_false c, decide_eq_false fun z => c (V.int.inj z)]
    refine ⟨rfl, ?_⟩
    rw [e]
    exact q _ F2 H2 (z1.trans z2) (.bl _)
theorem ex_neI {i j : Int} (ha : EX K ta env (.int i)) (hb : EX K tb env (.int j)) : EX K (tOp rNe ta tb) env (.bool (!decide (i = j))) := fun F0 H0 F H σ E Q q =>
  ha E _ fun v F1 H1 z1 h1 => hb (E.step z1) _ fun w F2 H2 z2 h2 => by
    cases h1; cases h2
    have e : decide (V.int i = V.int j) = decide (i = j) := by
      by_cases c : i = j
      · rw [decide_eq_true c, c, decide_eq_true rfl]
      · rw [decide_eq_false c, decide_eq_false fun z => c (V.int.inj z)]
    refine ⟨rfl, ?_⟩
    rw [e]
    exact q _ F2 H2 (z1.trans z2) (.bl _)
theorem ex_eqB {x y : Bool} (ha : EX K ta env (.bool x)) (hb : EX K tb env (.bool y)) : EX K (tOp rEq ta tb) env (.bool (x == y)) := fun F0 H0 F H σ E Q q =>
  ha E _ fun v F1 H1 z1 h1 => hb (E.step z1) _ fun w F2 H2 z2 h2 => by
    cases h1; cases h2
    refine ⟨rfl, ?_⟩
    have e : decide (V.bl x = V.bl y) = (x == y) := by cases x <;> cases y <;> rfl
    rw [e]
    exact q _ F2 H2 (z1.trans z2) (.bl _)
theorem ex_neB {x y : Bool} (ha : EX K ta env (.bool x)) (hb : EX K tb env (.bool y)) : EX K (tOp rNe ta tb) env (.bool (!(x == y))) := fun F0 H0 F H σ E Q q =>
  ha E _ fun v F1 H1 z1 h1 => hb (E.step z1) _ fun w F2 H2 z2 h2 => by
    cases h1; cases h2
    refine ⟨rfl, ?_⟩
    have e : decide (V.bl x = V.bl y) = (x == y) := by cases x <;> cases y <;> rfl
    rw [e]
    exact q _ F2 H2 (z1.trans z2) (.bl _)
theorem ex_eqD {x : Bool} (ha : EXq K ta env d) (hb : EXq K tb env e) (sd : SeqAt.shaped d = true) (se : SeqAt.shaped e = true) (hv : PyData.eqv d e = x) : EX K (tOp (rEqD K) ta tb) env (.bool x) := fun F0 H0 F H σ E Q q =>
  ha E _ fun v F1 H1 z1 h1 => hb (E.step z1) _ fun w F2 H2 z2 h2 => by
    subst hv
    exact ⟨d, e, Dq.dp _ _ (lay_of sd) (Dq.mono (z2.hh (E.step z1).fh) _ _ h1), Dq.dp _ _ (lay_of se) h2, sd, se, q _ F2 H2 (z1.trans z2) (.bl _)⟩
theorem ex_neD {x : Bool} (ha : EXq K ta env d) (hb : EXq K tb env e) (sd : SeqAt.shaped d = true) (se : SeqAt.shaped e = true) (hv : PyData.eqv d e = x) : EX K (tOp (rNeD K) ta tb) env (.bool (!x)) := fun F0 H0 F H σ E Q q =>
  ha E _ fun v F1 H1 z1 h1 => hb (E.step z1) _ fun w F2 H2 z2 h2 => by
    subst hv
    exact ⟨d, e, Dq.dp _ _ (lay_of sd) (Dq.mono (z2.hh (E.step z1).fh) _ _ h1), Dq.dp _ _ (lay_of se) h2, sd, se, q _ F2 H2 (z1.trans z2) (.bl _)⟩
def isNone : PyData → Bool
  | .none => true
  | _ => false
theorem ex_isN (ha : EX K ta env d) : EX K (tOp (fun x y H Q => y = .non ∧ Q (.bl (decide (x = .non))) H) ta (tC .non)) env (.bool (isNone d)) := fun F0 H0 F H σ E Q q =>
  ha E _ fun v F1 H1 z1 h1 => by
    refine ⟨rfl, ?_⟩
    have e : decide (v = V.non) = isNone d := by cases h1 <;> rfl
    rw [e]
    exact q _ F1 H1 z1 (.bl _)
theorem ex_notN (ha : EX K ta env d) : EX K (tOp (fun x y H Q => y = .non ∧ Q (.bl (!decide (x = .non))) H) ta (tC .non)) env (.bool (!isNone d)) := fun F0 H0 F H σ E Q q =>
  ha E _ fun v F1 H1 z1 h1 => by
    refine ⟨rfl, ?_⟩
    have e : decide (v = V.non) = isNone d := by cases h1 <;> rfl
    rw [e]
    exact q _ F1 H1 z1 (.bl _)
theorem atI_map {f : α → β} {xs : List α} {i : Int} {x : α} (h : atI xs i = some x) : atI (xs.map f) i = some (f x) := by
  unfold atI at h ⊢
  obtain ⟨j, h1, h2⟩ := Option.bind_eq_some_iff.mp h
  rw [List.length_map, h1]
  show (xs.map f)[j]? = _
  rw [List.getElem?_map, h2]
  rfl
theorem DqAll.atI {H : Hp} {ds : List PyData} {vs : List V} {i : Int} (a : DqAll H vs ds) (h : L2.atI ds i = some d) : ∃ v, L2.atI vs i = some v ∧ Dq H v d := by
  unfold L2.atI at h ⊢
  obtain ⟨j, h1, h2⟩ := Option.bind_eq_some_iff.mp h
  rw [a.len, h1]
  exact a.get h2
theorem ex_ixL {i : Int} (ha : EXl K ta env ds) (hb : EX K tb env (.int i)) (h : atI ds i = some d) : EX K (tOp (rIxL K) ta tb) env d := fun F0 H0 F H σ E Q q =>
  ha E _ fun p vs F1 H1 z1 h1 a1 l1 => hb (E.step z1) _ fun w F2 H2 z2 h2 => by
    cases h2
    obtain ⟨v, e1, e2⟩ := a1.atI h
    exact ⟨p, vs, i, v, rfl, rfl, SqL.of (z2.hh (E.step z1).fh _ _ h1), e1, q _ F2 H2 (z1.trans z2) (Dq.mono z2.f _ _ e2)⟩
theorem ex_ixT {i : Int} (ha : EX K ta env (.tuple ds)) (hb : EX K tb env (.int i)) (h : atI ds i = some d) : EX K (tOp (rIxT K) ta tb) env d := fun F0 H0 F H σ E Q q =>
  ha E _ fun p F1 H1 z1 h1 => hb (E.step z1) _ fun w F2 H2 z2 h2 => by
    cases h2
    cases h1 with
    | tup h1 a1 l1 =>
    obtain ⟨v, e1, e2⟩ := a1.atI h
    exact ⟨_, _, i, v, rfl, rfl, SqT.of (z2.fh _ _ (z2.f _ _ h1)), e1, q _ F2 H2 (z1.trans z2) (Dq.mono z2.f _ _ e2)⟩
theorem ea_nil : EA K tNil env [] := fun F0 H0 F H σ E Q q => q [] F H (Fz.refl E.fh) .nil
theorem ea_cons {tr : TA} (ha : EX K ta env d) (hr : EA K tr env ds) : EA K (tCons ta tr) env (d :: ds) := fun F0 H0 F H σ E Q q =>
  ha E _ fun v F1 H1 z1 h1 => hr (E.step z1) _ fun vs F2 H2 z2 h2 => q _ F2 H2 (z1.trans z2) (.cons (Dq.mono z2.f _ _ h1) h2)
theorem ex_tup {tr : TA} (ha : EA K tr env ds) (hl : ds.length ≤ lim) : EX K (tTup tr) env (.tuple ds) := fun F0 H0 F H σ E Q q =>
  ha E _ fun vs F1 H1 z1 h1 => ⟨by rw [h1.len]; exact lim_le hl, fun p hp => q _ (upd F1 p (.tup vs)) _ (z1.trans (Fz.new (E.step z1).fh hp)) (.tup upd_same (DqAll.mono (Evl.Ex.new (Evl.fresh_back (E.step z1).fh hp)) _ _ h1) hl)⟩
theorem fresh0 {F H F1 H1 : Hp} {p : Addr} (e : Ex F H) (z : Fz F H F1 H1) (h : H1 p = none) : H p = none := Evl.fresh_back (z.hh e) h
theorem exw_lst {tr : TA} (ha : EA K tr env ds) (hl : ds.length ≤ lim) : EXw K (tLst tr) env ds := fun F0 H0 F H σ E Q q =>
  ha E _ fun vs F1 H1 z1 h1 => ⟨by rw [h1.len]; exact lim_le hl, fun p hp => q p vs F1 _ (z1.trans (Fz.add (E.step z1).fh hp)) (fresh0 E.fh z1 hp) (Evl.fresh_back (E.step z1).fh hp) upd_same h1 hl⟩
theorem exw_cat (ha : EXl K ta env ds) (hb : EXl K tb env es) (hl : (ds ++ es).length ≤ lim) : EXw K (tOp rCat ta tb) env (ds ++ es) := fun F0 H0 F H σ E Q q =>
  ha E _ fun p vs F1 H1 z1 h1 a1 l1 => hb (E.step z1) _ fun r ws F2 H2 z2 h2 a2 l2 => by
    have E2 := (E.step z1).step z2
    refine ⟨p, r, vs, ws, rfl, rfl, z2.hh (E.step z1).fh _ _ h1, h2, ?_, fun o ho => ?_⟩
    · rw [a1.len, a2.len, ← List.length_append]; exact lim_le hl
    · exact q o _ F2 _ ((z1.trans z2).trans (Fz.add E2.fh ho)) (fresh0 E.fh (z1.trans z2) ho) (Evl.fresh_back E2.fh ho) upd_same ((DqAll.mono z2.f _ _ a1).app a2) hl
theorem exw_rep {k : Int} (ha : EXl K ta env ds) (hb : EX K tb env (.int k)) (hk : k < 2 ^ 62 ∧ -(2 ^ 62) ≤ k) (hl : ds.length * k.toNat ≤ lim) (hr : es = (List.replicate k.toNat ds).flatten) : EXw K (tOp rRep ta tb) env es := fun F0 H0 F H σ E Q q =>
  ha E _ fun p vs F1 H1 z1 h1 a1 l1 => hb (E.step z1) _ fun w F2 H2 z2 h2 => by
    have E2 := (E.step z1).step z2
    cases h2
    have a2 := DqAll.mono z2.f _ _ a1
    have all : ∀ n, DqAll F2 (List.replicate n vs).flatten (List.replicate n ds).flatten := fun n => by
      induction n with
      | zero => exact .nil
      | succ n ih =>
        rw [List.replicate_succ, List.replicate_succ, List.flatten_cons, List.flatten_cons]
        exact a2.app ih
    refine ⟨p, k, vs, rfl, rfl, z2.hh (E.step z1).fh _ _ h1, by omega, by omega, by rw [a1.len]; exact lim_le hl, fun o ho => ?_⟩
    subst hr
    refine q o _ F2 _ ((z1.trans z2).trans (Fz.add E2.fh ho)) (fresh0 E.fh (z1.trans z2) ho) (Evl.fresh_back E2.fh ho) upd_same (all k.toNat) ?_
    rw [List.length_flatten, List.map_replicate, List.sum_replicate_nat, Nat.mul_comm]
    exact hl
theorem et_of (h : EX K te env (.bool b)) : ET K (tTest te) env b := fun F0 H0 F H σ E Q q => h E _ fun v F1 H1 z1 h1 => by
  cases h1
  exact ⟨b, rfl, q F1 H1 z1⟩
theorem et_B {b : Bool} (h : EX K te env (.bool b)) : ET K (tB te) env b := fun F0 H0 F H σ E Q q => h E _ fun v F1 H1 z1 h1 => by
  cases h1
  exact ⟨b, rfl, q F1 H1 z1⟩
theorem et_not {b : Bool} (h : ET K t env b) : ET K (tNot t) env (!b) := fun F0 H0 F H σ E Q q => h E _ fun F1 H1 z1 => q F1 H1 z1
theorem eto_and {m n : Option Bool} (h1 : ETo K t env m) (h2 : ETo K u env n) : ETo K (tAnd t u) env (m.bind fun a => if a = true then n else some false) := fun x e => by
  obtain ⟨a, e1, e2⟩ := Option.bind_eq_some_iff.mp e
  intro F0 H0 F H σ E Q q
  refine h1 a e1 E _ fun F1 H1 z1 => ?_
  cases a with
  | true =>
    show u σ H1 Q
    exact h2 x e2 (E.step z1) _ fun F2 H2 z2 => q F2 H2 (z1.trans z2)
  | false =>
    cases e2
    exact q F1 H1 z1
theorem eto_or {m n : Option Bool} (h1 : ETo K t env m) (h2 : ETo K u env n) : ETo K (tOr t u) env (m.bind fun a => if a = true then some true else n) := fun x e => by
  obtain ⟨a, e1, e2⟩ := Option.bind_eq_some_iff.mp e
  intro F0 H0 F H σ E Q q
  refine h1 a e1 E _ fun F1 H1 z1 => ?_
  cases a with
  | true =>
    cases e2
    exact q F1 H1 z1
  | false =>
    show u σ H1 Q
    exact h2 x e2 (E.step z1) _ fun F2 H2 z2 => q F2 H2 (z1.trans z2)
theorem et_and {a b : Bool} (h1 : ET K t env a) (h2 : ET K u env b) : ET K (tAnd t u) env (a && b) := fun F0 H0 F H σ E Q q => h1 E _ fun F1 H1 z1 => by
  cases a with
  | true => exact h2 (E.step z1) _ fun F2 H2 z2 => q F2 H2 (z1.trans z2)
  | false => exact q F1 H1 z1
theorem et_or {a b : Bool} (h1 : ET K t env a) (h2 : ET K u env b) : ET K (tOr t u) env (a || b) := fun F0 H0 F H σ E Q q => h1 E _ fun F1 H1 z1 => by
  cases a with
  | true => exact q F1 H1 z1
  | false => exact h2 (E.step z1) _ fun F2 H2 z2 => q F2 H2 (z1.trans z2)
theorem exo_and {m n : Option Bool} (h1 : EXo K ta env .bool m) (h2 : EXo K tb env .bool n) : EXo K (tAndV ta tb) env .bool (m.bind fun a => if a = true then n else some false) := fun x e => by
  obtain ⟨a, e1, e2⟩ := Option.bind_eq_some_iff.mp e
  intro F0 H0 F H σ E Q q
  refine h1 a e1 E _ fun v F1 H1 z1 hv => ?_
  cases hv
  refine ⟨a, rfl, ?_⟩
  cases a with
  | true =>
    show tb σ H1 Q
    exact h2 x e2 (E.step z1) _ fun v F2 H2 z2 hv => q v F2 H2 (z1.trans z2) hv
  | false =>
    cases e2
    exact q _ F1 H1 z1 (.bl false)
theorem ex_notV {a : Bool} (h1 : EX K ta env (.bool a)) : EX K (tNotV ta) env (.bool (!a)) := fun F0 H0 F H σ E Q q => h1 E _ fun v F1 H1 z1 hv => by
  cases hv
  exact ⟨a, rfl, q _ F1 H1 z1 (.bl _)⟩
theorem exo_chain {g g' : Int → Int → V} {p p' : Int → Int → Bool} {i j : Int} {m : Option Int} (hg : ∀ i j, g i j = .bl (p i j)) (hg' : ∀ i j, g' i j = .bl (p' i j)) (ha : EX K ta env (.int i)) (hb : EX K tb env (.int j)) (hc : EXo K tc env .int m) :
    EXo K (tChain (rI0 g) (rI0 g') ta tb tc) env .bool (if p i j = true then m.map (p' j) else some false) := fun x ex => by
  intro F0 H0 F H σ E Q q
  refine ha E _ fun v F1 H1 z1 h1 => hb (E.step z1) _ fun w F2 H2 z2 h2 => ?_
  cases h1; cases h2
  refine ⟨i, j, rfl, rfl, p i j, hg i j, ?_⟩
  cases hp : p i j with
  | true =>
    rw [hp, if_pos rfl] at ex
    obtain ⟨k, e1, e2⟩ := Option.map_eq_some_iff.mp ex
    rw [if_pos rfl]
    refine hc k e1 ((E.step z1).step z2) _ fun u F3 H3 z3 h3 => ?_
    cases h3
    refine ⟨j, k, rfl, rfl, ?_⟩
    rw [hg', e2]
    exact q _ F3 H3 ((z1.trans z2).trans z3) (.bl _)
  | false =>
    rw [hp, if_neg Bool.false_ne_true] at ex
    cases ex
    rw [if_neg Bool.false_ne_true]
    exact q _ F2 H2 (z1.trans z2) (.bl _)
theorem ex_chain {g g' : Int → Int → V} {p p' : Int → Int → Bool} {i j k : Int} (hg : ∀ i j, g i j = .bl (p i j)) (hg' : ∀ i j, g' i j = .bl (p' i j)) (ha : EX K ta env (.int i)) (hb : EX K tb env (.int j)) (hc : EX K tc env (.int k)) :
    EX K (tChain (rI0 g) (rI0 g') ta tb tc) env (.bool (p i j && p' j k)) :=
  exo_chain hg hg' ha hb (exo_some (e := PyData.int) hc) (p i j && p' j k) (by cases p i j <;> rfl)
end
end Rb

set_option Elab.async false
set_option linter.all false
set_option maxRecDepth 100000
set_option maxHeartbeats 2000000
namespace Rb
open PySem PySem.Spec PyProof.Rows L2
structure IterP (J : It) (P : Hp → Hp → Prop) (ds : List PyData) : Prop where
  go : ∀ F H i d, P F H → Ex F H → ds[i]? = some d → J.go i H ∧ ∀ x H', J.yld i H x H' → ∃ F', Fz F H F' H' ∧ Dq F' x d
  stop : ∀ F H, P F H → Ex F H → J.stop ds.length H
def EIs (K : Frag) (wi : TI) (env : List Sl) (ds : List PyData) : Prop := ∀ ⦃F0 H0 F H : Hp⦄ ⦃σ : List (Option V)⦄, EnvOk K F0 H0 F H σ env → ∀ R : It → Hp → Prop, (∀ J F' H', Fz F H F' H' → ds.length ≤ lim → IterP J (fun F1 H1 => Ex F' F1) ds → R J H') → wi σ H R
def EI (K : Frag) (wi : TI) (env : List Sl) (ds : List PyData) : Prop := ∀ ⦃F0 H0 F H : Hp⦄ ⦃σ : List (Option V)⦄, EnvOk K F0 H0 F H σ env → ∀ R : It → Hp → Prop, (∀ J F' H', Fz F H F' H' → ds.length ≤ lim → IterP J (fun F1 H1 => Fz F' H' F1 H1) ds → R J H') → wi σ H R
section
variable {K : Frag} {env : List Sl} {ta tb tc te tl : TE} {d e : PyData} {ds es : List PyData} {α β : Type} {wi : TI}
theorem EIs.i (h : EIs K wi env ds) : EI K wi env ds := fun F0 H0 F H σ E R r => h E R fun J F' H' z l p => r J F' H' z l ⟨fun F1 H1 i d p1 => p.go F1 H1 i d p1.f, fun F1 H1 p1 => p.stop F1 H1 p1.f⟩
theorem itl {a : Addr} {vs : List V} {P : Hp → Hp → Prop} (hP : ∀ F H, P F H → Ex F H → H a = some (.lst vs) ∧ DqAll F vs ds) : IterP (Itl K a) P ds := by
  refine ⟨fun F H i d p e hd => ?_, fun F H p e => ?_⟩
  · obtain ⟨h1, h2⟩ := hP F H p e
    obtain ⟨v, hv, dv⟩ := h2.get hd
    refine ⟨⟨vs, v, SqL.of h1, hv⟩, fun x H' y => ?_⟩
    obtain ⟨rfl, y⟩ := y
    have e1 := (y vs (SqL.of h1)).symm.trans hv
    cases e1
    exact ⟨F, Fz.refl e, dv⟩
  · obtain ⟨h1, h2⟩ := hP F H p e
    exact ⟨vs, SqL.of h1, Nat.le_of_eq h2.len⟩
theorem itt {a : Addr} {vs : List V} {P : Hp → Hp → Prop} (hP : ∀ F H, P F H → Ex F H → H a = some (.tup vs) ∧ DqAll F vs ds) : IterP (Itt K a) P ds := by
  refine ⟨fun F H i d p e hd => ?_, fun F H p e => ?_⟩
  · obtain ⟨h1, h2⟩ := hP F H p e
    obtain ⟨v, hv, dv⟩ := h2.get hd
    refine ⟨⟨vs, v, SqT.of h1, hv⟩, fun x H' y => ?_⟩
    obtain ⟨rfl, y⟩ := y
    have e1 := (y vs (SqT.of h1)).symm.trans hv
    cases e1
    exact ⟨F, Fz.refl e, dv⟩
  · obtain ⟨h1, h2⟩ := hP F H p e
    exact ⟨vs, SqT.of h1, Nat.le_of_eq h2.len⟩
theorem eis_list (h : EX K tl env (.list ds)) : EIs K (iList K tl) env ds := fun F0 H0 F H σ E R r => h E _ fun v F' H' z hv => by
  cases hv with
  | lst h1 h2 h3 => exact ⟨_, rfl, ⟨_, SqL.of (z.fh _ _ h1)⟩, r _ F' H' z h3 (itl fun F1 H1 p e => ⟨e _ _ (p _ _ h1), DqAll.mono p _ _ h2⟩)⟩
theorem ei_list (h : EXl K tl env ds) : EI K (iList K tl) env ds := fun F0 H0 F H σ E R r => h E _ fun p vs F' H' z h1 h2 h3 =>
  ⟨p, rfl, ⟨vs, SqL.of h1⟩, r _ F' H' z h3 (itl fun F1 H1 q e => ⟨q.hh z.fh _ _ h1, DqAll.mono q.f _ _ h2⟩)⟩
theorem eis_tup (h : EX K tl env (.tuple ds)) : EIs K (iTup K tl) env ds := fun F0 H0 F H σ E R r => h E _ fun v F' H' z hv => by
  cases hv with
  | tup h1 h2 h3 => exact ⟨_, rfl, ⟨_, SqT.of (z.fh _ _ h1)⟩, r _ F' H' z h3 (itt fun F1 H1 p e => ⟨e _ _ (p _ _ h1), DqAll.mono p _ _ h2⟩)⟩
def rng (lo hi : Int) : List Int := (List.range (hi - lo).toNat).map fun (i : Nat) => lo + (i : Int)
theorem rng_len (lo hi : Int) : (rng lo hi).length = (hi - lo).toNat := by unfold rng; rw [List.length_map, List.length_range]
theorem itr {lo : Int} {n : Nat} {P : Hp → Hp → Prop} : IterP (Itr lo n) P (((List.range n).map fun (i : Nat) => lo + (i : Int)).map PyData.int) := by
  refine ⟨fun F H i d p e hd => ?_, fun F H p e => ?_⟩
  · rw [List.map_map, List.getElem?_map] at hd
    obtain ⟨j, h1, h2⟩ := Option.map_eq_some_iff.mp hd
    obtain ⟨h3, h4⟩ := List.getElem?_eq_some_iff.mp h1
    rw [List.getElem_range] at h4
    rw [List.length_range] at h3
    subst h4; subst h2
    refine ⟨h3, fun x H' y => ?_⟩
    obtain ⟨rfl, rfl⟩ := y
    exact ⟨F, Fz.refl e, .int _⟩
  · show n ≤ _
    rw [List.length_map, List.length_map, List.length_range]
    exact Nat.le_refl _
def rngOk (n : Int) : Prop := -50000 ≤ n ∧ n ≤ 50000
instance (n : Int) : Decidable (rngOk n) := inferInstanceAs (Decidable (_ ∧ _))
theorem rng_lim {m n : Int} (hm : rngOk m) (hn : rngOk n) : ((rng m n).map PyData.int).length ≤ lim := by
  unfold rngOk at hm hn
  unfold lim
  rw [List.length_map, rng_len]
  omega
theorem eis_rng1 {n : Int} (h : EX K ta env (.int n)) (hn : rngOk n) : EIs K (iRng1 (tCons ta tNil)) env ((rng 0 n).map PyData.int) := fun F0 H0 F H σ E R r => h E _ fun v F' H' z hv => by
  cases hv
  have l := rng_lim (m := 0) (by decide) hn
  unfold rngOk at hn
  refine ⟨n, rfl, by omega, by omega, r _ F' H' z l ?_⟩
  have e : (n - 0).toNat = n.toNat := by rw [Int.sub_zero]
  unfold rng
  rw [e]
  exact itr
def rng3N (lo hi c : Int) : Nat := if 0 < c then (if lo < hi then ((hi - lo - 1) / c + 1).toNat else 0) else (if hi < lo then ((lo - hi - 1) / (-c) + 1).toNat else 0)
def rng3 (lo hi c : Int) : List Int := (List.range (rng3N lo hi c)).map fun (i : Nat) => lo + (i : Int) * c
theorem itc {lo c : Int} {n : Nat} {P : Hp → Hp → Prop} : IterP (Itc lo c n) P (((List.range n).map fun (i : Nat) => lo + (i : Int) * c).map PyData.int) := by
  refine ⟨fun F H i d p e hd => ?_, fun F H p e => ?_⟩
  · rw [List.map_map, List.getElem?_map] at hd
    obtain ⟨j, h1, h2⟩ := Option.map_eq_some_iff.mp hd
    obtain ⟨h3, h4⟩ := List.getElem?_eq_some_iff.mp h1
    rw [List.getElem_range] at h4
    rw [List.length_range] at h3
    subst h4; subst h2
    refine ⟨h3, fun x H' y => ?_⟩
    obtain ⟨rfl, rfl⟩ := y
    exact ⟨F, Fz.refl e, .int _⟩
  · show n ≤ _
    rw [List.length_map, List.length_map, List.length_range]
    exact Nat.le_refl _
theorem div_bnd {q c : Int} (hq : 0 ≤ q) (hc : 0 < c) : 0 ≤ q / c ∧ q / c ≤ q := ⟨Int.ediv_nonneg hq (by omega), Int.ediv_le_self c hq⟩
theorem rngC_ok {i j c : Int} (hc : c ≠ 0) (h1 : c.natAbs < 1000000000) (hi : i < 2 ^ 60 ∧ -(2 ^ 60) ≤ i) (hj : j < 2 ^ 60 ∧ -(2 ^ 60) ≤ j) : RgC i j c (rng3N i j c) := by
  have key : Builtin.Range.rangeSize i j c = rng3N i j c ∧ (rng3N i j c : Int) ≤ 2 ^ 61 := by
    unfold Builtin.Range.rangeSize rng3N
    by_cases c0 : 0 < c
    · rw [if_pos c0, if_pos (show c > 0 from c0)]
      by_cases c1 : i < j
      · rw [if_pos c1, if_pos c1]
        have := div_bnd (q := j - i - 1) (c := c) (by omega) c0
        generalize (j - i - 1) / c = q at this ⊢
        omega
      · rw [if_neg c1, if_neg c1]
        exact ⟨rfl, by decide⟩
    · rw [if_neg c0, if_neg (show ¬ c > 0 from c0)]
      by_cases c1 : j < i
      · rw [if_pos c1, if_pos (show i > j from c1)]
        have := div_bnd (q := i - j - 1) (c := -c) (by omega) (by omega)
        generalize (i - j - 1) / -c = q at this ⊢
        omega
      · rw [if_neg c1, if_neg (show ¬ i > j from c1)]
        exact ⟨rfl, by decide⟩
  refine ⟨hc, by omega, ?_, key.1⟩
  unfold Builtin.Range.small
  rw [key.1]
  have := key.2
  generalize rng3N i j c = q at this ⊢
  simp only [Builtin.Range.rangeFitsLong, Bool.and_eq_true, Bool.or_eq_true, decide_eq_true_eq, beq_iff_eq]
  by_cases c0 : c > 0
  · simp only [c0, if_true, Bool.and_eq_true, decide_eq_true_eq]
    omega
  · simp only [c0, if_false, Bool.and_eq_true, decide_eq_true_eq]
    omega
theorem rng3N_le {m n c : Int} (hm : rngOk m) (hn : rngOk n) (h0 : c ≠ 0) : rng3N m n c ≤ lim := by
  unfold rngOk at hm hn
  unfold rng3N lim
  by_cases c0 : 0 < c
  · rw [if_pos c0]
    by_cases c1 : m < n
    · rw [if_pos c1]
      have := div_bnd (q := n - m - 1) (c := c) (by omega) c0
      omega
    · rw [if_neg c1]; omega
  · rw [if_neg c0]
    by_cases c1 : n < m
    · rw [if_pos c1]
      have := div_bnd (q := m - n - 1) (c := -c) (by omega) (by omega)
      omega
    · rw [if_neg c1]; omega
theorem eis_rng3 {m n c : Int} (ha : EX K ta env (.int m)) (hb : EX K tb env (.int n)) (hc : EX K tc env (.int c)) (hm : rngOk m) (hn : rngOk n) (h0 : c ≠ 0) (h1 : c.natAbs < 1000000000) :
    EIs K (iRng3 (tCons ta (tCons tb (tCons tc tNil)))) env ((rng3 m n c).map PyData.int) := fun F0 H0 F H σ E R r => ha E _ fun v F1 H1 z1 hv => hb (E.step z1) _ fun w F2 H2 z2 hw => hc ((E.step z1).step z2) _ fun u F3 H3 z3 hu => by
  cases hv; cases hw; cases hu
  have l := rng3N_le hm hn h0
  unfold rngOk at hm hn
  refine ⟨m, n, c, _, rfl, rngC_ok h0 h1 (by omega) (by omega), r _ F3 H3 ((z1.trans z2).trans z3) ?_ itc⟩
  unfold rng3
  rw [List.length_map, List.length_map, List.length_range]
  exact l
end
end Rb

set_option Elab.async false
set_option linter.all false
set_option maxRecDepth 100000
set_option maxHeartbeats 2000000
namespace Rb
open PySem PySem.Spec PyProof.Rows L2
def EG (K : Frag) (g : TG) (env : List Sl) (d : PyData) (env' : List Sl) : Prop := ∀ ⦃F0 H0 F H : Hp⦄ ⦃σ : List (Option V)⦄ ⦃v : V⦄, EnvOk K F0 H0 F H σ env → Dq F v d → ∀ Q : L2.St → Hp → Prop, (∀ σ' F' H', EnvOk K F0 H0 F' H' σ' env' → Q σ' H') → g v σ H Q
def EGc (K : Frag) (g : TG) (env : List Sl) (d : PyData) (env' : List Sl) (vs : List Nat) : Prop := ∀ ⦃F0 H0 F H : Hp⦄ ⦃σ : List (Option V)⦄ ⦃v : V⦄, EnvOk K F0 H0 F H σ env → Dq F v d → ∀ Q : L2.St → Hp → Prop, (∀ σ', EnvOk K F0 H0 F H σ' env' → wipe σ' vs = wipe σ vs → Q σ' H) → g v σ H Q
def EGs (K : Frag) (g : TGs) (env : List Sl) (ds : List PyData) (env' : List Sl) (vs : List Nat) : Prop := ∀ ⦃F0 H0 F H : Hp⦄ ⦃σ : List (Option V)⦄ ⦃ws : List V⦄, EnvOk K F0 H0 F H σ env → DqAll F ws ds → ∀ Q : L2.St → Hp → Prop, (∀ σ', EnvOk K F0 H0 F H σ' env' → wipe σ' vs = wipe σ vs → Q σ' H) → g ws σ H Q
theorem wipe_set {σ : List (Option V)} {i : Nat} {x : Option V} : ∀ {vs : List Nat}, i ∈ vs → wipe (σ.set i x) vs = wipe σ vs
  | [], h => by cases h
  | v :: vs, h => by
    unfold wipe
    by_cases m : i ∈ vs
    · rw [wipe_set m]
    · have e : i = v := by
        rcases List.mem_cons.mp h with z | z
        · exact z
        · exact absurd z m
      subst e
      have : ∀ vs : List Nat, i ∉ vs → wipe (σ.set i x) vs = (wipe σ vs).set i x := fun vs => by
        induction vs with
        | nil => intro _; rfl
        | cons w ws ih =>
          intro hm
          unfold wipe
          rw [ih fun z => hm (List.mem_cons_of_mem _ z), List.set_comm]
          exact fun z => hm (z ▸ List.mem_cons_self)
      rw [this vs m, List.set_set]
section
variable {K : Frag} {env env' env1 : List Sl} {d : PyData} {ds : List PyData} {g : TG} {gs : TGs} {vs : List Nat} {te ti : TE} {α β S R O : Type}
theorem EGc.eg (h : EGc K g env d env' vs) : EG K g env d env' := fun F0 H0 F H σ v E hv Q q => h E hv Q fun σ' E' _ => q σ' F H E'
theorem egc_name {i : Nat} (hi : i ∈ vs) : EGc K (gName i) env d (env.set i (.sh d)) vs := fun F0 H0 F H σ v E hv Q q => q _ (E.setS i hv) (wipe_set hi)
theorem egs_nil : EGs K gNil env [] env vs := fun F0 H0 F H σ v E hv Q q => by
  cases hv
  exact ⟨rfl, q σ E rfl⟩
theorem egs_cons (h1 : EGc K g env d env1 vs) (h2 : EGs K gs env1 ds env' vs) : EGs K (gCons g gs) env (d :: ds) env' vs := fun F0 H0 F H σ v E hv Q q => by
  cases hv with
  | cons a b => exact ⟨_, _, rfl, h1 E a _ fun σ1 E1 w1 => h2 E1 b _ fun σ2 E2 w2 => q σ2 E2 (w2.trans w1)⟩
theorem egc_tup {n : Nat} (h : EGs K gs env ds env' vs) (hn : ds.length = n) : EGc K (gTup K n gs) env (.tuple ds) env' vs := fun F0 H0 F H σ v E hv Q q => by
  cases hv with
  | tup h1 h2 h3 => exact ⟨_, _, rfl, SqT.of (E.fh _ _ h1), by rw [h2.len, hn], h E h2 _ q⟩
theorem egc_lst {n : Nat} (h : EGs K gs env ds env' vs) (hn : ds.length = n) : EGc K (gLst K n gs) env (.list ds) env' vs := fun F0 H0 F H σ v E hv Q q => by
  cases hv with
  | lst h1 h2 h3 => exact ⟨_, _, rfl, SqL.of (E.fh _ _ h1), by rw [h2.len, hn], h E h2 _ q⟩
structure Exn where
  name : Str
  arg : Option (Str × PyData)
def exW (K : Frag) (x : Exn) (F H : Hp) (C : Value → Option Addr → Prop) : Prop := match x.arg with
  | none => C (.ref (He.ga K x.name)) none
  | some q => ∀ dd v, H dd = some (.xd [(q.1, v)]) → Dq F v q.2 → C (.ref (He.ga K x.name)) (some dd)
theorem exW.imp {K : Frag} {x : Exn} {F H : Hp} {C C' : Value → Option Addr → Prop} (h : exW K x F H C) (i : ∀ c d, C c d → C' c d) : exW K x F H C' := by
  unfold exW at h ⊢
  split
  · rename_i e; rw [e] at h; exact i _ _ h
  · rename_i q e; rw [e] at h; exact fun dd v a b => i _ _ (h dd v a b)
inductive Rv where
  | sh (d : PyData)
  | fr (ds : List PyData)
  /-- what nobody looks at -/
  | un
inductive Out where
  | nx (env : List Sl)
  | bk (env : List Sl)
  | ct (env : List Sl)
  | rt (r : Rv)
  | ex (env : List Sl) (x : Exn) (W : WX)
  /-- handed back while things are lent: they stand as env says -/
  | re (env : List Sl) (t : Option OT)
def Out.fin : Out → Prop
  | .rt _ => True
  | .re _ _ => True
  | .ex _ _ _ => True
  | _ => False
def RetOk (F0 H0 : Hp) (Q : VK) : Rv → Prop
  | .sh d => ∀ F H v, Fz F0 H0 F H → Dq F v d → Q v H
  | .fr ds => ∀ F H p vs, Fz F0 H0 F H → H0 p = none → F p = none → H p = some (.lst vs) → DqAll F vs ds → ds.length ≤ lim → Q (.ref p) H
  | .un => ∀ F H v, Fz F0 H0 F H → Q v H
def ReOk (K : Frag) (F0 H0 : Hp) (Q : VK) (env : List Sl) : Option OT → Prop
  | none => ∀ F H σ v, EnvOk K F0 H0 F H σ env → Q v H
  | some t => ∀ F H σ v, EnvOk K F0 H0 F H (σ ++ [some v]) (env ++ [.tr t]) → Q v H
theorem ReOk.base {K : Frag} {F0 H0 F1 H1 : Hp} {Q : VK} {env : List Sl} (z : Fz F0 H0 F1 H1) : ∀ {t : Option OT}, ReOk K F0 H0 Q env t → ReOk K F1 H0 Q env t
  | none, h => fun F H σ v E => h F H σ v (E.back z)
  | some t, h => fun F H σ v E => h F H σ v (E.back z)
def Cont (K : Frag) (F0 H0 : Hp) (D : Ends) : Out → Prop
  | .nx env => ∀ F H σ, EnvOk K F0 H0 F H σ env → D.nx σ H
  | .bk env => ∀ F H σ, EnvOk K F0 H0 F H σ env → D.bk σ H
  | .ct env => ∀ F H σ, EnvOk K F0 H0 F H σ env → D.ct σ H
  | .rt r => RetOk F0 H0 D.rt r
  | .ex env x W => ∀ F H σ, EnvOk K F0 H0 F H σ env → exW K x F H fun c d => W c d σ H
  | .re env t => ReOk K F0 H0 D.rt env t
theorem RetOk.base {F0 H0 F1 H1 : Hp} {Q : VK} (z : Fz F0 H0 F1 H1) : ∀ {r : Rv}, RetOk F0 H0 Q r → RetOk F1 H0 Q r
  | .sh d, h => fun F H v z2 hv => h F H v (z.back z2) hv
  | .fr ds, h => fun F H p vs z2 a b c d l => h F H p vs (z.back z2) a b c d l
  | .un, h => fun F H v z2 => h F H v (z.back z2)
theorem Cont.base {K : Frag} {F0 H0 F1 H1 : Hp} {D : Ends} (z : Fz F0 H0 F1 H1) : ∀ {o : Out}, Cont K F0 H0 D o → Cont K F1 H0 D o
  | .nx env, h => fun F H σ E => h F H σ (E.back z)
  | .bk env, h => fun F H σ E => h F H σ (E.back z)
  | .ct env, h => fun F H σ E => h F H σ (E.back z)
  | .rt r, h => RetOk.base z h
  | .ex env x W, h => fun F H σ E => h F H σ (E.back z)
  | .re env t, h => ReOk.base z h
theorem Cont.fin {K : Frag} {F0 H0 : Hp} {D D' : Ends} (e : D'.rt = D.rt) : ∀ {o : Out}, o.fin → Cont K F0 H0 D o → Cont K F0 H0 D' o
  | .rt r, _, h => by show RetOk F0 H0 D'.rt r; rw [e]; exact h
  | .ex env x W, _, h => h
  | .re env t, _, h => by show ReOk K F0 H0 D'.rt env t; rw [e]; exact h
def BX (K : Frag) (ts : TS) (env : List Sl) {O : Type} (enc : O → Out) (m : Option O) : Prop := ∀ o, m = some o → ∀ ⦃F0 H0 F H : Hp⦄ ⦃σ : List (Option V)⦄ (D : Ends), EnvOk K F0 H0 F H σ env → Cont K F0 H0 D (enc o) → ts D σ H
variable {ts tu tw : TS} {tt : TT} {enc : O → Out} {m n : Option O}
theorem bx_bind {k : α → Option O} {m : Option α} (h : ∀ x, m = some x → BX K ts env enc (k x)) : BX K ts env enc (m.bind k) := fun o ho => by
  obtain ⟨x, h1, h2⟩ := Option.bind_eq_some_iff.mp ho
  exact h x h1 o h2
theorem bx_map {O' : Type} {enc' : O' → Out} {f : O → O'} (h : BX K ts env enc m) (he : ∀ o, enc' (f o) = enc o) : BX K ts env enc' (m.map f) := fun o ho => by
  obtain ⟨x, h1, h2⟩ := Option.map_eq_some_iff.mp ho
  subst h2
  rw [he]
  exact h x h1
theorem bx_freeze (i : Nat) (hs : env[i]? = some (.ow ds)) (h : BX K ts (env.set i (.sh (.list ds))) enc m) : BX K ts env enc m := fun o ho F0 H0 F H σ D E c => by
  obtain ⟨F', E'⟩ := E.freeze hs
  exact h o ho D E' c
theorem bx_ret {o : O} {d : PyData} (h : EX K te env d) (he : enc o = .rt (.sh d)) : BX K (tRet te) env enc (some o) := fun o' ho F0 H0 F H σ D E c => by
  cases ho
  rw [he] at c
  exact h E _ fun v F' H' z hv => c F' H' v (E.z.trans z) hv
theorem bx_retW {o : O} {ds : List PyData} (h : EXw K te env ds) (he : enc o = .rt (.fr ds)) : BX K (tRet te) env enc (some o) := fun o' ho F0 H0 F H σ D E c => by
  cases ho
  rw [he] at c
  exact h E _ fun p vs F' H' z hn hf h1 h2 h3 => c F' H' p vs (E.z.trans z) (E.z.hn hn) hf h1 h2 h3
end
end Rb

set_option Elab.async false
set_option linter.all false
set_option maxRecDepth 100000
set_option maxHeartbeats 2000000
namespace Rb
open PySem PySem.Spec PyProof.Rows L2
inductive Lp (S R : Type) where
  | nx (s : S)
  | bk (s : S)
  | rt (r : R)
section
variable {K : Frag} {env env' env1 env2 : List Sl} {d : PyData} {ds : List PyData} {g : TG} {gs : TGs} {vs : List Nat} {te ti ta tb : TE} {wi : TI} {α β S R O O1 : Type}
variable {ts tu tw : TS} {tt : TT} {enc : O → Out} {enc1 : O1 → Out} {m n : Option O} {m1 : Option O1}
theorem bx_asg (he : EX K te env d) (hg : EG K g env d env1) (h : BX K tu env1 enc m) : BX K (tSeq (tAsg te g) tu) env enc m := fun o ho F0 H0 F H σ D E c =>
  he E _ fun v F1 H1 z1 hv => hg (E.step z1) hv _ fun σ2 F2 H2 E2 => h o ho D E2 c
theorem bx_asgW {i : Nat} (he : EXw K te env ds) (h : BX K tu (env.set i (.ow ds)) enc m) : BX K (tSeq (tAsg te (gName i)) tu) env enc m := fun o ho F0 H0 F H σ D E c =>
  he E _ fun p vs F1 H1 z1 hn hf h1 h2 h3 => h o ho D (E.setO z1 i hn (s := .ow ds) ⟨p, vs, rfl, E.z.hn hn, hf, h1, h2, h3⟩) c
theorem bx_par {i j : Nat} {d e : PyData} (ha : EX K ta env d) (hb : EX K tb env e) (h : BX K tu ((env.set i (.sh d)).set j (.sh e)) enc m) : BX K (tSeq (tPar i j (tCons ta (tCons tb tNil))) tu) env enc m := fun o ho F0 H0 F H σ D E c =>
  ha E _ fun v F1 H1 z1 hv => hb (E.step z1) _ fun w F2 H2 z2 hw => ⟨v, w, rfl, h o ho D ((((E.step z1).step z2).setS i (Dq.mono z2.f _ _ hv)).setS j hw) c⟩
theorem bx_drop (he : EX K te env d) (h : BX K tu env enc m) : BX K (tSeq (tDrop te) tu) env enc m := fun o ho F0 H0 F H σ D E c =>
  he E _ fun v F1 H1 z1 hv => h o ho D (E.step z1) c
def app? (xs : List α) (x : α) : Option (List α) := if xs.length < lim then some (xs ++ [x]) else none
theorem app_some {xs ys : List α} {x : α} (h : app? xs x = some ys) : xs.length < lim ∧ ys = xs ++ [x] := by
  unfold app? at h
  by_cases c : xs.length < lim
  · rw [if_pos c] at h; cases h; exact ⟨c, rfl⟩
  · rw [if_neg c] at h; cases h
theorem s_app {e : α → PyData} {i : Nat} {xs ys : List α} {x : α} (hi : env[i]? = some (.ow (xs.map e))) (hx : EX K te env (e x)) (hy : app? xs x = some ys) {F0 H0 F H : Hp} {σ : List (Option V)} {D : Ends} (E : EnvOk K F0 H0 F H σ env)
    (k : ∀ F' H', EnvOk K F0 H0 F' H' σ (env.set i (.ow (ys.map e))) → D.nx σ H') : tDrop (tBM K "list" rAppend (tVar i) (tCons te tNil)) D σ H := by
  obtain ⟨hl, rfl⟩ := app_some hy
  obtain ⟨o, h1, p, vs, h2, h3, h4, h5, h6, h7⟩ := E.sl i _ hi
  subst h2
  refine ⟨_, h1, .inl ⟨rfl, vs, SqL.of h5⟩, hx E _ fun w F1 H1 z1 hw => ?_⟩
  obtain ⟨f1, hh1⟩ := z1.own p _ h5 h4
  have a1 := DqAll.mono z1.f _ _ h6
  have hlen := a1.len
  rw [List.length_map] at hlen
  refine ⟨p, vs, w, rfl, rfl, hh1, by rw [hlen]; exact lim_lt hl, k F1 _ ((E.step z1).mut hi rfl h1 ⟨p, _, rfl, h3, f1, upd_same, ?_, ?_⟩ rfl)⟩
  · rw [List.map_append]
    exact a1.app (.cons hw .nil)
  · rw [List.length_map, List.length_append]
    exact hl
theorem bx_app {e : α → PyData} {i : Nat} {xs ys : List α} {x : α} (hi : env[i]? = some (.ow (xs.map e))) (hx : EX K te env (e x)) (hy : app? xs x = some ys) (h : BX K tu (env.set i (.ow (ys.map e))) enc m) :
    BX K (tSeq (tDrop (tBM K "list" rAppend (tVar i) (tCons te tNil))) tu) env enc m := fun o ho F0 H0 F H σ D E c => s_app (D := { D with nx := tu D }) hi hx hy E fun F' H' E' => h o ho D E' c
theorem bx_nx {o : O} (hw : Wk env env') (hn : enc o = .nx env') : BX K tNext env enc (some o) := fun o' ho F0 H0 F H σ D E c => by
  cases ho
  rw [hn] at c
  exact c F H σ (E.weak hw)
theorem bx_seq {k : O1 → Option O} (h1 : BX K ts env enc1 m1) (h2 : ∀ o1, m1 = some o1 → (∃ env', enc1 o1 = .nx env' ∧ BX K tu env' enc (k o1)) ∨ (∃ o, k o1 = some o ∧ enc o = enc1 o1 ∧ ∀ e, enc1 o1 ≠ .nx e)) : BX K (tSeq ts tu) env enc (m1.bind k) := fun o ho F0 H0 F H σ D E c => by
  obtain ⟨o1, e1, e2⟩ := Option.bind_eq_some_iff.mp ho
  refine h1 o1 e1 { D with nx := tu D } E ?_
  rcases h2 o1 e1 with ⟨env', a, b⟩ | ⟨o', a, b, nn⟩
  · rw [a]
    exact fun F1 H1 σ1 E1 => b o e2 D E1 c
  · rw [a] at e2; cases e2
    rw [b] at c
    cases q : enc1 o1 with
    | nx e => exact absurd q (nn e)
    | bk e => rw [q] at c; exact c
    | ct e => rw [q] at c; exact c
    | rt r => rw [q] at c; exact c
    | ex e x W => rw [q] at c; exact c
    | re e t => rw [q] at c; exact c
theorem bx_then {envS : O1 → List Sl} {k : O1 → Option O} (h1 : BX K ts env (fun s => .nx (envS s)) m1) (h2 : ∀ s, m1 = some s → BX K tu (envS s) enc (k s)) : BX K (tSeq ts tu) env enc (m1.bind k) :=
  bx_seq h1 fun s e => .inl ⟨envS s, rfl, h2 s e⟩
theorem bx_if {b : Bool} (ht : ET K tt env b) (h1 : b = true → BX K ts env enc m) (h2 : b = false → BX K tu env enc n) : BX K (tIfS tt ts tu) env enc (if b = true then m else n) := fun o ho F0 H0 F H σ D E c =>
  ht E _ fun F1 H1 z1 => by
    cases b with
    | true => exact h1 rfl o ho D (E.step z1) c
    | false => exact h2 rfl o ho D (E.step z1) c
theorem bx_ifRet {b : Bool} (ht : ET K tt env b) (h1 : b = true → BX K ts env enc m) (hn : ∀ o e, m = some o → enc o ≠ .nx e) (h2 : b = false → BX K tu env enc n) : BX K (tSeq (tIfS tt ts tNext) tu) env enc (if b = true then m else n) := fun o ho F0 H0 F H σ D E c =>
  ht E _ fun F1 H1 z1 => by
    cases b with
    | true =>
      refine h1 rfl o ho { D with nx := tu D } (E.step z1) ?_
      cases q : enc o with
      | nx e => exact absurd q (hn o e ho)
      | bk e => rw [q] at c; exact c
      | ct e => rw [q] at c; exact c
      | rt r => rw [q] at c; exact c
      | ex e x W => rw [q] at c; exact c
      | re e t => rw [q] at c; exact c
    | false => exact h2 rfl o ho D (E.step z1) c
theorem bx_ifNo {b : Bool} (ht : ET K tt env b) (h2 : b = false → BX K tu env enc n) : BX K (tSeq (tIfS tt ts tNext) tu) env enc (if b = true then none else n) := fun o ho F0 H0 F H σ D E c =>
  ht E _ fun F1 H1 z1 => by
    cases b with
    | true => cases ho
    | false => exact h2 rfl o ho D (E.step z1) c
def forL (f : S → α → Option (Lp S R)) : S → List α → Option (S ⊕ R)
  | s, [] => some (.inl s)
  | s, x :: xs => (f s x).bind fun o => match o with
    | .nx s' => forL f s' xs
    | .bk s' => some (.inl s')
    | .rt r => some (.inr r)
def encL (envS : S → List Sl) (encR : R → Out) : Lp S R → Out
  | .nx s => .nx (envS s)
  | .bk s => .bk (envS s)
  | .rt r => encR r
def encE (envS : S → List Sl) (encR : R → Out) : S ⊕ R → Out
  | .inl s => .nx (envS s)
  | .inr r => encR r
theorem bx_forL {envS : S → List Sl} {encR : R → Out} {e : α → PyData} {envB : S → α → List Sl} {f : S → α → Option (Lp S R)} {s0 : S} {xs : List α} (hi : EIs K wi env (xs.map e)) (hw : Wk env (envS s0)) (hr : ∀ r, (encR r).fin)
    (hg : ∀ s x, x ∈ xs → EG K g (envS s) (e x) (envB s x)) (hb : ∀ s x, x ∈ xs → BX K ts (envB s x) (encL envS encR) (f s x)) : BX K (tFor wi g ts) env (encE envS encR) (forL f s0 xs) := fun o ho F0 H0 F H σ D E c =>
  hi E _ fun J F1 H1 z1 hl it => by
    have z01 := E.z.trans z1
    refine ⟨fun i m σ' H' => ∃ s F', EnvOk K F1 H0 F' H' σ' (envS s) ∧ m = xs.length - i ∧ i ≤ xs.length ∧ forL f s (xs.drop i) = some o, ⟨xs.length, s0, F1, (E.step z1).base.weak hw, rfl, Nat.zero_le _, ho⟩, ?_⟩
    rintro i m σ' H' ⟨s, F', E', rfl, hi', hf⟩
    by_cases hlt : i < xs.length
    · refine .inr ?_
      have hd : (xs.map e)[i]? = some (e xs[i]) := by rw [List.getElem?_map, List.getElem?_eq_getElem hlt]; rfl
      obtain ⟨g1, g2⟩ := it.go F' H' i _ E'.z.f E'.fh hd
      rw [List.drop_eq_getElem_cons hlt] at hf
      obtain ⟨o1, f1, f2⟩ := Option.bind_eq_some_iff.mp hf
      refine ⟨g1, fun σ2 H2 => ∃ s2 F2, EnvOk K F1 H0 F2 H2 σ2 (envS s2) ∧ o1 = .nx s2, ?_, fun x H2 y => ?_⟩
      · rintro σ2 H2 ⟨s2, F2, E2, rfl⟩
        exact ⟨xs.length - (i + 1), by omega, s2, F2, E2, rfl, hlt, f2⟩
      · obtain ⟨F2, z2, hx⟩ := g2 x H2 y
        refine hg s xs[i] (List.getElem_mem hlt) (E'.step z2) hx _ fun σ3 F3 H3 E3 => ?_
        refine hb s xs[i] (List.getElem_mem hlt) o1 f1 _ E3 ?_
        cases o1 with
        | nx s2 => exact fun F4 H4 σ4 E4 => ⟨s2, F4, E4, rfl⟩
        | bk s2 =>
          cases f2
          exact fun F4 H4 σ4 E4 => c F4 H4 σ4 (E4.back z01)
        | rt r =>
          cases f2
          show Cont K F1 H0 _ (encR r)
          have c' : Cont K F0 H0 D (encR r) := c
          exact Cont.fin (D := D) (by rfl) (hr r) (Cont.base z01 c')
    · have hi2 : i = xs.length := by omega
      subst hi2
      rw [List.drop_length] at hf
      cases hf
      refine .inl ⟨?_, c F' H' σ' (E'.back z01)⟩
      have := it.stop F' H' E'.z.f E'.fh
      rw [List.length_map] at this
      exact this
def forS (f : S → α → Option S) : S → List α → Option S
  | s, [] => some s
  | s, x :: xs => (f s x).bind fun s' => forS f s' xs
theorem forS_L {f : S → α → Option S} : ∀ {xs : List α} {s : S}, forL (R := Empty) (fun s x => (f s x).map Lp.nx) s xs = (forS f s xs).map Sum.inl
  | [], s => rfl
  | x :: xs, s => by
    unfold forL forS
    cases q : f s x with
    | none => rfl
    | some s' => exact forS_L (xs := xs) (s := s')
theorem bx_forS {envS : S → List Sl} {e : α → PyData} {envB : S → α → List Sl} {f : S → α → Option S} {s0 : S} {xs : List α} (hi : EIs K wi env (xs.map e)) (hw : Wk env (envS s0))
    (hg : ∀ s x, x ∈ xs → EG K g (envS s) (e x) (envB s x)) (hb : ∀ s x, x ∈ xs → BX K ts (envB s x) (fun s' => .nx (envS s')) (f s x)) : BX K (tFor wi g ts) env (fun s => .nx (envS s)) (forS f s0 xs) := fun o ho => by
  have h := bx_forL (R := Empty) (encR := fun r => nomatch r) (f := fun s x => (f s x).map Lp.nx) hi hw (fun r => nomatch r) hg (fun s x hx => bx_map (hb s x hx) fun o => rfl)
  rw [forS_L] at h
  exact h (.inl o) (by rw [ho]; rfl)
def forR (f : S → α → Option (S ⊕ R)) : S → List α → Option (S ⊕ R)
  | s, [] => some (.inl s)
  | s, x :: xs => (f s x).bind fun o => match o with
    | .inl s' => forR f s' xs
    | .inr r => some (.inr r)
def toLp : S ⊕ R → Lp S R
  | .inl s => .nx s
  | .inr r => .rt r
theorem forR_L {f : S → α → Option (S ⊕ R)} : ∀ {xs : List α} {s : S}, forL (fun s x => (f s x).map toLp) s xs = forR f s xs
  | [], s => rfl
  | x :: xs, s => by
    unfold forL forR
    cases q : f s x with
    | none => rfl
    | some s' =>
      cases s' with
      | inl s' => exact forR_L (xs := xs) (s := s')
      | inr r => rfl
theorem bx_forR {envS : S → List Sl} {encR : R → Out} {e : α → PyData} {envB : S → α → List Sl} {f : S → α → Option (S ⊕ R)} {s0 : S} {xs : List α} (hi : EIs K wi env (xs.map e)) (hw : Wk env (envS s0)) (hr : ∀ r, (encR r).fin)
    (hg : ∀ s x, x ∈ xs → EG K g (envS s) (e x) (envB s x)) (hb : ∀ s x, x ∈ xs → BX K ts (envB s x) (encE envS encR) (f s x)) : BX K (tFor wi g ts) env (encE envS encR) (forR f s0 xs) := by
  have h := bx_forL (encR := encR) (f := fun s x => (f s x).map toLp) hi hw hr hg (fun s x hx => bx_map (hb s x hx) fun o => by cases o <;> rfl)
  rw [forR_L] at h
  exact h
end
end Rb

set_option Elab.async false
set_option linter.all false
set_option maxRecDepth 100000
set_option maxHeartbeats 2000000
namespace Rb
open PySem PySem.Spec PyProof.Rows L2
def wipeE (env : List Sl) : List Nat → List Sl
  | [] => env
  | v :: vs => (wipeE env vs).set v .un
theorem EnvOk.wipe {K : Frag} {F0 H0 F H : Hp} {σ : List (Option V)} {env : List Sl} (E : EnvOk K F0 H0 F H σ env) : ∀ vs : List Nat, EnvOk K F0 H0 F H (L2.wipe σ vs) (wipeE env vs)
  | [] => E
  | v :: vs => (E.wipe vs).forget v none
theorem wipe_sub {σ : List (Option V)} {vs : List Nat} : ∀ {ws : List Nat}, (∀ w ∈ ws, w ∈ vs) → wipe (wipe σ ws) vs = wipe σ vs
  | [], _ => rfl
  | w :: ws, h => by
    show wipe ((wipe σ ws).set w none) vs = wipe σ vs
    rw [wipe_set (h w List.mem_cons_self), wipe_sub fun x hx => h x (List.mem_cons_of_mem _ hx)]
theorem Fz.mutNew {F H F' H' : Hp} {p : Addr} {o : HO} (z : Fz F H F' H') (hn : H p = none) (hf : F' p = none) : Fz F H F' (upd H' p o) := by
  refine ⟨z.f, fun a u q => ?_, fun a u q n => ?_⟩
  · rw [upd_ne (ne_of_none q hf)]; exact z.fh a u q
  · rw [upd_ne (ne_of_none q hn)]; exact z.own' a u q n
section
variable {K : Frag} {env env' env1 env2 : List Sl} {d : PyData} {ds es : List PyData} {g : TG} {gs : TGs} {vs : List Nat} {te ti ta tb tl : TE} {wi : TI} {α β S R O O1 : Type} {tt : TT}
def compM (t : α → Option Bool) (f : α → Option β) : List α → Option (List β)
  | [] => some []
  | x :: xs => (t x).bind fun b => if b = true then (f x).bind fun y => (compM t f xs).bind fun ys => some (y :: ys) else compM t f xs
theorem exw_lc {e : α → PyData} {e' : β → PyData} {t : α → Option Bool} {f : α → Option β} {xs : List α} {ys : List β} {envB : α → List Sl} (hi : EI K wi env (xs.map e)) (hm : compM t f xs = some ys) (hg : ∀ x, x ∈ xs → EGc K g (wipeE env vs) (e x) (envB x) vs)
    (ht : ∀ x, x ∈ xs → ETo K tt (envB x) (t x)) (he : ∀ x, x ∈ xs → EXo K te (envB x) e' (f x)) : EXw K (tLc wi g tt te vs) env (ys.map e') := fun F0 H0 F H σ E Q q =>
  hi E _ fun J F1 H1 z1 hl it D hD => by
    have hFD : F1 D = none := Evl.fresh_back z1.fh hD
    refine ⟨fun i m H' => ∃ F' done rest acc, Fz F1 H1 F' H' ∧ F' D = none ∧ H' D = some (.lst acc) ∧ DqAll F' acc (done.map e') ∧ compM t f (xs.drop i) = some rest ∧ ys = done ++ rest ∧ done.length ≤ i ∧ m = xs.length - i ∧ i ≤ xs.length,
      ⟨xs.length, F1, [], ys, [], Fz.add z1.fh hD, hFD, upd_same, .nil, hm, rfl, Nat.le_refl _, rfl, Nat.zero_le _⟩, ?_⟩
    rintro i m H' ⟨F', done, rest, acc, zz, fD, hD', ha, hc, hy, hdl, rfl, hi'⟩
    by_cases hlt : i < xs.length
    · refine .inr ?_
      have hd : (xs.map e)[i]? = some (e xs[i]) := by rw [List.getElem?_map, List.getElem?_eq_getElem hlt]; rfl
      obtain ⟨g1, g2⟩ := it.go F' H' i _ zz zz.fh hd
      rw [List.drop_eq_getElem_cons hlt] at hc
      obtain ⟨b, c1, c2⟩ := Option.bind_eq_some_iff.mp hc
      refine ⟨g1, fun H2 => ∃ F' done rest acc, Fz F1 H1 F' H2 ∧ F' D = none ∧ H2 D = some (.lst acc) ∧ DqAll F' acc (done.map e') ∧ compM t f (xs.drop (i + 1)) = some rest ∧ ys = done ++ rest ∧ done.length ≤ i + 1, ?_, fun x H2 y => ?_⟩
      · rintro H2 ⟨F2, done2, rest2, acc2, z2, f2, h2, a2, k2, y2, l2⟩
        exact ⟨xs.length - (i + 1), by omega, F2, done2, rest2, acc2, z2, f2, h2, a2, k2, y2, l2, rfl, hlt⟩
      · obtain ⟨F2, z2, hx⟩ := g2 x H2 y
        have mem := List.getElem_mem hlt
        have E2 := ((E.step (z1.trans (zz.trans z2))).wipe vs)
        refine hg xs[i] mem E2 hx _ fun σ3 E3 w3 => ⟨w3.trans (wipe_sub fun _ h => h), ?_⟩
        refine ht xs[i] mem b c1 E3 _ fun F4 H4 z4 => ?_
        obtain ⟨d1, d2⟩ := (z2.trans z4).own D _ hD' fD
        cases b with
        | true =>
          rw [if_pos rfl] at c2 ⊢
          obtain ⟨yv, c3, c4⟩ := Option.bind_eq_some_iff.mp c2
          obtain ⟨rest', c5, c6⟩ := Option.bind_eq_some_iff.mp c4
          cases c6
          refine he xs[i] mem yv c3 (E3.step z4) _ fun v F5 H5 z5 hv => ?_
          obtain ⟨d3, d4⟩ := z5.own D _ d2 d1
          have hlen := ha.len
          rw [List.length_map] at hlen
          rw [List.length_map] at hl
          refine ⟨acc, d4, lim_lt (by omega), F5, done ++ [yv], rest', acc ++ [v], (((zz.trans z2).trans z4).trans z5).mutNew hD d3, d3, upd_same, ?_, c5, by rw [hy]; simp, by rw [List.length_append]; exact Nat.succ_le_succ hdl⟩
          rw [List.map_append]
          exact (DqAll.mono ((z2.f.trans z4.f).trans z5.f) _ _ ha).app (.cons hv .nil)
        | false =>
          rw [if_neg Bool.false_ne_true] at c2 ⊢
          exact ⟨F4, done, rest, acc, (zz.trans z2).trans z4, d1, d2, DqAll.mono (z2.f.trans z4.f) _ _ ha, c2, hy, Nat.le_succ_of_le hdl⟩
    · have hi2 : i = xs.length := by omega
      subst hi2
      rw [List.drop_length] at hc
      cases hc
      refine .inl ⟨?_, ?_⟩
      · have := it.stop F' H' zz zz.fh
        rw [List.length_map] at this
        exact this
      · rw [List.append_nil] at hy
        subst hy
        refine q D acc F' H' (z1.trans zz) (z1.hn hD) fD hD' ha ?_
        rw [List.length_map] at hl ⊢
        exact Nat.le_trans hdl hl
def Prom (I : List PyData → Rv → Prop) : Sp := fun vs H Q _ => ∃ F ds r, Ex F H ∧ DqAll F vs ds ∧ I ds r ∧ RetOk F H Q r
def Im {A R : Type} (ea : A → List PyData) (er : R → Rv) (f : A → Option R) : List PyData → Rv → Prop := fun ds r => ∃ a y, ds = ea a ∧ f a = some y ∧ r = er y
theorem ex_call {I : List PyData → Rv → Prop} {tr : TA} {E : XK} (ha : EA K tr env ds) (hI : I ds (.sh d)) : EX K (tCall (Prom I) [] E tr) env d := fun F0 H0 F H σ E Q q =>
  ha E _ fun vs F1 H1 z1 a1 => by
    rw [List.append_nil]
    exact ⟨F1, ds, _, (E.step z1).fh, a1, hI, fun F2 H2 v z2 hv => q v F2 H2 (z1.trans z2) hv⟩
theorem exw_call {I : List PyData → Rv → Prop} {tr : TA} {E : XK} (ha : EA K tr env ds) (hI : I ds (.fr es)) : EXw K (tCall (Prom I) [] E tr) env es := fun F0 H0 F H σ E Q q =>
  ha E _ fun vs F1 H1 z1 a1 => by
    rw [List.append_nil]
    exact ⟨F1, ds, _, (E.step z1).fh, a1, hI, fun F2 H2 p vs z2 hn hf h1 h2 h3 => q p vs F2 H2 (z1.trans z2) (z1.hn hn) hf h1 h2 h3⟩
def startE (N : List Str) (ds : List PyData) : List Sl := ds.map .sh ++ List.replicate (N.length - ds.length) .un
theorem start_ok {K : Frag} {N : List Str} {ws : List V} {F H : Hp} (e : Ex F H) (a : DqAll F ws ds) : EnvOk K F H F H (L2.start N ws) (startE N ds) := by
  have hl := a.len
  refine EnvOk.flat (Fz.refl e) ?_ fun i s h => ?_
  · unfold L2.start startE
    simp only [List.length_append, List.length_map, List.length_replicate, hl]
  · unfold L2.start
    unfold startE at h
    by_cases c : i < ds.length
    · rw [List.getElem?_append_left (by rw [List.length_map]; exact c), List.getElem?_map] at h
      rw [List.getElem?_append_left (by rw [List.length_map, hl]; exact c), List.getElem?_map]
      obtain ⟨d, h1, h2⟩ := Option.map_eq_some_iff.mp h
      subst h2
      obtain ⟨v, h3, h4⟩ := a.get h1
      rw [h3]
      exact ⟨_, rfl, ⟨v, rfl, h4⟩, rfl⟩
    · rw [List.getElem?_append_right (by rw [List.length_map]; omega), List.length_map] at h
      rw [List.getElem?_append_right (by rw [List.length_map, hl]; omega), List.length_map, hl]
      obtain ⟨h1, h2⟩ := List.getElem?_eq_some_iff.mp h
      rw [List.getElem_replicate] at h2
      subst h2
      rw [List.length_replicate] at h1
      refine ⟨none, ?_, trivial, rfl⟩
      rw [List.getElem?_replicate, if_pos h1]
theorem fn_ok {A R : Type} {P : Program} {w : World} {mg : Str → Option Value} {base : Heap} {x qual : Str} {params : Arguments} {body : List Stmt} {scope : Scope} {f : Addr} {fd : FuncData} {N ps : List Str} {k : Nat} {ea : A → List PyData} {er : R → Rv} {fm : A → Option R} {en : R → Out}
    (F : FunD K x qual params body scope [] [] f fd) (S : FnScope N ps scope) (hl : ∀ a, (ea a).length = ps.length) (hn : ∀ y, en y = .rt (er y) ∨ (er y = .sh .none ∧ ∃ e, en y = .nx e))
    (hb : ∀ (cdv : Value) (A' : Around) (outer : List Env) (s : Shared) (H : Hp) (E : XK), Room k (A'.deeper (envOfC qual scope s.heap.objs.size f cdv)) →
      ∃ t, PSs (cxOf CX0 P w K mg base N qual scope f cdv A' outer s H E).nox body t ∧ ∀ a, BX K t (startE N (ea a)) en (fm a)) : FnOk P w K mg base CX0 (k + 1) f fd ps (Prom (Im ea er fm)) := by
  refine F.ok S (fun vs H Q E h => ?_) (fun cdv A' outer s H vs Q E hr h => ?_)
  · obtain ⟨F, ds, r, e, a, ⟨a', y, rfl, _, _⟩, _⟩ := h
    rw [a.len, hl]
  · obtain ⟨F, ds, r, e, a, ⟨a', y, rfl, hy, rfl⟩, q⟩ := h
    obtain ⟨t, p, b⟩ := hb cdv A' outer s H E hr
    refine ⟨t, PSs.nox p, b a' y hy _ (start_ok e a) ?_⟩
    rcases hn y with hn | ⟨hn, e', he⟩
    · rw [hn]; exact q
    · rw [he]
      rw [hn] at q
      exact fun F1 H1 σ1 E1 => q F1 H1 .non E1.z .non
theorem ex_lenL {e : α → PyData} {xs : List α} (ha : EXl K ta env (xs.map e)) : EX K (tCB (fun ws H Q => ∃ x n, ws = [x] ∧ LenV K x H n ∧ Q (.int n) H) (tCons ta tNil)) env (.int (xs.length : Int)) := fun F0 H0 F H σ E Q q =>
  ha E _ fun p vs F1 H1 z1 h1 a1 l1 => by
    have := a1.len
    rw [List.length_map] at this
    exact ⟨_, xs.length, rfl, .inl ⟨vs, SqL.of h1, this.symm⟩, q _ F1 H1 z1 (.int _)⟩
theorem ex_lenT {e : α → PyData} {xs : List α} (ha : EX K ta env (.tuple (xs.map e))) : EX K (tCB (fun ws H Q => ∃ x n, ws = [x] ∧ LenV K x H n ∧ Q (.int n) H) (tCons ta tNil)) env (.int (xs.length : Int)) := fun F0 H0 F H σ E Q q =>
  ha E _ fun v F1 H1 z1 hv => by
    cases hv with
    | tup h1 a1 l1 =>
    have := a1.len
    rw [List.length_map] at this
    exact ⟨_, xs.length, rfl, .inr ⟨_, SqT.of (z1.fh _ _ h1), this.symm⟩, q _ F1 H1 z1 (.int _)⟩
theorem exw_listL (ha : EXl K ta env ds) : EXw K (tCB (fun xs H Q => ∃ p ys, xs = [.ref p] ∧ (SqL K H p ys ∨ SqT K H p ys) ∧ ∀ l, H l = none → Q (.ref l) (upd H l (.lst ys))) (tCons ta tNil)) env ds := fun F0 H0 F H σ E Q q =>
  ha E _ fun p vs F1 H1 z1 h1 a1 l1 => ⟨p, vs, rfl, .inl (SqL.of h1), fun l hl => q l vs F1 _ (z1.trans (Fz.add z1.fh hl)) (z1.hn hl) (Evl.fresh_back z1.fh hl) upd_same a1 l1⟩
theorem ex_all {bs : List Bool} (ha : EXl K ta env (bs.map PyData.bool)) : EX K (tCB (rAll K) (tCons ta tNil)) env (.bool (bs.all id)) := fun F0 H0 F H σ E Q q =>
  ha E _ fun p vs F1 H1 z1 h1 a1 l1 => by
    have := a1.bls
    subst this
    exact ⟨p, bs, rfl, SqL.of h1, q _ F1 H1 z1 (.bl _)⟩
theorem ex_abs {i : Int} (ha : EX K ta env (.int i)) : EX K (tCB (fun xs H Q => ∃ i, xs = [.int i] ∧ Q (.int (if i < 0 then -i else i)) H) (tCons ta tNil)) env (.int (if i < 0 then -i else i)) := fun F0 H0 F H σ E Q q =>
  ha E _ fun v F1 H1 z1 hv => by
    cases hv
    exact ⟨i, rfl, q _ F1 H1 z1 (.int _)⟩
theorem ex_max {i j : Int} (ha : EX K ta env (.int i)) (hb : EX K tb env (.int j)) : EX K (tCB (fun xs H Q => ∃ i j, xs = [.int i, .int j] ∧ Q (.int (if j > i then j else i)) H) (tCons ta (tCons tb tNil))) env (.int (if j > i then j else i)) := fun F0 H0 F H σ E Q q =>
  ha E _ fun v F1 H1 z1 hv => hb (E.step z1) _ fun w F2 H2 z2 hw => by
    cases hv; cases hw
    exact ⟨i, j, rfl, q _ F2 H2 (z1.trans z2) (.int _)⟩
theorem ex_min {i j : Int} (ha : EX K ta env (.int i)) (hb : EX K tb env (.int j)) : EX K (tCB (fun xs H Q => ∃ i j, xs = [.int i, .int j] ∧ Q (.int (if j < i then j else i)) H) (tCons ta (tCons tb tNil))) env (.int (if j < i then j else i)) := fun F0 H0 F H σ E Q q =>
  ha E _ fun v F1 H1 z1 hv => hb (E.step z1) _ fun w F2 H2 z2 hw => by
    cases hv; cases hw
    exact ⟨i, j, rfl, q _ F2 H2 (z1.trans z2) (.int _)⟩
theorem ex_intB {b : Bool} (ha : EX K ta env (.bool b)) : EX K (tCB (fun xs H Q => (∃ i, xs = [.int i] ∧ Q (.int i) H) ∨ ∃ k, xs = [.bl k] ∧ Q (.int (if k then 1 else 0)) H) (tCons ta tNil)) env (.int (if b then 1 else 0)) := fun F0 H0 F H σ E Q q =>
  ha E _ fun v F1 H1 z1 hv => by
    cases hv
    exact .inr ⟨b, rfl, q _ F1 H1 z1 (.int _)⟩
theorem inV_ints {i : Int} : ∀ {ns : List Int}, inV (.int i) (ns.map V.int) = decide (i ∈ ns)
  | [] => rfl
  | n :: ns => by
    have ih := inV_ints (i := i) (ns := ns)
    unfold inV at ih ⊢
    rw [List.map_cons, List.any_cons, ih]
    show ((n == i) || decide (i ∈ ns)) = decide (i ∈ n :: ns)
    by_cases c : n = i
    · subst c; simp
    · have c' : ¬ i = n := fun z => c z.symm
      simp [c, c']
theorem flat_ints : ∀ {ns : List Int}, (ns.map V.int).all flatV = true
  | [] => rfl
  | n :: ns => by rw [List.map_cons, List.all_cons, flat_ints]; rfl
def cutA (xs : List α) (lo hi : Option Int) : List α := (xs.drop (HT.sIx xs.length 0 lo)).take (HT.sIx xs.length xs.length hi - HT.sIx xs.length 0 lo)
theorem cutA_map {f : α → β} {xs : List α} {lo hi : Option Int} : cutA (xs.map f) lo hi = (cutA xs lo hi).map f := by
  unfold cutA
  rw [List.length_map, List.map_take, List.map_drop]
theorem cutA_len {xs : List α} {lo hi : Option Int} : (cutA xs lo hi).length ≤ xs.length := by
  unfold cutA
  rw [List.length_take, List.length_drop]
  omega
theorem DqAll.cut {H : Hp} {ws : List V} {lo hi : Option Int} (a : DqAll H ws ds) : DqAll H (cutV ws lo hi) (cutA ds lo hi) := by
  unfold cutV cutA
  rw [a.len]
  exact (a.drop _).take _
theorem eo_none : EO K tNoPart env none := fun F0 H0 F H σ E Q q => q F H (Fz.refl E.fh)
theorem eo_some {i : Int} (h : EX K te env (.int i)) : EO K (tPart te) env (some i) := fun F0 H0 F H σ E Q q => h E _ fun v F1 H1 z1 hv => by
  cases hv
  exact ⟨i, rfl, q F1 H1 z1⟩
theorem exw_sl {tl th : TO} {lo hi : Option Int} {e : α → PyData} {xs : List α} (h : EXl K te env (xs.map e)) (hl : EO K tl env lo) (hh : EO K th env hi) : EXw K (tSl (rSlL K) te tl th) env ((cutA xs lo hi).map e) := fun F0 H0 F H σ E Q q =>
  h E _ fun p vs F1 H1 z1 h1 a1 l1 => hl (E.step z1) _ fun F2 H2 z2 => hh ((E.step z1).step z2) _ fun F3 H3 z3 => by
    have z := (z1.trans z2).trans z3
    refine ⟨p, vs, rfl, SqL.of ((z2.trans z3).hh z1.fh _ _ h1), fun r hr => q r _ F3 _ (z.trans (Fz.add z.fh hr)) (z.hn hr) (Evl.fresh_back z.fh hr) upd_same ?_ ?_⟩
    · rw [← cutA_map]; exact (DqAll.mono (z2.f.trans z3.f) _ _ a1).cut
    · rw [← cutA_map]; exact Nat.le_trans cutA_len l1
theorem exw_slSc {tl th : TO} {lo hi : Option Int} {e : α → PyData} {xs : List α} {i : Nat} (h : env[i]? = some (.sc (xs.map e))) (hl : EO K tl env lo) (hh : EO K th env hi) : EXw K (tSl (rSlL K) (tVar i) tl th) env ((cutA xs lo hi).map e) := fun F0 H0 F H σ E Q q => by
  obtain ⟨o, h1, p, vs, h2, h3, h4, h5⟩ := E.sl i _ h
  subst h2
  refine ⟨_, h1, hl E _ fun F2 H2 z2 => hh (E.step z2) _ fun F3 H3 z3 => ?_⟩
  have z := z2.trans z3
  refine ⟨p, vs, rfl, sq_mono z.fh (sq_mono z.f h3), fun r hr => q r _ F3 _ (z.trans (Fz.add z.fh hr)) (z.hn hr) (Evl.fresh_back z.fh hr) upd_same ?_ ?_⟩
  · rw [← cutA_map]; exact (DqAll.mono z.f _ _ h4).cut
  · rw [← cutA_map]; exact Nat.le_trans cutA_len h5
end
end Rb

set_option Elab.async false
set_option linter.all false
set_option maxRecDepth 100000
set_option maxHeartbeats 2000000
namespace Rb
open PySem PySem.Spec PyProof.Rows L2
abbrev eL {α : Type} (e : α → PyData) (xs : List α) : PyData := .list (xs.map e)
abbrev eT {α : Type} (e : α → PyData) (xs : List α) : PyData := .tuple (xs.map e)
abbrev eN (_ : Unit) : PyData := .none
abbrev eP {α β : Type} (e : α → PyData) (f : β → PyData) (x : α × β) : PyData := .tuple [e x.1, f x.2]
abbrev eP3 {α β γ : Type} (e : α → PyData) (f : β → PyData) (g : γ → PyData) (x : α × β × γ) : PyData := .tuple [e x.1, f x.2.1, g x.2.2]
def eO {α : Type} (e : α → PyData) : Option α → PyData
  | none => .none
  | some x => e x
def grd (p : Prop) [Decidable p] : Option Unit := if p then some () else none
theorem grd_ok {p : Prop} [Decidable p] {u : Unit} (h : grd p = some u) : p := by
  unfold grd at h
  by_cases c : p
  · exact c
  · rw [if_neg c] at h; cases h
theorem grd_true {p : Prop} [Decidable p] (h : p) : grd p = some () := by unfold grd; rw [if_pos h]
instance (i j : Int) : Decidable (CMul i j) := inferInstanceAs (Decidable (_ ∨ _))
instance (i j : Int) : Decidable (CDivW i j) := inferInstanceAs (Decidable (_ ∧ _))
instance (i j : Int) : Decidable (CPow i j) := inferInstanceAs (Decidable (_ ∧ _))
section
variable {K : Frag} {env env' env1 env2 : List Sl} {d : PyData} {ds es : List PyData} {g : TG} {gs : TGs} {vs : List Nat} {te ti ta tb tl : TE} {wi : TI} {α β S R O O1 : Type} {tt : TT} {ts tu tw : TS} {enc : O → Out} {enc1 : O1 → Out} {m n : Option O} {m1 : Option O1}
theorem compM_pure {t : α → Bool} {f : α → β} : ∀ xs : List α, compM (fun x => some (t x)) (fun x => some (f x)) xs = some ((xs.filter t).map f)
  | [] => rfl
  | x :: xs => by
    unfold compM
    rw [compM_pure xs]
    show (if t x = true then _ else _) = _
    cases h : t x
    · rw [if_neg Bool.false_ne_true, List.filter_cons_of_neg (by rw [h]; exact Bool.false_ne_true)]
    · rw [if_pos rfl, List.filter_cons_of_pos h]; rfl
theorem compM_map {f : α → β} : ∀ xs : List α, compM (fun _ => some true) (fun x => some (f x)) xs = some (xs.map f)
  | [] => rfl
  | x :: xs => by
    unfold compM
    rw [compM_map xs]
    rfl
theorem exw_lcp {e : α → PyData} {e' : β → PyData} {t : α → Bool} {f : α → β} {xs : List α} {envB : α → List Sl} (hi : EI K wi env (xs.map e)) (hg : ∀ x, x ∈ xs → EGc K g (wipeE env vs) (e x) (envB x) vs)
    (ht : ∀ x, x ∈ xs → ET K tt (envB x) (t x)) (he : ∀ x, x ∈ xs → EX K te (envB x) (e' (f x))) : EXw K (tLc wi g tt te vs) env (((xs.filter t).map f).map e') :=
  exw_lc (t := fun x => some (t x)) (f := fun x => some (f x)) hi (compM_pure xs) hg (fun x h => eto_some (ht x h)) (fun x h => exo_some (e := e') (he x h))
theorem et_yes : ET K tYes env true := fun F0 H0 F H σ E Q q => q F H (Fz.refl E.fh)
theorem exw_lcm {e : α → PyData} {e' : β → PyData} {f : α → β} {xs : List α} {envB : α → List Sl} (hi : EI K wi env (xs.map e)) (hg : ∀ x, x ∈ xs → EGc K g (wipeE env vs) (e x) (envB x) vs)
    (he : ∀ x, x ∈ xs → EX K te (envB x) (e' (f x))) : EXw K (tLc wi g tYes te vs) env ((xs.map f).map e') :=
  exw_lc (t := fun x => some true) (f := fun x => some (f x)) hi (compM_map xs) hg (fun x h => eto_some et_yes) (fun x h => exo_some (e := e') (he x h))
def bindR (mm : Option (S ⊕ R)) (k : S → Option O) (g : R → O) : Option O := mm.bind fun x => match x with
  | .inl s => k s
  | .inr r => some (g r)
theorem bx_bindR {envS : S → List Sl} {encR : R → Out} {g : R → O} {mm : Option (S ⊕ R)} {k : S → Option O} (h1 : BX K ts env (encE envS encR) mm) (hg : ∀ r, enc (g r) = encR r) (hf : ∀ r e, encR r ≠ .nx e) (h2 : ∀ s, mm = some (.inl s) → BX K tu (envS s) enc (k s)) :
    BX K (tSeq ts tu) env enc (bindR mm k g) :=
  bx_seq h1 fun x e => by
    cases x with
    | inl s => exact .inl ⟨envS s, rfl, h2 s e⟩
    | inr r => exact .inr ⟨g r, rfl, hg r, hf r⟩
theorem bx_retS {o : O} {d : PyData} (h : EX K te env d) (he : enc o = .rt (.sh d)) : BX K (tSeq (tRet te) tu) env enc (some o) := fun o' ho F0 H0 F H σ D E c => bx_ret h he o' ho { D with nx := tu D } E (by
  cases ho
  rw [he] at c ⊢
  exact c)
theorem bx_retSW {o : O} {ds : List PyData} (h : EXw K te env ds) (he : enc o = .rt (.fr ds)) : BX K (tSeq (tRet te) tu) env enc (some o) := fun o' ho F0 H0 F H σ D E c => bx_retW h he o' ho { D with nx := tu D } E (by
  cases ho
  rw [he] at c ⊢
  exact c)
theorem bx_retO {o : O} {i : Nat} {ds : List PyData} (h : env[i]? = some (.ow ds)) (he : enc o = .rt (.fr ds)) : BX K (tSeq (tRet (tVar i)) tu) env enc (some o) := fun o' ho F0 H0 F H σ D E c => by
  cases ho
  rw [he] at c
  obtain ⟨o1, h1, p, vs, h2, h3, h4, h5, h6, h7⟩ := E.sl i _ h
  subst h2
  exact ⟨_, h1, c F H p vs E.z h3 h4 h5 h6 h7⟩
theorem bx_last (h : BX K ts env enc m) : BX K (tSeq ts tNext) env enc m := h
end
structure Fn (P : Program) (w : World) (K : Frag) (mg : Str → Option Value) (base : Heap) (x : Str) (k : Nat) (I : List PyData → Rv → Prop) : Prop where
  ex : ∃ f fd ps, FnOk P w K mg base CX0 k f fd ps (Prom I) ∧ mg x = some (.ref f) ∧ PySem.W.keepIn K (.ref f) = true ∧ Binds K fd ps []
theorem pe_fn {X : Cx} {x : Str} {k : Nat} {I : List PyData → Rv → Prop} {e : Expr} {es : List Expr} {t : TA} {p pos : Pos} (G : Fn X.prog X.w X.K X.mg X.base x k I) (hr : Room k X.A) (hg : Gl X x) (ha : PA X (e :: es) t)
    (hs : starEach (e :: es) X.env = (false, eval e X.env) :: starEach es X.env := by rfl) (hpl : (backTo pos (starEach es X.env)).any (·.1) = false := by rfl) (hd : (x == ("__debug__" : Str)) = false := by decide) : PE X (.Call (.Name x p) (e :: es) [] pos) (tCall (Prom I) [] E0 t) := by
  obtain ⟨f, fd, ps, F, hm, hk, hb⟩ := G.ex
  exact pe_call F hr hg hm hk hb .nil pass0 ha hd hs hpl
theorem pe_const {X : Cx} {x : Str} {i : Int} {pos : Pos} (hg : Gl X x) (h : ∃ t, X.mg x = some (.int i t)) (hd : (x == ("__debug__" : Str)) = false := by decide) : PE X (.Name x pos) (tC (.int i)) := by
  obtain ⟨t, h⟩ := h
  exact pe_glob hg h ⟨t, rfl⟩ hd
section
variable {X : Cx} {K : Frag} {tg e e2 l : Expr} {ta tl te : TE} {tA : TA}
theorem ix_listK (h : X.K = K := by rfl) : IxR X (rIxL K) := by subst h; exact ix_list
theorem ix_tupK (h : X.K = K := by rfl) : IxR X (rIxT K) := by subst h; exact ix_tup
theorem op_inK (h : X.K = K := by rfl) : OpR X (compareOp .In) (rIn K false) := by subst h; exact op_in_seq
theorem op_notInK (h : X.K = K := by rfl) : OpR X (compareOp .NotIn) (rIn K true) := by subst h; exact op_notIn_seq
theorem op_eqDK (hu : X.A.units + 64 < cLine) (h : X.K = K := by rfl) : OpR X (compareOp .Eq) (rEqD K) := by subst h; exact op_eqD hu
theorem op_neDK (hu : X.A.units + 64 < cLine) (h : X.K = K := by rfl) : OpR X (compareOp .NotEq) (rNeD K) := by subst h; exact op_neD hu
theorem call_lenK (h : X.K = K := by rfl) : CallR X (.builtin "len") (fun xs H Q => ∃ x n, xs = [x] ∧ LenV K x H n ∧ Q (.int n) H) := by subst h; exact call_len
theorem call_listK (h : X.K = K := by rfl) : CallR X (.type "list") (fun xs H Q => ∃ p ys, xs = [.ref p] ∧ (SqL K H p ys ∨ SqT K H p ys) ∧ ∀ l, H l = none → Q (.ref l) (upd H l (.lst ys))) := by subst h; exact call_list_of
theorem cr_allK (hc : X.calm = true) (h : X.K = K := by rfl) : CallR X (.builtin "all") (rAll K) := by subst h; exact cr_all hc
theorem sl_listK (h : X.K = K := by rfl) : SlR X (rSlL K) := by subst h; exact sl_list
theorem pi_listK (hl : PE X l tl) (h : X.K = K := by rfl) : PI X tg l (iList K tl) := by subst h; exact pi_list hl
theorem pi_tupK (hl : PE X l tl) (h : X.K = K := by rfl) : PI X tg l (iTup K tl) := by subst h; exact pi_tup hl
theorem pg_tupK {pos : Pos} {es : List Expr} {k : Nat} {t : TGs} {n : Nat} (hc : X.calm = true) (hh : PGs X es t) (hn : (assignEach es X.env).length = n := by rfl) (hst : (assignEach es X.env).findIdx? (·.1) = none := by rfl) (h : X.K = K := by rfl) : PG X (.Tuple es k pos) (gTup K n t) := by
  subst h; exact pg_tup hc hh hn hst
theorem pg_lstK {pos : Pos} {es : List Expr} {k : Nat} {t : TGs} {n : Nat} (hc : X.calm = true) (hh : PGs X es t) (hn : (assignEach es X.env).length = n := by rfl) (hst : (assignEach es X.env).findIdx? (·.1) = none := by rfl) (h : X.K = K := by rfl) : PG X (.Tuple es k pos) (gLst K n t) := by
  subst h; exact pg_lst hc hh hn hst
theorem pi_enumK {p pos tpos : Pos} {elts : List Expr} {kk : Nat} (hg : Gl X "enumerate") (hm : X.mg "enumerate" = none) (ha : PA X [e] tA) (hs : starEach [e] X.env = [(false, eval e X.env)] := by rfl) (h : X.K = K := by rfl) :
    PI X (.Tuple elts kk tpos) (.Call (.Name "enumerate" p) [e] [] pos) (iEnum K tA) := by subst h; exact pi_enum hg hm ha hs
end
end Rb

set_option Elab.async false
set_option linter.all false
set_option maxRecDepth 100000
set_option maxHeartbeats 2000000
namespace Rb
open PySem PySem.Spec PyProof.Rows L2
structure EnOk {α : Type} [DecidableEq α] (e : α → PyData) (n : Nat) : Prop where
  lay : ∀ x, (e x).canLay0 = true
  dep : ∀ x, (e x).depth ≤ n
  eq : ∀ x y, PyData.eqv (e x) (e y) = decide (x = y)
theorem beq_dec {α : Type} [BEq α] [LawfulBEq α] [DecidableEq α] (x y : α) : (x == y) = decide (x = y) := by
  by_cases c : x = y
  · subst c; simp
  · rw [decide_eq_false c]; simpa using c
theorem EnOk.int : EnOk PyData.int 0 := ⟨fun x => rfl, fun x => Nat.le_refl _, fun x y => by
  show (x == y) = _
  exact beq_dec x y⟩
theorem EnOk.bool : EnOk PyData.bool 0 := ⟨fun x => rfl, fun x => Nat.le_refl _, fun x y => by
  show (x == y) = _
  exact beq_dec x y⟩
section
variable {α β γ δ : Type} [DecidableEq α] [DecidableEq β] [DecidableEq γ] [DecidableEq δ] {e : α → PyData} {f : β → PyData} {g : γ → PyData} {k : δ → PyData} {n m l j : Nat}
theorem EnOk.layAll (h : EnOk e n) : ∀ xs : List α, PyData.canLayAll0 (xs.map e) = true
  | [] => rfl
  | x :: xs => by
    rw [List.map_cons]
    show (PyData.canLay0 (e x) && PyData.canLayAll0 (xs.map e)) = true
    rw [h.lay, h.layAll xs]; rfl
theorem EnOk.depAll (h : EnOk e n) : ∀ xs : List α, PyData.depthAll (xs.map e) ≤ n
  | [] => Nat.zero_le _
  | x :: xs => by
    rw [List.map_cons]
    show max (PyData.depth (e x)) (PyData.depthAll (xs.map e)) ≤ n
    exact Nat.max_le.mpr ⟨h.dep x, h.depAll xs⟩
theorem EnOk.eqAll (h : EnOk e n) : ∀ xs ys : List α, PyData.eqvAll (xs.map e) (ys.map e) = decide (xs = ys)
  | [], [] => rfl
  | [], y :: ys => rfl
  | x :: xs, [] => rfl
  | x :: xs, y :: ys => by
    rw [List.map_cons, List.map_cons]
    show (PyData.eqv (e x) (e y) && PyData.eqvAll (xs.map e) (ys.map e)) = _
    rw [h.eq, h.eqAll xs ys]
    by_cases c : x = y
    · by_cases c2 : xs = ys
      · subst c; subst c2; simp
      · simp [c, c2]
    · simp [c]
theorem EnOk.list (h : EnOk e n) : EnOk (eL e) (n + 1) := ⟨fun x => h.layAll x, fun x => Nat.succ_le_succ (h.depAll x), fun x y => h.eqAll x y⟩
theorem EnOk.tup (h : EnOk e n) : EnOk (eT e) (n + 1) := ⟨fun x => h.layAll x, fun x => Nat.succ_le_succ (h.depAll x), fun x y => h.eqAll x y⟩
theorem EnOk.pair (h : EnOk e n) (h2 : EnOk f m) : EnOk (eP e f) (max n m + 1) := ⟨fun x => by
    show (PyData.canLay0 (e x.1) && (PyData.canLay0 (f x.2) && true)) = true
    rw [h.lay, h2.lay]; rfl, fun x => by
    show max (PyData.depth (e x.1)) (max (PyData.depth (f x.2)) 0) + 1 ≤ _
    have := h.dep x.1
    have := h2.dep x.2
    omega, fun x y => by
    show (PyData.eqv (e x.1) (e y.1) && (PyData.eqv (f x.2) (f y.2) && true)) = _
    rw [h.eq, h2.eq]
    obtain ⟨a, b⟩ := x
    obtain ⟨c, d⟩ := y
    by_cases c1 : a = c <;> by_cases c2 : b = d <;> simp [c1, c2]⟩
theorem EnOk.shaped (h : EnOk e n) (hn : n ≤ 64) (x : α) : SeqAt.shaped (e x) = true := by
  unfold SeqAt.shaped
  rw [h.lay x, decide_eq_true (Nat.le_trans (h.dep x) hn)]; rfl
end
section
variable {K : Frag} {env env' env1 env2 : List Sl} {d d' : PyData} {ds es : List PyData} {g : TG} {gs : TGs} {vs : List Nat} {te ti ta tb tl tc : TE} {wi : TI} {α β S R O O1 : Type} {tt : TT} {ts tu tw : TS} {enc : O → Out} {enc1 : O1 → Out} {m n : Option O} {m1 : Option O1}
theorem ex_neT [DecidableEq α] {e : α → PyData} {k : Nat} {x y : α} (h : EnOk e k) (ha : EXq K ta env (e x)) (hb : EXq K tb env (e y)) (hk : k ≤ 64 := by decide) : EX K (tOp (rNeD K) ta tb) env (.bool (!decide (x = y))) := ex_neD ha hb (h.shaped hk x) (h.shaped hk y) (h.eq x y)
theorem ex_is (h : EX K te env d) (e : d = d') : EX K te env d' := by rw [← e]; exact h
theorem exw_catT {e : α → PyData} {xs ys : List α} (ha : EXl K ta env (xs.map e)) (hb : EXl K tb env (ys.map e)) (hl : (xs ++ ys).length ≤ lim) : EXw K (tOp rCat ta tb) env ((xs ++ ys).map e) := by
  rw [List.map_append]
  exact exw_cat ha hb (by rw [← List.map_append, List.length_map]; exact hl)
def unp4 : List α → Option (α × α × α × α)
  | [a, b, c, d] => some (a, b, c, d)
  | _ => none
def unp5 : List α → Option (α × α × α × α × α)
  | [a, b, c, d, e] => some (a, b, c, d, e)
  | _ => none
theorem unp4_ok {xs : List α} {q : α × α × α × α} (h : unp4 xs = some q) : xs = [q.1, q.2.1, q.2.2.1, q.2.2.2] := by
  unfold unp4 at h; split at h
  · cases h; rfl
  · cases h
theorem unp5_ok {xs : List α} {q : α × α × α × α × α} (h : unp5 xs = some q) : xs = [q.1, q.2.1, q.2.2.1, q.2.2.2.1, q.2.2.2.2] := by
  unfold unp5 at h; split at h
  · cases h; rfl
  · cases h
theorem bx_asgB {e : α → PyData} {i : Nat} {x : α} {k : α → Option O} (he : EX K te env (e x)) (h : ∀ v, BX K tu (env.set i (.sh (e v))) enc (k v)) : BX K (tSeq (tAsg te (gName i)) tu) env enc (Option.bind (some x) k) :=
  bx_asg he (EGc.eg (egc_name (i := i) (vs := [i]) List.mem_cons_self)) (h x)
theorem bx_asgWB {e : α → PyData} {i : Nat} {x : List α} {k : List α → Option O} (he : EXw K te env (x.map e)) (h : ∀ v, BX K tu (env.set i (.ow (v.map e))) enc (k v)) : BX K (tSeq (tAsg te (gName i)) tu) env enc (Option.bind (some x) k) := bx_asgW he (h x)
theorem bx_ifRetM {encR : R → Out} {g : R → O} {mr : Option R} {b : Bool} (ht : ET K tt env b) (h1 : b = true → BX K ts env encR mr) (hf : ∀ r e, encR r ≠ .nx e) (hg : ∀ r, enc (g r) = encR r) (h2 : b = false → BX K tu env enc n) : BX K (tSeq (tIfS tt ts tNext) tu) env enc (if b = true then mr.map g else n) := fun o ho F0 H0 F H σ D E c =>
  ht E _ fun F1 H1 z1 => by
    cases b with
    | true =>
      obtain ⟨r, e1, e2⟩ := Option.map_eq_some_iff.mp ho
      subst e2
      rw [hg] at c
      refine h1 rfl r e1 { D with nx := tu D } (E.step z1) ?_
      cases q : encR r with
      | nx e => exact absurd q (hf r e)
      | bk e => rw [q] at c; exact c
      | ct e => rw [q] at c; exact c
      | rt r => rw [q] at c; exact c
      | ex e x W => rw [q] at c; exact c
      | re e t => rw [q] at c; exact c
    | false => exact h2 rfl o ho D (E.step z1) c
theorem ex_inT {i : Int} {ns : List Int} (ha : EX K ta env (.int i)) (hb : EX K tb env (eT PyData.int ns)) : EX K (tOp (rIn K false) ta tb) env (.bool (decide (i ∈ ns))) := fun F0 H0 F H σ E Q q =>
  ha E _ fun v F1 H1 z1 hv => hb (E.step z1) _ fun w F2 H2 z2 hw => by
    cases hv
    cases hw with
    | tup h1 a1 l1 =>
    have := a1.ints
    subst this
    refine ⟨_, _, rfl, .inr (SqT.of (z2.fh _ _ h1)), rfl, flat_ints, ?_⟩
    rw [inV_ints]
    exact q _ F2 H2 (z1.trans z2) (.bl _)
theorem ex_ninT {i : Int} {ns : List Int} (ha : EX K ta env (.int i)) (hb : EX K tb env (eT PyData.int ns)) : EX K (tOp (rIn K true) ta tb) env (.bool (!decide (i ∈ ns))) := fun F0 H0 F H σ E Q q =>
  ha E _ fun v F1 H1 z1 hv => hb (E.step z1) _ fun w F2 H2 z2 hw => by
    cases hv
    cases hw with
    | tup h1 a1 l1 =>
    have := a1.ints
    subst this
    refine ⟨_, _, rfl, .inr (SqT.of (z2.fh _ _ h1)), rfl, flat_ints, ?_⟩
    rw [inV_ints]
    exact q _ F2 H2 (z1.trans z2) (.bl _)
def spLaw (K : Frag) : Sp := fun vs H Q _ => ∃ (a : Addr) (ns : List Int), vs = [.ref a] ∧ SqL K H a (ns.map V.int) ∧ ns.length ≤ 63 ∧ ∀ H', Q (.bl true) H'
theorem law_ok {P : Program} {w : World} {mg : Str → Option Value} {base : Heap} {x qual : Str} {params : Arguments} {body : List Stmt} {scope : Scope} {f : Addr} {fd : FuncData} {N : List Str} {x0 : Str} {k : Nat} {fm : List Int → Option Bool}
    (F : FunD K x qual params body scope [] [] f fd) (S : FnScope N [x0] scope)
    (hb : ∀ (cdv : Value) (A' : Around) (outer : List Env) (s : Shared) (H : Hp) (E : XK), Room k (A'.deeper (envOfC qual scope s.heap.objs.size f cdv)) →
      ∃ t, PSs (cxOf CX0 P w K mg base N qual scope f cdv A' outer s H E).nox body t ∧ ∀ ns, BX K t (.sc (ns.map PyData.int) :: List.replicate (N.length - 1) .un) (fun b : Bool => .rt (.sh (.bool b))) (fm ns))
    (ht : ∀ ns : List Int, ns.length ≤ 63 → fm ns = some true) : FnOk P w K mg base CX0 (k + 1) f fd [x0] (spLaw K) := by
  refine F.ok S (fun vs H Q E h => ?_) (fun cdv A' outer s H vs Q E hr h => ?_)
  · obtain ⟨a, ns, rfl, _⟩ := h
    rfl
  · obtain ⟨a, ns, rfl, hS, hl, q⟩ := h
    obtain ⟨t, p, b⟩ := hb cdv A' outer s H E hr
    refine ⟨t, PSs.nox p, b ns true (ht ns hl) (F0 := H) (H0 := H) (F := H) (H := H) _ (EnvOk.flat (Fz.refl (Evl.Ex.refl H)) ?_ fun i sl h => ?_) ?_⟩
    · show _ = _
      unfold L2.start
      simp only [List.length_append, List.length_map, List.length_cons, List.length_nil, List.length_replicate]
      omega
    · unfold L2.start
      cases i with
      | zero =>
        simp at h
        subst h
        refine ⟨_, rfl, ⟨a, _, rfl, hS, DqAll.ints' ns, ?_⟩, rfl⟩
        rw [List.length_map]
        exact Nat.le_trans hl (by decide)
      | succ i =>
        rw [List.getElem?_cons_succ] at h
        obtain ⟨h1, h2⟩ := List.getElem?_eq_some_iff.mp h
        rw [List.getElem_replicate] at h2
        subst h2
        rw [List.length_replicate] at h1
        refine ⟨none, ?_, trivial, rfl⟩
        show (some (V.ref a) :: List.replicate (N.length - 1) none)[i + 1]? = _
        rw [List.getElem?_cons_succ, List.getElem?_replicate, if_pos h1]
    · exact fun F1 H1 v z hv => by
        cases hv
        exact q H1
end
end Rb

set_option Elab.async false
set_option linter.all false
set_option maxRecDepth 100000
set_option maxHeartbeats 2000000
namespace Rb
open PySem PySem.Spec PyProof.Rows L2
section
variable {κ β γ : Type} [DecidableEq κ]
def lookA (kvs : List (κ × β)) (k : κ) : Option β := (kvs.find? fun kv => decide (kv.1 = k)).map (·.2)
def putA (kvs : List (κ × β)) (k : κ) (v : β) : List (κ × β) := if (kvs.any fun kv => decide (kv.1 = k)) = true then kvs.map (fun kv => if kv.1 = k then (kv.1, v) else kv) else kvs ++ [(k, v)]
theorem lookA_cons {p : κ × β} {r : List (κ × β)} {k : κ} : lookA (p :: r) k = if p.1 = k then some p.2 else lookA r k := by
  unfold lookA
  rw [List.find?_cons]
  by_cases c : p.1 = k
  · simp [c]
  · simp [c]
theorem KvOk.none {F : Hp} : ∀ {ws : List (κ × V)} {kvs : List (κ × PyData)} {k : κ}, KvOk F ws kvs → lookA kvs k = none → valV ws k = none
  | [], [], k, _, h => rfl
  | [], _ :: _, _, h, _ => by have := h.1; simp at this
  | _ :: _, [], _, h, _ => by have := h.1; simp at this
  | p :: ws, q :: kvs, k, h, hl => by
    obtain ⟨h1, h2⟩ := h
    rw [List.map_cons, List.map_cons] at h1 h2
    injection h1 with e1 e2
    cases h2 with
    | cons a b =>
      rw [lookA_cons] at hl
      by_cases c : q.1 = k
      · rw [if_pos c] at hl; cases hl
      · rw [if_neg c] at hl
        rw [valV_neg (by rw [e1]; exact c)]
        exact KvOk.none (ws := ws) (kvs := kvs) ⟨e2, b⟩ hl
theorem any_keys : ∀ {ws : List (κ × V)} {kvs : List (κ × PyData)} {k : κ}, ws.map (·.1) = kvs.map (·.1) → (ws.any fun kv => decide (kv.1 = k)) = (kvs.any fun kv => decide (kv.1 = k))
  | [], [], k, _ => rfl
  | [], _ :: _, _, h => by simp at h
  | _ :: _, [], _, h => by simp at h
  | p :: ws, q :: kvs, k, h => by
    rw [List.map_cons, List.map_cons] at h
    injection h with e1 e2
    rw [List.any_cons, List.any_cons, any_keys e2, e1]
theorem map_put {F : Hp} {v : V} {d : PyData} (hv : Dq F v d) (k : κ) : ∀ {ws : List (κ × V)} {kvs : List (κ × PyData)}, KvOk F ws kvs → KvOk F (ws.map fun kv => if kv.1 = k then (kv.1, v) else kv) (kvs.map fun kv => if kv.1 = k then (kv.1, d) else kv)
  | [], [], h => h
  | [], _ :: _, h => by have := h.1; simp at this
  | _ :: _, [], h => by have := h.1; simp at this
  | p :: ws, q :: kvs, h => by
    obtain ⟨h1, h2⟩ := h
    rw [List.map_cons, List.map_cons] at h1 h2
    injection h1 with e1 e2
    cases h2 with
    | cons a b =>
      obtain ⟨i1, i2⟩ := map_put hv k (ws := ws) (kvs := kvs) ⟨e2, b⟩
      refine ⟨?_, ?_⟩
      · simp only [List.map_cons]
        rw [i1]
        congr 1
        by_cases c : q.1 = k
        · rw [if_pos c, if_pos (by rw [e1]; exact c)]; exact e1
        · rw [if_neg c, if_neg (by rw [e1]; exact c)]; exact e1
      · simp only [List.map_cons]
        refine .cons ?_ i2
        by_cases c : q.1 = k
        · rw [if_pos c, if_pos (by rw [e1]; exact c)]; exact hv
        · rw [if_neg c, if_neg (by rw [e1]; exact c)]; exact a
theorem KvOk.put {F : Hp} {ws : List (κ × V)} {kvs : List (κ × PyData)} {k : κ} {v : V} {d : PyData} (h : KvOk F ws kvs) (hv : Dq F v d) : KvOk F (putK ws k v) (putA kvs k d) := by
  unfold putK putA
  rw [any_keys h.1]
  split
  · exact map_put hv k h
  · refine ⟨?_, ?_⟩
    · rw [List.map_append, List.map_append, h.1]; rfl
    · rw [List.map_append, List.map_append]; exact h.2.app (.cons hv .nil)
theorem KvOk.len {F : Hp} {ws : List (κ × V)} {kvs : List (κ × PyData)} (h : KvOk F ws kvs) : ws.length = kvs.length := by
  have := congrArg List.length h.1
  rw [List.length_map, List.length_map] at this
  exact this
end
section
variable {K : Frag} {env env' : List Sl} {d : PyData} {te ty ta tb tv : TE} {α β O : Type} [DecidableEq α] {tu : TS} {enc : O → Out} {m : Option O} {i : Nat} {e : β → PyData}
end
end Rb

set_option Elab.async false
set_option linter.all false
set_option maxRecDepth 100000
set_option maxHeartbeats 2000000
namespace Rb
open PySem PySem.Spec PyProof.Rows L2
set_option maxHeartbeats 1000000 in
section
variable {X : Cx} {K : Frag} {e : Expr} {ta : TA} {p pos tpos : Pos} {elts : List Expr} {kk : Nat}
end
section
variable {K : Frag} {env : List Sl} {ta tb tl te tc : TE} {α β : Type} {e : α → PyData} {f : β → PyData}
def enumF : Int → List α → List (Int × α)
  | _, [] => []
  | i, x :: xs => (i, x) :: enumF (i + 1) xs
def enumI (xs : List α) : List (Int × α) := enumF 0 xs
theorem enumF_len : ∀ (i : Int) (xs : List α), (enumF i xs).length = xs.length
  | _, [] => rfl
  | i, x :: xs => by unfold enumF; rw [List.length_cons, List.length_cons, enumF_len]
theorem enumF_get : ∀ (i : Int) (xs : List α) (j : Nat), (enumF i xs)[j]? = xs[j]?.map fun x => (i + j, x)
  | _, [], j => by simp [enumF]
  | i, x :: xs, 0 => by simp [enumF]
  | i, x :: xs, j + 1 => by
    unfold enumF
    rw [List.getElem?_cons_succ, List.getElem?_cons_succ, enumF_get]
    congr 1
    funext y
    have : i + 1 + (j : Int) = i + ((j + 1 : Nat) : Int) := by omega
    rw [this]
theorem enumI_get (xs : List α) (j : Nat) : (enumI xs)[j]? = xs[j]?.map fun x => ((j : Int), x) := by
  unfold enumI
  rw [enumF_get]
  congr 1
  funext y
  rw [Int.zero_add]
theorem pair_ok {F H : Hp} {T : Addr} {x : V} {d d1 : PyData} {y : V} (e : Ex F H) (hT : H T = none) (hx : Dq F x d) (hy : Dq F y d1) : Fz F H (upd F T (.tup [y, x])) (upd H T (.tup [y, x])) ∧ Dq (upd F T (.tup [y, x])) (.ref T) (.tuple [d1, d]) := by
  have hF : F T = none := Evl.fresh_back e hT
  refine ⟨Fz.new e hT, .tup upd_same (.cons (Dq.mono (Evl.Ex.new hF) _ _ hy) (.cons (Dq.mono (Evl.Ex.new hF) _ _ hx) .nil)) (by show 2 ≤ lim; decide)⟩
theorem iteL {a : Addr} {vs : List V} {ds : List α} {P : Hp → Hp → Prop} (hP : ∀ F H, P F H → Ex F H → H a = some (.lst vs) ∧ DqAll F vs (ds.map e)) : IterP (Ite K a) P ((enumI ds).map (eP PyData.int e)) := by
  refine ⟨fun F H i d p ex hd => ?_, fun F H p ex => ?_⟩
  · obtain ⟨h1, h2⟩ := hP F H p ex
    rw [List.getElem?_map, enumI_get] at hd
    obtain ⟨q, hq, rfl⟩ := Option.map_eq_some_iff.mp hd
    obtain ⟨x, hx, rfl⟩ := Option.map_eq_some_iff.mp hq
    obtain ⟨v, hv, dv⟩ := h2.get (i := i) (d := e x) (by rw [List.getElem?_map, hx]; rfl)
    refine ⟨⟨vs, v, SqL.of h1, hv⟩, fun y H' yy => ?_⟩
    obtain ⟨T, x', rfl, hT, rfl, hx'⟩ := yy
    have e1 := (hx' vs (SqL.of h1)).symm.trans hv
    cases e1
    exact ⟨_, (pair_ok ex hT dv (.int _)).1, (pair_ok ex hT dv (.int _)).2⟩
  · obtain ⟨h1, h2⟩ := hP F H p ex
    refine ⟨vs, SqL.of h1, ?_⟩
    rw [List.length_map]
    unfold enumI
    rw [enumF_len, h2.len, List.length_map]
    exact Nat.le_refl _
theorem enum_lim {xs : List α} (h : (xs.map e).length ≤ lim) : ((enumI xs).map (eP PyData.int e)).length ≤ lim := by
  rw [List.length_map] at h ⊢
  unfold enumI
  rw [enumF_len]
  exact h
theorem eis_enumL {xs : List α} (h : EX K tl env (eL e xs)) : EIs K (iEnum K (tCons tl tNil)) env ((enumI xs).map (eP PyData.int e)) := fun F0 H0 F H σ E R r => h E _ fun v F' H' z hv => by
  cases hv with
  | lst h1 h2 h3 => exact ⟨_, _, rfl, SqL.of (z.fh _ _ h1), r _ F' H' z (enum_lim h3) (iteL fun F1 H1 p ex => ⟨ex _ _ (p _ _ h1), DqAll.mono p _ _ h2⟩)⟩
theorem zip_get {xs : List α} {ys : List β} {i : Nat} {p : α × β} (h : (xs.zip ys)[i]? = some p) : xs[i]? = some p.1 ∧ ys[i]? = some p.2 := by
  rw [List.getElem?_zip_eq_some] at h
  exact h
theorem zip_lim {xs : List α} {ys : List β} (h : (xs.map e).length ≤ lim) : ((xs.zip ys).map (eP e f)).length ≤ lim := by
  rw [List.length_map] at h ⊢
  rw [List.length_zip]
  omega
theorem itzL {a b : Addr} {vs ws : List V} {xs : List α} {ys : List β} {P : Hp → Hp → Prop} (hP : ∀ F H, P F H → Ex F H → H a = some (.lst vs) ∧ DqAll F vs (xs.map e) ∧ H b = some (.lst ws) ∧ DqAll F ws (ys.map f)) : IterP (Itz K a b) P ((xs.zip ys).map (eP e f)) := by
  refine ⟨fun F H i d p ex hd => ?_, fun F H p ex => ?_⟩
  · obtain ⟨h1, h2, h3, h4⟩ := hP F H p ex
    rw [List.getElem?_map] at hd
    obtain ⟨q, hq, rfl⟩ := Option.map_eq_some_iff.mp hd
    obtain ⟨hx, hy⟩ := zip_get hq
    obtain ⟨v, hv, dv⟩ := h2.get (i := i) (d := e q.1) (by rw [List.getElem?_map, hx]; rfl)
    obtain ⟨w, hw, dw⟩ := h4.get (i := i) (d := f q.2) (by rw [List.getElem?_map, hy]; rfl)
    refine ⟨⟨vs, ws, v, w, SqL.of h1, SqL.of h3, hv, hw⟩, fun y H' yy => ?_⟩
    obtain ⟨T, x', y', rfl, hT, rfl, hx', hy'⟩ := yy
    have e1 := (hx' vs (SqL.of h1)).symm.trans hv
    have e2 := (hy' ws (SqL.of h3)).symm.trans hw
    cases e1; cases e2
    exact ⟨_, (pair_ok ex hT dw dv).1, (pair_ok ex hT dw dv).2⟩
  · obtain ⟨h1, h2, h3, h4⟩ := hP F H p ex
    refine ⟨vs, ws, SqL.of h1, SqL.of h3, ?_⟩
    have l1 := h2.len
    have l2 := h4.len
    rw [List.length_map] at l1 l2
    rw [List.length_map, List.length_zip]
    omega
theorem itzT {a b : Addr} {vs ws : List V} {xs : List α} {ys : List β} {P : Hp → Hp → Prop} (hP : ∀ F H, P F H → Ex F H → H a = some (.tup vs) ∧ DqAll F vs (xs.map e) ∧ H b = some (.tup ws) ∧ DqAll F ws (ys.map f)) : IterP (RZ.ItzT K a b) P ((xs.zip ys).map (eP e f)) := by
  refine ⟨fun F H i d p ex hd => ?_, fun F H p ex => ?_⟩
  · obtain ⟨h1, h2, h3, h4⟩ := hP F H p ex
    rw [List.getElem?_map] at hd
    obtain ⟨q, hq, rfl⟩ := Option.map_eq_some_iff.mp hd
    obtain ⟨hx, hy⟩ := zip_get hq
    obtain ⟨v, hv, dv⟩ := h2.get (i := i) (d := e q.1) (by rw [List.getElem?_map, hx]; rfl)
    obtain ⟨w, hw, dw⟩ := h4.get (i := i) (d := f q.2) (by rw [List.getElem?_map, hy]; rfl)
    refine ⟨⟨vs, ws, v, w, SqT.of h1, SqT.of h3, hv, hw⟩, fun y H' yy => ?_⟩
    obtain ⟨T, x', y', rfl, hT, rfl, hx', hy'⟩ := yy
    have e1 := (hx' vs (SqT.of h1)).symm.trans hv
    have e2 := (hy' ws (SqT.of h3)).symm.trans hw
    cases e1; cases e2
    exact ⟨_, (pair_ok ex hT dw dv).1, (pair_ok ex hT dw dv).2⟩
  · obtain ⟨h1, h2, h3, h4⟩ := hP F H p ex
    refine ⟨vs, ws, SqT.of h1, SqT.of h3, ?_⟩
    have l1 := h2.len
    have l2 := h4.len
    rw [List.length_map] at l1 l2
    rw [List.length_map, List.length_zip]
    omega
theorem eis_zipL {xs : List α} {ys : List β} (ha : EX K ta env (eL e xs)) (hb : EX K tb env (eL f ys)) : EIs K (RZ.iZipA K (tCons ta (tCons tb tNil))) env ((xs.zip ys).map (eP e f)) := fun F0 H0 F H σ E R r => ha E _ fun v F1 H1 z1 hv => hb (E.step z1) _ fun w F2 H2 z2 hw => by
  cases hv with
  | lst h1 h2 h3 =>
    cases hw with
    | lst h4 h5 h6 =>
      exact ⟨_, _, _, _, rfl, .inl ⟨SqL.of (z2.fh _ _ (z2.f _ _ h1)), SqL.of (z2.fh _ _ h4), r _ F2 H2 (z1.trans z2) (zip_lim h3) (itzL fun F3 H3 p ex => ⟨ex _ _ (p _ _ (z2.f _ _ h1)), DqAll.mono (z2.f.trans p) _ _ h2, ex _ _ (p _ _ h4), DqAll.mono p _ _ h5⟩)⟩⟩
theorem eis_zipT {xs : List α} {ys : List β} (ha : EX K ta env (eT e xs)) (hb : EX K tb env (eT f ys)) : EIs K (RZ.iZipA K (tCons ta (tCons tb tNil))) env ((xs.zip ys).map (eP e f)) := fun F0 H0 F H σ E R r => ha E _ fun v F1 H1 z1 hv => hb (E.step z1) _ fun w F2 H2 z2 hw => by
  cases hv with
  | tup h1 h2 h3 =>
    cases hw with
    | tup h4 h5 h6 =>
      exact ⟨_, _, _, _, rfl, .inr ⟨SqT.of (z2.fh _ _ (z2.f _ _ h1)), SqT.of (z2.fh _ _ h4), r _ F2 H2 (z1.trans z2) (zip_lim h3) (itzT fun F3 H3 p ex => ⟨ex _ _ (p _ _ (z2.f _ _ h1)), DqAll.mono (z2.f.trans p) _ _ h2, ex _ _ (p _ _ h4), DqAll.mono p _ _ h5⟩)⟩⟩
end
section
variable {K : Frag} {env : List Sl} {ta tb tl te tc : TE} {α β : Type} {e : α → PyData}
theorem pe_bmK {X : Cx} {K : Frag} {o e : Expr} {es : List Expr} {to : TE} {t : TA} {name : Str} {apos cpos : Pos} {T id : String} {r : V → List V → Hp → VK → Prop} (pa : PlainAttrs T) (slot : Slot T name id) (hty : typeOf (.builtin id) = pure (.type "method_descriptor")) (hm : MtR X id r) (ho : PE X o to) (ha : PA X (e :: es) t)
    (hbase : attributeBase o name X.env (eval o X.env) = eval o X.env := by rfl)
    (hfew : ((backTo cpos (starEach (e :: es) X.env)).all (fun x => !x.1) && (backToKw cpos (keywordEach [] X.env)).all (fun x => x.1.isSome)
      && decide ((e :: es).length + ([] : List Keyword).length + (if ([] : List Keyword).isEmpty then 0 else 1) < 30)) = true := by rfl)
    (hline : (apos.endLine == cpos.line) = true := by rfl) (hs : starEach (e :: es) X.env = (false, eval e X.env) :: starEach es X.env := by rfl) (hplain : (backTo cpos (starEach es X.env)).any (·.1) = false := by rfl) (h : X.K = K := by rfl) :
    PE X (.Call (.Attribute o name apos) (e :: es) [] cpos) (tBM K T r to t) := by subst h; exact pe_bm pa slot hty hm ho ha hbase hfew hline hs hplain
end
end Rb

set_option Elab.async false
set_option linter.all false
set_option maxRecDepth 100000
set_option maxHeartbeats 2000000
namespace Rb
open PySem PySem.Spec PyProof.Rows L2
section
variable {X : Cx} {K : Frag} {tg e e2 l a b : Expr} {ta tb tl te td ty : TE} {tA : TA} {p pos tpos : Pos} {elts : List Expr} {kk : Nat}
theorem pi_zipK (hg : Gl X "zip") (hm : X.mg "zip" = none) (ha : PA X [e, e2] tA)
    (hs : starEach [e, e2] X.env = (false, eval e X.env) :: starEach [e2] X.env := by rfl) (hpl : (backTo pos (starEach [e2] X.env)).any (·.1) = false := by rfl) (h : X.K = K := by rfl) :
    PI X (.Tuple elts kk tpos) (.Call (.Name "zip" p) [e, e2] [] pos) (RZ.iZipA K tA) := by subst h; exact RZ.pi_zipA hg hm ha hs hpl
theorem call_isiK' (h : X.K = K := by rfl) : CallR X (.builtin "isinstance") (rIsi K) := by subst h; exact call_isi
end
def isBD : PyData → Bool | .bool _ => true | _ => false
def isID : PyData → Bool | .bool _ => true | .int _ => true | _ => false
def isLD : PyData → Bool | .list _ => true | _ => false
def isTD : PyData → Bool | .tuple _ => true | _ => false
def isSD : PyData → Bool | .str _ => true | _ => false
def itemsD : PyData → Option (List PyData) | .list xs => some xs | .tuple xs => some xs | _ => none
def lenD (d : PyData) : Option Int := (itemsD d).map fun xs => (xs.length : Int)
def zipD : PyData → PyData → Option (List (PyData × PyData))
  | .list xs, .list ys => some (xs.zip ys)
  | .tuple xs, .tuple ys => some (xs.zip ys)
  | _, _ => none
abbrev eD (d : PyData) : PyData := d
section
variable {K : Frag} {env : List Sl} {ta tb : TE} {d d' : PyData}
def tyD : PyData → String
  | .none => "NoneType" | .bool _ => "bool" | .int _ => "int" | .str _ => "str" | .list _ => "list" | .tuple _ => "tuple" | .dict _ => "dict"
theorem Dq.tyx {H : Hp} {v : V} (h : Dq H v d) : TyX K H v (.type (tyD d)) := by
  cases h with
  | non => exact .base .non
  | bl b => exact .base (.bl b)
  | int i => exact .base (.int i)
  | str x => exact .base (.str x)
  | lst h => exact .base (.lst h)
  | tup h => exact .base (.tup h)
  | dct h => exact .fDict h
theorem ex_isBD (ha : EX K ta env d) : EX K (tCB (rIsi K) (tCons ta (tCons (tC (.ty "bool")) tNil))) env (.bool (isBD d)) := fun F0 H0 F H σ E Q q =>
  ha E _ fun v F1 H1 z1 hv => by
    have t := (Dq.mono z1.fh _ _ hv).tyx (K := K)
    have k : kitB (tyD d) "bool" = some (isBD d) := by cases hv <;> first | exact (show kitB "NoneType" "bool" = some false by decide +kernel) | exact (show kitB "bool" "bool" = some true by decide +kernel) | exact (show kitB "int" "bool" = some false by decide +kernel) | exact (show kitB "str" "bool" = some false by decide +kernel) | exact (show kitB "list" "bool" = some false by decide +kernel) | exact (show kitB "tuple" "bool" = some false by decide +kernel) | exact (show kitB "dict" "bool" = some false by decide +kernel)
    exact ⟨_, _, _, _, _, rfl, .ty "bool", t, kit_ty k, q _ F1 H1 z1 (.bl _)⟩
theorem ex_isID (ha : EX K ta env d) : EX K (tCB (rIsi K) (tCons ta (tCons (tC (.ty "int")) tNil))) env (.bool (isID d)) := fun F0 H0 F H σ E Q q =>
  ha E _ fun v F1 H1 z1 hv => by
    have t := (Dq.mono z1.fh _ _ hv).tyx (K := K)
    have k : kitB (tyD d) "int" = some (isID d) := by cases hv <;> first | exact (show kitB "NoneType" "int" = some false by decide +kernel) | exact (show kitB "bool" "int" = some true by decide +kernel) | exact (show kitB "int" "int" = some true by decide +kernel) | exact (show kitB "str" "int" = some false by decide +kernel) | exact (show kitB "list" "int" = some false by decide +kernel) | exact (show kitB "tuple" "int" = some false by decide +kernel) | exact (show kitB "dict" "int" = some false by decide +kernel)
    exact ⟨_, _, _, _, _, rfl, .ty "int", t, kit_ty k, q _ F1 H1 z1 (.bl _)⟩
theorem ex_isLD (ha : EX K ta env d) : EX K (tCB (rIsi K) (tCons ta (tCons (tC (.ty "list")) tNil))) env (.bool (isLD d)) := fun F0 H0 F H σ E Q q =>
  ha E _ fun v F1 H1 z1 hv => by
    have t := (Dq.mono z1.fh _ _ hv).tyx (K := K)
    have k : kitB (tyD d) "list" = some (isLD d) := by cases hv <;> first | exact (show kitB "NoneType" "list" = some false by decide +kernel) | exact (show kitB "bool" "list" = some false by decide +kernel) | exact (show kitB "int" "list" = some false by decide +kernel) | exact (show kitB "str" "list" = some false by decide +kernel) | exact (show kitB "list" "list" = some true by decide +kernel) | exact (show kitB "tuple" "list" = some false by decide +kernel) | exact (show kitB "dict" "list" = some false by decide +kernel)
    exact ⟨_, _, _, _, _, rfl, .ty "list", t, kit_ty k, q _ F1 H1 z1 (.bl _)⟩
theorem ex_isTD (ha : EX K ta env d) : EX K (tCB (rIsi K) (tCons ta (tCons (tC (.ty "tuple")) tNil))) env (.bool (isTD d)) := fun F0 H0 F H σ E Q q =>
  ha E _ fun v F1 H1 z1 hv => by
    have t := (Dq.mono z1.fh _ _ hv).tyx (K := K)
    have k : kitB (tyD d) "tuple" = some (isTD d) := by cases hv <;> first | exact (show kitB "NoneType" "tuple" = some false by decide +kernel) | exact (show kitB "bool" "tuple" = some false by decide +kernel) | exact (show kitB "int" "tuple" = some false by decide +kernel) | exact (show kitB "str" "tuple" = some false by decide +kernel) | exact (show kitB "list" "tuple" = some false by decide +kernel) | exact (show kitB "tuple" "tuple" = some true by decide +kernel) | exact (show kitB "dict" "tuple" = some false by decide +kernel)
    exact ⟨_, _, _, _, _, rfl, .ty "tuple", t, kit_ty k, q _ F1 H1 z1 (.bl _)⟩
theorem ex_isSD (ha : EX K ta env d) : EX K (tCB (rIsi K) (tCons ta (tCons (tC (.ty "str")) tNil))) env (.bool (isSD d)) := fun F0 H0 F H σ E Q q =>
  ha E _ fun v F1 H1 z1 hv => by
    have t := (Dq.mono z1.fh _ _ hv).tyx (K := K)
    have k : kitB (tyD d) "str" = some (isSD d) := by cases hv <;> first | exact (show kitB "NoneType" "str" = some false by decide +kernel) | exact (show kitB "bool" "str" = some false by decide +kernel) | exact (show kitB "int" "str" = some false by decide +kernel) | exact (show kitB "str" "str" = some true by decide +kernel) | exact (show kitB "list" "str" = some false by decide +kernel) | exact (show kitB "tuple" "str" = some false by decide +kernel) | exact (show kitB "dict" "str" = some false by decide +kernel)
    exact ⟨_, _, _, _, _, rfl, .ty "str", t, kit_ty k, q _ F1 H1 z1 (.bl _)⟩
theorem ex_lenD {n : Int} (ha : EX K ta env d) (h : lenD d = some n) : EX K (tCB (fun ws H Q => ∃ x n, ws = [x] ∧ LenV K x H n ∧ Q (.int n) H) (tCons ta tNil)) env (.int n) := by
  cases d with
  | list xs =>
    cases h
    have := ex_lenL (e := id) (xs := xs) (EX.l (ds := xs.map id) (by rw [List.map_id]; exact ha))
    exact this
  | tuple xs =>
    cases h
    have := ex_lenT (e := id) (xs := xs) (ta := ta) (K := K) (env := env) (by rw [List.map_id]; exact ha)
    exact this
  | _ => cases h
theorem ei_zipD {ps : List (PyData × PyData)} (ha : EX K ta env d) (hb : EX K tb env d') (h : zipD d d' = some ps) : EIs K (RZ.iZipA K (tCons ta (tCons tb tNil))) env (ps.map (eP eD eD)) := by
  cases d with
  | list xs =>
    cases d' with
    | list ys =>
      cases h
      exact eis_zipL (e := eD) (f := eD) (by show EX K ta env (.list (xs.map id)); rw [List.map_id]; exact ha) (by show EX K tb env (.list (ys.map id)); rw [List.map_id]; exact hb)
    | _ => cases h
  | tuple xs =>
    cases d' with
    | tuple ys =>
      cases h
      exact eis_zipT (e := eD) (f := eD) (by show EX K ta env (.tuple (xs.map id)); rw [List.map_id]; exact ha) (by show EX K tb env (.tuple (ys.map id)); rw [List.map_id]; exact hb)
    | _ => cases h
  | _ => cases h
def eqLeaf : PyData → PyData → Option Bool
  | .none, .none => some (true)
  | .none, .int _ => some (false)
  | .int _, .none => some (false)
  | .none, .bool _ => some (false)
  | .bool _, .none => some (false)
  | .none, .str _ => some (false)
  | .str _, .none => some (false)
  | .int i, .int j => some (decide (i = j))
  | .bool i, .bool j => some ((i == j))
  | .str i, .str j => some (decide (i = j))
  | .int _, .str _ => some (false)
  | .str _, .int _ => some (false)
  | .bool _, .str _ => some (false)
  | .str _, .bool _ => some (false)
  | _, _ => none
theorem ex_eqLeaf {b : Bool} (ha : EX K ta env d) (hb : EX K tb env d') (h : eqLeaf d d' = some b) : EX K (tOp rEq ta tb) env (.bool b) := fun F0 H0 F H σ E Q q =>
  ha E _ fun v F1 H1 z1 h1 => hb (E.step z1) _ fun w F2 H2 z2 h2 => by
    have k : scal v w = true ∧ decide (v = w) = b := by
      cases h1 <;> cases h2 <;> first
        | (cases h; exact ⟨rfl, decide_eq_true rfl⟩)
        | (cases h; exact ⟨rfl, decide_eq_false fun z => nomatch z⟩)
        | (rename_i x y; cases h; refine ⟨rfl, ?_⟩; by_cases c : x = y
           · subst c; simp
           · have : ¬ (V.int x = V.int y) := fun z => c (V.int.inj z)
             simp [c])
        | (rename_i x _ y _; cases h; refine ⟨rfl, ?_⟩; by_cases c : x = y
           · subst c; simp
           · simp [c])
        | (rename_i x y; cases h; refine ⟨rfl, ?_⟩; cases x <;> cases y <;> rfl)
        | cases h
    refine ⟨k.1, ?_⟩
    rw [k.2]
    exact q _ F2 H2 (z1.trans z2) (.bl _)
end
section
variable {K : Frag} {env : List Sl} {te ta tb : TE} {tr : TA} {d : PyData} {ds : List PyData} {α : Type}
def cutP (xs : List α) (lo hi : Option Int) : Prop := ¬ (HT.sIx xs.length 0 lo = 0 ∧ HT.sIx xs.length xs.length hi = xs.length)
instance (xs : List α) (lo hi : Option Int) : Decidable (cutP xs lo hi) := inferInstanceAs (Decidable (¬ _))
end
theorem fn_void {P : Program} {w : World} {K : Frag} {mg : Str → Option Value} {base : Heap} {x qual : Str} {params : Arguments} {body : List Stmt} {scope : Scope} {f : Addr} {fd : FuncData} {N ps : List Str} {k : Nat} {I : List PyData → Rv → Prop}
    (F : FunD K x qual params body scope [] [] f fd) (S : FnScope N ps scope) (hI : ∀ ds r, ¬ I ds r) : FnOk P w K mg base CX0 (k + 1) f fd ps (Prom I) := by
  refine F.ok S (fun vs H Q E h => ?_) (fun cdv A' outer s H vs Q E hr h => ?_)
  · obtain ⟨_, ds, r, _, _, h, _⟩ := h
    exact absurd h (hI ds r)
  · obtain ⟨_, ds, r, _, _, h, _⟩ := h
    exact absurd h (hI ds r)
end Rb

set_option Elab.async false
set_option linter.all false
set_option maxRecDepth 100000
set_option maxHeartbeats 4000000
namespace Rb
open PySem PySem.Spec PyProof.Rows L2
def RetX (K : Frag) (F H : Hp) (Q : VK) (E : XK) : Rv ⊕ Exn → Prop
  | .inl r => RetOk F H Q r
  | .inr x => ∀ F' H', Fz F H F' H' → exW K x F' H' fun c d => E c d H'
def PromX (K : Frag) (I : List PyData → Rv ⊕ Exn → Prop) : Sp := fun vs H Q E => ∃ F ds r, Ex F H ∧ DqAll F vs ds ∧ I ds r ∧ RetX K F H Q E r
def bindX {α O : Type} (m : Option (Except Exn α)) (r : Exn → O) (k : α → Option O) : Option O := m.bind fun y => match y with
  | .error x => some (r x)
  | .ok v => k v
def tryM {α O : Type} (m : Option (Except Exn α)) (k : α → Option O) (h : Exn → Option O) : Option O := m.bind fun y => match y with
  | .error x => h x
  | .ok v => k v
abbrev exc (n : Str) : Exn := ⟨n, none⟩
section
variable {K : Frag} {env env' env1 : List Sl} {d : PyData} {ds es : List PyData} {ta tb te : TE} {tr : TA} {W : WX} {α β O S : Type} {ts tu : TS} {enc : O → Out} {m n : Option O} {x : Exn}
def ERR (K : Frag) (W : WX) (te : TE) (env : List Sl) (x : Exn) : Prop := ∀ ⦃F0 H0 F H : Hp⦄ ⦃σ : List (Option V)⦄, EnvOk K F0 H0 F H σ env → ∀ Q : VK, (∀ F' H', Fz F H F' H' → exW K x F' H' fun c d => W c d σ H') → te σ H Q
theorem bx_err {o : O} (he : ERR K W te env x) (hn : enc o = .ex env' x W) (hw : Wk env env') (ht : ∀ (D : Ends) (σ : L2.St) (H : Hp), ∃ Q : VK, te σ H Q → ts D σ H) : BX K ts env enc (some o) := fun o' ho F0 H0 F H σ D e c => by
  cases ho
  rw [hn] at c
  obtain ⟨Q, q⟩ := ht D σ H
  exact q (he e Q fun F1 H1 z1 => c F1 H1 σ ((e.step z1).weak hw))
theorem bx_bindX {mm : Option (Except Exn α)} {r : Exn → O} {k : α → Option O} (h1 : ∀ x, mm = some (.error x) → BX K ts env enc (some (r x))) (h2 : ∀ v, mm = some (.ok v) → BX K ts env enc (k v)) : BX K ts env enc (bindX mm r k) := fun o ho => by
  unfold bindX at ho
  obtain ⟨y, e1, e2⟩ := Option.bind_eq_some_iff.mp ho
  cases y with
  | error x => exact h1 x e1 o e2
  | ok v => exact h2 v e1 o e2
end
structure FnX (P : Program) (w : World) (K : Frag) (mg : Str → Option Value) (base : Heap) (x : Str) (k : Nat) (I : List PyData → Rv ⊕ Exn → Prop) : Prop where
  ex : ∃ f fd ps, FnOk P w K mg base (L2N.CX P w) k f fd ps (PromX K I) ∧ mg x = some (.ref f) ∧ PySem.W.keepIn K (.ref f) = true ∧ Binds K fd ps []
section
variable {X : Cx} {K : Frag} {x : Str} {k : Nat} {I : List PyData → Rv ⊕ Exn → Prop} {e : Expr} {es : List Expr} {t : TA} {p pos : Pos} {W : WX}
theorem pass_none (σ : L2.St) : PassesAt (L2N.CX X.prog X.w) X σ fun _ _ _ => False := fun _ _ _ _ _ _ c => by
  obtain ⟨_, _, _, _, _, _, _, _, _, _, _, _, z⟩ := c
  exact z.elim
end
structure ExcF (K : Frag) (mg : Str → Option Value) (x : Str) : Prop where
  g : mg x = some (.ref (He.ga K x))
  e : (He.Fa.exc x).ok K = true
structure ExF (K : Frag) (x : Str) : Prop where
  rib : PySem.W.exmOne K (.ref (He.ga K x)) (.ref (He.ga K "RibbonError")) = some true
  exm : ∀ y, y ∈ exNames → PySem.W.exmOne K (.ref (He.ga K x)) (.ref (He.ga K y)) = some (decide (x = y)) ∧ PySem.W.kitOne K (.ref (He.ga K x)) (.ref (He.ga K y)) = some (decide (x = y))
  ve : PySem.W.kitOne K (.ref (He.ga K x)) (.type "ValueError") = some true
  c : ExcC K (He.ga K x)
theorem exB_ok {K : Frag} (h : exB K = true) {x : Str} (hx : x ∈ exNames) : ExF K x := by
  unfold exB at h
  have h1 := List.all_eq_true.mp h x hx
  simp only [Bool.and_eq_true] at h1
  obtain ⟨⟨⟨⟨⟨⟨⟨⟨⟨⟨a, b⟩, c⟩, d1⟩, d2⟩, d3⟩, d4⟩, d5⟩, d6⟩, d7⟩, d8⟩ := h1
  exact ⟨of_decide_eq_true a, fun y hy => of_decide_eq_true (List.all_eq_true.mp b y hy), of_decide_eq_true c, ⟨of_decide_eq_true d1, of_decide_eq_true d2, of_decide_eq_true d3, d4, of_decide_eq_true d5, of_decide_eq_true d6, of_decide_eq_true d7, of_decide_eq_true d8⟩⟩
section
variable {K : Frag} {env : List Sl} {x : Str}
theorem ex_join {to te : TE} {z : Str} {ys : List Str} (ho : EX K to env (.str z)) (he : EXl K te env (ys.map PyData.str)) (hl : (ys.map (·.length)).sum + ys.length * z.length ≤ lim) (hj : (Txt.join z ys).length ≤ lim) :
    EX K (tM1 (fun x xs H Q => ∃ a p, ∃ ys : List Str, x = .str a ∧ xs = [.ref p] ∧ (SqL K H p (ys.map V.str) ∨ SqT K H p (ys.map V.str)) ∧ (ys.map (·.length)).sum + ys.length * a.length ≤ 16777216 ∧ Q (.str (Txt.join a ys)) H) to te) env (.str (Txt.join z ys)) := fun F0 H0 F H σ E Q q =>
  ho E _ fun v F1 H1 z1 hv => by
    cases hv
    refine ⟨⟨z, rfl⟩, he (E.step z1) _ fun p vs F2 H2 z2 h1 a1 l1 => ?_⟩
    have := a1.strs
    subst this
    exact ⟨z, p, ys, rfl, rfl, .inl (SqL.of h1), Nat.le_trans hl (by decide), q _ F2 H2 (z1.trans z2) (.str _ hj)⟩
end
end Rb

set_option Elab.async false
set_option linter.all false
set_option maxRecDepth 100000
set_option maxHeartbeats 400000
namespace Rb
namespace Hot
open PySem PySem.Spec PyProof.Rows HotX
section
variable {prog : Program} {w : World} {A : Around} {E : Value → Shared → Prop} {s : Shared} {x1 : Addr}
theorem stop {α : Type} {Q : α → Shared → Prop} (hot : HotAt A x1 s.heap) (hE : ∀ h' e, (∀ b o, s.heap.get? b = some o → h'.get? b = some o) → (∃ o, h'.get? e = some o ∧ o.cls = .type "StopIteration") → E (.ref e) { s with heap := h' }) :
    wpAny (model prog w) A (newExc (.type "StopIteration") [] >>= fun e => (raiseNew e : Sem α)) Q E s := by
  obtain ⟨hh, o1, vs1, h1, d1, c1⟩ := hot
  refine wpAny_bind ?_
  simp only [newExc, newTuple]
  refine wpAny_bind (wpAny_newObj_type ?_ (by size_fits))
  refine wpAny_bind (m := firstArgMember _ _) (wpAny_of_eq (a := Value.none) (by first | rfl | (simp only [firstArgMember]; rfl)) ?_)
  refine wpAny_newObj_type ?_ (by size_fits)
  have g := Heap.get?_push_of_some (h := s.heap) { cls := .type "tuple", data := .seq (([] : List Value)).toArray } h1
  refine raiseNew_hot ⟨hh, o1, vs1, Heap.get?_push_of_some _ g, d1, c1⟩ (Nat.ne_of_lt (Heap.lt_size g)) (Heap.get?_push_size _ rfl) rfl (by first | (simp; done) | (simp; omega)) ?_
  refine hE _ _ (fun b o e => ?_) ⟨_, Heap.get?_update_self _ (Heap.get?_push_size _ rfl) rfl, rfl⟩
  have e1 := Heap.get?_push_of_some (h := s.heap) { cls := .type "tuple", data := .seq (([] : List Value)).toArray } e
  rw [Heap.get?_update_other _ _ (Nat.ne_of_gt (Heap.lt_size e1))]
  exact Heap.get?_push_of_some _ e1
theorem HotAt.but {h' : Heap} {b : Addr} (hot : HotAt A x1 s.heap) (hb : x1 ≠ b) (k : ∀ c o, c ≠ b → s.heap.get? c = some o → h'.get? c = some o) : HotAt A x1 h' := by
  obtain ⟨hh, o1, vs1, h1, d1, c1⟩ := hot
  exact ⟨hh, o1, vs1, k _ _ hb h1, d1, c1⟩
theorem HotAt.ne_list {l it : Addr} {i : Nat} (hot : HotAt A x1 s.heap) (hit : s.heap.IsListIter it l i) : x1 ≠ it := by
  rintro rfl
  obtain ⟨_, o1, vs1, h1, d1, c1⟩ := hot
  obtain ⟨o, ho, _, hd⟩ := hit
  rw [h1] at ho
  cases ho
  rw [d1] at hd
  cases hd
  cases c1
theorem HotAt.ne_tup {t it : Addr} {i : Nat} (hot : HotAt A x1 s.heap) (hit : IsTupIter s.heap it t i) : x1 ≠ it := by
  rintro rfl
  obtain ⟨_, o1, vs1, h1, d1, c1⟩ := hot
  obtain ⟨o, ho, _, hd⟩ := hit
  rw [h1] at ho
  cases ho
  rw [d1] at hd
  cases hd
  cases c1
theorem nextOf_list {it l : Addr} {i : Nat} {items : Array Value} {Q : Value → Shared → Prop} (hot : HotAt A x1 s.heap) (hit : s.heap.IsListIter it l i) (hl : s.heap.IsList l items) (hx : items[i]? = none)
    (hE : ∀ h' e, Heap.ExtBut it s.heap h' → (∃ o, h'.get? e = some o ∧ o.cls = .type "StopIteration") → E (.ref e) { s with heap := h' }) : wpAny (model prog w) A (Builtin.SmallTypes.nextOf (.ref it)) Q E s := by
  have ne := HotAt.ne_list hot hit
  obtain ⟨o, ho, hc, hd⟩ := id hit
  obtain ⟨ol, hol, _, nl, hdl⟩ := hl
  unfold Builtin.SmallTypes.nextOf
  apply wpAny_bind
  refine wpAny_callSpecial?_slot (name := Str.ofString "__next__") hit.typeIs slot_listiter_next (wpAny_call_entry slot_listiter_next hit.typeIs entry_listiter_next ?_ (args_listiter_next _))
  show wpAny _ _ (field (.ref it) 0 >>= _) _ _ s
  apply wpAny_bind
  refine wpAny_field ho hd (x := .ref l) rfl ?_
  show wpAny _ _ (if (Value.ref l == Value.none) = true then _ else _) _ _ s
  rw [if_neg (by intro z; cases z)]
  show wpAny _ _ (field (.ref it) 1 >>= _) _ _ s
  apply wpAny_bind
  refine wpAny_field ho hd (x := .int i 0) rfl ?_
  show wpAny _ _ (seqItems? (.ref l) >>= _) _ _ s
  apply wpAny_bind
  refine wpAny_seqItems hol hdl ?_
  simp only [Int.toNat_natCast, hx]
  apply wpAny_bind
  refine wpAny_rule (wpAny_bind (wpAny_setField ho hd (by simp) ?_))
  have sb := Heap.SameBut.update s.heap it (Obj.mapFields (·.setIfInBounds 0 Value.none))
  show wpAny _ _ (newExc (.type "StopIteration") [] >>= fun e => raiseNew e) _ _ _
  refine stop (x1 := x1) (s := { s with heap := s.heap.update it (Obj.mapFields (·.setIfInBounds 0 Value.none)) }) ?_ fun h' e k he => hE h' e (fun c u hc q => k _ _ (sb.extBut c u hc q)) he
  exact HotAt.but (s := s) hot ne fun c u hc e => sb.extBut c u hc e
theorem next_tup {it t : Addr} {i : Nat} {items : Array Value} {Q : Option Value → Shared → Prop} (hot : HotAt A x1 s.heap) (hit : IsTupIter s.heap it t i) (ht : IsTup s.heap t items) (hx : items[i]? = none)
    (hQ : ∀ h', Heap.ExtBut it s.heap h' → Q none { s with heap := h' }) : wpAny (model prog w) A (pyNext (.ref it)) Q E s := by
  have ne := HotAt.ne_tup hot hit
  obtain ⟨o, ho, hc, hd⟩ := id hit
  obtain ⟨ol, hol, _, nl, hdl⟩ := ht
  unfold pyNext
  apply wpAny_bind
  apply wpAny_attempt
  refine wpAny_callSpecial?_slot (name := Str.ofString "__next__") hit.typeIs slot_tupleiter_next (wpAny_call_entry slot_tupleiter_next hit.typeIs entry_tupleiter_next ?_ (args_tupleiter_next _))
  show wpAny _ _ (field (.ref it) 0 >>= _) _ _ s
  apply wpAny_bind
  refine wpAny_field ho hd (x := .ref t) rfl ?_
  show wpAny _ _ (if (Value.ref t == Value.none) = true then _ else _) _ _ s
  rw [if_neg (by intro z; cases z)]
  show wpAny _ _ (field (.ref it) 1 >>= _) _ _ s
  apply wpAny_bind
  refine wpAny_field ho hd (x := .int i 0) rfl ?_
  show wpAny _ _ (seqItems? (.ref t) >>= _) _ _ s
  apply wpAny_bind
  refine wpAny_seqItems hol hdl ?_
  simp only [Int.toNat_natCast, hx]
  apply wpAny_bind
  refine wpAny_rule (wpAny_bind (wpAny_setField ho hd (by simp) ?_))
  have sb := Heap.SameBut.update s.heap it (Obj.mapFields (·.setIfInBounds 0 Value.none))
  show wpAny _ _ (newExc (.type "StopIteration") [] >>= fun e => raiseNew e) _ _ _
  refine stop (x1 := x1) (s := { s with heap := s.heap.update it (Obj.mapFields (·.setIfInBounds 0 Value.none)) }) ?_ fun h' e k ⟨oe, he, hce⟩ => ?_
  · exact HotAt.but (s := s) hot ne fun c u hc e => sb.extBut c u hc e
  · refine wpAny_bind (wpAny_isInstance (T := "StopIteration") (b := true) ⟨oe, he, hce⟩ isSubtype_stop ?_)
    exact wpAny_pure (hQ _ fun c u hc q => k _ _ (sb.extBut c u hc q))
theorem unpack_tup {t : Addr} {items : Array Value} {targets : List (Bool × (Value → Sem Unit))} {Q : Unit → Shared → Prop} (hot : HotAt A x1 s.heap) (ht : IsTup s.heap t items)
    (hn : targets.length = items.size) (hstar : targets.findIdx? (·.1) = none)
    (h : ∀ h', Heap.ExtBut s.heap.objs.size s.heap h' → wpAny (model prog w) A (assignInOrder (targets.map (·.2)) items.toList) Q E { s with heap := h' }) : wpAny (model prog w) A (unpack (.ref t) targets) Q E s := by
  have hlt : t ≠ s.heap.objs.size := by
    obtain ⟨o, ho, _⟩ := ht
    exact Nat.ne_of_lt (Heap.lt_size ho)
  have hx1 : x1 ≠ s.heap.objs.size := by
    obtain ⟨_, o1, _, h1, _⟩ := hot
    exact Nat.ne_of_lt (Heap.lt_size h1)
  unfold unpack
  rw [hn, hstar]
  refine wpAny_bind (wpAny_holding ?_)
  unfold unpackItems
  apply wpAny_bind
  unfold notIterableAtAll
  refine wpAny_bind (wpAny_specialOf ht.typeIs slot_tuple_iter.lookup (wpAny_pure ?_))
  simp only [Bool.false_eq_true, if_false]
  refine wpAny_bind (wpAny_holding (iter_tuple ht (wpAny_bind (wpAny_holding (draw_tuple hlt items.size 0 _ _ ⟨_, Heap.get?_push_size _ rfl, rfl, rfl⟩ (ht.push _) (by omega) fun h1 it1 s1 => ?_)))))
  have all : List.take items.size (List.drop 0 items.toList) = items.toList := by
    rw [List.drop_zero]
    exact List.take_of_length_le (by simp)
  rw [all, if_neg (by simp)]
  have t1 : IsTup h1 t items := (ht.push _).extBut s1.extBut hlt
  have hot1 : HotAt A x1 h1 := by
    obtain ⟨hh, o1, vs1, g1, d1, c1⟩ := hot
    exact ⟨hh, o1, vs1, s1.extBut _ _ hx1 (Heap.get?_push_of_some _ g1), d1, c1⟩
  refine wpAny_bind (wpAny_holding (next_tup hot1 it1 t1 (by simp) fun h2 e2 => ?_))
  simp only [Option.isSome_none, Bool.false_eq_true, if_false]
  exact wpAny_pure (h h2 fun b o hb e => e2 b o hb (s1.extBut b o hb (Heap.get?_push_of_some _ e)))
theorem next_zip {z TI TO i1 i2 l1 l2 : Addr} {k1 k2 : Nat} {xs ys : Array Value} {a b : Value} {Q : Option Value → Shared → Prop} (hot : HotAt A x1 s.heap) (D : ZipApart z TI TO i1 i2 l1 l2) (hz : IsZip s.heap z TI TO .none) (hTI : IsPair s.heap TI (.ref i1) (.ref i2)) (hTO : IsPair s.heap TO a b)
    (h1 : s.heap.IsListIter i1 l1 k1) (h2 : s.heap.IsListIter i2 l2 k2) (hl1 : s.heap.IsList l1 xs) (hl2 : s.heap.IsList l2 ys) (hend : xs[k1]? = none ∨ ys[k2]? = none)
    (nz : x1 ≠ z) (nTO : x1 ≠ TO) (hQ : ∀ h', (∀ c o, c ≠ z → c ≠ TO → c ≠ i1 → c ≠ i2 → s.heap.get? c = some o → h'.get? c = some o) → Q none { s with heap := h' }) : wpAny (model prog w) A (pyNext (.ref z)) Q E s := by
  have hT : s.TypeIs (.ref z) "zip" := ⟨_, hz, rfl⟩
  have n1 := HotAt.ne_list hot h1
  unfold pyNext
  apply wpAny_bind
  apply wpAny_attempt
  refine wpAny_callSpecial?_slot (name := Str.ofString "__next__") hT F.slot_zip_next (wpAny_call_entry F.slot_zip_next hT F.entry_zip_next ?_ (F.args_zip_next_1 _))
  have leave : ∀ h' e, (∀ c o, c ≠ z → c ≠ TO → c ≠ i1 → c ≠ i2 → s.heap.get? c = some o → h'.get? c = some o) → (∃ o, h'.get? e = some o ∧ o.cls = .type "StopIteration") →
      wpAny (model prog w) A (do if (← isInstance (.ref e) (.type "StopIteration")) then pure none else throw (.ref e) : Sem (Option Value)) Q E { s with heap := h' } := fun h' e k ⟨o, ho, hc⟩ =>
    wpAny_bind (wpAny_isInstance (T := "StopIteration") (b := true) ⟨o, ho, hc⟩ isSubtype_stop (wpAny_pure (hQ _ k)))
  show wpAny _ _ (field (.ref z) 2 >>= _) _ _ _
  apply wpAny_bind
  refine wpAny_field hz rfl (x := .bool false) rfl ?_
  show wpAny _ _ (field (.ref z) 3 >>= _) _ _ _
  apply wpAny_bind
  refine wpAny_field hz rfl (x := .ref TI) rfl ?_
  apply wpAny_bind
  refine wpAny_seqItems hTI rfl ?_
  show wpAny _ _ (Builtin.SmallTypes.ownedTupleIsFree (.ref z) >>= _) _ _ _
  apply wpAny_bind
  unfold Builtin.SmallTypes.ownedTupleIsFree
  apply wpAny_bind
  refine wpAny_field hz rfl (x := .none) rfl (wpAny_pure ?_)
  simp only [if_true]
  apply wpAny_bind
  apply wpAny_rule
  apply wpAny_bind
  refine wpAny_field hz rfl (x := .ref TO) rfl ?_
  apply wpAny_bind
  refine wpAny_setField_rec hz (by simp) fun g1 z1 s1 => ?_
  replace z1 : IsZip g1 z TI TO .ellipsis := z1
  have hot1 : HotAt A x1 g1 := HotAt.but (s := s) hot nz fun c o hc e => s1.extBut c o hc e
  apply wpAny_bind
  simp only [List.zipIdx_cons, List.zipIdx_nil, List.forIn_cons, List.forIn_nil]
  refine wpAny_bind (wpAny_bind (wpAny_onRaise ?_))
  show wpAny _ _ (Builtin.SmallTypes.nextOf (.ref i1) >>= _) _ _ _
  cases hx : xs[k1]? with
  | none =>
    apply wpAny_bind
    refine nextOf_list (s := { s with heap := g1 }) hot1 (h1.extBut s1.extBut D.i1z) (hl1.extBut s1.extBut D.l1z) hx fun g2 e s2 ⟨oe, hoe, hce⟩ => ?_
    have z2 : IsZip g2 z TI TO .ellipsis := s2 _ _ D.i1z.symm z1
    have hez : e ≠ z := by
      rintro rfl
      rw [z2] at hoe
      cases hoe
      simp at hce
    refine wpAny_setField_rec z2 (by simp) fun g3 _ s3 => ?_
    exact leave g3 e (fun c o c1 _ c3 _ q => s3.extBut _ _ c1 (s2 _ _ c3 (s1.extBut _ _ c1 q))) ⟨oe, s3.extBut _ _ hez hoe, hce⟩
  | some x =>
    have hy : ys[k2]? = none := hend.resolve_left fun q => by rw [hx] at q; cases q
    apply wpAny_bind
    refine wpAny_nextOf_list_item (h1.extBut s1.extBut D.i1z) (hl1.extBut s1.extBut D.l1z) hx fun g2 h1' s2 => wpAny_pure ?_
    have TO2 : IsPair g2 TO a b := s2.extBut _ _ D.TOi1 (s1.extBut _ _ D.TOz hTO)
    have hot2 : HotAt A x1 g2 := HotAt.but (s := { s with heap := g1 }) hot1 n1 fun c o hc e => s2.extBut c o hc e
    apply wpAny_bind
    refine wpAny_seqItems TO2 rfl ?_
    apply wpAny_bind
    refine wpAny_updateSeq_pair TO2 fun g3 TO3 s3 => ?_
    have hot3 : HotAt A x1 g3 := HotAt.but (s := { s with heap := g2 }) hot2 nTO fun c o hc e => s3.extBut c o hc e
    refine wpAny_bind (wpAny_letGo (wpAny_pure ?_))
    refine wpAny_bind (wpAny_bind (wpAny_onRaise ?_))
    show wpAny _ _ (Builtin.SmallTypes.nextOf (.ref i2) >>= _) _ _ _
    apply wpAny_bind
    refine nextOf_list (s := { s with heap := g3 }) hot3 (((h2.extBut s1.extBut D.i2z).extBut s2.extBut D.i12.symm).extBut s3.extBut D.TOi2.symm) (((hl2.extBut s1.extBut D.l2z).extBut s2.extBut D.l2i1).extBut s3.extBut D.l2TO) hy fun g4 e s4 ⟨oe, hoe, hce⟩ => ?_
    have z4 : IsZip g4 z TI TO .ellipsis := s4 _ _ D.i2z.symm (s3.extBut _ _ D.TOz.symm (s2.extBut _ _ D.i1z.symm z1))
    have hez : e ≠ z := by
      rintro rfl
      rw [z4] at hoe
      cases hoe
      simp at hce
    refine wpAny_setField_rec z4 (by simp) fun g5 _ s5 => ?_
    exact leave g5 e (fun c o c1 c2 c3 c4 q => s5.extBut _ _ c1 (s4 _ _ c4 (s3.extBut _ _ c2 (s2.extBut _ _ c3 (s1.extBut _ _ c1 q))))) ⟨oe, s5.extBut _ _ hez hoe, hce⟩
theorem HotAt.ne_zip {z TI TO : Addr} {f : Value} (hot : HotAt A x1 s.heap) (hz : IsZip s.heap z TI TO f) : x1 ≠ z := by
  rintro rfl
  obtain ⟨_, o1, vs1, h1, d1, c1⟩ := hot
  have e : some o1 = some _ := h1.symm.trans hz
  cases e
  cases d1
  cases c1
theorem HotAt.ne_pair {T : Addr} {a b : Value} (hot : HotAt A x1 s.heap) (hz : IsPair s.heap T a b) : x1 ≠ T := by
  rintro rfl
  obtain ⟨_, o1, vs1, h1, d1, c1⟩ := hot
  have e : some o1 = some _ := h1.symm.trans hz
  cases e
  cases d1
end
end Hot
open PySem PySem.Spec PyProof.Rows L2 HotX L2H
theorem turn_zipH {P : Program} {w : World} {K : Frag} {elts : List Expr} {kk : Nat} {tpos : Pos} {a b z TI TO i1 i2 : Addr} (D : ZipApart z TI TO i1 i2 a b) :
    TurnH P w K (.Tuple elts kk tpos) (Itz K a b) [z, TI, TO, i1, i2] z (fun i h => IsZip h z TI TO .none ∧ IsPair h TI (.ref i1) (.ref i2) ∧ (∃ x y, IsPair h TO x y) ∧ h.IsListIter i1 a i ∧ h.IsListIter i2 b i) := by
  have T := turn_zip (P := P) (w := w) (K := K) (elts := elts) (kk := kk) (tpos := tpos) D
  refine ⟨T.mem, T.obj, T.keep, ?_, ?_, T.self⟩
  · intro X hP hw hK hc i pins s σ H E I hf st hg
    subst hP hw hK
    obtain ⟨hz, hTI, ⟨x0, y0, hTO⟩, h1, h2⟩ := st
    obtain ⟨xs, ys, x, y, qx, qy, hx, hy⟩ := hg
    obtain ⟨_, rx, px, _⟩ := I.list qx
    obtain ⟨_, ry, py, _⟩ := I.list qy
    obtain ⟨u, hu, ru⟩ := rx.get hx
    obtain ⟨v, hv, rv⟩ := ry.get hy
    have lz : z < s.heap.objs.size := Heap.lt_size hz
    have five : ∀ c, c ∈ [z, TI, TO, i1, i2] → c < s.heap.objs.size := fun c hc => by
      obtain ⟨o, ho, _⟩ := T.obj i s.heap ⟨hz, hTI, ⟨x0, y0, hTO⟩, h1, h2⟩ c hc
      exact Heap.lt_size ho
    refine wpAny_pyNext_zip_item D hz hTI hTO h1 h2 px.isList py.isList (x := u) (y := v) (by simpa using hu) (by simpa using hv) fun g1 z1 TO1 j1 j2 nw sz k1 => ⟨_, rfl, ?_⟩
    refine wpAny_letOwnedTupleGo_zip (s := { s with heap := g1 }) z1 fun g2 z2 s2 => ?_
    have nw2 : g2.get? s.heap.objs.size = some { cls := .type "tuple", data := .seq #[u, v] } := (s2.2 _ (Nat.ne_of_gt lz)).trans nw
    have ob : ObjOk X.prog X.w (upd H s.heap.objs.size (.tup [x, y])) g2 s.heap.objs.size (.tup [x, y]) := ⟨by show 2 ≤ sizeLine; decide, [u, v], .cons ru (.cons rv .nil), ⟨_, nw2, rfl, _, rfl⟩⟩
    have out : ∀ {c : Addr}, c ∉ [z, TI, TO, i1, i2] → c ≠ z ∧ c ≠ TI ∧ c ≠ TO ∧ c ≠ i1 ∧ c ≠ i2 := fun {c} h => by simpa using h
    have J := I.turnedNew (t' := s.toks) (ch := [z, TI, TO, i1, i2]) (h' := g2) (fun c o hb q => (s2.2 c (out hb).1).trans (k1 c o (out hb).1 (out hb).2.2.1 (out hb).2.2.2.1 (out hb).2.2.2.2 q)) hf (Nat.le_refl _) ob
    refine ⟨.ref s.heap.objs.size, _, J, rfl, ⟨_, x, y, rfl, I.hok.fresh (Nat.le_refl _), rfl, fun l hl => by rw [I.list_inj hl qx]; exact hx, fun l hl => by rw [I.list_inj hl qy]; exact hy⟩,
      ⟨z2, (s2.2 _ D.TIz).trans (k1 _ _ D.TIz D.TITO D.TIi1 D.TIi2 hTI), ⟨u, v, (s2.2 _ D.TOz).trans TO1⟩, j1.at fun o q => (s2.2 _ D.i1z).trans q, j2.at fun o q => (s2.2 _ D.i2z).trans q⟩, fun c hm => ?_⟩
    rw [upd_ne (Nat.ne_of_lt (five c hm))]
    exact (hf c hm).1
  · intro X hP hw hK hc i pins s σ H E I hf st hg
    subst hP hw hK
    obtain ⟨hz, hTI, ⟨x0, y0, hTO⟩, h1, h2⟩ := st
    obtain ⟨xs, ys, qx, qy, hend⟩ := hg
    obtain ⟨its, rx, px, _⟩ := I.list qx
    obtain ⟨jts, ry, py, _⟩ := I.list qy
    obtain ⟨x1, hot⟩ := hc.at I
    have lx := rx.length
    have ly := ry.length
    have he : its.toArray[i]? = none ∨ jts.toArray[i]? = none := hend.elim (fun q => .inl (by simp; omega)) fun q => .inr (by simp; omega)
    have out : ∀ {c : Addr}, c ∉ [z, TI, TO, i1, i2] → c ≠ z ∧ c ≠ TI ∧ c ≠ TO ∧ c ≠ i1 ∧ c ≠ i2 := fun {c} h => by simpa using h
    exact Hot.next_zip hot D hz hTI hTO h1 h2 px.isList py.isList he (Hot.HotAt.ne_zip hot hz) (Hot.HotAt.ne_pair hot hTO) fun g k => ⟨rfl, I.turnedL (t' := s.toks) (ch := [z, TI, TO, i1, i2]) (fun c o hb q => k c o (out hb).1 (out hb).2.2.1 (out hb).2.2.2.1 (out hb).2.2.2.2 q) hf⟩
theorem pi_zipH {X : Cx} {K : Frag} {e e2 : Expr} {ta : TA} {p pos tpos : Pos} {elts : List Expr} {kk : Nat} (hg : Gl X "zip") (hm : X.mg "zip" = none) (ha : PA X [e, e2] ta) (hK : X.K = K := by rfl)
    (hs : starEach [e, e2] X.env = (false, eval e X.env) :: starEach [e2] X.env := by rfl) (hpl : (backTo pos (starEach [e2] X.env)).any (·.1) = false := by rfl) :
    PIH X (.Tuple elts kk tpos) (.Call (.Name "zip" p) [e, e2] [] pos) (iZip K ta) := by
  subst hK
  constructor
  intro pins s σ H R I h
  refine Call_ (ld_blt I hg hm PyProof.Rows.boot_zip (PyProof.Rows.callWith_type1 (thn (ha.run pos pins s σ H _ I h) fun us s1 ⟨vs, H1, I1, r1, q1⟩ => ?_) hs hpl))
  obtain ⟨a, b, xs, ys, ex, qx, qy, q⟩ := q1
  subst ex
  cases r1 with
  | cons r2 rr =>
  cases rr with
  | cons r3 rr =>
  cases rr
  cases r2
  cases r3
  obtain ⟨_, _, px, _⟩ := I1.list qx
  obtain ⟨_, _, py, _⟩ := I1.list qy
  have la : a < s1.heap.objs.size := px.lt
  have lb : b < s1.heap.objs.size := py.lt
  refine call_zip_2 px.isList py.isList fun g hz hTI hTO h1 h2 hsz hk => wpAny_pyIter_zip hz ?_
  have I2 : Inv X pins σ H1 { s1 with heap := g } := I1.kept (t' := s1.toks) hk
  refine ⟨s1.heap.objs.size + 4, [s1.heap.objs.size + 4, s1.heap.objs.size + 2, s1.heap.objs.size + 3, s1.heap.objs.size, s1.heap.objs.size + 1], _, _, H1, rfl, I2, turn_zipH (PySem.W.ktu_apart s1.heap.objs.size a b la lb), ⟨hz, hTI, ⟨_, _, hTO⟩, h1, h2⟩, fun c hcm => ?_, q⟩
  have hle : s1.heap.objs.size ≤ c := by
    simp only [List.mem_cons, List.not_mem_nil, or_false] at hcm
    rcases hcm with h | h | h | h | h <;> rw [h] <;> first | exact Nat.le_refl _ | exact Nat.le_add_right _ _
  exact I1.fpOk hle (I1.hok.fresh hle)
theorem pg_tupH {X : Cx} {K : Frag} {pos : Pos} {es : List Expr} {k : Nat} {t : TGs} {n : Nat} (hc : HotC X) (h : PGs X es t) (hn : (assignEach es X.env).length = n := by rfl) (hst : (assignEach es X.env).findIdx? (·.1) = none := by rfl) (hK : X.K = K := by rfl) : PG X (.Tuple es k pos) (gTup K n t) := by
  subst hK
  constructor
  intro pins s σ H v u Q I r hw
  obtain ⟨a, xs, e1, hq, hl, hw⟩ := hw
  subst e1
  obtain rfl : u = Value.ref a := r
  obtain ⟨its, rv, ht, hz⟩ := I.tuple hq
  obtain ⟨x1, hot⟩ := hc.at I
  rw [PyProof.Rows.assign_Tuple]
  refine wpAny_bind (wpAny_standAt (Hot.unpack_tup hot ht (by simp [hn, ← hl, rv.length]) hst fun g hx => ?_))
  have J : Inv X pins σ H { s with heap := g } := I.kept (t' := s.toks) fun b o e => hx b o (Nat.ne_of_lt (Heap.lt_size e)) e
  exact h.run pins _ σ H xs _ Q J (by simpa using rv) hw
abbrev blkH (X : Cx) (s : Shared) (H : Hp) (scope : Scope) (ce : Env) (fp : List Addr) (p : Addr × Obj) : Cx := { X.blk s H scope ce fp with pn := [p] }
theorem blkH_ok {X : Cx} {s : Shared} {H : Hp} {scope : Scope} {ce : Env} {fp : List Addr} {p : Addr × Obj} (ok : (X.blk s H scope ce fp).Ok) : (blkH X s H scope ce fp p).Ok :=
  { mod := ok.mod, kind := ok.kind, glob := ok.glob, blt := ok.blt, above := ok.above, inj := ok.inj, has := ok.has, cab := ok.cab, hd := ok.hd, frames := ok.frames, stk := ok.stk, exf := ok.exf, bs := ok.bs, bsz := ok.bsz, noex := ok.noex, exfs := ok.exfs, funs := ok.funs, frf := ok.frf }
theorem blkH_inv {X : Cx} {s s' : Shared} {H H' : Hp} {scope : Scope} {ce : Env} {fp : List Addr} {p : Addr × Obj} {σ : L2.St} (I : Inv (X.blk s H scope ce fp) [] σ H' s') (h : s'.heap.get? p.1 = some p.2 ∧ H' p.1 = none ∧ p.1 ≠ ce.locals ∧ p.1 ∉ frs X.stack ∧ ∀ v, p.2.data ≠ .cell v) : Inv (blkH X s H scope ce fp p) [] σ H' s' :=
  { ok := blkH_ok I.ok, os := I.os, bare := I.bare, base := I.base, loc := I.loc, cell := I.cell, free := I.free, freeC := I.freeC, hok := I.hok, len := I.len, pin := fun q hq => by
      have e : q = p := by simpa using (show q ∈ [p] ++ ([] : List (Addr × Obj)) from hq)
      rw [e]
      exact h }
theorem lc_hot {X : Cx} {pins : List (Addr × Obj)} {s : Shared} {σ : L2.St} {H : Hp} {Q : VK} {elt tg iter : Expr} {ifs : List Expr} {scope : Scope} {own : List (Str × Nat)} {pos pos' : Pos} {wi : TI} {g : TG} {tt : TT} {te : TE} {Qf : Value → Shared → Prop}
    (hc : HotC X) (hN : X.N.Nodup) (I : Inv X pins σ H s) (hi : PIH X tg iter wi) (ok : BlkOk X.N X.env.scope scope own)
    (hg : ∀ s H C cl fp p, Hot1 X.A p → PG (blkH X s H scope (compEnvC scope cl C X.env) fp p) tg g) (ht : ∀ s H C cl fp p, Hot1 X.A p → PTs (blkH X s H scope (compEnvC scope cl C X.env) fp p) ifs tt) (he : ∀ s H C cl fp p, Hot1 X.A p → PE (blkH X s H scope (compEnvC scope cl C X.env) fp p) elt te)
    (hs : ∀ x, foldedSetIterable iter X.env x = pure x) (h : tLc wi g tt te (own.map (·.2)) σ H Q)
    (fin : ∀ D C s' m H', Inv X pins σ H' s' → Q (.ref D) H' → s'.heap.Ns C m → FpOk X pins H' C → compPost (model X.prog X.w) X.A X.xe none Qf (.ref D) C (.ok .next) s') :
    wpAny (model X.prog X.w) X.A (comprehension (.ListComp elt [⟨tg, iter, ifs, 0⟩] scope pos) scope X.env pos' (newList []) false (eval iter X.env) none) Qf X.xe s := by
  obtain ⟨p, hot, hp⟩ := hc
  have frees : ∀ y ∈ scope.names, y.2 = .free → ∃ c, X.env.cells.lookup y.1 = some c := fun y hy e => (ok.free y hy e).elim (fun k => I.ok.has _ (.inl k)) fun k => I.ok.has _ (.inr k)
  refine wpAny_comprehension_free (use := none) rfl hs (closure_ok frees) ok.kind (fun y hy e => by rw [ok.uniq y hy, e]) ?_
  refine thn (hi.run pins s σ H _ I h) fun xv s1 hx => thn hx fun itv s2 h2 => ?_
  obtain ⟨it, fp, tn, J, H2, e, I2, T, st2, f2, q⟩ := h2
  subst e
  refine wpAny_newObj_type (newEnv_comp ?_) (by show 0 ≤ sizeLine; decide)
  -- the list that is made
  obtain ⟨D, hD⟩ : ∃ D, s2.heap.objs.size = D := ⟨_, rfl⟩
  rw [hD]
  have nD : H2 D = none := I2.hok.fresh (Nat.le_of_eq hD)
  obtain ⟨W, ⟨m0, w0⟩, turn⟩ := q D nD
  obtain ⟨s3, hs3⟩ : ∃ s3 : Shared, ({ s2 with heap := s2.heap.push { cls := .type "list", data := .seq ([] : List Value).toArray } } : Shared) = s3 := ⟨_, rfl⟩
  rw [hs3]
  have e3 : s3.heap = s2.heap.push { cls := .type "list", data := .seq ([] : List Value).toArray } := by rw [← hs3]
  obtain ⟨H3, hH3⟩ : ∃ H3, upd H2 D (.lst []) = H3 := ⟨_, rfl⟩
  rw [hH3] at w0
  have I3 : Inv X pins σ H3 s3 := by
    rw [← hs3, ← hH3]
    refine I2.laid (t' := s2.toks) (fun b o e => Heap.get?_push_of_some _ e) (Nat.le_of_eq hD) ⟨Nat.zero_le _, [], 0, .nil, ?_⟩
    rw [← hD]
    exact Heap.get?_push_size _ rfl
  have small : ∀ b ∈ fp, b < s2.heap.objs.size := fun b hb => by
    obtain ⟨_, e, _⟩ := T.obj _ _ st2 b hb
    exact Heap.lt_size e
  have f3 : ∀ b ∈ fp, FpOk X pins H3 b ∧ b < s3.heap.objs.size := fun b hb => by
    have lt := small b hb
    refine ⟨⟨?_, (f2 b hb).2⟩, by rw [e3, Heap.size_push]; exact Nat.lt_succ_of_lt lt⟩
    rw [← hH3, upd_ne (by rw [← hD]; exact Nat.ne_of_lt lt)]
    exact (f2 b hb).1
  have st3 : tn 0 s3.heap := T.keep _ _ _ st2 fun b _ o e => by rw [e3]; exact Heap.get?_push_of_some _ e
  have pin3 := I3.pin p (List.mem_append_left _ hp)
  have B4 := block_start I3 ok hN f3
  have pg := hg s3 H3 s3.heap.objs.size (cellsFrom (s3.heap.objs.size + 1) scope.names (cloFrom X.env.cells scope.names [])) fp p hot
  have pt := ht s3 H3 s3.heap.objs.size (cellsFrom (s3.heap.objs.size + 1) scope.names (cloFrom X.env.cells scope.names [])) fp p hot
  have pe := he s3 H3 s3.heap.objs.size (cellsFrom (s3.heap.objs.size + 1) scope.names (cloFrom X.env.cells scope.names [])) fp p hot
  show codeAny _ _ (.compStart (.ListComp elt [⟨tg, iter, ifs, 0⟩] scope pos) 0 (.ref it) (.ref D) (compEnvC scope (cellsFrom (s3.heap.objs.size + 1) scope.names (cloFrom X.env.cells scope.names [])) s3.heap.objs.size X.env)) (compPost (model X.prog X.w) X.A X.xe none Qf (.ref D) s3.heap.objs.size) { s3 with heap := pushCells (s3.heap.push { cls := .type "dict", data := .dict #[] }) scope.names }
  obtain ⟨ce, hce⟩ : ∃ ce, compEnvC scope (cellsFrom (s3.heap.objs.size + 1) scope.names (cloFrom X.env.cells scope.names [])) s3.heap.objs.size X.env = ce := ⟨_, rfl⟩
  rw [hce] at B4 pg pt pe ⊢
  have cL : ce.locals = s3.heap.objs.size := by rw [← hce]; rfl
  obtain ⟨s4, hs4⟩ : ∃ s4 : Shared, ({ s3 with heap := pushCells (s3.heap.push { cls := .type "dict", data := .dict #[] }) scope.names } : Shared) = s4 := ⟨_, rfl⟩
  rw [hs4] at B4 ⊢
  have keep4 : ∀ b o, s3.heap.get? b = some o → s4.heap.get? b = some o := fun b o e => by rw [← hs4]; exact pushCells_keeps _ _ _ _ (Heap.get?_push_of_some _ e)
  have I4 : Inv (blkH X s3 H3 scope ce fp p) [] (wipe σ (own.map (·.2))) H3 s4 := blkH_inv B4 ⟨keep4 _ _ pin3.1, pin3.2.1, by rw [cL]; exact Nat.ne_of_lt (Heap.lt_size pin3.1), fun hm => (List.mem_cons.mp (I3.stkSub p.1 hm)).elim pin3.2.2.1 pin3.2.2.2.1, pin3.2.2.2.2⟩
  have hot4 : HotC (blkH X s3 H3 scope ce fp p) := ⟨p, hot, List.mem_cons_self⟩
  have st4 : tn 0 s4.heap := T.keep _ _ _ st3 fun b _ o e => keep4 b o e
  have pfp : ∀ b ∈ fp, p.1 ≠ b := fun b hb => (f3 b hb).1.2.2.2.2.2 p (List.mem_append_left _ hp)
  have stat : ∀ {σ' : L2.St} {H' : Hp} {s' : Shared}, Inv (blkH X s3 H3 scope ce fp p) [] σ' H' s' → (∀ b ∈ fp, H' b = none) → ∀ b ∈ fp, FpOk (blkH X s3 H3 scope ce fp p) [] H' b := fun {σ' H' s'} I' hn b hb =>
    ⟨hn b hb, (I'.ok.exf b hb).1, I'.ok.exfs b hb, .inl hb, fun x c e => (I'.ok.exf b hb).2 x c e, fun q hq => by
      have e : q = p := by simpa using (show q ∈ [p] ++ ([] : List (Addr × Obj)) from hq)
      rw [e]
      exact pfp b hb⟩
  refine codeAny_compStart_list ?_ (T.self X.A 0 _ _ _ st4 ?_) <;>
  · refine compLoop_any (fun n s' => ∃ i H', Inv (blkH X s3 H3 scope ce fp p) [] (wipe σ (own.map (·.2))) H' s' ∧ tn i s'.heap ∧ (∀ b ∈ fp, H' b = none) ∧ W i n H') ?_ m0 ⟨0, H3, I4, st4, fun b hb => (f3 b hb).1.1, w0⟩
    rintro n s5 ⟨i, H5, I5, st5, n5, w5⟩
    rcases turn i n H5 w5 with ⟨stop, qq⟩ | ⟨go, Nx, hNx, step⟩
    · refine thnF (T.done (blkH X s3 H3 scope ce fp p) rfl rfl rfl hot4 i [] s5 _ H5 (fun _ _ => False) I5 (stat I5 n5) st5 stop) fun r s6 ⟨hr, I6⟩ => ?_
      subst hr
      have I7 : Inv X pins σ H5 s6 := I3.call' (ch := fp) I6.os I6.base I6.hok I6.bare fun b hb => ⟨(f3 b hb).1.2.2.2.1, (f3 b hb).1.2.1, (f3 b hb).1.2.2.2.2.1, (f3 b hb).1.2.2.2.2.2⟩
      have nC : H5 s3.heap.objs.size = none := by rw [← cL]; exact I6.free
      obtain ⟨m, hn, _⟩ := I6.loc
      have hn : s6.heap.Ns s3.heap.objs.size m := by rw [← cL]; exact hn
      exact fin D s3.heap.objs.size s6 m H5 I7 qq hn (I3.fpOk (Nat.le_refl _) nC)
    · refine thnF (T.item (blkH X s3 H3 scope ce fp p) rfl rfl rfl hot4 i [] s5 _ H5 (fun _ _ => False) I5 (stat I5 n5) st5 go) fun r s6 ⟨u, hr, h6⟩ => ?_
      subst hr
      refine thnF h6 fun _ s7 ⟨x, H7, I7, r7, y7, st7, n7⟩ => ?_
      refine thnF (pg.run _ s7 _ H7 x u _ (I7.pinned (stat I7 n7) (T.obj _ _ st7)) r7 (step x H7 y7)) fun _ s8 ⟨σ8, H8, I8, hw8, q8⟩ => ?_
      refine thnF (pt.run _ s8 σ8 H8 _ I8 q8) fun b s9 ⟨H9, I9, q9⟩ => ?_
      have again : ∀ {s' : Shared} {H' : Hp}, Inv (blkH X s3 H3 scope ce fp p) ([] ++ pinsAt fp s7.heap) σ8 H' s' → Nx H' → ∃ m, m < n ∧ ∃ i H', Inv (blkH X s3 H3 scope ce fp p) [] (wipe σ (own.map (·.2))) H' s' ∧ tn i s'.heap ∧ (∀ b ∈ fp, H' b = none) ∧ W i m H' := fun {s' H'} I' nx => by
        obtain ⟨m', hm, w'⟩ := hNx H' nx
        have held : ∀ b ∈ fp, ∀ o, s7.heap.get? b = some o → s'.heap.get? b = some o ∧ H' b = none := fun b hb o e => by
          have z := I'.pin (b, o) (List.mem_append_right _ (List.mem_append_right _ (mem_pinsAt hb e)))
          exact ⟨z.1, z.2.1⟩
        have len : (wipe σ (own.map (·.2))).length = σ8.length := by rw [← hw8, wipe_length]
        refine ⟨m', hm, i + 1, H', (I'.unpinned (pins := [])).weak len (fun j v e => ?_), T.keep _ _ _ st7 fun b hb o e => (held b hb o e).1, fun b hb => ?_, w'⟩
        · rw [← hw8] at e
          exact (wipe_some e).1
        · obtain ⟨o, e, _⟩ := T.obj _ _ st7 b hb
          exact (held b hb o e).2
      cases b with
      | false =>
        simp only [Bool.false_eq_true, if_false] at q9 ⊢
        exact again I9 q9
      | true =>
        simp only [if_true] at q9 ⊢
        refine thnF (pe.run _ s9 σ8 H9 _ I9 q9) fun z s10 ⟨yv, H10, I10, r10, acc, hD10, hz10, nx⟩ => ?_
        exact app_ok (X := blkH X s3 H3 scope ce fp p) I10 hD10 hz10 r10 fun s11 I11 => again I11 nx
theorem pe_lcH {X : Cx} {elt tg iter : Expr} {ifs : List Expr} {scope : Scope} {own : List (Str × Nat)} {pos : Pos} {wi : TI} {g : TG} {tt : TT} {te : TE} (hc : HotC X) (hN : X.N.Nodup) (hi : PIH X tg iter wi) (ok : BlkOk X.N X.env.scope scope own)
    (hg : ∀ s H C cl fp p, Hot1 X.A p → PG (blkH X s H scope (compEnvC scope cl C X.env) fp p) tg g) (ht : ∀ s H C cl fp p, Hot1 X.A p → PTs (blkH X s H scope (compEnvC scope cl C X.env) fp p) ifs tt) (he : ∀ s H C cl fp p, Hot1 X.A p → PE (blkH X s H scope (compEnvC scope cl C X.env) fp p) elt te)
    (hs : ∀ x, foldedSetIterable iter X.env x = pure x := by intro _; rfl) : PE X (.ListComp elt [⟨tg, iter, ifs, 0⟩] scope pos) (tLc wi g tt te (own.map (·.2))) := by
  constructor
  intro pins s σ H Q I h
  rw [eval_ListComp]
  refine lc_hot hc hN I hi ok hg ht he hs h fun D C s' m H' J q hn f => ⟨m, hn, fun g sb => ?_⟩
  obtain ⟨f0, f1, f2, f3, f4, f5⟩ := f
  exact ⟨.ref D, H', J.turned (t' := s'.toks) (fun b o hb e => (sb.2 b hb).trans e) f0 f1 f3 f4 f5, rfl, q⟩
end Rb

set_option Elab.async false
set_option linter.all false
set_option maxRecDepth 100000
set_option maxHeartbeats 400000
namespace Rb
open PySem PySem.Spec PyProof.Rows L2 HotX L2H
theorem run_hot {P : Program} {w : World} {K : Frag} {mg : Str → Option Value} {base : Heap} {x qual : Str} {params : Arguments} {body : List Stmt} {scope : Scope} {f : Addr} {fd : FuncData} {N ps : List Str} {k : Nat} {A : Around} {outer : List Env} {s : Shared} {H : Hp} {us : List Value} {vs : List V} {Q : VK} {p : Addr × Obj}
    (F : FunD K x qual params body scope [] [] f fd) (S : FnScope N ps scope) (hr : RoomH (k + 1) A) (hot : Hot1 A p) (hpin : PinOk outer H s p) (e0 : Env0 P w K mg base A outer s H) (hb : BindsTo s fd ⟨us, []⟩ (ps.zip us)) (r : Vals vs us) (hl : vs.length = ps.length)
    (hq : ∀ cdv, RoomH k (A.deeper (envOfC qual scope s.heap.objs.size f cdv)) → ∃ t, PSs (cxH CX0 P w K mg base N qual scope f cdv A outer s H E0 p) body t ∧ t { nx := fun _ H' => Q .non H', rt := Q } (L2.start N vs) H) :
    codeAny (model P w) A (.call (.ref f) ⟨us, []⟩) (CR CX0 outer P w H s Q E0) s := by
  obtain ⟨oc, od, dV, kV, doc, pm, an, cdv, ct, osl, rfl, lk, hcd, _, _⟩ := F.ex
  have KX : K.In s.heap := e0.mod.kin.keeps fun b o e => (e0.bs b o e).1
  have lim : s.heap.NoLimit := e0.mod.nolimit.keeps fun b o e => (e0.bs b o e).1
  refine codeAny_call_function hr.depth (KX _ _ lk) rfl S.co S.gen rfl (PySem.W.codeRec_of KX hcd) (hb _ _ _ _ ?_)
  refine wpAny_newFunctionEnv_cells S.kind (fun y hy => ?_) fun env he s1 st => ?_
  · obtain ⟨n, v⟩ := y
    exact (S.par n (List.of_mem_zip hy).1).imp id fun q => ⟨q, PySem.W.cellsFrom_some _ _ _ (.inl q)⟩
  · subst he
    refine ⟨lim.keeps st.toInCall.keep, codeAny_func ?_⟩
    obtain ⟨t, ht, h⟩ := hq cdv (hr.deeper _)
    have J := inv_startH (CX := CX0) (E := E0) S hpin e0 hl r st
    refine wpAny_mono (ht.run [] s1 (L2.start N vs) H _ J h) (fun fl s' e => ?_) fun _ _ e => e
    match fl, e with
    | .ret u, ⟨v, σ', H', I', rv, q⟩ => exact ⟨v, H', I'.os, I'.bare, I'.base, I'.hok, rv, q⟩
    | .next, ⟨σ', H', I', q⟩ => exact ⟨V.non, H', I'.os, I'.bare, I'.base, I'.hok, rfl, q⟩
    | .brk, ⟨_, _, _, q⟩ => exact q.elim
    | .cont, ⟨_, _, _, q⟩ => exact q.elim
structure XoOk (K : Frag) (n : Str) (d : Option Addr) (oe : Obj) : Prop where
  cls : oe.cls = .ref (He.ga K n)
  dct : oe.dict = d
  dat : ∃ vs, oe.data = .fields vs
def XdH (H : Hp) : Option Addr → Prop
  | none => True
  | some dd => ∃ fs, H dd = some (.xd fs)
theorem XdOk.h {F H : Hp} (e : Ex F H) : ∀ {d : Option (Addr × Str × PyData)}, XdOk F H d → XdH H (d.map (·.1))
  | none, _ => trivial
  | some (_, _, _), h => let ⟨_, _, k⟩ := h.at e; ⟨_, k⟩
def rIsX (K : Frag) (p : Addr × Obj) : List V → Hp → VK → Prop := fun xs H Q => ∃ (n : Str) (d : Option Addr) (c : V) (cv : Value) (b : Bool), xs = [.ref p.1, c] ∧ XoOk K n d p.2 ∧ XdH H d ∧ ExcC K (He.ga K n) ∧ (∀ u, RelV c u → u = cv) ∧ PySem.W.kitOne K (.ref (He.ga K n)) cv = some b ∧ Q (.bl b) H
theorem inst_of {P : Program} {w : World} {K : Frag} {H : Hp} {h : Heap} {a : Addr} {o : Obj} {n : Str} {d : Option Addr} (hok : HOk P w H h) (hget : h.get? a = some o) (hx : XoOk K n d o) (hd : XdH H d) : ∃ od, PySem.W.InstAt h a o (He.ga K n) od := by
  have hno : PySem.W.notCls o = true := by
    obtain ⟨vs, hv⟩ := hx.dat
    unfold PySem.W.notCls
    rw [hv] <;> rfl
  cases d with
  | none => exact ⟨none, hget, hx.cls, hno, by rw [hx.dct]; trivial⟩
  | some dd =>
    obtain ⟨fs, hf⟩ := hd
    have ho : ObjOk P w H h dd (.xd fs) := hok dd _ hf
    obtain ⟨mA, hns, _⟩ := ho
    obtain ⟨od, h1, _⟩ := lookIn_ns hns
    exact ⟨some od, hget, hx.cls, hno, by rw [hx.dct]; exact h1⟩
theorem call_isX {X : Cx} {K : Frag} {p : Addr × Obj} (hp : p ∈ X.pn) (hK : X.K = K := by rfl) : CallR X (.builtin "isinstance") (rIsX K p) := by
  subst hK
  intro pins s σ H xs us Q I r h
  obtain ⟨n, d, c, cv, b, ev, hx, hd, T, hcv, hk, q⟩ := h
  subst ev
  obtain ⟨od, J⟩ := inst_of I.hok (I.pin p (List.mem_append_left _ hp)).1 hx hd
  have hcl : (PySem.W.clsIn X.K (He.ga X.K n)).isSome = true := by
    have hd := T.hd
    unfold PySem.W.hasDictIn at hd
    obtain ⟨cd, hc, _⟩ := PySem.W.any_some hd
    rw [hc]; rfl
  cases r with
  | cons r1 rr =>
  cases rr with
  | cons r2 rr =>
  cases rr
  cases r1
  obtain rfl := hcv _ r2
  exact PySem.W.kia_one (PySem.W.kitx_exc hcl T.hg T.hk T.hs T.ha T.hn T.ht T.hm) I.kIn J hk (fun z => nomatch z) fun tk => ⟨.bl b, H, I.kept (t' := tk) fun _ _ z => z, rfl, q⟩
section
variable {K : Frag} {env : List Sl} {x : Str} {p : Addr × Obj} {xd : Option (Addr × Str × PyData)}
theorem ex_isX {i : Nat} {y : Str} (hi : env[i]? = some (.xo p.1 xd)) (hp : XoOk K x (xd.map (·.1)) p.2) (hx : ExF K x) (hy : y ∈ exNames) : EX K (tCB (rIsX K p) (tCons (tVar i) (tCons (tC (.ref (He.ga K y))) tNil))) env (.bool (decide (x = y))) := fun F0 H0 F H σ E Q q => by
  obtain ⟨o, h1, h2⟩ := E.sl i _ hi
  obtain ⟨h2, h3⟩ : o = some (.ref p.1) ∧ XdOk F H xd := h2
  subst h2
  exact ⟨_, h1, x, _, _, .ref (He.ga K y), _, rfl, hp, h3.h E.fh, hx.c, fun u r => r, (hx.exm y hy).2, q _ F H (Fz.refl E.fh) (.bl _)⟩
theorem ex_isVE {i : Nat} (hi : env[i]? = some (.xo p.1 xd)) (hp : XoOk K x (xd.map (·.1)) p.2) (hx : ExF K x) : EX K (tCB (rIsX K p) (tCons (tVar i) (tCons (tC (.ty "ValueError")) tNil))) env (.bool true) := fun F0 H0 F H σ E Q q => by
  obtain ⟨o, h1, h2⟩ := E.sl i _ hi
  obtain ⟨h2, h3⟩ : o = some (.ref p.1) ∧ XdOk F H xd := h2
  subst h2
  exact ⟨_, h1, x, _, _, .type "ValueError", _, rfl, hp, h3.h E.fh, hx.c, fun u r => r, hx.ve, q _ F H (Fz.refl E.fh) (.bl _)⟩
end
structure KinOk (P : Program) (w : World) (K : Frag) (mg : Str → Option Value) (x : Str) (k : Nat) : Prop where
  ex : ∃ (f : Addr) (fd : FuncData) (x0 : Str) (qual : Str) (params : Arguments) (body : List Stmt) (scope : Scope) (N : List Str), mg x = some (.ref f) ∧ FunD K x qual params body scope [] [] f fd ∧ FnScope N [x0] scope ∧ Binds K fd [x0] [] ∧
    ∀ (base : Heap) (cdv : Value) (A : Around) (outer : List Env) (s : Shared) (H : Hp) (p : Addr × Obj) (xd : Option (Addr × Str × PyData)) (n : Str), RoomH k (A.deeper (envOfC qual scope s.heap.objs.size f cdv)) → Hot1 A p → XoOk K n (xd.map (·.1)) p.2 → n ∈ exNames →
      ∃ t, PSs (cxH CX0 P w K mg base N qual scope f cdv A outer s H E0 p) body t ∧ BX K t (.xo p.1 xd :: List.replicate (N.length - 1) .un) (fun z : Str => .rt (.sh (.str z))) (some n)
theorem kin_start {N : List Str} {F H : Hp} {a : Addr} {K : Frag} {xd : Option (Addr × Str × PyData)} (e : Ex F H) (hd : XdOk F H xd) : EnvOk K F H F H (L2.start N [.ref a]) (.xo a xd :: List.replicate (N.length - 1) .un) := by
  refine EnvOk.flat (Fz.refl e) ?_ fun i sl h => ?_
  · unfold L2.start
    simp only [List.length_append, List.length_map, List.length_cons, List.length_nil, List.length_replicate]
    omega
  · unfold L2.start
    cases i with
    | zero =>
      simp at h
      subst h
      exact ⟨_, rfl, ⟨rfl, hd⟩, rfl⟩
    | succ i =>
      rw [List.getElem?_cons_succ] at h
      obtain ⟨h1, h2⟩ := List.getElem?_eq_some_iff.mp h
      rw [List.getElem_replicate] at h2
      subst h2
      rw [List.length_replicate] at h1
      refine ⟨none, ?_, trivial, rfl⟩
      show (some (V.ref a) :: List.replicate (N.length - 1) none)[i + 1]? = _
      rw [List.getElem?_cons_succ, List.getElem?_replicate, if_pos h1]
def tKin (K : Frag) (a : Addr) (cls : Value) (d : Option Addr) (te : TE) : TE := fun σ H Q => te σ H fun v H1 => v = .ref a ∧ ∃ (n : Str) (F : Hp) (xd : Option (Addr × Str × PyData)), n ∈ exNames ∧ cls = .ref (He.ga K n) ∧ d = xd.map (·.1) ∧ XdOk F H1 xd ∧ Ex F H1 ∧ ∀ F' H', Fz F H1 F' H' → Q (.str n) H'
theorem pe_kin {X : Cx} {K : Frag} {a : Addr} {oe : Obj} {cls : Value} {d : Option Addr} {pn : List (Addr × Obj)} {x : Str} {k : Nat} {ve : Expr} {te : TE} {p pos : Pos}
    (G : KinOk X.prog X.w K X.mg x k) (hr : Room (k + 1) X.A) (hg : Gl (X.suite a ((a, oe) :: pn)) x) (hz : L2N.Zn cls d oe) (hf : ∃ vs, oe.data = .fields vs)
    (he : PE (X.suite a ((a, oe) :: pn)) ve te) (hK : X.K = K := by rfl) (hd : (x == ("__debug__" : Str)) = false := by decide)
    (hs : starEach (ve :: []) (X.suite a ((a, oe) :: pn)).env = (false, eval ve (X.suite a ((a, oe) :: pn)).env) :: starEach [] (X.suite a ((a, oe) :: pn)).env := by rfl)
    (hpl : (backTo pos (starEach [] (X.suite a ((a, oe) :: pn)).env)).any (·.1) = false := by rfl) :
    PE (X.suite a ((a, oe) :: pn)) (.Call (.Name x p) [ve] [] pos) (tKin K a cls d te) := by
  subst hK
  obtain ⟨f, fd, x0, qual, params, body, scope, N, hm, FD, S, hb, W⟩ := G.ex
  have ha : PA (X.suite a ((a, oe) :: pn)) [ve] (tCons te tNil) := pa_cons he pa_nil hs
  constructor
  intro pins s σ H Q I h
  apply wpAny_Call_Name_kw
  refine ld_glob I hg hm ?_ hd
  refine PySem.W.callWith_K (h₀ := X.base) I.ok.mod.kin FD.kp (thn (ha.run pos pins s σ H (fun vs H1 => vs = [.ref a] ∧ ∃ (n : Str) (F : Hp) (xd : Option (Addr × Str × PyData)), n ∈ exNames ∧ cls = .ref (He.ga X.K n) ∧ d = xd.map (·.1) ∧ XdOk F H1 xd ∧ Ex F H1 ∧ ∀ F' H', Fz F H1 F' H' → Q (.str n) H') I ?_) fun us s1 hh => ?_) hs hpl
  · have mono : ∀ (Q1 Q2 : VK), Q1 = Q2 → te σ H Q1 → te σ H Q2 := fun _ _ e h => e ▸ h
    refine mono _ _ ?_ h
    funext v H1
    exact propext ⟨fun ⟨h1, h2⟩ => ⟨by rw [h1], h2⟩, fun ⟨h1, h2⟩ => ⟨by injection h1, h2⟩⟩
  · obtain ⟨vs, H1, I1, r1, ev, n, F, xd, hn, ec, ed, ex, e, q⟩ := hh
    subst ev
    refine ⟨I1.kIn, ?_⟩
    have pin := I1.pin (a, oe) (List.mem_append_left _ List.mem_cons_self)
    obtain ⟨ws, hw⟩ := hf
    have hot : Hot1 (X.suite a ((a, oe) :: pn)).A (a, oe) := ⟨rfl, ws, hw, hz.2.2 ws hw⟩
    have xo : XoOk X.K n (xd.map (·.1)) oe := ⟨by rw [hz.1, ec], by rw [hz.2.1, ed], ws, hw⟩
    have rh : RoomH (k + 1) (X.suite a ((a, oe) :: pn)).A := ⟨hr.dp, hr.un⟩
    have hpin : PinOk (X.suite a ((a, oe) :: pn)).stack H1 s1 (a, oe) := ⟨pin.1, pin.2.1, fun hm => (List.mem_cons.mp (I1.stkSub a hm)).elim pin.2.2.1 pin.2.2.2.1, pin.2.2.2.2⟩
    have bi := hb s1 us I1.kIn (by rw [List.append_nil, ← r1.length]; rfl)
    rw [List.append_nil] at bi
    show wpAny _ _ (call (.ref f) us) _ _ _
    refine wpAny_call (codeAny_mono (run_hot (K := X.K) (Q := Q) FD S rh hot hpin I1.env0 bi r1 rfl fun cdv hr' => ?_) fun r s' hq => ?_)
    · obtain ⟨t, ht, b⟩ := W X.base cdv _ _ s1 H1 (a, oe) xd n hr' hot xo hn
      exact ⟨t, ht, b n rfl _ (kin_start e ex) fun F1 H2 v z hv => by
        cases hv
        exact q F1 H2 z⟩
    · cases r with
      | error u => exact hq.elim
      | ok fl =>
        cases fl with
        | ret u => exact I1.after hq
        | next => exact hq.elim
        | brk => exact hq.elim
        | cont => exact hq.elim
def ExA (x : Exn) (F H : Hp) (d : Option Addr) : Prop := match x.arg with
  | none => d = none
  | some q => ∃ dd v, d = some dd ∧ H dd = some (.xd [(q.1, v)]) ∧ Dq F v q.2
def BH (K : Frag) (i : Nat) (x : Exn) (ts : Addr → Value → Option Addr → TS) (env : List Sl) {O : Type} (enc : O → Out) (m : Option O) : Prop := ∀ o, m = some o → ∀ (a : Addr) (d : Option Addr) ⦃F0 H0 F H : Hp⦄ ⦃σ : List (Option V)⦄ (D : Ends),
  EnvOk K F0 H0 F H σ env → σ[i]? = some (some (.ref a)) → ExA x F H d → Cont K F0 H0 D (enc o) → ts a (.ref (He.ga K x.name)) d D σ H
section
variable {K : Frag} {env env' envS envX : List Sl} {α β O S : Type} {ts tu : TS} {enc : O → Out} {m : Option O} {tb : WX → TS} {tx : Addr → Value → Option Addr → TS} {Wout : WX} {c : Value} {i : Nat}
def encB (envS : S → List Sl) (envX : List Sl) (W : WX) : Except Exn S → Out
  | .ok s => .nx (envS s)
  | .error x => .ex envX x W
theorem Cont.clear {F0 H0 : Hp} {D : Ends} {o : Out} (hf : o.fin ∨ ∃ e, o = .nx e ∧ e.set i .un = e) (C : Cont K F0 H0 D o) : Cont K F0 H0 { nx := fun σ' H' => D.nx (σ'.set i none) H', rt := D.rt, bk := fun σ' H' => D.bk (σ'.set i none) H', ct := fun σ' H' => D.ct (σ'.set i none) H' } o := by
  rcases hf with hf | ⟨e, rfl, he⟩
  · exact Cont.fin (D := D) (by rfl) hf C
  · intro F1 H1 σ1 E1
    have := E1.forget i none
    rw [he] at this
    exact C F1 H1 _ this
def kinM (x : Exn) : Option Str := if x.name ∈ exNames then some x.name else none
theorem kinM_ok {x : Exn} {n : Str} (h : kinM x = some n) : n = x.name ∧ n ∈ exNames := by
  unfold kinM at h
  split at h
  · rename_i c; cases h; exact ⟨rfl, c⟩
  · cases h
def fldM (f : Str) (x : Exn) : Option PyData := match x.arg with
  | some (g, q) => if g = f then some q else none
  | none => none
abbrev xoSl (a dd : Addr) (x : Exn) : Sl := .xo a (x.arg.map fun q => (dd, q.1, q.2))
abbrev xoD (dd : Addr) (x : Exn) : Option Addr := x.arg.map fun _ => dd
theorem ex_kin {x : Exn} {n : Str} {i : Nat} {a dd : Addr} (hi : env[i]? = some (xoSl a dd x)) (h : kinM x = some n) : EX K (tKin K a (.ref (He.ga K x.name)) (xoD dd x) (tVar i)) env (.str n) := fun F0 H0 F H σ E Q q => by
  obtain ⟨hn, hm⟩ := kinM_ok h
  subst hn
  obtain ⟨o, h1, h2⟩ := E.sl i _ hi
  obtain ⟨h2, h3⟩ : o = some (.ref a) ∧ XdOk F H _ := h2
  subst h2
  have hl : x.name.length ≤ lim := by
    have : ∀ y, y ∈ exNames → y.length ≤ lim := by decide +kernel
    exact this _ hm
  refine ⟨_, h1, rfl, x.name, F, _, hm, rfl, ?_, h3, E.fh, fun F' H' z => q _ F' H' z (.str _ hl)⟩
  show (x.arg.map fun _ => dd) = _
  cases x.arg <;> rfl
theorem ex_fld {x : Exn} {f : Str} {q : PyData} {i : Nat} {a dd : Addr} {C : Addr} (hi : env[i]? = some (xoSl a dd x)) (h : fldM f x = some q) (hC : He.ga K x.name = C) : EX K (tXf a (.ref (He.ga K x.name)) (xoD dd x) C f (tVar i)) env q := fun F0 H0 F H σ E Q k => by
  obtain ⟨o, h1, h2⟩ := E.sl i _ hi
  obtain ⟨h2, h3⟩ : o = some (.ref a) ∧ XdOk F H _ := h2
  subst h2
  unfold fldM at h
  cases r : x.arg with
  | none => rw [r] at h; cases h
  | some p =>
    obtain ⟨g, u⟩ := p
    rw [r] at h h3
    have h : (if g = f then some u else none) = some q := h
    split at h
    · rename_i e
      cases h
      subst e
      obtain ⟨v, a1, a2⟩ := h3.at E.fh
      exact ⟨_, h1, rfl, by rw [hC], dd, _, v, by show (x.arg.map fun _ => dd) = some dd; rw [r]; rfl, a2, by simp [List.lookup], k v F H (Fz.refl E.fh) a1⟩
    · cases h
theorem bh_of {x : Exn} {tx : Addr → Value → Option Addr → TS} (hi : i < env.length) (h : ∀ a dd, BX K (tx a (.ref (He.ga K x.name)) (xoD dd x)) (env.set i (xoSl a dd x)) enc m) : BH K i x tx env enc m := fun o ho a d F0 H0 F H σ D E hs hA C => by
  have key : ∃ dd, d = xoD dd x ∧ XdOk F H (x.arg.map fun q => (dd, q.1, q.2)) := by
    unfold ExA at hA
    cases r : x.arg with
    | none => rw [r] at hA; exact ⟨0, by rw [hA]; show none = (x.arg.map fun _ => 0); rw [r]; rfl, trivial⟩
    | some p =>
      rw [r] at hA
      obtain ⟨dd, v, e1, e2, e3⟩ := hA
      exact ⟨dd, by rw [e1]; show some dd = (x.arg.map fun _ => dd); rw [r]; rfl, XdOk.of E.fh e3 e2⟩
  obtain ⟨dd, e1, e2⟩ := key
  subst e1
  have E2 := E.set0 i (some (.ref a)) (s := xoSl a dd x) ⟨⟨rfl, e2⟩, rfl⟩
  have es : σ.set i (some (.ref a)) = σ := by
    obtain ⟨l, g⟩ := List.getElem?_eq_some_iff.mp hs
    rw [← g, List.set_getElem_self]
  rw [es] at E2
  exact h a dd o ho D E2 C
end
section
variable {X : Cx} {K : Frag} {x n : Str} {i k : Nat} {a : Addr} {oe : Obj} {cls c : Value} {d : Option Addr} {pn : List (Addr × Obj)} {p pos np pos' : Pos} {body suite : List Stmt} {b₀ : Stmt} {tb : WX → TS} {tx : Addr → Value → Option Addr → TS} {Wout : WX}
theorem takes_none : L2N.Takes X (fun _ _ _ _ => False) := fun _ _ x => by
  obtain ⟨_, _, _, _, _, _, _, _, _, _, _, _, _, _, _, _, z⟩ := x
  exact z.elim
end
section
variable {K : Frag} {env : List Sl} {ta tb : TE} {α β : Type} {e : α → PyData} {f : β → PyData}
theorem ei_zipH {xs : List α} {ys : List β} (ha : EXl K ta env (xs.map e)) (hb : EXl K tb env (ys.map f)) : EI K (iZip K (tCons ta (tCons tb tNil))) env ((xs.zip ys).map (eP e f)) := fun F0 H0 F H σ E R r => ha E _ fun p vs F1 H1 z1 h1 h2 h3 => hb (E.step z1) _ fun p' ws F2 H2 z2 h4 h5 h6 =>
  ⟨p, p', vs, ws, rfl, SqL.of (z2.hh z1.fh _ _ h1), SqL.of h4, r _ F2 H2 (z1.trans z2) (zip_lim h3) (itzL fun F3 H3 q ex => ⟨q.hh z2.fh _ _ (z2.hh z1.fh _ _ h1), DqAll.mono (z2.f.trans q.f) _ _ h2, q.hh z2.fh _ _ h4, DqAll.mono q.f _ _ h5⟩)⟩
end
abbrev joinOk (z : Str) (ys : List Str) : Prop := (ys.map (·.length)).sum + ys.length * z.length ≤ lim ∧ (Txt.join z ys).length ≤ lim
section
variable {X : Cx} {K : Frag} {o e : Expr} {apos pos : Pos} {to te : TE} {env : List Sl}
theorem pe_joinK (ho : PE X o to) (he : PE X e te) (hK : X.K = K := by rfl) (hs : starEach [e] X.env = [(false, eval e X.env)] := by rfl) (hbase : attributeBase o "join" X.env (eval o X.env) = eval o X.env := by rfl) (hline : (apos.endLine == pos.line) = true := by rfl) :
    PE X (.Call (.Attribute o "join" apos) [e] [] pos) (tM1 (fun x xs H Q => ∃ a p, ∃ ys : List Str, x = .str a ∧ xs = [.ref p] ∧ (SqL K H p (ys.map V.str) ∨ SqT K H p (ys.map V.str)) ∧
      (ys.map (·.length)).sum + ys.length * a.length ≤ 16777216 ∧ Q (.str (Txt.join a ys)) H) to te) := by
  subst hK
  exact pe_join ho he hs hbase hline
theorem ex_joinG {z : Str} {ys : List Str} (ho : EX K to env (.str z)) (he : EXl K te env (ys.map PyData.str)) (h : joinOk z ys) :
    EX K (tM1 (fun x xs H Q => ∃ a p, ∃ ys : List Str, x = .str a ∧ xs = [.ref p] ∧ (SqL K H p (ys.map V.str) ∨ SqT K H p (ys.map V.str)) ∧ (ys.map (·.length)).sum + ys.length * a.length ≤ 16777216 ∧ Q (.str (Txt.join a ys)) H) to te) env (.str (Txt.join z ys)) := ex_join ho he h.1 h.2
end
end Rb

set_option Elab.async false
set_option linter.all false
set_option maxRecDepth 100000
set_option maxHeartbeats 400000
namespace Rb
open PySem PySem.Spec PyProof.Rows L2 HotX L2H
section
variable {K : Frag} {env : List Sl} {t u tt : TT} {te : TE} {ts tu : TS} {S O : Type} {enc : O → Out} {m n : S → Option O}
end
section
variable {K : Frag} {env : List Sl} {ta tb : TE}
end
structure EnQ {α : Type} [DecidableEq α] (e : α → PyData) (n : Nat) : Prop where
  dep : ∀ x, (e x).depth ≤ n
  eq : ∀ x y, PyData.eqv (e x) (e y) = decide (x = y)
section
variable {α β γ : Type} [DecidableEq α] [DecidableEq β] [DecidableEq γ] {e : α → PyData} {f : β → PyData} {g : γ → PyData} {n m l : Nat}
theorem EnQ.of (h : EnOk e n) : EnQ e n := ⟨h.dep, h.eq⟩
theorem EnQ.str : EnQ PyData.str 0 := ⟨fun x => Nat.le_refl _, fun x y => by
  show (x == y) = decide (x = y)
  by_cases c : x = y
  · rw [decide_eq_true c]; exact beq_iff_eq.mpr c
  · rw [decide_eq_false c]; exact beq_eq_false_iff_ne.mpr c⟩
theorem EnQ.depAll (h : EnQ e n) : ∀ xs : List α, PyData.depthAll (xs.map e) ≤ n
  | [] => Nat.zero_le _
  | x :: xs => by
    rw [List.map_cons]
    show max (PyData.depth (e x)) (PyData.depthAll (xs.map e)) ≤ n
    exact Nat.max_le.mpr ⟨h.dep x, h.depAll xs⟩
theorem EnQ.eqAll (h : EnQ e n) : ∀ xs ys : List α, PyData.eqvAll (xs.map e) (ys.map e) = decide (xs = ys)
  | [], [] => rfl
  | [], y :: ys => rfl
  | x :: xs, [] => rfl
  | x :: xs, y :: ys => by
    rw [List.map_cons, List.map_cons]
    show (PyData.eqv (e x) (e y) && PyData.eqvAll (xs.map e) (ys.map e)) = _
    rw [h.eq, h.eqAll xs ys]
    by_cases c : x = y
    · by_cases c2 : xs = ys
      · subst c; subst c2; simp
      · simp [c, c2]
    · simp [c]
theorem EnQ.list (h : EnQ e n) : EnQ (eL e) (n + 1) := ⟨fun x => Nat.succ_le_succ (h.depAll x), fun x y => h.eqAll x y⟩
theorem EnQ.tup (h : EnQ e n) : EnQ (eT e) (n + 1) := ⟨fun x => Nat.succ_le_succ (h.depAll x), fun x y => h.eqAll x y⟩
theorem EnQ.pair (h : EnQ e n) (h2 : EnQ f m) : EnQ (eP e f) (max n m + 1) := ⟨fun x => by
    show max (PyData.depth (e x.1)) (max (PyData.depth (f x.2)) 0) + 1 ≤ _
    have := h.dep x.1
    have := h2.dep x.2
    omega, fun x y => by
    show (PyData.eqv (e x.1) (e y.1) && (PyData.eqv (f x.2) (f y.2) && true)) = _
    rw [h.eq, h2.eq]
    obtain ⟨a, b⟩ := x
    obtain ⟨c, d⟩ := y
    by_cases c1 : a = c <;> by_cases c2 : b = d <;> simp [c1, c2]⟩
theorem EnQ.shaped (h : EnQ e n) (hn : n ≤ 64) (x : α) (hl : (e x).canLay0 = true) : SeqAt.shaped (e x) = true := by
  unfold SeqAt.shaped
  rw [hl, decide_eq_true (Nat.le_trans (h.dep x) hn)]; rfl
end
section
variable {K : Frag} {env : List Sl} {ta tb : TE} {α : Type}
end
end Rb

set_option Elab.async false
set_option linter.all false
set_option maxRecDepth 100000
set_option maxHeartbeats 400000
namespace Rb
open PySem PySem.Spec PyProof.Rows L2 HotX L2H
section
variable {K : Frag} {env : List Sl} {ta tb : TE} {d e : PyData}
theorem ex_eqDG (sd : SeqAt.shaped d = true) (se : SeqAt.shaped e = true) (ha : EXq K ta env d) (hb : EXq K tb env e) : EX K (tOp (rEqD K) ta tb) env (.bool (PyData.eqv d e)) := ex_eqD ha hb sd se rfl
theorem ex_neDG (sd : SeqAt.shaped d = true) (se : SeqAt.shaped e = true) (ha : EXq K ta env d) (hb : EXq K tb env e) : EX K (tOp (rNeD K) ta tb) env (.bool (!PyData.eqv d e)) := ex_neD ha hb sd se rfl
end
end Rb

set_option Elab.async false
set_option linter.all false
set_option maxRecDepth 100000
set_option maxHeartbeats 400000
namespace Rb
open PySem PySem.Spec PyProof.Rows L2 HotX L2H
section
variable {K : Frag} {env env1 env2 env' : List Sl} {ta tb te tx ty : TE} {ts tu : TS} {d e : PyData} {ds es : List PyData} {g1 g2 : TG} {α β O : Type} {enc : O → Out} {m : Option O}
def ixDc (d : PyData) (i : Int) : Option PyData := match d with
  | .tuple ds => atI ds i
  | _ => none
theorem ex_ixD {i : Int} (ha : EX K ta env d) (hb : EX K tb env (.int i)) (h : ixDc d i = some e) : EX K (tOp (rIxT K) ta tb) env e := by
  unfold ixDc at h
  cases d with
  | tuple ds => exact ex_ixT ha hb h
  | _ => cases h
end
section
variable {K : Frag} {env : List Sl} {ds : List PyData}
end
section
variable {X : Cx} {a b c d : Expr} {ta tb tc td : TE} {pos : Pos}
end
section
variable {K : Frag} {env : List Sl} {ta tb tc td : TE}
end
def decI : PyData → Option Int
  | .int i => some i
  | _ => none
theorem decI_ok {d : PyData} {i : Int} (h : decI d = some i) : d = PyData.int i := by
  unfold decI at h
  cases d <;> cases h
  rfl
section
variable {K : Frag} {env : List Sl} {ta tb te : TE} {d : PyData} {ds es : List PyData}
end
end Rb

set_option Elab.async false
set_option linter.all false
set_option maxRecDepth 100000
set_option maxHeartbeats 400000
namespace Rb
open PySem PySem.Spec PyProof.Rows L2 HotX L2H
section
variable {K : Frag} {env : List Sl} {ta tb : TE}
end
section
variable {K : Frag} {env : List Sl} {ta : TE} {α : Type} {e : α → PyData} {m : Option α}
theorem isNone_eO (hn : ∀ x, isNone (e x) = false) : isNone (eO e m) = m.isNone := by
  cases m with
  | none => rfl
  | some x => exact hn x
theorem ex_isNO (ha : EX K ta env (eO e m)) (hn : ∀ x, isNone (e x) = false := by intro _; rfl) : EX K (tOp (fun x y H Q => y = .non ∧ Q (.bl (decide (x = .non))) H) ta (tC .non)) env (.bool m.isNone) := by
  have := ex_isN ha
  rw [isNone_eO hn] at this
  exact this
theorem ex_notNO (ha : EX K ta env (eO e m)) (hn : ∀ x, isNone (e x) = false := by intro _; rfl) : EX K (tOp (fun x y H Q => y = .non ∧ Q (.bl (!decide (x = .non))) H) ta (tC .non)) env (.bool (!m.isNone)) := by
  have := ex_notN ha
  rw [isNone_eO hn] at this
  exact this
end
end Rb

set_option Elab.async false
set_option linter.all false
set_option maxRecDepth 100000
set_option maxHeartbeats 4000000
namespace Rb
open PySem PySem.Spec PyProof.Rows L2
structure OexF (K : Frag) (f x : Str) : Prop where
  c : OexC K (He.ga K x)
  ini : PySem.W.findIn K (.ref (He.ga K x)) "__init__" = some (some (.ref (He.ma K (He.ga K x) "__init__")))
  ty : PySem.W.typeIn K (.ref (He.ma K (He.ga K x) "__init__")) = some (.type "function")
  no : PySem.W.findIn K (.ref (He.ga K x)) f = some none
  xf : XfC K (He.ga K x)
theorem oexB_ok {K : Frag} {f x : Str} (h : oexB K f x = true) : OexF K f x := by
  unfold oexB at h
  simp only [Bool.and_eq_true] at h
  obtain ⟨h0, h1, h2, h3, h4, h5, h6, h7, h8⟩ := h
  refine ⟨⟨?_, of_decide_eq_true h1, of_decide_eq_true h2, of_decide_eq_true h3, h4⟩, of_decide_eq_true h5, of_decide_eq_true h6, of_decide_eq_true h7, xfB_ok h8⟩
  split at h0
  · rename_i d q s hl
    split at h0
    · rename_i z l k0 k1 k2 k3 g k5 hm hs
      simp only [Bool.and_eq_true, decide_eq_true_eq, Bool.not_eq_true'] at h0
      obtain ⟨e1, e2, e3, e4, e5⟩ := h0
      obtain ⟨nm, bs, mro, ns, qn, hd, sn, sub, ab, col, del⟩ := q
      dsimp only at hm e3 e4
      subst hm
      subst e3
      subst e4
      subst e1
      subst e2
      have es : s = #[k0, k1, k2, k3, some (.builtin "ValueError.__new__"), k5] := by
        obtain ⟨s⟩ := s
        simp only at hs
        rw [hs]
      subst es
      exact ⟨nm, qn, ns, bs, l, sn, sub, ab, col, d, k0, k1, k2, k3, k5, hl, e5⟩
    · cases h0
  · cases h0
def spIni (f : Str) (K : Frag) : Sp := fun vs H Q _ => ∃ (a C : Addr) (v : V), vs = [.ref a, v] ∧ OexC K C ∧ PySem.W.findIn K (.ref C) f = some none ∧ H a = some (exo a C none) ∧ ∀ dx, H dx = none → dx ≠ a → Q .non (upd (upd H dx (exd dx [(f, v)])) a (exo a C (some dx)))
structure ExI (P : Program) (w : World) (K : Frag) (mg : Str → Option Value) (base : Heap) (f x : Str) : Prop where
  g : mg x = some (.ref (He.ga K x))
  o : OexF K f x
  fn : ∃ fd, FnOk P w K mg base CX0 1 (He.ma K (He.ga K x) "__init__") fd ["self", f] (spIni f K) ∧ Binds K fd ["self", f] []
theorem ini_ok {P : Program} {w : World} {K : Frag} {mg : Str → Option Value} {base : Heap} {f qual : Str} {params : Arguments} {body : List Stmt} {scope : Scope} {a : Addr} {fd : FuncData}
    (F : FunD K "__init__" qual params body scope [] [] a fd) (S : FnScope ["self", f] ["self", f] scope)
    (hb : ∀ (cdv : Value) (A : Around) (outer : List Env) (s : Shared) (H : Hp) (E : XK), PSs (cxOf CX0 P w K mg base ["self", f] qual scope a cdv A outer s H E) body (tSeq (tOst K f (tVar 0) (tVar 1)) tNext)) : FnOk P w K mg base CX0 1 a fd ["self", f] (spIni f K) := by
  refine F.ok S (fun vs H Q E h => ?_) (fun cdv A outer s H vs Q E hr h => ?_)
  · obtain ⟨_, _, _, e, _⟩ := h
    rw [e]; rfl
  · obtain ⟨b, C, v, rfl, T, hno, hb1, q⟩ := h
    refine ⟨_, hb cdv A outer s H E, ?_⟩
    exact ⟨v, rfl, .ref b, rfl, b, C, rfl, T, hno, .inl ⟨hb1, fun dx n ne => q dx n ne⟩⟩
theorem pmk_ini {X : Cx} {x : Str} {C fI : Addr} {k : Nat} {fd : FuncData} {ps : List Str} {sp : Sp} {e : Expr} {ta : TA} {p pos : Pos} (T : OexC X.K C) (iC : PySem.W.findIn X.K (.ref C) "__init__" = some (some (.ref fI)))
    (tI : PySem.W.typeIn X.K (.ref fI) = some (.type "function")) (F1 : FnOk X.prog X.w X.K X.mg X.base CX0 k fI fd ps sp) (hr : Room (k + 1) X.A) (hb : Binds X.K fd ps []) (hg : Gl X x) (hm : X.mg x = some (.ref C)) (ha : PA X [e] ta)
    (hdb : (x == ("__debug__" : Str)) = false := by decide) (he : starEach [e] X.env = (false, eval e X.env) :: starEach [] X.env := by rfl) (hpl : (backTo pos (starEach [] X.env)).any (·.1) = false := by rfl) :
    L2N.PMk X (.Call (.Name x p) [e] [] pos) (tMkO C sp [] ta) := fun pins st σ H Q J h => by
  obtain ⟨cn, qn, nsA, bss, l, sno, sbs, abs, cl, dx0, j0, j1, j2, j3, j5, hC, hl⟩ := T.cls
  refine wpAny_Call_Name_kw (ld_glob J hg hm ?_ hdb)
  refine PySem.W.callWith_K (h₀ := X.base) J.ok.mod.kin T.kC ?_ he hpl
  refine thn (ha.run pos pins st σ H _ J h) ?_
  rintro us ⟨hp, gs, dw, tk, os⟩ ⟨vs, H1, J1, r1, hz, q1⟩
  refine ⟨J1.kIn, ?_⟩
  show wpAny _ _ (call (.ref C) us) _ _ _
  -- the new object's place
  generalize hae : hp.objs.size + 1 = a
  have ha1 : hp.objs.size ≤ a := by omega
  have hn : H1 a = none := J1.hok.fresh ha1
  have hq := q1 a hn
  rw [List.append_nil] at hq
  have kp : ∀ b o, hp.get? b = some o → ((hp.push (PySem.W.kdv_tup us)).push (PySem.HandSPX.excO C hp.objs.size)).get? b = some o := fun b o z => Heap.get?_push_of_some _ (Heap.get?_push_of_some _ z)
  have here : ((hp.push (PySem.W.kdv_tup us)).push (PySem.HandSPX.excO C hp.objs.size)).get? a = some (PySem.HandSPX.excO C hp.objs.size) := by subst hae; heap_get
  have J2 := J1.laid (t' := tk) (a := a) (o := exo a C none) kp ha1 (exo_ok here)
  have r2 : Vals (V.ref a :: vs) (Value.ref a :: us) := .cons rfl r1
  have len : (Value.ref a :: us ++ []).length = ps.length := by
    rw [List.append_nil, ← r2.length]
    exact F1.len _ _ _ _ hq
  have b2 := hb _ (Value.ref a :: us) J2.kIn len
  rw [List.append_nil] at b2
  have sz : us.length ≤ sizeLine := by
    have := Paired.length r1
    rw [sizeLine_eq]
    omega
  refine wpAny_call (PySem.HandSPX.call_own F.excBase_ValueError (fun Y => PySem.HandSPX.refsVE_contains Y l hl) (J1.kIn _ _ hC) (PySem.W.looks_findIn J1.kIn iC) (fun self => PySem.W.bind_fn J1.kIn self tI) sz ?_)
  have run := F1.run _ X.stack _ _ ⟨Value.ref a :: us, []⟩ (Value.ref a :: us) _ _ (fun _ _ _ => False) (hr.make C us []) (J2.env0.make C us []) b2 r2 hq
  subst hae
  refine codeAny_mono run fun r st' hr' => ?_
  cases r with
  | error er => exact hr'.elim
  | ok fl =>
    cases fl with
    | ret u =>
      obtain ⟨v, H2, os2, bare2, un2, hok2, rv, ev, d, fs, ea, ed, hd1, q2⟩ := hr'
      subst ev
      obtain ⟨h2, g2, d2, t2, os'⟩ := st'
      obtain ⟨t0, G, J3, kG, ge, hoe, na⟩ := mk_end0 (d2 := d2) (t2 := t2) J1 ha1 kp un2 hok2 os2 bare2 ea ed hd1
      exact ⟨rv, hp.objs.size + 1, _, _, ⟨G, g2, d2, t2, os'⟩, _, .ref C, some d, rfl, J3, kG, ge, hoe, ⟨rfl, rfl, fun ws hw => by cases hw; rfl⟩, rfl, rfl, na, rfl, bare2, raises_own T.exC T.tyC, q2⟩
    | next => exact hr'.elim
    | brk => exact hr'.elim
    | cont => exact hr'.elim
section
variable {X : Cx} {K : Frag} {W : WX} {f x : Str} {e : Expr} {ta : TA} {p pos pos2 : Pos}
theorem ps_raiseF (hc : X.calm = true) (T : ExI X.prog X.w K X.mg X.base f x) (tk : L2N.Takes X W) (hr : Room 2 X.A) (hg : Gl X x) (ha : PA X [e] ta) (hK : X.K = K := by rfl) (hdb : (x == ("__debug__" : Str)) = false := by decide)
    (he : starEach [e] X.env = (false, eval e X.env) :: starEach [] X.env := by rfl) (hpl : (backTo pos (starEach [] X.env)).any (·.1) = false := by rfl) :
    PS X (.Raise (some (.Call (.Name x p) [e] [] pos)) none pos2) (fun _ σ H => tMkO (He.ga K x) (spIni f K) [] ta σ H fun c d H' => W c d σ H') := by
  subst hK
  obtain ⟨fd, F1, hb⟩ := T.fn
  exact L2N.ps_raise hc tk (pmk_ini T.o.c T.o.ini T.o.ty F1 hr hb hg T.g ha hdb he hpl)
end
section
variable {K : Frag} {env env' envX : List Sl} {d : PyData} {ta : TA} {W : WX} {α β O S : Type} {ts tu : TS} {enc : O → Out} {m n : Option O} {f x : Str}
theorem made_heap {H : Hp} {a C d : Addr} {f : Str} {v : V} (ha : H a = none) (hd : d ≠ a) :
    upd (del (upd (upd (upd H a (exo a C none)) d (exd d [(f, v)])) a (exo a C (some d))) a) d (.xd [(f, v)]) = upd H d (.xd [(f, v)]) := by
  funext b
  by_cases e : b = d
  · subst e; rw [upd_same, upd_same]
  · rw [upd_ne e, upd_ne e]
    by_cases e2 : b = a
    · subst e2; rw [del_same, ha]
    · rw [del_ne e2, upd_ne e2, upd_ne e, upd_ne e2]
theorem bx_raiseF {o : O} (hO : OexF K f x) (ha : EA K ta env [d]) (hn : enc o = .ex env' ⟨x, some (f, d)⟩ W) (hw : Wk env env') :
    BX K (tSeq (fun _ σ H => tMkO (He.ga K x) (spIni f K) [] ta σ H fun c d H' => W c d σ H') tu) env enc (some o) := fun o' ho F0 H0 F H σ D E c => by
  cases ho
  rw [hn] at c
  refine ha E _ fun vs F1 H1 z1 a1 => ?_
  cases a1 with
  | @cons v _ _ _ hv a2 =>
  cases a2
  refine ⟨by show 1 ≤ 1000; decide, fun a na => ?_⟩
  refine ⟨a, He.ga K x, v, rfl, hO.c, hO.no, upd_same, fun dx hdx ne => ?_⟩
  have h1 : H1 dx = none := by rw [upd_ne ne] at hdx; exact hdx
  refine ⟨rfl, dx, _, upd_same, by rw [upd_ne ne, upd_same], h1, ?_⟩
  rw [made_heap na ne]
  have z2 := z1.trans (Fz.add (o := .xd [(f, v)]) z1.fh h1)
  exact c F1 _ σ ((E.step z2).weak hw) dx v upd_same hv
end
abbrev Cl : Type := Value × Nat × (Addr → Value → Option Addr → TS)
def wCl (K : Frag) (Wout : WX) (D : Ends) : List Cl → WX
  | [] => Wout
  | (c, i, tx) :: r => fun cls d σ H => ∃ b, PySem.W.exmOne K cls c = some b ∧
      (b = true → ∀ a, H a = none → tx a cls d { nx := fun σ' H' => D.nx (σ'.set i none) H', rt := D.rt, bk := fun σ' H' => D.bk (σ'.set i none) H', ct := fun σ' H' => D.ct (σ'.set i none) H' } (σ.set i (some (.ref a))) H) ∧
      (b = false → wCl K Wout D r cls d σ H)
inductive ClOk (X : Cx) : List ExceptHandler → List Cl → Prop
  | nil : ClOk X [] []
  | cons {x n : Str} {c : Value} {i : Nat} {tx : Addr → Value → Option Addr → TS} {s0 : Stmt} {ss : List Stmt} {q q' : Pos} {hs : List ExceptHandler} {l : List Cl} (hi : X.N[i]? = some n) (hk : X.env.kindOf n = some .local) (hc : Names X x c)
      (hx : ∀ (a : Addr) (oe : Obj) (cls : Value) (d : Option Addr) (pn : List (Addr × Obj)), L2N.Zn cls d oe → (∃ vs, oe.data = .fields vs) → PSs (X.suite a ((a, oe) :: pn)) (s0 :: ss) (tx a cls d)) (r : ClOk X hs l) :
      ClOk X (.ExceptHandler (some (.Name x q)) (some n) (s0 :: ss) q' :: hs) ((c, i, tx) :: l)
def tTryCl (K : Frag) (tb : WX → TS) (cl : List Cl) (Wout : WX) : TS := fun D σ H => tb (wCl K Wout D cl) D σ H
theorem ps_tryCl0 {X : Cx} {body : List Stmt} {h₀ : ExceptHandler} {hds : List ExceptHandler} {cl : List Cl} {pos : Pos} {tb : WX → TS} {Wout : WX} (hs : X.stack = X.env :: X.outer) (hf : X.env.frame = some X.env.locals) (hN : X.N.Nodup) (tk : L2N.Takes X Wout)
    (hb : ∀ (W : WX) (pn : List (Addr × Obj)) (xe : Value → Shared → Prop), L2N.Takes (X.tr pn xe) W → PassesOwn (model X.prog X.w) X.A X.env xe → PSs (X.tr pn xe) body (tb W))
    (hh : ClOk X (h₀ :: hds) cl) : PS X (.Try body (h₀ :: hds) [] [] pos) (fun D σ H => tb (wCl X.K Wout D cl) D σ H) := by
  refine ⟨fun pins st σ H D I h => ?_⟩
  have ok := I.ok
  have fr : X.A.frames = some (X.env :: X.outer) := by rw [ok.frames, hs]
  refine wpAny_Try_except ?_
  have run := (hb (wCl X.K Wout D cl) (X.pn ++ pins) (fun e s1 => wpAny (model X.prog X.w) X.A (noteFrame e X.env) (fun _ s2 => wpAny (model X.prog X.w) X.A (setFlight e none) (fun _ s3 =>
    wpAny (model X.prog X.w) X.A (handleBy e X.env (h₀ :: hds)) (SP X pins D) X.xe s3) X.xe s2) X.xe s1) (fun u s' xx => ?_) PassesOwn.looking).run [] st σ H D (I.toTry _) h
  · refine wpAny_mono run (fun fl s1 hsp => ?_) fun _ _ z => z
    cases fl with
    | next => obtain ⟨σ', H', J', q⟩ := hsp; exact wpAny_execs_nil ⟨σ', H', J'.ofTry ok, q⟩
    | brk => obtain ⟨σ', H', J', q⟩ := hsp; exact ⟨σ', H', J'.ofTry ok, q⟩
    | cont => obtain ⟨σ', H', J', q⟩ := hsp; exact ⟨σ', H', J'.ofTry ok, q⟩
    | ret u => obtain ⟨v, σ', H', J', r, q⟩ := hsp; exact ⟨v, σ', H', J'.ofTry ok, r, q⟩
  · -- an exception leaves the body
    obtain ⟨a, B, sI, pins', σ', H', cls, d, rfl, J', nb, up, sky, na, os, ag, wish⟩ := xx
    have J : Inv X pins σ' H' sI := J'.ofTry ok
    rw [show (X.tr (X.pn ++ pins) _).stack = X.env :: X.outer from hs] at sky
    show wpAny (model X.prog X.w) X.A (noteFrame (.ref a) X.env) _ _ _
    refine L2N.Sky.land L2N.Zn.steady fr hf sky fun hL flL upL => ?_
    have upA := up.trans upL
    have JL : Inv X pins σ' H' { s' with heap := hL } := J.landed nb flL.1 upA os ag
    obtain ⟨oL, vL, geL, zL, daL⟩ := flL.there
    have out : a ∉ frs (X.env :: X.outer) := fun hm => by
      obtain ⟨_, o', e', nf⟩ := flL.2.2.1.mem hm
      rw [geL] at e'
      cases e'
      exact nf _ daL
    have nL : a ≠ X.env.locals := fun z => out (List.mem_filterMap.mpr ⟨X.env, List.mem_cons_self, by rw [hf, z]⟩)
    have nF : a ∉ X.fs := fun hm => by
      obtain ⟨e, m1, m2⟩ := List.mem_filterMap.mp hm
      exact out (List.mem_filterMap.mpr ⟨e, List.mem_cons_of_mem _ m1, m2⟩)
    have SL := JL.suite geL daL na nL nF
    have LT : PySem.W.Looks (model X.prog X.w) hL (typeOf (.ref a)) cls := fun A Q E s k q => wpAny_typeOf_ref (k _ _ geL) (by rw [zL.1]; exact q)
    have all : ∀ {hs' : List ExceptHandler} {l' : List Cl}, ClOk X hs' l' → wCl X.K Wout D l' cls d σ' H' → wpAny (model X.prog X.w) X.A (handleBy (.ref a) X.env hs') (SP X pins D) X.xe { s' with heap := hL } := by
      intro hs' l' hk
      induction hk with
      | nil =>
        intro wout
        refine wpAny_handleBy_nil ?_
        obtain ⟨_, _, _, oT, vT, T, _, _, gT, _, dT, f1, _⟩ := id flL
        unfold PySem.passOn
        refine wpAny_bind (wpAny_field gT dT f1 ?_)
        rw [if_neg (show ¬ ((Value.ref T == Value.none) = true) from by simp)]
        have go : wpAny (model X.prog X.w) X.A (setFlight (.ref a) X.env.frame) (fun _ s4 => wpAny (model X.prog X.w) X.A (throw (.ref a) : Sem Flow) (SP X pins D) X.xe s4) X.xe { s' with heap := hL } := by
          rw [hf]
          exact HandSPX.setFlight_upZ flL fun h4 hh4 up4 => wpAny_throw (tk _ _ ⟨a, B, sI, pins, σ', H', cls, d, rfl, J, nb, upA.trans up4, .inr (.inr (by rw [hs]; exact hh4)), na, os, ag, wout⟩)
        first
          | exact wpAny_bind (wpAny_pure (wpAny_bind go))
          | exact wpAny_bind go
      | @cons x n c i tx s0 ss q q' hs2 l2 hi hk1 hc hx r ih =>
        intro ⟨b, hb1, yes, no⟩
        refine wpAny_handleBy_cons (codeAny_handlers_test ?_) (by intro z; cases z)
        have name : ∀ {Q : Value → Shared → Prop} {E : Value → Shared → Prop}, Q c { s' with heap := hL } → wpAny (model X.prog X.w) (X.A.mark (some (.ref a))) (eval (.Name x q) X.env) Q E { s' with heap := hL } := fun {Q E} z => by
          obtain ⟨hg, hdb, hm | ⟨hm, hv, hn⟩⟩ := hc
          · exact ld_glob (X := X.suite a ((a, oL) :: (X.pn ++ pins))) SL hg hm z hdb
          · exact ld_blt (X := X.suite a ((a, oL) :: (X.pn ++ pins))) SL hg hm hv z hn hdb
        refine name ((PySem.W.exm_one (M := model X.prog X.w) JL.kIn LT hb1).here ?_)
        cases b with
        | false =>
          show wpAny _ X.A (handleBy (.ref a) X.env hs2) _ _ _
          exact ih (no rfl)
        | true =>
          refine codeAny_handlers_suite_as (HandSPX.lands_againZ flL fun h4 fl4 up4 => ?_)
          have J4 : Inv X pins σ' H' { s' with heap := h4 } := J.landed nb fl4.1 (upA.trans up4) os ag
          obtain ⟨o4, v4, ge4, z4, da4⟩ := fl4.there
          refine store_ok (X := X.suite a ((a, o4) :: (X.pn ++ pins))) (v := .ref a) (J4.suite ge4 da4 na nL nF) hN hi (.inl hk1) rfl (fun s5 S5 => ?_) (.inr hk1)
          refine wpAny_mono ((hx a o4 cls d (X.pn ++ pins) z4 ⟨_, da4⟩).run [] s5 _ H' _ S5 (yes rfl a na)) (fun fl s6 hsp => ?_) (fun _ _ z => z.elim)
          have over : ∀ {σ6 : L2.St} {H6 : Hp} {Q : Shared → Prop}, Inv (X.suite a ((a, o4) :: (X.pn ++ pins))) [] σ6 H6 s6 → (∀ s7, Inv X pins (σ6.set i none) H6 s7 → Q s7) →
              wpAny (model X.prog X.w) X.A (do bindName X.env n .none; unbindBehindTheSuite X.env n q') (fun _ s7 => Q s7) X.xe s6 := fun {σ6 H6 Q} S6 hq => gone_ok (S6.unsuite ok) hN hi hk1 hq
          cases fl with
          | next => obtain ⟨σ6, H6, S6, q6⟩ := hsp; exact over S6 fun s7 J7 => ⟨_, _, J7, q6⟩
          | brk => obtain ⟨σ6, H6, S6, q6⟩ := hsp; exact over S6 fun s7 J7 => ⟨_, _, J7, q6⟩
          | cont => obtain ⟨σ6, H6, S6, q6⟩ := hsp; exact over S6 fun s7 J7 => ⟨_, _, J7, q6⟩
          | ret u => obtain ⟨v6, σ6, H6, S6, r6, q6⟩ := hsp; exact over S6 fun s7 J7 => ⟨_, _, _, J7, r6, q6⟩
    exact all hh wish
theorem ps_tryCl {X : Cx} {K : Frag} {body : List Stmt} {h₀ : ExceptHandler} {hds : List ExceptHandler} {cl : List Cl} {pos : Pos} {tb : WX → TS} {Wout : WX} (hs : X.stack = X.env :: X.outer) (hf : X.env.frame = some X.env.locals) (hN : X.N.Nodup) (tk : L2N.Takes X Wout)
    (hb : ∀ (W : WX) (pn : List (Addr × Obj)) (xe : Value → Shared → Prop), L2N.Takes (X.tr pn xe) W → PassesOwn (model X.prog X.w) X.A X.env xe → PSs (X.tr pn xe) body (tb W))
    (hh : ClOk X (h₀ :: hds) cl) (hK : X.K = K := by rfl) : PS X (.Try body (h₀ :: hds) [] [] pos) (tTryCl K tb cl Wout) := by
  subst hK
  exact ps_tryCl0 hs hf hN tk hb hh
theorem fldI {f : Str} {x : Exn} {i : Int} (h : Option.bind (fldM f x) decI = some i) : fldM f x = some (.int i) := by
  obtain ⟨d, h1, h2⟩ := Option.bind_eq_some_iff.mp h
  rw [h1, decI_ok h2]
section
variable {K : Frag} {env env' envS envX : List Sl} {α β O S : Type} {ts tu : TS} {enc : O → Out} {m n : Option O} {tx : Addr → Value → Option Addr → TS} {Wout : WX} {i : Nat} {x : Exn} {cl : List Cl}
def HC (K : Frag) (Wout : WX) (cl : List Cl) (envX : List Sl) (enc : O → Out) (x : Exn) (m : Option O) : Prop := ∀ o, m = some o → ∀ ⦃F0 H0 F H : Hp⦄ ⦃σ : List (Option V)⦄ (D : Ends), EnvOk K F0 H0 F H σ envX → Cont K F0 H0 D (enc o) →
  ∀ d, ExA x F H d → wCl K Wout D cl (.ref (He.ga K x.name)) d σ H
def selM (y : Str) (x : Exn) (m n : Option O) : Option O := if x.name ∈ exNames then (if x.name = y then m else n) else none
theorem hc_nil : HC K Wout [] envX enc x none := fun o ho => nomatch ho
theorem hc_hit {c : Value} {r : List Cl} {o : O} {F0 H0 F H : Hp} {σ : List (Option V)} {D : Ends} {d : Option Addr} (hl : i < envX.length) (he : (enc o).fin ∨ ∃ e, enc o = .nx e ∧ e.set i .un = e) (hm : PySem.W.exmOne K (.ref (He.ga K x.name)) c = some true)
    (h : BH K i x tx (envX.set i .un) enc (some o)) (E : EnvOk K F0 H0 F H σ envX) (C : Cont K F0 H0 D (enc o)) (hA : ExA x F H d) : wCl K Wout D ((c, i, tx) :: r) (.ref (He.ga K x.name)) d σ H := by
  refine ⟨true, hm, fun _ a _ => ?_, fun z => nomatch z⟩
  exact h o rfl a d _ (E.setU i) (by rw [List.getElem?_set, if_pos rfl, if_pos (by rw [E.len]; exact hl)]) hA (Cont.clear he C)
theorem hc_sel {y : Str} {m1 m2 : Option O} {r : List Cl} (hE : exB K = true) (hy : y ∈ exNames) (hl : i < envX.length) (he : ∀ o, (enc o).fin ∨ ∃ e, enc o = .nx e ∧ e.set i .un = e) (h1 : x.name = y → BH K i x tx (envX.set i .un) enc m1) (h2 : HC K Wout r envX enc x m2) :
    HC K Wout ((.ref (He.ga K y), i, tx) :: r) envX enc x (selM y x m1 m2) := fun o ho F0 H0 F H σ D E C d hA => by
  unfold selM at ho
  split at ho
  · rename_i hx
    have hm := ((exB_ok hE hx).exm y hy).1
    split at ho
    · rename_i e
      rw [decide_eq_true e] at hm
      subst ho
      exact hc_hit hl (he o) hm (h1 e) E C hA
    · rename_i e
      rw [decide_eq_false e] at hm
      exact ⟨false, hm, (fun z => nomatch z), fun _ => h2 o ho D E C d hA⟩
  · cases ho
theorem bx_tryCl {envS : S → List Sl} {mm : Option (Except Exn S)} {k : S → Option O} {h : Exn → Option O} {tb : WX → TS} (hb : ∀ W, BX K (tb W) env (encB envS envX W) mm) (hk : ∀ s, mm = some (.ok s) → BX K tNext (envS s) enc (k s))
    (hh : ∀ x, mm = some (.error x) → HC K Wout cl envX enc x (h x)) : BX K (tTryCl K tb cl Wout) env enc (tryM mm k h) := fun o ho F0 H0 F H σ D E C => by
  unfold tryM at ho
  obtain ⟨y, e1, e2⟩ := Option.bind_eq_some_iff.mp ho
  cases y with
  | ok s => exact hb _ (.ok s) e1 D E fun F1 H1 σ1 E1 => hk s e1 o e2 D E1 C
  | error x =>
    refine hb _ (.error x) e1 D E fun F1 H1 σ1 E1 => ?_
    have go := hh x e1 o e2 D E1 C
    unfold ExA at go
    unfold exW
    split
    · rename_i q
      rw [q] at go
      exact go none rfl
    · rename_i q1 q
      rw [q] at go
      exact fun dd v hd hv => go (some dd) ⟨dd, v, rfl, hd, hv⟩
end
end Rb

set_option Elab.async false
set_option linter.all false
set_option maxRecDepth 100000
set_option maxHeartbeats 4000000
namespace Rb
open PySem PySem.Spec PyProof.Rows L2
section
variable {K : Frag} {env : List Sl} {ta tb : TE}
end
section
variable {K : Frag} {env : List Sl} {α β : Type} {e : β → PyData} {i : Nat}
end
section
variable {K : Frag} {env : List Sl} {O : Type} {ta tb tc : TE} {tu : TS} {enc : O → Out} {m : Option O}
end
def rvO {α : Type} (e : α → PyData) : Option (List α) → Rv
  | none => .sh .none
  | some xs => .fr (xs.map e)
def EXwO (K : Frag) (te : TE) (env : List Sl) : Option (List PyData) → Prop
  | none => EX K te env .none
  | some ds => EXw K te env ds
section
variable {K : Frag} {env : List Sl} {α O : Type} {e : α → PyData} {te : TE} {tr : TA} {tu : TS} {ds : List PyData} {enc : O → Out}
theorem exo_callF {I : List PyData → Rv → Prop} {E : XK} {y : Option (List α)} (ha : EA K tr env ds) (hI : I ds (rvO e y)) : EXwO K (tCall (Prom I) [] E tr) env (y.map (·.map e)) := by
  cases y with
  | none => exact ex_call ha hI
  | some xs => exact exw_call ha hI
end
end Rb

set_option Elab.async false
set_option linter.all false
set_option maxRecDepth 100000
set_option maxHeartbeats 4000000
namespace Rb
open PySem PySem.Spec PyProof.Rows L2
section
variable {P : Program} {w : World} {A : Around} {E : Value → Shared → Prop} {s : Shared}
end
section
variable {K : Frag} {env : List Sl} {ta : TE}
end
end Rb

set_option Elab.async false
set_option linter.all false
set_option maxRecDepth 100000
set_option maxHeartbeats 4000000
namespace Rb
open PySem PySem.Spec PyProof.Rows L2
section
variable {prog : Program} {w : World} {A : Around} {E : Value → Shared → Prop} {s : Shared}
end
section
variable {α : Type} {le : α → α → Bool}
end
section
variable {K : Frag} {env : List Sl} {ta : TE}
end
section
variable {K : Frag} {env : List Sl} {ta : TE}
end
section
variable {K : Frag} {env : List Sl} {α O : Type} {ds : List PyData} {tu : TS} {enc : O → Out} {m : Option O} {to te : TE}
end
end Rb

set_option Elab.async false
set_option linter.all false
set_option maxRecDepth 100000
set_option maxHeartbeats 2000000
namespace Rb
open PySem PySem.Spec PyProof.Rows L2
section
variable {K : Frag} {env env' env1 : List Sl} {ta tb te tx ty td : TE} {α β S R O : Type} {ts tu : TS} {tt : TT} {enc : O → Out} {m n : Option O} {i : Nat} {d : PyData} {ds es : List PyData} {wi : TI} {g : TG}
def repOkL (xs : List α) (k : Int) : Prop := k < 2 ^ 62 ∧ -(2 ^ 62) ≤ k ∧ xs.length * k.toNat ≤ lim
instance (xs : List α) (k : Int) : Decidable (repOkL xs k) := inferInstanceAs (Decidable (_ ∧ _ ∧ _))
end
end Rb

set_option Elab.async false
set_option linter.all false
set_option maxRecDepth 100000
set_option maxHeartbeats 2000000
namespace Rb
namespace HTx
open PySem PySem.Spec PyProof.Rows HT
section
variable {prog : Program} {w : World} {A : Around} {E : Value → Shared → Prop} {s : Shared}
end
end HTx
open PySem PySem.Spec PyProof.Rows L2
end Rb

set_option Elab.async false
set_option linter.all false
set_option maxRecDepth 100000
set_option maxHeartbeats 2000000
namespace Rb
open PySem PySem.Spec PyProof.Rows L2
mutual
theorem Tr.uniq {F H : Hp} : ∀ {v : V} {t : OT} {A B : List Addr}, Tr F H v t A → Tr F H v t B → A = B
  | _, _, _, _, .d _, h => by cases h; rfl
  | _, _, _, _, .lst _ _ _, h => by cases h; rfl
  | _, _, _, _, .dk _ _ _, h => by cases h; rfl
  | _, _, _, _, .obj h1 h2 _ h4, h => by
    cases h with
    | obj k1 k2 _ k4 =>
      rw [h1] at k1
      cases k1
      rw [TrAll.uniq h4 k4]
  | _, _, _, _, .rc h1 _ h3, h => by
    cases h with
    | rc k1 _ k3 =>
      rw [h1] at k1
      cases k1
      rw [TrAll.uniq h3 k3]
  | _, _, _, _, .arr h1 h2 _, h => by
    cases h with
    | arr k1 k2 _ =>
      rw [h1] at k1
      cases k1
      rw [TrAll.uniq h2 k2]
  | _, _, _, _, .val, h => by cases h; rfl
  | _, _, _, _, .tup h1 h2 _, h => by
    cases h with
    | tup k1 k2 _ =>
      rw [h1] at k1
      cases k1
      rw [TrAll.uniq h2 k2]
  | _, _, _, _, .pin h1, h => by
    cases h with
    | pin k1 => exact Tr.uniq h1 k1
theorem TrAll.uniq {F H : Hp} : ∀ {vs : List V} {ts : List OT} {A B : List Addr}, TrAll F H vs ts A → TrAll F H vs ts B → A = B
  | _, _, _, _, .nil, h => by cases h; rfl
  | _, _, _, _, .cons h1 h2, h => by
    cases h with
    | cons k1 k2 => rw [Tr.uniq h1 k1, TrAll.uniq h2 k2]
end
def slT (v : V) (t : OT) : Sl := match v with
  | .ref p => .tb p t
  | _ => .tr t
theorem slT_ok {K : Frag} {H0 F H : Hp} {v : V} {t : OT} {A : List Addr} : SlA K H0 F H (some v) A (slT v t) ↔ Tr F H v t A ∧ A.Nodup ∧ ∀ a, a ∈ A → F a = none ∧ H0 a = none := by
  cases v with
  | ref p =>
    show (some (V.ref p) = some (V.ref p) ∧ Tr F H (.ref p) t A ∧ A.Nodup ∧ ∀ a, a ∈ A → F a = none ∧ H0 a = none) ↔ _
    exact ⟨fun h => h.2, fun h => ⟨rfl, h⟩⟩
  | _ =>
    show (∃ w, some _ = some w ∧ Tr F H w t A ∧ A.Nodup ∧ ∀ a, a ∈ A → F a = none ∧ H0 a = none) ↔ _
    constructor
    · rintro ⟨w, e, h⟩
      cases e
      exact h
    · intro h
      exact ⟨_, rfl, h⟩
theorem tr_ok {K : Frag} {H0 F H : Hp} {v : V} {t : OT} {A : List Addr} : SlA K H0 F H (some v) A (.tr t) ↔ Tr F H v t A ∧ A.Nodup ∧ ∀ a, a ∈ A → F a = none ∧ H0 a = none := by
  show (∃ w, some v = some w ∧ Tr F H w t A ∧ A.Nodup ∧ ∀ a, a ∈ A → F a = none ∧ H0 a = none) ↔ _
  constructor
  · rintro ⟨w, e, h⟩
    cases e
    exact h
  · intro h
    exact ⟨_, rfl, h⟩
def Sl.up : Sl → OT → Sl
  | .tb p _, u => .tb p u
  | _, u => .tr u
def Sl.isT : Sl → OT → Prop
  | .tb _ t, u => t = u
  | .tr t, u => t = u
  | _, _ => False
theorem isT_at {K : Frag} {H0 F H : Hp} {o : Option V} {A : List Addr} {s : Sl} {t : OT} (h : s.isT t) (a : SlA K H0 F H o A s) : ∃ v, o = some v ∧ Tr F H v t A ∧ A.Nodup ∧ ∀ a, a ∈ A → F a = none ∧ H0 a = none := by
  cases s with
  | tr u => cases h; exact a
  | tb p u => cases h; exact ⟨_, a.1, a.2⟩
  | _ => cases h
section
variable {K : Frag} {F0 H0 F H F' H' : Hp} {σ : List (Option V)} {env env' : List Sl}
theorem push_env {env : List Sl} {r : Sl} {j : Nat} {s : Sl} (h : (env ++ [r])[j]? = some s) : (j < env.length ∧ env[j]? = some s) ∨ (j = env.length ∧ s = r) := by
  by_cases c : j < env.length
  · rw [List.getElem?_append_left c] at h
    exact .inl ⟨c, h⟩
  · rw [List.getElem?_append_right (by omega)] at h
    obtain ⟨l, e⟩ := List.getElem?_eq_some_iff.mp h
    rw [List.length_singleton] at l
    have : j = env.length := by omega
    subst this
    refine .inr ⟨rfl, ?_⟩
    simp at e
    exact e.symm
theorem EnvOk.ret (E : EnvOk K F0 H0 F H σ env) {C : List Addr} (e : Ex F F') (fh : Ex F' H') (k : ∀ a u, H a = some u → F a = none → a ∉ C → (NoTup u → F' a = none) ∧ H' a = some u)
    {i : Nat} {s t : Sl} {o : Option V} (hi : env[i]? = some s) (ho : σ[i]? = some o) (hc : ∀ A, SlA K H0 F H o A s → ∀ c, c ∈ C → c ∈ A) {B : List Addr} (hb : ∀ b, b ∈ B → H b = none ∨ b ∈ C) (ht : SlA K H0 F' H' o B t)
    {v : V} {r : Sl} {D : List Addr} (hd : ∀ b, b ∈ D → H b = none ∨ b ∈ C) (hr : SlA K H0 F' H' (some v) D r) (dis : ∀ b, b ∈ B → b ∉ D) : EnvOk K F0 H0 F' H' (σ ++ [some v]) (env.set i t ++ [r]) := by
  have P := E.put i o (B := B) (C := C) e fh k (.inr ⟨s, o, hi, ho, hc⟩) hb ht
  rw [set_self ho] at P
  obtain ⟨As0, a0, d0⟩ := E.as
  have il : i < env.length := (List.getElem?_eq_some_iff.mp hi).1
  -- the same places as in put, with D behind
  have cA : ∀ c, c ∈ C → c ∈ As0 i := fun c m => by
    obtain ⟨o', h1, h2⟩ := a0 i s hi
    rw [ho] at h1
    cases h1
    exact hc _ h2 c m
  have keep : ∀ j s', j ≠ i → env[j]? = some s' → ∃ o', σ[j]? = some o' ∧ SlA K H0 F' H' o' (As0 j) s' := fun j s' n hj => by
    obtain ⟨o', h1, h2⟩ := a0 j s' hj
    refine ⟨o', h1, h2.keep e k (fun c m => ?_) fun c m mc => ?_⟩
    · obtain ⟨o2, h3, h4⟩ := a0 i s hi
      have := h4.free c (cA c m)
      exact ⟨this.2.1, fun u hu => by
        obtain ⟨_, _, u', hu', nx⟩ := this
        rw [hu] at hu'; cases hu'
        exact nx⟩
    · exact n (d0 j i s' s c hj hi m (cA c mc))
  have far : ∀ j s' p, j ≠ i → env[j]? = some s' → p ∈ As0 j → (H p = none ∨ p ∈ C) → False := fun j s' p n hj m z => by
    obtain ⟨o', h1, h2⟩ := a0 j s' hj
    rcases z with z | z
    · obtain ⟨_, _, u, hu, _⟩ := h2.free p m
      rw [z] at hu; cases hu
    · exact n (d0 j i s' s p hj hi m (cA p z))
  refine ⟨P.z, by simp [E.len], fun j => if j = env.length then D else if j = i then B else As0 j, fun j s' h => ?_, fun j l s' t' p hj hl mj ml => ?_⟩
  · rcases push_env h with ⟨c, h⟩ | ⟨c, rfl⟩
    · rw [List.length_set] at c
      have nj : j ≠ env.length := by omega
      rw [List.getElem?_append_left (by rw [E.len]; exact c)]
      dsimp only
      rw [if_neg nj]
      rcases set_env h with ⟨rfl, rfl, _⟩ | ⟨n, h⟩
      · exact ⟨o, ho, by rw [if_pos rfl]; exact ht⟩
      · rw [if_neg n]
        exact keep j s' n h
    · rw [List.length_set] at c
      refine ⟨some v, ?_, ?_⟩
      · rw [c, ← E.len, List.getElem?_append_right (Nat.le_refl _)]
        simp
      · dsimp only
        rw [if_pos c]
        exact hr
  · dsimp only at mj ml
    rcases push_env hj with ⟨cj, hj⟩ | ⟨cj, ej⟩
    · rw [List.length_set] at cj
      rw [if_neg (show j ≠ env.length by omega)] at mj
      rcases push_env hl with ⟨cl, hl⟩ | ⟨cl, el⟩
      · rw [List.length_set] at cl
        rw [if_neg (show l ≠ env.length by omega)] at ml
        rcases set_env hj with ⟨rfl, _, _⟩ | ⟨nj, hj2⟩
        · rw [if_pos rfl] at mj
          rcases set_env hl with ⟨rfl, _, _⟩ | ⟨nl, hl2⟩
          · rfl
          · rw [if_neg nl] at ml
            exact (far l t' p nl hl2 ml (hb p mj)).elim
        · rw [if_neg nj] at mj
          rcases set_env hl with ⟨rfl, _, _⟩ | ⟨nl, hl2⟩
          · rw [if_pos rfl] at ml
            exact (far j s' p nj hj2 mj (hb p ml)).elim
          · rw [if_neg nl] at ml
            exact d0 j l s' t' p hj2 hl2 mj ml
      · rw [List.length_set] at cl
        rw [if_pos cl] at ml
        rcases set_env hj with ⟨rfl, _, _⟩ | ⟨nj, hj2⟩
        · rw [if_pos rfl] at mj
          exact (dis p mj ml).elim
        · rw [if_neg nj] at mj
          exact (far j s' p nj hj2 mj (hd p ml)).elim
    · rw [List.length_set] at cj
      rw [if_pos cj] at mj
      rcases push_env hl with ⟨cl, hl⟩ | ⟨cl, el⟩
      · rw [List.length_set] at cl
        rw [if_neg (show l ≠ env.length by omega)] at ml
        rcases set_env hl with ⟨rfl, _, _⟩ | ⟨nl, hl2⟩
        · rw [if_pos rfl] at ml
          exact (dis p ml mj).elim
        · rw [if_neg nl] at ml
          exact (far l t' p nl hl2 ml (hd p mj)).elim
      · rw [List.length_set] at cl
        rw [cj, cl]
theorem EnvOk.push (E : EnvOk K F0 H0 F H σ env) (z : Fz F H F' H') {v : Option V} {r : Sl} {D : List Addr} (hd : ∀ b, b ∈ D → H b = none) (hr : SlA K H0 F' H' v D r) : EnvOk K F0 H0 F' H' (σ ++ [v]) (env ++ [r]) := by
  obtain ⟨As, a, d⟩ := (E.step z).as
  obtain ⟨As0, a0, d0⟩ := E.as
  have P := E.step z
  have keep : ∀ j s', env[j]? = some s' → ∃ o', σ[j]? = some o' ∧ SlA K H0 F' H' o' (As0 j) s' ∧ ∀ p, p ∈ As0 j → H p ≠ none := fun j s' hj => by
    obtain ⟨o', h1, h2⟩ := a0 j s' hj
    refine ⟨o', h1, h2.keep (C := []) z.f (fun p u hp hf _ => z.own' p u hp hf) (fun _ m => by cases m) (fun _ _ m => by cases m), fun p m y => ?_⟩
    obtain ⟨_, _, u, hu, _⟩ := h2.free p m
    rw [y] at hu; cases hu
  refine ⟨P.z, by simp [E.len], fun j => if j = env.length then D else As0 j, fun j s' h => ?_, fun j l s' t' p hj hl mj ml => ?_⟩
  · rcases push_env h with ⟨c, h⟩ | ⟨c, rfl⟩
    · rw [List.getElem?_append_left (by rw [E.len]; exact c)]
      dsimp only
      rw [if_neg (show j ≠ env.length by omega)]
      obtain ⟨o', h1, h2, _⟩ := keep j s' h
      exact ⟨o', h1, h2⟩
    · refine ⟨v, ?_, ?_⟩
      · rw [c, ← E.len, List.getElem?_append_right (Nat.le_refl _)]
        simp
      · dsimp only
        rw [if_pos c]
        exact hr
  · dsimp only at mj ml
    rcases push_env hj with ⟨cj, hj⟩ | ⟨cj, ej⟩
    · rw [if_neg (show j ≠ env.length by omega)] at mj
      rcases push_env hl with ⟨cl, hl⟩ | ⟨cl, el⟩
      · rw [if_neg (show l ≠ env.length by omega)] at ml
        exact d0 j l s' t' p hj hl mj ml
      · rw [if_pos cl] at ml
        exact ((keep j s' hj).choose_spec.2.2 p mj (hd p ml)).elim
    · rw [if_pos cj] at mj
      rcases push_env hl with ⟨cl, hl⟩ | ⟨cl, el⟩
      · rw [if_neg (show l ≠ env.length by omega)] at ml
        exact ((keep l t' hl).choose_spec.2.2 p ml (hd p mj)).elim
      · rw [cj, cl]
theorem EnvOk.pop {v : Option V} {r : Sl} (E : EnvOk K F0 H0 F H (σ ++ [v]) (env ++ [r])) : EnvOk K F0 H0 F H σ env := by
  obtain ⟨As, a, d⟩ := E.as
  have l : σ.length = env.length := by have := E.len; simp at this; exact this
  have up : ∀ {j : Nat} {s : Sl}, env[j]? = some s → (env ++ [r])[j]? = some s := fun {j s} h => by
    rw [List.getElem?_append_left (List.getElem?_eq_some_iff.mp h).1]; exact h
  refine ⟨E.z, l, As, fun j s h => ?_, fun i j s t p h1 h2 => d i j s t p (up h1) (up h2)⟩
  obtain ⟨o, h1, h2⟩ := a j s (up h)
  have jl : j < σ.length := by rw [l]; exact (List.getElem?_eq_some_iff.mp h).1
  rw [List.getElem?_append_left jl] at h1
  exact ⟨o, h1, h2⟩
theorem EnvOk.last {v : V} {r : Sl} (E : EnvOk K F0 H0 F H (σ ++ [some v]) (env ++ [r])) : ∃ D, SlA K H0 F H (some v) D r := by
  obtain ⟨As, a, d⟩ := E.as
  have l : σ.length = env.length := by have := E.len; simp at this; exact this
  obtain ⟨o, h1, h2⟩ := a env.length r (by rw [List.getElem?_append_right (Nat.le_refl _)]; simp)
  rw [← l, List.getElem?_append_right (Nat.le_refl _)] at h1
  simp at h1
  subst h1
  exact ⟨_, h2⟩
theorem EnvOk.pull {v : V} {r : Sl} (E : EnvOk K F0 H0 F H (σ ++ [some v]) (env ++ [r])) (i : Nat) {s : Sl} (hs : ∀ D, SlA K H0 F H (some v) D r → SlA K H0 F H (some v) D s) : EnvOk K F0 H0 F H (σ.set i (some v)) (env.set i s) := by
  obtain ⟨As, a, d⟩ := E.as
  have l : σ.length = env.length := by have := E.len; simp at this; exact this
  have up : ∀ {j : Nat} {s : Sl}, env[j]? = some s → (env ++ [r])[j]? = some s := fun {j s} h => by
    rw [List.getElem?_append_left (List.getElem?_eq_some_iff.mp h).1]; exact h
  have hl : (env ++ [r])[env.length]? = some r := by rw [List.getElem?_append_right (Nat.le_refl _)]; simp
  refine ⟨E.z, by rw [List.length_set, List.length_set, l], fun j => if j = i then As env.length else As j, fun j t h => ?_, fun j m t u p hj hm mj mm => ?_⟩
  · rcases set_env h with ⟨rfl, rfl, il⟩ | ⟨n, h⟩
    · refine ⟨some v, by rw [List.getElem?_set, if_pos rfl, if_pos (by rw [l]; exact il)], ?_⟩
      dsimp only
      rw [if_pos rfl]
      obtain ⟨o, h1, h2⟩ := a env.length r hl
      rw [← l, List.getElem?_append_right (Nat.le_refl _)] at h1
      simp at h1
      subst h1
      exact hs _ h2
    · obtain ⟨o, h1, h2⟩ := a j t (up h)
      have jl : j < σ.length := by rw [l]; exact (List.getElem?_eq_some_iff.mp h).1
      rw [List.getElem?_append_left jl] at h1
      refine ⟨o, by rw [List.getElem?_set, if_neg fun z => n z.symm]; exact h1, ?_⟩
      dsimp only
      rw [if_neg n]
      exact h2
  · dsimp only at mj mm
    rcases set_env hj with ⟨ej, _, _⟩ | ⟨nj, hj⟩
    · rw [if_pos ej] at mj
      rcases set_env hm with ⟨em, _, _⟩ | ⟨nm, hm⟩
      · rw [ej, em]
      · rw [if_neg nm] at mm
        have := d env.length m r u p hl (up hm) mj mm
        have := (List.getElem?_eq_some_iff.mp hm).1
        omega
    · rw [if_neg nj] at mj
      rcases set_env hm with ⟨em, _, _⟩ | ⟨nm, hm⟩
      · rw [if_pos em] at mm
        have := d j env.length t r p (up hj) hl mj mm
        have := (List.getElem?_eq_some_iff.mp hj).1
        omega
      · rw [if_neg nm] at mm
        exact d j m t u p (up hj) (up hm) mj mm
end
end Rb

set_option Elab.async false
set_option linter.all false
set_option maxRecDepth 100000
set_option maxHeartbeats 2000000
namespace Rb
open PySem PySem.Spec PyProof.Rows L2
inductive Ag where
  | d (d : PyData)
  | ro (t : OT)
  | mu (t : OT)
def Ag.isMu : Ag → Bool
  | .mu _ => true
  | _ => false
def Ag.pre (v : V) : Ag → Sl
  | .d q => .sh q
  | .ro t => .ro t
  | .mu t => slT v t
def pres : List V → List Ag → List Sl
  | v :: vs, a :: as => a.pre v :: pres vs as
  | _, _ => []
def posts : List V → List Ag → List OT → List Sl
  | v :: vs, .mu _ :: as, u :: us => slT v u :: posts vs as us
  | _ :: vs, _ :: as, us => .un :: posts vs as us
  | _, _, _ => []
def mus : List Ag → List OT
  | .mu t :: as => t :: mus as
  | _ :: as => mus as
  | [] => []
theorem pres_len : ∀ {vs : List V} {as : List Ag}, vs.length = as.length → (pres vs as).length = as.length
  | [], [], _ => rfl
  | v :: vs, a :: as, h => by
    show (pres vs as).length + 1 = as.length + 1
    rw [pres_len (by simpa using h)]
  | [], _ :: _, h => by cases h
  | _ :: _, [], h => by cases h
theorem pres_get : ∀ {vs : List V} {as : List Ag} {j : Nat} {v : V} {a : Ag}, vs[j]? = some v → as[j]? = some a → (pres vs as)[j]? = some (a.pre v)
  | v :: vs, a :: as, 0, _, _, h1, h2 => by cases h1; cases h2; rfl
  | v :: vs, a :: as, j + 1, _, _, h1, h2 => by
    show (pres vs as)[j]? = _
    exact pres_get (by simpa using h1) (by simpa using h2)
  | [], _, _, _, _, h1, _ => by simp at h1
  | _ :: _, [], _, _, _, _, h2 => by simp at h2
theorem posts_len : ∀ {vs : List V} {as : List Ag} {us : List OT}, vs.length = as.length → (posts vs as us).length = as.length
  | [], [], us, _ => by unfold posts; rfl
  | v :: vs, .mu t :: as, u :: us, h => by
    show (posts vs as us).length + 1 = as.length + 1
    rw [posts_len (by simpa using h)]
  | v :: vs, .mu t :: as, [], h => by
    show (posts vs as []).length + 1 = as.length + 1
    rw [posts_len (by simpa using h)]
  | v :: vs, .d t :: as, us, h => by
    show (posts vs as us).length + 1 = as.length + 1
    rw [posts_len (by simpa using h)]
  | v :: vs, .ro t :: as, us, h => by
    show (posts vs as us).length + 1 = as.length + 1
    rw [posts_len (by simpa using h)]
  | [], _ :: _, _, h => by cases h
  | _ :: _, [], _, h => by cases h
inductive Rt where
  | t (t : OT)
  | un
def RetE (K : Frag) (F H0 : Hp) (vs : List V) (as : List Ag) (Q : VK) (E : XK) : (Rt × List OT) ⊕ Exn → Prop
  | .inl (.t t, us) => ∀ F' H' v, EnvOk K F H0 F' H' (vs.map some ++ [some v]) (posts vs as us ++ [.tr t]) → Q v H'
  | .inl (.un, us) => ∀ F' H' v, EnvOk K F H0 F' H' (vs.map some) (posts vs as us) → Q v H'
  | .inr x => ∀ F' H', EnvOk K F H0 F' H' (vs.map some) (posts vs as (mus as)) → exW K x F' H' fun c d => E c d H'
def PromE (K : Frag) (I : List Ag → (Rt × List OT) ⊕ Exn → Prop) : Sp := fun vs H Q E => ∃ F H0 as r, vs.length = as.length ∧ EnvOk K F H0 F H (vs.map some) (pres vs as) ∧ I as r ∧ RetE K F H0 vs as Q E r
def ImE {A R : Type} (ea : A → List Ag) (er : R → Rt) (ou : R → List OT) (f : A → Option (Except Exn R)) : List Ag → (Rt × List OT) ⊕ Exn → Prop := fun as r => ∃ a y, as = ea a ∧ f a = some y ∧ r = (match y with
  | .ok y => .inl (er y, ou y)
  | .error x => .inr x)
inductive Sr where
  | d (d : PyData)
  | ro (i : Nat) (t : OT)
  | mu (i : Nat) (t : OT)
def Sr.ag : Sr → Ag
  | .d q => .d q
  | .ro _ t => .ro t
  | .mu _ t => .mu t
def SrV (F : Hp) (σ : List (Option V)) (v : V) : Sr → Prop
  | .d d => Dq F v d
  | .ro i _ => σ[i]? = some (some v)
  | .mu i _ => σ[i]? = some (some v)
def AllS (F : Hp) (σ : List (Option V)) : List V → List Sr → Prop
  | [], [] => True
  | v :: vs, s :: ss => SrV F σ v s ∧ AllS F σ vs ss
  | _, _ => False
theorem SrV.mono {F F' : Hp} {σ : List (Option V)} (e : Ex F F') {v : V} : ∀ {s : Sr}, SrV F σ v s → SrV F' σ v s
  | .d _, h => Dq.mono' e h
  | .ro _ _, h => h
  | .mu _ _, h => h
theorem AllS.len {F : Hp} {σ : List (Option V)} : ∀ {vs : List V} {ss : List Sr}, AllS F σ vs ss → vs.length = ss.length
  | [], [], _ => rfl
  | v :: vs, s :: ss, h => by rw [List.length_cons, List.length_cons, AllS.len h.2]
  | [], _ :: _, h => h.elim
  | _ :: _, [], h => h.elim
theorem AllS.get {F : Hp} {σ : List (Option V)} : ∀ {vs : List V} {ss : List Sr} {j : Nat} {s : Sr}, AllS F σ vs ss → ss[j]? = some s → ∃ v, vs[j]? = some v ∧ SrV F σ v s
  | v :: vs, s :: ss, 0, _, h, e => by cases e; exact ⟨v, rfl, h.1⟩
  | v :: vs, s :: ss, j + 1, _, h, e => by
    obtain ⟨w, e1, e2⟩ := AllS.get h.2 (by simpa using e)
    exact ⟨w, by simpa using e1, e2⟩
  | [], [], _, _, _, e => by simp at e
  | [], _ :: _, _, _, h, _ => h.elim
  | _ :: _, [], _, _, h, _ => h.elim
def EAg (K : Frag) (ta : TA) (env : List Sl) (ss : List Sr) : Prop := ∀ ⦃F0 H0 F H : Hp⦄ ⦃σ : List (Option V)⦄, EnvOk K F0 H0 F H σ env → ∀ Q : List V → Hp → Prop, (∀ vs F' H', Fz F H F' H' → AllS F' σ vs ss → Q vs H') → ta σ H Q
def Stands (s : Sl) (t : OT) : Prop := s.isT t ∨ s = .ro t
def SrOk (env : List Sl) : Sr → Prop
  | .d _ => True
  | .ro i t => ∃ s, env[i]? = some s ∧ Stands s t
  | .mu i t => ∃ s, env[i]? = some s ∧ s.isT t
section
variable {K : Frag} {F0 H0 F H F' H' : Hp} {σ : List (Option V)} {env env' : List Sl} {te ta : TE} {tr : TA} {ss : List Sr} {d : PyData}
theorem eag_nil : EAg K tNil env [] := fun F0 H0 F H σ E Q q => q [] F H (Fz.refl E.fh) trivial
theorem eag_d (ha : EX K te env d) (hr : EAg K tr env ss) : EAg K (tCons te tr) env (.d d :: ss) := fun F0 H0 F H σ E Q q =>
  ha E _ fun v F1 H1 z1 h1 => hr (E.step z1) _ fun vs F2 H2 z2 h2 => q _ F2 H2 (z1.trans z2) ⟨Dq.mono' z2.f h1, h2⟩
def less (H : Hp) (A : List Addr) : Hp := fun a => if a ∈ A then none else H a
theorem callee (E : EnvOk K F0 H0 F H σ env) {vs : List V} (a : AllS F σ vs ss) (ok : ∀ (j : Nat) (s : Sr), ss[j]? = some s → SrOk env s) (A : List Addr) (z : ∀ c, c ∈ A → H0 c = none) (far : ∀ (i : Nat) (t : OT) (j : Nat), ss[j]? = some (.ro i t) → ∀ (o : Option V) (s : Sl) (B : List Addr), env[i]? = some s → σ[i]? = some o → SlA K H0 F H o B s → ∀ b, b ∈ B → b ∉ A)
    (As : Nat → List Addr) (hm : ∀ (j i : Nat) (t : OT), ss[j]? = some (.mu i t) → ∃ v, vs[j]? = some v ∧ SlA K (less H A) F H (some v) (As j) (slT v t)) (hn : ∀ (j : Nat) (s : Sr), ss[j]? = some s → s.ag.isMu = false → As j = []) (ha : ∀ (i j : Nat) (s t : Sr) (p : Addr), ss[i]? = some s → ss[j]? = some t → p ∈ As i → p ∈ As j → i = j) :
    EnvOk K F (less H A) F H (vs.map some) (pres vs (ss.map Sr.ag)) := by
  have len := a.len
  have pl : (pres vs (ss.map Sr.ag)).length = ss.length := by rw [pres_len (by rw [List.length_map, len]), List.length_map]
  have get : ∀ j sl, (pres vs (ss.map Sr.ag))[j]? = some sl → ∃ s v, ss[j]? = some s ∧ vs[j]? = some v ∧ SrV F σ v s ∧ sl = s.ag.pre v := fun j sl h => by
    have jl : j < ss.length := by rw [← pl]; exact (List.getElem?_eq_some_iff.mp h).1
    have hs : ss[j]? = some ss[j] := List.getElem?_eq_getElem jl
    obtain ⟨v, h1, h2⟩ := a.get hs
    refine ⟨_, v, hs, h1, h2, ?_⟩
    rw [pres_get h1 (by rw [List.getElem?_map, hs]; rfl)] at h
    cases h
    rfl
  refine ⟨⟨Evl.Ex.refl F, E.fh, fun p o hp hf => ⟨fun _ => hf, ?_⟩⟩, by rw [List.length_map, pl, len], As, fun j sl h => ?_, fun i j s t p h1 h2 => ?_⟩
  · unfold less at hp
    by_cases c : p ∈ A
    · rw [if_pos c] at hp; cases hp
    · rw [if_neg c] at hp; exact hp
  · obtain ⟨s, v, h1, h2, h3, rfl⟩ := get j sl h
    refine ⟨some v, by rw [List.getElem?_map, h2]; rfl, ?_⟩
    cases s with
    | d d =>
      rw [hn j _ h1 rfl]
      exact ⟨⟨v, rfl, h3⟩, rfl⟩
    | mu i t =>
      obtain ⟨w, e1, e2⟩ := hm j i t h1
      rw [h2] at e1
      cases e1
      exact e2
    | ro i t =>
      rw [hn j _ h1 rfl]
      obtain ⟨s, hi, st⟩ := ok j _ h1
      obtain ⟨Bs, ba, _⟩ := E.as
      obtain ⟨o, e1, e2⟩ := ba i s hi
      have h3 : σ[i]? = some (some v) := h3
      rw [h3] at e1
      cases e1
      have fa := far i t j h1 _ s _ hi h3 e2
      rcases st with st | rfl
      · obtain ⟨w, e, T, nd, fr⟩ := isT_at st e2
        cases e
        refine ⟨⟨v, Bs i, rfl, T, fun b hb => ⟨(fr b hb).1, ?_⟩⟩, rfl⟩
        obtain ⟨u, hu, _⟩ := T.at b hb
        exact ⟨u, by unfold less; rw [if_neg (fa b hb)]; exact hu⟩
      · obtain ⟨⟨w, B, e, T, fr⟩, _⟩ := e2
        cases e
        refine ⟨⟨v, B, rfl, T, fun b hb => ⟨(fr b hb).1, ?_⟩⟩, rfl⟩
        obtain ⟨u, hu, _⟩ := T.at b hb
        obtain ⟨_, u0, hu0⟩ := fr b hb
        refine ⟨u, ?_⟩
        unfold less
        rw [if_neg fun m => by rw [z b m] at hu0; cases hu0]
        exact hu
  · obtain ⟨s', v, q1, _⟩ := get i s h1
    obtain ⟨t', w, q2, _⟩ := get j t h2
    exact ha i j s' t' p q1 q2
theorem call0 (E : EnvOk K F0 H0 F H σ env) {vs : List V} (a : AllS F σ vs ss) (ok : ∀ (j : Nat) (s : Sr), ss[j]? = some s → SrOk env s) (nm : ∀ (j : Nat) (s : Sr), ss[j]? = some s → s.ag.isMu = false) :
    EnvOk K F (less H []) F H (vs.map some) (pres vs (ss.map Sr.ag)) :=
  callee E a ok [] (fun _ m => by cases m) (fun _ _ _ _ _ _ _ _ _ _ _ _ m => by cases m) (fun _ => []) (fun j i t h => by cases nm j _ h) (fun _ _ _ _ => rfl) fun _ _ _ _ _ _ _ m => by cases m
theorem less_nil : less H [] = H := by
  funext a
  unfold less
  rw [if_neg (by simp)]
end
end Rb

set_option Elab.async false
set_option linter.all false
set_option maxRecDepth 100000
set_option maxHeartbeats 2000000
namespace Rb
open PySem PySem.Spec PyProof.Rows L2
def EXe (K : Frag) (te : TE) (env : List Sl) (t : OT) (env' : List Sl) : Prop := ∀ ⦃F0 H0 F H : Hp⦄ ⦃σ : List (Option V)⦄, EnvOk K F0 H0 F H σ env → ∀ Q : VK, (∀ v F' H', Ex F F' → EnvOk K F0 H0 F' H' (σ ++ [some v]) (env' ++ [.tr t]) → Q v H') → te σ H Q
def EXn (K : Frag) (te : TE) (env env' : List Sl) : Prop := ∀ ⦃F0 H0 F H : Hp⦄ ⦃σ : List (Option V)⦄, EnvOk K F0 H0 F H σ env → ∀ Q : VK, (∀ v F' H', Ex F F' → EnvOk K F0 H0 F' H' σ env' → Q v H') → te σ H Q
def EXt (K : Frag) (te : TE) (env : List Sl) (t : OT) : Prop := ∀ ⦃F0 H0 F H : Hp⦄ ⦃σ : List (Option V)⦄, EnvOk K F0 H0 F H σ env → ∀ Q : VK, (∀ v F' H' B, Fz F H F' H' → Tr F' H' v t B → B.Nodup → (∀ b, b ∈ B → H b = none ∧ F' b = none) → Q v H') → te σ H Q
def ERRe (K : Frag) (W : WX) (te : TE) (env : List Sl) (x : Exn) : Prop := ∀ ⦃F0 H0 F H : Hp⦄ ⦃σ : List (Option V)⦄, EnvOk K F0 H0 F H σ env → ∀ Q : VK, (∀ F' H', EnvOk K F0 H0 F' H' σ env → exW K x F' H' fun c d => W c d σ H') → te σ H Q
section
variable {K : Frag} {env env' env1 : List Sl} {t u : OT} {d : PyData} {ds : List PyData} {te ta tb : TE} {tr : TA} {ss : List Sr} {W : WX} {x : Exn} {ts : TS} {O : Type} {enc : O → Out}
theorem EXe.n (h : EXe K te env t env') : EXn K te env env' := fun F0 H0 F H σ E Q q => h E Q fun v F' H' e E' => q v F' H' e E'.pop
theorem EX.thing (h : EX K te env d) : EXt K te env (.d d) := fun F0 H0 F H σ E Q q => h E Q fun v F' H' z hv => q v F' H' [] z (.d hv) .nil fun _ m => by cases m
theorem EXw.thing (h : EXw K te env ds) : EXt K te env (.lst ds) := fun F0 H0 F H σ E Q q => h E Q fun p vs F' H' z hn hf h1 h2 h3 => q (.ref p) F' H' [p] z (.lst h1 h2 h3) (by simp) fun b m => by
  obtain rfl := List.mem_singleton.mp m
  exact ⟨hn, hf⟩
theorem EXt.e (h : EXt K te env t) : EXe K te env t env := fun F0 H0 F H σ E Q q => h E Q fun v F' H' B z T nd fr => q v F' H' z.f (E.push z (D := B) (fun b m => (fr b m).1) (tr_ok.mpr ⟨T, nd, fun b m => ⟨(fr b m).2, E.z.hn (fr b m).1⟩⟩))
theorem EXt.sh (h : EXt K te env (.d d)) : EX K te env d := fun F0 H0 F H σ E Q q => h E Q fun v F' H' B z T _ _ => by
  cases T with
  | d hd => exact q v F' H' z hd
theorem EX.n (h : EX K te env d) : EXn K te env env := h.thing.e.n
theorem ERR.e (h : ERR K W te env x) : ERRe K W te env x := fun F0 H0 F H σ E Q q => h E Q fun F' H' z => q F' H' (E.step z)
theorem call0_ret {F H F' H' : Hp} {vs : List V} {as : List Ag} {w : V} (E' : EnvOk K F H F' H' (vs.map some ++ [some w]) (posts vs as [] ++ [.tr t])) : Fz F H F' H' ∧ ∃ B, Tr F' H' w t B ∧ B.Nodup ∧ ∀ b, b ∈ B → H b = none ∧ F' b = none := by
  obtain ⟨D, hD⟩ := E'.last
  have := tr_ok.mp hD
  exact ⟨E'.z, D, this.1, this.2.1, fun b m => ⟨(this.2.2 b m).2, (this.2.2 b m).1⟩⟩
variable {I : List Ag → (Rt × List OT) ⊕ Exn → Prop} {Ek : L2.St → XK}
theorem ext_call0 (ha : EAg K tr env ss) (ok : ∀ (j : Nat) (s : Sr), ss[j]? = some s → SrOk env s) (nm : ∀ (j : Nat) (s : Sr), ss[j]? = some s → s.ag.isMu = false) (hI : I (ss.map Sr.ag) (.inl (.t t, []))) : EXt K (tCallS (PromE K I) Ek tr) env t := fun F0 H0 F H σ E Q q =>
  ha E _ fun vs F1 H1 z1 a1 => by
    have c := call0 (E.step z1) a1 ok nm
    rw [less_nil] at c
    refine ⟨F1, H1, ss.map Sr.ag, _, by rw [List.length_map]; exact a1.len, c, hI, fun F2 H2 w E2 => ?_⟩
    obtain ⟨z2, B, T, nd, fr⟩ := call0_ret E2
    exact q w F2 H2 B (z1.trans z2) T nd fun b m => ⟨z1.hn (fr b m).1, (fr b m).2⟩
theorem err_call0 (ha : EAg K tr env ss) (ok : ∀ (j : Nat) (s : Sr), ss[j]? = some s → SrOk env s) (nm : ∀ (j : Nat) (s : Sr), ss[j]? = some s → s.ag.isMu = false) (hI : I (ss.map Sr.ag) (.inr x)) : ERR K W (tCallS (PromE K I) (WE W) tr) env x := fun F0 H0 F H σ E Q q =>
  ha E _ fun vs F1 H1 z1 a1 => by
    have c := call0 (E.step z1) a1 ok nm
    rw [less_nil] at c
    exact ⟨F1, H1, ss.map Sr.ag, _, by rw [List.length_map]; exact a1.len, c, hI, fun F2 H2 E2 => q F2 H2 (z1.trans E2.z)⟩
section
variable {i : Nat} {s : Sl} {C : Addr} {m : Str} {ns : List Str} {us : List OT} {sp : Sp}
end
variable {tw tu : TS} {m : Option O}
theorem Wk.push {e e' : List Sl} (w : Wk e e') {s : Sl} : Wk (e ++ [s]) (e' ++ [s]) := by
  induction w with
  | nil => exact .same .nil
  | same _ ih => exact .same ih
  | un _ ih => exact .un ih
  | tb _ ih => exact .tb ih
theorem bx_retE {o : O} (h : EXe K te env t env1) (hn : enc o = .re env' (some t)) (hw : Wk env1 env') : BX K (tRet te) env enc (some o) := fun o' ho F0 H0 F H σ D E c => by
  cases ho
  rw [hn] at c
  exact h E _ fun v F' H' e E' => c F' H' σ v (E'.weak hw.push)
end
end Rb

set_option Elab.async false
set_option linter.all false
set_option maxRecDepth 100000
set_option maxHeartbeats 2000000
namespace Rb
open PySem PySem.Spec PyProof.Rows L2
section
variable {X : Cx} {CX : CXT} {k : Nat} {f C : Addr} {fd : FuncData} {ps : List Str} {sp : Sp} {E : L2.St → XK} {x m : Str} {p pos apos : Pos} {e o : Expr} {es : List Expr} {ta : TE} {t : TA}
end
structure FnE (P : Program) (w : World) (K : Frag) (mg : Str → Option Value) (base : Heap) (x : Str) (k : Nat) (I : List Ag → (Rt × List OT) ⊕ Exn → Prop) : Prop where
  ex : ∃ f fd ps, FnOk P w K mg base (L2N.CX P w) k f fd ps (PromE K I) ∧ mg x = some (.ref f) ∧ PySem.W.keepIn K (.ref f) = true ∧ Binds K fd ps []
structure MtE (P : Program) (w : World) (K : Frag) (mg : Str → Option Value) (base : Heap) (C m : Str) (k : Nat) (I : List Ag → (Rt × List OT) ⊕ Exn → Prop) : Prop where
  ex : ∃ f fd ps, FnOk P w K mg base (L2N.CX P w) k f fd ps (PromE K I) ∧ Cls K (He.ga K C) ∧ Meth K (He.ga K C) m f ∧ Binds K fd ps []
structure MkE (P : Program) (w : World) (K : Frag) (mg : Str → Option Value) (base : Heap) (C : Str) (k : Nat) (I : List Ag → (Rt × List OT) ⊕ Exn → Prop) : Prop where
  ex : ∃ f fd ps, FnOk P w K mg base (L2N.CX P w) k f fd ps (PromE K I) ∧ Mk K (He.ga K C) f ∧ mg C = some (.ref (He.ga K C)) ∧ Binds K fd ps []
section
variable {X : Cx} {K : Frag} {x C m : Str} {k : Nat} {I : List Ag → (Rt × List OT) ⊕ Exn → Prop} {e o : Expr} {es : List Expr} {t : TA} {ta : TE} {p pos apos : Pos} {W : WX}
theorem pe_fnE (G : FnE X.prog X.w K X.mg X.base x k I) (tk : L2N.Takes X W) (hr : Room k X.A) (hg : Gl X x) (ha : PA X (e :: es) t) (hK : X.K = K := by rfl)
    (hs : starEach (e :: es) X.env = (false, eval e X.env) :: starEach es X.env := by rfl) (hpl : (backTo pos (starEach es X.env)).any (·.1) = false := by rfl) (hd : (x == ("__debug__" : Str)) = false := by decide) : PE X (.Call (.Name x p) (e :: es) [] pos) (tCallS (PromE K I) (WE W) t) := by
  subst hK
  obtain ⟨f, fd, ps, F, hm, hk, hb⟩ := G.ex
  exact pe_callS F hr hg hm hk hb (fun σ => L2N.passAt tk σ) ha hd hs hpl
end
def OT.node : OT → Prop
  | .d _ => False
  | .val _ => False
  | _ => True
theorem node_ref {F H : Hp} {v : V} {t : OT} {A : List Addr} (h : t.node) (T : Tr F H v t A) : ∃ p, v = .ref p := by
  cases T with
  | d _ => cases h
  | val => cases h
  | _ => exact ⟨_, rfl⟩
section
variable {K : Frag} {F0 H0 F H : Hp} {σ : List (Option V)} {env : List Sl}
theorem EnvOk.pad (E : EnvOk K F0 H0 F H σ env) : ∀ n, EnvOk K F0 H0 F H (σ ++ List.replicate n none) (env ++ List.replicate n .un)
  | 0 => by simpa using E
  | n + 1 => by
    have := (E.pad n).push (Fz.refl E.fh) (v := none) (r := .un) (D := []) (fun _ m => by cases m) ⟨trivial, rfl⟩
    rw [List.replicate_succ', List.replicate_succ', ← List.append_assoc, ← List.append_assoc]
    exact this
theorem posts_at : ∀ {vs : List V} {as : List Ag} {us : List OT} {j : Nat} {s : Sl}, (posts vs as us)[j]? = some s → s = .un ∨ ∃ v t u, vs[j]? = some v ∧ as[j]? = some (.mu t) ∧ s = slT v u
  | [], as, us, j, s, h => by unfold posts at h; simp at h
  | v :: vs, [], us, j, s, h => by unfold posts at h; simp at h
  | v :: vs, .d q :: as, us, 0, s, h => by cases h; exact .inl rfl
  | v :: vs, .ro q :: as, us, 0, s, h => by cases h; exact .inl rfl
  | v :: vs, .mu q :: as, [], 0, s, h => by cases h; exact .inl rfl
  | v :: vs, .mu q :: as, u :: us, 0, s, h => by cases h; exact .inr ⟨v, q, u, rfl, rfl, rfl⟩
  | v :: vs, .d q :: as, us, j + 1, s, h => by
    have h : (posts vs as us)[j]? = some s := h
    rcases posts_at h with h | ⟨v', t, u, a, b, c⟩
    · exact .inl h
    · exact .inr ⟨v', t, u, by simpa using a, by simpa using b, c⟩
  | v :: vs, .ro q :: as, us, j + 1, s, h => by
    have h : (posts vs as us)[j]? = some s := h
    rcases posts_at h with h | ⟨v', t, u, a, b, c⟩
    · exact .inl h
    · exact .inr ⟨v', t, u, by simpa using a, by simpa using b, c⟩
  | v :: vs, .mu q :: as, [], j + 1, s, h => by
    have h : (posts vs as [])[j]? = some s := h
    rcases posts_at h with h | ⟨v', t, u, a, b, c⟩
    · exact .inl h
    · exact .inr ⟨v', t, u, by simpa using a, by simpa using b, c⟩
  | v :: vs, .mu q :: as, u :: us, j + 1, s, h => by
    have h : (posts vs as us)[j]? = some s := h
    rcases posts_at h with h | ⟨v', t, u, a, b, c⟩
    · exact .inl h
    · exact .inr ⟨v', t, u, by simpa using a, by simpa using b, c⟩
theorem end_ok {vs : List V} {as : List Ag} {us : List OT} {n : Nat} (hl : vs.length = as.length) (hv : ∀ (j : Nat) (t : OT) (v : V), as[j]? = some (.mu t) → vs[j]? = some v → ∃ p, v = .ref p) (E : EnvOk K F0 H0 F H σ (posts vs as us ++ List.replicate n Sl.un)) : EnvOk K F0 H0 F H (vs.map some) (posts vs as us) := by
  obtain ⟨As, a, d⟩ := E.as
  have pl : (posts vs as us).length = vs.length := by rw [posts_len hl, hl]
  have up : ∀ {j : Nat} {s : Sl}, (posts vs as us)[j]? = some s → (posts vs as us ++ List.replicate n Sl.un)[j]? = some s := fun {j s} h => by
    rw [List.getElem?_append_left (List.getElem?_eq_some_iff.mp h).1]; exact h
  refine ⟨E.z, by rw [List.length_map, pl], As, fun j s h => ?_, fun i j s t p h1 h2 => d i j s t p (up h1) (up h2)⟩
  obtain ⟨o, h1, h2⟩ := a j s (up h)
  have jl : j < vs.length := by rw [← pl]; exact (List.getElem?_eq_some_iff.mp h).1
  have g : (vs.map some)[j]? = some (some vs[j]) := by rw [List.getElem?_map, List.getElem?_eq_getElem jl]; rfl
  refine ⟨_, g, ?_⟩
  rcases posts_at h with rfl | ⟨v, t, u, e1, e2, rfl⟩
  · exact ⟨trivial, h2.2⟩
  · obtain ⟨p, rfl⟩ := hv j t v e2 e1
    rw [List.getElem?_eq_getElem jl] at e1
    have e1 := Option.some.inj e1
    rw [e1]
    have h2 : SlA K H0 F H o (As j) (.tb p u) := h2
    have e := h2.1
    subst e
    exact h2
theorem end_okT {vs : List V} {as : List Ag} {us : List OT} {n : Nat} {v : V} {t : OT} (hl : vs.length = as.length) (hv : ∀ (j : Nat) (t : OT) (v : V), as[j]? = some (.mu t) → vs[j]? = some v → ∃ p, v = .ref p) (E : EnvOk K F0 H0 F H (σ ++ [some v]) ((posts vs as us ++ List.replicate n Sl.un) ++ [.tr t])) : EnvOk K F0 H0 F H (vs.map some ++ [some v]) (posts vs as us ++ [.tr t]) := by
  have E1 := end_ok hl hv E.pop
  obtain ⟨As, a, d⟩ := E.as
  have sl : σ.length = (posts vs as us ++ List.replicate n Sl.un).length := by have := E.len; simp at this; rw [List.length_append, List.length_replicate]; omega
  have pl : (posts vs as us).length = vs.length := by rw [posts_len hl, hl]
  have up : ∀ {j : Nat} {s : Sl}, (posts vs as us)[j]? = some s → ((posts vs as us ++ List.replicate n Sl.un) ++ [Sl.tr t])[j]? = some s := fun {j s} h => by
    have jl := (List.getElem?_eq_some_iff.mp h).1
    rw [List.getElem?_append_left (by rw [List.length_append]; omega), List.getElem?_append_left jl]; exact h
  have gl : ((posts vs as us ++ List.replicate n Sl.un) ++ [Sl.tr t])[(posts vs as us ++ List.replicate n Sl.un).length]? = some (Sl.tr t) := by
    rw [List.getElem?_append_right (Nat.le_refl _)]; simp
  refine ⟨E.z, by simp [pl], fun j => if j = vs.length then As (posts vs as us ++ List.replicate n Sl.un).length else As j, fun j s h => ?_, fun i j s u p h1 h2 m1 m2 => ?_⟩
  · rcases push_env h with ⟨c, h⟩ | ⟨c, rfl⟩
    · rw [pl] at c
      rw [List.getElem?_append_left (by rw [List.length_map]; exact c)]
      dsimp only
      rw [if_neg (show j ≠ vs.length by omega)]
      obtain ⟨o, h1, h2⟩ := a j s (up h)
      have g : (vs.map some)[j]? = some (some vs[j]) := by rw [List.getElem?_map, List.getElem?_eq_getElem c]; rfl
      refine ⟨_, g, ?_⟩
      rcases posts_at h with rfl | ⟨v', t', u', e1, e2, rfl⟩
      · exact ⟨trivial, h2.2⟩
      · obtain ⟨p, rfl⟩ := hv j t' v' e2 e1
        rw [List.getElem?_eq_getElem c] at e1
        have e1 := Option.some.inj e1
        rw [e1]
        have h2 : SlA K H0 F H o (As j) (.tb p u') := h2
        have e := h2.1
        subst e
        exact h2
    · rw [pl] at c
      refine ⟨some v, by rw [c, List.getElem?_append_right (by rw [List.length_map]; exact Nat.le_refl _), List.length_map, Nat.sub_self]; rfl, ?_⟩
      dsimp only
      rw [if_pos c]
      obtain ⟨o, h1, h2⟩ := a _ _ gl
      rw [← sl, List.getElem?_append_right (Nat.le_refl _)] at h1
      simp at h1
      subst h1
      exact h2
  · dsimp only at m1 m2
    have big : ∀ {j : Nat} {s : Sl}, (posts vs as us)[j]? = some s → j ≠ (posts vs as us ++ List.replicate n Sl.un).length := fun {j s} h z => by
      have := (List.getElem?_eq_some_iff.mp h).1
      rw [List.length_append] at z
      omega
    rcases push_env h1 with ⟨c1, h1⟩ | ⟨c1, e1⟩
    · rw [pl] at c1
      rw [if_neg (show i ≠ vs.length by omega)] at m1
      rcases push_env h2 with ⟨c2, h2⟩ | ⟨c2, e2⟩
      · rw [pl] at c2
        rw [if_neg (show j ≠ vs.length by omega)] at m2
        exact d i j s u p (up h1) (up h2) m1 m2
      · rw [pl] at c2
        rw [if_pos c2] at m2
        exact (big h1 (d i _ s _ p (up h1) gl m1 m2)).elim
    · rw [pl] at c1
      rw [if_pos c1] at m1
      rcases push_env h2 with ⟨c2, h2⟩ | ⟨c2, e2⟩
      · rw [pl] at c2
        rw [if_neg (show j ≠ vs.length by omega)] at m2
        exact (big h2 (d j _ u _ p (up h2) gl m2 m1)).elim
      · rw [pl] at c2
        rw [c1, c2]
end
def startA (N : List Str) (vs : List V) (as : List Ag) : List Sl := pres vs as ++ List.replicate (N.length - as.length) .un
def endA (N : List Str) (vs : List V) (as : List Ag) (us : List OT) : List Sl := posts vs as us ++ List.replicate (N.length - as.length) .un
def OutE (N : List Str) (vs : List V) (as : List Ag) (us : List OT) (o : Out) : Rt → Prop
  | .t t => o = .re (endA N vs as us) (some t) ∨ (t = .d .none ∧ o = .nx (endA N vs as us))
  | .un => o = .re (endA N vs as us) none ∨ o = .nx (endA N vs as us)
def RefsAt (vs : List V) (as : List Ag) : Prop := vs.length = as.length ∧ ∀ (j : Nat) (t : OT) (v : V), as[j]? = some (.mu t) → vs[j]? = some v → ∃ p, v = .ref p
theorem fn_okE {A R : Type} {P : Program} {w : World} {K : Frag} {mg : Str → Option Value} {base : Heap} {x qual : Str} {params : Arguments} {body : List Stmt} {scope : Scope} {f : Addr} {fd : FuncData} {N ps : List Str} {k : Nat} {ea : A → List Ag} {er : R → Rt} {ou : R → List OT} {fm : A → Option (Except Exn R)} {en : List V → A → XK → Except Exn R → Out}
    (F : FunD K x qual params body scope [] [] f fd) (S : FnScope N ps scope) (hl : ∀ a, (ea a).length = ps.length) (hnd : ∀ (a : A) (t : OT), Ag.mu t ∈ ea a → t.node) (hn : ∀ vs a E y, RefsAt vs (ea a) → OutE N vs (ea a) (ou y) (en vs a E (.ok y)) (er y))
    (hx : ∀ vs a E y, RefsAt vs (ea a) → en vs a E (.error y) = .ex (endA N vs (ea a) (mus (ea a))) y fun c d _ H => E c d H)
    (hb : ∀ (cdv : Value) (A' : Around) (outer : List Env) (s : Shared) (H : Hp) (E : XK), Room k (A'.deeper (envOfC qual scope s.heap.objs.size f cdv)) →
      ∃ t, PSs (cxOf (L2N.CX P w) P w K mg base N qual scope f cdv A' outer s H E) body t ∧ ∀ vs a, RefsAt vs (ea a) → BX K t (startA N vs (ea a)) (en vs a E) (fm a)) : FnOk P w K mg base (L2N.CX P w) (k + 1) f fd ps (PromE K (ImE ea er ou fm)) := by
  refine F.ok S (fun vs H Q E h => ?_) (fun cdv A' outer s H vs Q E hr h => ?_)
  · obtain ⟨F, H0, as, r, e, _, ⟨a', y, rfl, _, _⟩, _⟩ := h
    rw [e, hl]
  · obtain ⟨F, H0, as, r, e, E0, ⟨a', y, rfl, hy, rfl⟩, q⟩ := h
    obtain ⟨t, p, b⟩ := hb cdv A' outer s H E hr
    have st : EnvOk K F H0 F H (L2.start N vs) (startA N vs (ea a')) := by
      have := E0.pad (N.length - vs.length)
      unfold startA
      rw [← e]
      exact this
    have hv : ∀ (j : Nat) (t : OT) (v : V), (ea a')[j]? = some (.mu t) → vs[j]? = some v → ∃ p, v = .ref p := fun j t v h1 h2 => by
      obtain ⟨o, g1, g2⟩ := E0.sl j _ (pres_get h2 h1)
      rw [List.getElem?_map, h2] at g1
      cases g1
      obtain ⟨A, hA⟩ := g2.a
      exact node_ref (hnd a' t (List.mem_of_getElem? h1)) (slT_ok.mp hA).1
    refine ⟨t, p, b vs a' ⟨e, hv⟩ y hy _ st ?_⟩
    cases y with
    | error y =>
      rw [hx vs a' E y ⟨e, hv⟩]
      exact fun F1 H1 σ1 E1 => q F1 H1 (end_ok e hv E1)
    | ok y =>
      have hn := hn vs a' E y ⟨e, hv⟩
      have q : RetE K F H0 vs (ea a') Q E (.inl (er y, ou y)) := q
      generalize er y = r at hn q
      cases r with
      | t r =>
        rcases hn with h | ⟨rfl, h⟩
        · rw [h]
          exact fun F1 H1 σ1 v E1 => q F1 H1 v (end_okT e hv E1)
        · rw [h]
          exact fun F1 H1 σ1 E1 => q F1 H1 .non ((end_ok e hv E1).push (Fz.refl E1.fh) (D := []) (fun _ m => by cases m) (tr_ok.mpr ⟨.d .non, .nil, fun _ m => by cases m⟩))
      | un =>
        rcases hn with h | h
        · rw [h]
          exact fun F1 H1 σ1 v E1 => q F1 H1 v (end_ok e hv E1)
        · rw [h]
          exact fun F1 H1 σ1 E1 => q F1 H1 .non (end_ok e hv E1)
end Rb

set_option Elab.async false
set_option linter.all false
set_option maxRecDepth 100000
set_option maxHeartbeats 2000000
namespace Rb
open PySem PySem.Spec PyProof.Rows L2
section
variable {K : Frag} {env env' : List Sl} {d : PyData} {ds : List PyData} {te tv : TE} {ts tu : TS} {O : Type} {enc : O → Out} {m : Option O} {i : Nat} {s : Sl} {C p : Addr} {ns : List Str} {us : List OT} {f : Str} {t : OT}
end
end Rb

set_option Elab.async false
set_option linter.all false
set_option maxRecDepth 100000
set_option maxHeartbeats 2000000
namespace Rb
open PySem PySem.Spec PyProof.Rows L2
section
variable {K : Frag} {env env' : List Sl} {d : PyData} {ds : List PyData} {t : OT} {te : TE} {tr : TA} {ts tu : TS} {O : Type} {enc : O → Out} {m : Option O}
end
end Rb

set_option Elab.async false
set_option linter.all false
set_option maxRecDepth 100000
set_option maxHeartbeats 2000000
namespace Rb
open PySem PySem.Spec PyProof.Rows L2
theorem posts_no {us : List OT} : ∀ {vs : List V} {as : List Ag}, vs.length = as.length → (∀ (j : Nat) (a : Ag), as[j]? = some a → a.isMu = false) → posts vs as us = List.replicate as.length .un
  | [], [], _, _ => by unfold posts; rfl
  | v :: vs, a :: as, h, n => by
    have na := n 0 a rfl
    have ih := posts_no (us := us) (vs := vs) (as := as) (by simpa using h) fun j b hb => n (j + 1) b (by simpa using hb)
    cases a with
    | mu t => cases na
    | d q =>
      show Sl.un :: posts vs as us = List.replicate (as.length + 1) .un
      rw [ih, List.replicate_succ]
    | ro q =>
      show Sl.un :: posts vs as us = List.replicate (as.length + 1) .un
      rw [ih, List.replicate_succ]
  | [], _ :: _, h, _ => by cases h
  | _ :: _, [], h, _ => by cases h
section
variable {K : Frag} {env env' : List Sl} {d : PyData} {ds : List PyData} {te ty td tv tx : TE} {ts tu : TS} {O : Type} {enc : O → Out} {m : Option O} {i : Nat} {C p : Addr} {ns : List Str} {us : List OT} {f : Str}
theorem dict_at {F H : Hp} {v : V} {kvs : List (Key × PyData)} (h : Dq F v (.dict (kvs.map kvD))) (e : Ex F H) : ∃ a ob xs, v = .ref a ∧ H a = some (.frz ob (.dK xs)) ∧ KvOk F xs kvs ∧ DkL kvs := by
  generalize hd : PyData.dict (kvs.map kvD) = d at h
  cases h with
  | dct h1 h2 h3 h4 h5 =>
    rename_i a o xs kvs' ps
    cases hd
    have inj : ∀ (xs ys : List (Key × PyData)), xs.map kvD = ys.map kvD → xs = ys := fun xs => by
      induction xs with
      | nil => intro ys h; cases ys with
        | nil => rfl
        | cons _ _ => cases h
      | cons x xs ih =>
        intro ys h
        cases ys with
        | nil => cases h
        | cons y ys =>
          rw [List.map_cons, List.map_cons] at h
          obtain ⟨h1, h2⟩ := List.cons.inj h
          rw [ih ys h2]
          obtain ⟨k, d⟩ := x
          obtain ⟨k', d'⟩ := y
          have e1 : kD k = kD k' := congrArg Prod.fst h1
          have e2 : d = d' := congrArg Prod.snd h1
          have : k = k' := by
            cases k <;> cases k' <;> first | (cases e1; rfl) | cases e1
          rw [this, e2]
    have := inj _ _ h5
    subst this
    exact ⟨a, o, xs, rfl, e _ _ h1, ⟨h2, h3⟩, h4⟩
  | _ => cases hd
variable {kvs : List (Key × PyData)} {k : Key}
end
end Rb

set_option Elab.async false
set_option linter.all false
set_option maxRecDepth 100000
set_option maxHeartbeats 2000000
namespace Rb
open PySem PySem.Spec PyProof.Rows L2
section
variable {K : Frag} {env env' : List Sl} {d d1 d2 : PyData} {ds : List PyData} {ts tu : TS} {O : Type} {enc : O → Out} {m : Option O} {i : Nat} {C p : Addr} {ns : List Str} {us : List OT} {f g h : Str}
theorem bx_asgT {te : TE} {t : OT} {env1 : List Sl} {j : Nat} (he : EXe K te env t env1) (hr : BX K tu (env1.set j (.tr t)) enc m) : BX K (tSeq (tAsg te (gName j)) tu) env enc m := fun o ho F0 H0 F H σ D E c =>
  he E _ fun v F' H' e E' => hr o ho D (E'.pull j fun D h => h) c
end
def OkAll (env : List Sl) : List Sr → Prop
  | [] => True
  | s :: ss => SrOk env s ∧ OkAll env ss
theorem OkAll.at {env : List Sl} : ∀ {ss : List Sr}, OkAll env ss → ∀ (j : Nat) (s : Sr), ss[j]? = some s → SrOk env s
  | s :: ss, h, 0, _, e => by cases e; exact h.1
  | s :: ss, h, j + 1, u, e => OkAll.at h.2 j u (by simpa using e)
  | [], _, _, _, e => by simp at e
def noMu : List Sr → Bool
  | [] => true
  | .mu _ _ :: _ => false
  | _ :: ss => noMu ss
theorem noMu_at : ∀ {ss : List Sr}, noMu ss = true → ∀ (j : Nat) (s : Sr), ss[j]? = some s → s.ag.isMu = false
  | .mu _ _ :: ss, h, _, _, _ => by cases h
  | .d q :: ss, h, 0, _, e => by cases e; rfl
  | .ro k t :: ss, h, 0, _, e => by cases e; rfl
  | .d q :: ss, h, j + 1, u, e => noMu_at (ss := ss) h j u (by simpa using e)
  | .ro k t :: ss, h, j + 1, u, e => noMu_at (ss := ss) h j u (by simpa using e)
  | [], _, _, _, e => by simp at e
end Rb

set_option Elab.async false
set_option linter.all false
set_option maxRecDepth 100000
set_option maxHeartbeats 2000000
namespace Rb
open PySem PySem.Spec PyProof.Rows L2
section
variable {K : Frag} {env : List Sl} {td : TE} {kvs : List (Key × PyData)} {ts tu : TS} {O : Type} {enc : O → Out} {m : Option O} {te : TE}
end
end Rb

set_option Elab.async false
set_option linter.all false
set_option maxRecDepth 100000
set_option maxHeartbeats 2000000
namespace Rb
open PySem PySem.Spec PyProof.Rows L2
section
variable {K : Frag} {env env' : List Sl} {ts tu : TS} {O : Type} {enc : O → Out} {m : Option O} {i : Nat} {C p : Addr} {ns : List Str} {us : List OT} {f : Str} {kvs : List (Key × PyData)}
end
end Rb

set_option Elab.async false
set_option linter.all false
set_option maxRecDepth 100000
set_option maxHeartbeats 2000000
namespace Rb
open PySem PySem.Spec PyProof.Rows L2
abbrev Known := List (Str × List Int)
abbrev Piles := List (Str × (List PyData × Int))
abbrev LoftS := Int × Known × Piles × List (Known × Piles) × List (Known × Piles)
end Rb

set_option Elab.async false
set_option linter.all false
set_option maxRecDepth 100000
set_option maxHeartbeats 2000000
namespace Rb
open PySem PySem.Spec PyProof.Rows L2
section
variable {K : Frag} {env env' : List Sl} {d : PyData} {ds : List PyData} {ta tb te td ty tx : TE} {tr : TA} {α β : Type}
def Dv (F H : Hp) (p : Addr) (u : HO) : Prop := (∃ ob, F p = some (.frz ob u)) ∨ (F p = none ∧ H p = some u)
theorem Dv.step {F H F' H' : Hp} {p : Addr} {u : HO} (z : Fz F H F' H') (nt : NoTup u) : Dv F H p u → Dv F' H' p u
  | .inl ⟨ob, h⟩ => .inl ⟨ob, z.f _ _ h⟩
  | .inr ⟨a, b⟩ => .inr (z.own p u b a nt)
theorem Dv.rd {F H : Hp} {p : Addr} {u : HO} (e : Ex F H) : Dv F H p u → Rd H p u
  | .inl ⟨ob, h⟩ => .inr ⟨ob, e _ _ h⟩
  | .inr ⟨a, b⟩ => .inl b
def EXk (K : Frag) (te : TE) (env : List Sl) (kvs : List (Key × PyData)) : Prop := ∀ ⦃F0 H0 F H : Hp⦄ ⦃σ : List (Option V)⦄, EnvOk K F0 H0 F H σ env → ∀ Q : VK, (∀ p xs F' H', Fz F H F' H' → Dv F' H' p (.dK xs) → KvOk F' xs kvs → DkL kvs → Q (.ref p) H') → te σ H Q
theorem EX.k {kvs : List (Key × PyData)} (h : EX K te env (.dict (kvs.map kvD))) : EXk K te env kvs := fun F0 H0 F H σ E Q q => h E _ fun v F' H' z hv => by
  obtain ⟨a, ob, xs, rfl, g1, g2, g3⟩ := dict_at hv (Evl.Ex.refl F')
  exact q a xs F' H' z (.inl ⟨ob, g1⟩) g2 g3
variable [DecidableEq α]
section
variable {kf : α → Key} (inj : ∀ a b, kf a = kf b → a = b) {e : β → PyData} {xs : List (α × β)} {k : α} {x : β}
include inj
end
omit [DecidableEq α]
variable {kf : α → Key} {e : β → PyData} {xs : List (α × β)}
end
end Rb

set_option autoImplicit false
set_option Elab.async false
set_option linter.all false
set_option maxRecDepth 100000
set_option maxHeartbeats 2000000
namespace Rb
open PySem PySem.Spec PyProof.Rows L2
abbrev GSt := Int × Known × Piles
section
variable {K : Frag} {env env' : List Sl} {td ty : TE} {g : GSt}
end
section
variable {K : Frag} {F0 H0 F H : Hp} {σ : List (Option V)} {env env' : List Sl} {i : Nat} {s : Sl} {ns : List Key} {us : List OT} {p : Addr} {k : Key} {t : OT} {kvs : List (Key × PyData)}
end
section
variable {K : Frag} {env env' : List Sl} {i : Nat} {s : Sl} {ns : List Key} {us : List OT} {p : Addr} {k : Key} {t : OT} {kvs : List (Key × PyData)} {tk ty tv : TE} {d : PyData} {g : GSt} {ts tu : TS} {O : Type} {enc : O → Out} {m : Option O}
def dropA {κ β : Type} [DecidableEq κ] (xs : List (κ × β)) (k : κ) : List (κ × β) := xs.filter fun kv => decide (kv.1 ≠ k)
theorem KvOk.drop {κ : Type} [DecidableEq κ] {F : Hp} {k : κ} : ∀ {ws : List (κ × V)} {kvs : List (κ × PyData)}, KvOk F ws kvs → KvOk F (dropK ws k) (dropA kvs k)
  | [], [], h => h
  | [], _ :: _, h => by have := h.1; simp at this
  | _ :: _, [], h => by have := h.1; simp at this
  | w :: ws, x :: kvs, h => by
    obtain ⟨h1, h2⟩ := h
    rw [List.map_cons, List.map_cons] at h1 h2
    injection h1 with e1 e2
    cases h2 with
    | cons a b =>
      have ih := KvOk.drop (k := k) (ws := ws) (kvs := kvs) ⟨e2, b⟩
      unfold dropK dropA at ih ⊢
      rw [List.filter_cons, List.filter_cons]
      by_cases c : x.1 = k
      · have c' : w.1 = k := e1.trans c
        simp only [c, c', ne_eq, not_true, decide_false, Bool.false_eq_true, if_false]
        exact ih
      · have c' : ¬ w.1 = k := fun z => c (e1.symm.trans z)
        simp only [c, c', ne_eq, not_false_iff, decide_true, if_true]
        exact ⟨by rw [List.map_cons, List.map_cons, e1, ih.1], .cons a ih.2⟩
end
end Rb

set_option autoImplicit false
set_option Elab.async false
set_option linter.all false
set_option maxRecDepth 100000
set_option maxHeartbeats 2000000
namespace Rb
open PySem PySem.Spec PyProof.Rows L2
section
variable {K : Frag} {env env' env1 env2 : List Sl} {d e : PyData} {ds : List PyData} {te ta tb tv : TE} {tr : TA} {t u : OT} {tt : TT} {tk : TE} {ts tu tw : TS} {O R S : Type} {enc : O → Out} {m n : Option O} {i j : Nat} {p : Addr} {g : GSt} {W : WX} {tg : TG}
theorem EnvOk.open {F0 H0 F H : Hp} {σ : List (Option V)} (E : EnvOk K F0 H0 F H σ env) (hi : env[i]? = some (.tr t)) (hn : t.node) : ∃ p, EnvOk K F0 H0 F H σ (env.set i (.tb p t)) := by
  obtain ⟨As, a, b⟩ := E.as
  obtain ⟨o1, e1, e2⟩ := a i _ hi
  obtain ⟨v, rfl, T, nd, fr⟩ := e2
  obtain ⟨p, rfl⟩ := node_ref hn T
  refine ⟨p, E.z, by rw [List.length_set, E.len], As, fun j s h => ?_, fun j l s s' a' hj hl => ?_⟩
  · rcases set_env h with ⟨rfl, rfl, _⟩ | ⟨_, h⟩
    · exact ⟨_, e1, rfl, T, nd, fr⟩
    · exact a j s h
  · have get : ∀ (j : Nat) (s : Sl), (env.set i (.tb p t))[j]? = some s → ∃ s0, env[j]? = some s0 := fun j s h => by
      have := (List.getElem?_eq_some_iff.mp h).1
      rw [List.length_set] at this
      exact ⟨_, List.getElem?_eq_getElem this⟩
    obtain ⟨s0, h0⟩ := get j s hj
    obtain ⟨s1, h1⟩ := get l s' hl
    exact b j l s0 s1 a' h0 h1
def EXd (K : Frag) (te : TE) (env : List Sl) (d : PyData) (env' : List Sl) : Prop := ∀ ⦃F0 H0 F H : Hp⦄ ⦃σ : List (Option V)⦄, EnvOk K F0 H0 F H σ env → ∀ Q : VK, (∀ v F' H', Ex F F' → EnvOk K F0 H0 F' H' σ env' → Dq F' v d → Q v H') → te σ H Q
def ETd (K : Frag) (tt : TT) (env : List Sl) (b : Bool) (env' : List Sl) : Prop := ∀ ⦃F0 H0 F H : Hp⦄ ⦃σ : List (Option V)⦄, EnvOk K F0 H0 F H σ env → ∀ Q : Bool → Hp → Prop, (∀ F' H', Ex F F' → EnvOk K F0 H0 F' H' σ env' → Q b H') → tt σ H Q
theorem EX.dd (h : EX K te env d) : EXd K te env d env := fun F0 H0 F H σ E Q q => h E Q fun v F' H' z hv => q v F' H' z.f (E.step z) hv
theorem EXe.dd (h : EXe K te env (.d d) env') : EXd K te env d env' := fun F0 H0 F H σ E Q q => h E Q fun v F' H' e E' => by
  obtain ⟨B, hB⟩ := E'.last
  have T := (tr_ok.mp hB).1
  cases T with
  | d hd => exact q v F' H' e E'.pop hd
theorem EXd.ee (h : EXd K te env d env') : EXe K te env (.d d) env' := fun F0 H0 F H σ E Q q => h E Q fun v F' H' e E' hd => q v F' H' e (E'.push (Fz.refl E'.fh) (D := []) (fun _ m => by cases m) (tr_ok.mpr ⟨.d hd, .nil, fun _ m => by cases m⟩))
theorem EXd.nn (h : EXd K te env d env') : EXn K te env env' := h.ee.n
theorem ET.dd {b : Bool} (h : ET K tt env b) : ETd K tt env b env := fun F0 H0 F H σ E Q q => h E Q fun F' H' z => q F' H' z.f (E.step z)
theorem bx_retTr {o : O} (h : EXe K te env t env1) (hn : enc o = .re env' (some t)) (hw : Wk env1 env') : BX K (tSeq (tRet te) tu) env enc (some o) := fun o' ho F0 H0 F H σ D E c =>
  bx_retE h hn hw o' ho { D with nx := tu D } E (by
    cases ho
    rw [hn] at c ⊢
    exact c)
end
def Ag.roSl : Ag → Sl
  | .d q => .sh q
  | .ro t => .ro t
  | .mu _ => .un
def muC : List Ag → Nat
  | .mu _ :: as => muC as + 1
  | _ :: as => muC as
  | [] => 0
theorem pres_ro : ∀ {vs : List V} {as : List Ag}, vs.length = as.length → muC as = 0 → pres vs as = as.map Ag.roSl
  | [], [], _, _ => rfl
  | v :: vs, .d q :: as, h, m => by
    show Sl.sh q :: pres vs as = Sl.sh q :: as.map Ag.roSl
    rw [pres_ro (as := as) (by simpa using h) m]
  | v :: vs, .ro q :: as, h, m => by
    show Sl.ro q :: pres vs as = Sl.ro q :: as.map Ag.roSl
    rw [pres_ro (as := as) (by simpa using h) m]
  | v :: vs, .mu q :: as, h, m => by cases (show muC as + 1 = 0 from m)
  | [], _ :: _, h, _ => by cases h
  | _ :: _, [], h, _ => by cases h
theorem muC_no : ∀ {as : List Ag}, muC as = 0 → ∀ (j : Nat) (a : Ag), as[j]? = some a → a.isMu = false
  | [], _, _, _, e => by simp at e
  | .d q :: as, m, 0, _, e => by cases e; rfl
  | .ro q :: as, m, 0, _, e => by cases e; rfl
  | .mu q :: as, m, _, _, e => by cases (show muC as + 1 = 0 from m)
  | .d q :: as, m, j + 1, a, e => muC_no (as := as) m j a (by simpa using e)
  | .ro q :: as, m, j + 1, a, e => muC_no (as := as) m j a (by simpa using e)
theorem fn_okTr {A R : Type} {P : Program} {w : World} {K : Frag} {mg : Str → Option Value} {base : Heap} {x qual : Str} {params : Arguments} {body : List Stmt} {scope : Scope} {f : Addr} {fd : FuncData} {N ps : List Str} {k : Nat} {ea : A → List Ag} {er : R → OT} {fm : A → Option (Except Exn R)} {en : XK → Except Exn R → Out} {n : Nat}
    (F : FunD K x qual params body scope [] [] f fd) (S : FnScope N ps scope) (hl : ∀ a, (ea a).length = ps.length) (hN : N.length = ps.length + n) (h0 : ∀ a, muC (ea a) = 0)
    (hn : ∀ E y, en E (.ok y) = .re (List.replicate (ps.length + n) .un) (some (er y)))
    (hx : ∀ E y, en E (.error y) = .ex (List.replicate (ps.length + n) .un) y fun c d _ H => E c d H)
    (hb : ∀ (cdv : Value) (A' : Around) (outer : List Env) (s : Shared) (H : Hp) (E : XK), Room k (A'.deeper (envOfC qual scope s.heap.objs.size f cdv)) →
      ∃ t, PSs (cxOf (L2N.CX P w) P w K mg base N qual scope f cdv A' outer s H E) body t ∧ ∀ a, BX K t ((ea a).map Ag.roSl ++ List.replicate n .un) (en E) (fm a)) :
    FnOk P w K mg base (L2N.CX P w) (k + 1) f fd ps (PromE K (ImE ea (fun y => .t (er y)) (fun _ => []) fm)) := by
  have ee : ∀ vs a us, RefsAt vs (ea a) → endA N vs (ea a) us = List.replicate (ps.length + n) .un := fun vs a us hv => by
    unfold endA
    rw [posts_no hv.1 (muC_no (h0 a)), List.replicate_append_replicate, hl, hN]
    congr 1
    omega
  refine fn_okE (en := fun vs a E y => en E y) F S hl (fun a t m => ?_) (fun vs a E y hv => ?_) (fun vs a E y hv => ?_) fun cdv A' outer s H E hr => ?_
  · exfalso
    obtain ⟨j, hj, e⟩ := List.mem_iff_getElem.mp m
    have := muC_no (h0 a) j _ (List.getElem?_eq_getElem hj)
    rw [e] at this
    cases this
  · show (_ = Out.re (endA N _ _ _) _ ∨ _)
    rw [ee vs a _ hv]
    exact .inl (hn E y)
  · rw [hx, ee vs a _ hv]
  · obtain ⟨t, pt, b⟩ := hb cdv A' outer s H E hr
    refine ⟨t, pt, fun vs a hv => ?_⟩
    have e : startA N vs (ea a) = (ea a).map Ag.roSl ++ List.replicate n .un := by
      unfold startA
      rw [pres_ro hv.1 (h0 a), hl, hN]
      congr 2
      omega
    rw [e]
    exact b a
end Rb

set_option autoImplicit false
set_option Elab.async false
set_option linter.all false
set_option maxRecDepth 100000
set_option maxHeartbeats 2000000
namespace Rb
open PySem PySem.Spec PyProof.Rows L2
structure LoftF (K : Frag) : Prop where
  cl : Cls K (He.ga K "Loft")
  width : NoAttr K (He.ga K "Loft") "width"
  known : NoAttr K (He.ga K "Loft") "known"
  piles : NoAttr K (He.ga K "Loft") "piles"
  past : NoAttr K (He.ga K "Loft") "past"
  ahead : NoAttr K (He.ga K "Loft") "ahead"
section
variable {K : Frag} {env env' env1 : List Sl} {d : PyData} {ds : List PyData} {te ta tb tv td : TE} {tr : TA} {t u : OT} {ts tu : TS} {O : Type} {enc : O → Out} {m : Option O} {i j : Nat} {p : Addr} {s : Sl} {q : LoftS}
theorem EXt.w (h : EXt K te env (.lst ds)) : EXw K te env ds := fun F0 H0 F H σ E Q q => h E Q fun v F' H' B z T nd fr => by
  cases T with
  | lst h1 h2 h3 => exact q _ _ F' H' z (fr _ (List.mem_singleton.mpr rfl)).1 (fr _ (List.mem_singleton.mpr rfl)).2 h1 h2 h3
variable {W : WX} {x : Exn}
end
section
variable {X : Cx} {K : Frag} {x C m : Str} {k : Nat} {I : List Ag → (Rt × List OT) ⊕ Exn → Prop} {e o : Expr} {es : List Expr} {t : TA} {ta : TE} {p pos apos : Pos}
theorem pe_fnES (G : FnE X.prog X.w K X.mg X.base x k I) (hr : Room k X.A) (hg : Gl X x) (ha : PA X (e :: es) t) (hK : X.K = K := by rfl)
    (hs : starEach (e :: es) X.env = (false, eval e X.env) :: starEach es X.env := by rfl) (hpl : (backTo pos (starEach es X.env)).any (·.1) = false := by rfl) (hd : (x == ("__debug__" : Str)) = false := by decide) : PE X (.Call (.Name x p) (e :: es) [] pos) (tCallS (PromE K I) (fun _ _ _ _ => False) t) := by
  subst hK
  obtain ⟨f, fd, ps, F, hm, hk, hb⟩ := G.ex
  exact pe_callS F hr hg hm hk hb pass_none ha hd hs hpl
end
theorem ok_of {α : Type} {m : Option α} {v : α} (h : m = some v) : m.map (Except.ok (ε := Exn)) = some (.ok v) := by rw [h]; rfl
end Rb

set_option autoImplicit false
set_option Elab.async false
set_option linter.all false
set_option maxRecDepth 100000
set_option maxHeartbeats 2000000
namespace Rb
open PySem PySem.Spec PyProof.Rows L2
section
variable {K : Frag} {env : List Sl} {ta tb tc te : TE} {d : PyData} {ds : List PyData}
end
section
variable {K : Frag} {W : WX} {env env' : List Sl} {te ty td : TE} {x : Exn} {O : Type} {enc : O → Out} {tu : TS} {g : TG} {o : O}
theorem bx_errAsg (he : ERR K W te env x) (hn : enc o = .ex env' x W) (hw : Wk env env') : BX K (tSeq (tAsg te g) tu) env enc (some o) := bx_err he hn hw fun _ _ _ => ⟨_, fun h => h⟩
end
end Rb

set_option Elab.async false
set_option linter.all false
set_option maxRecDepth 100000
set_option maxHeartbeats 4000000
namespace Rb
open PySem PySem.Spec PyProof.Rows L2
abbrev Cu : Type := Value × (Addr → Value → Option Addr → TS)
section
variable {K : Frag} {env env' envS envX : List Sl} {α β O S : Type} {ts tu : TS} {enc : O → Out} {Wout : WX} {x : Exn} {cl : List Cu}
end
section
variable {K : Frag} {env : List Sl} {α O : Type} {tl te : TE} {tu : TS} {enc : O → Out} {m : Option O} {e : α → PyData} {xs ys : List α} {x : α}
end
section
variable {X : Cx} {a b c d : Expr} {ta tb tc td : TE} {pos : Pos}
end
section
variable {K : Frag} {env : List Sl} {te : TE} {α : Type}
end
section
end
section
variable {K : Frag} {env : List Sl} {α β : Type} {wi : TI} {g : TG} {te : TE} {tt : TT} {vs : List Nat}
end
end Rb

set_option autoImplicit false
set_option Elab.async false
set_option linter.all false
set_option maxRecDepth 100000
set_option maxHeartbeats 4000000
namespace Rb
open PySem PySem.Spec PyProof.Rows L2
def tY : PyData → OT
  | .tuple [x, .list ds] => .tup [.d x, .lst ds]
  | d => .d d
theorem tY_cases (d : PyData) : (∃ x ds, d = .tuple [x, .list ds]) ∨ tY d = .d d := by
  unfold tY
  split
  · exact .inl ⟨_, _, rfl⟩
  · exact .inr rfl
theorem Tr.freezeY {F H : Hp} {v : V} {d : PyData} {A : List Addr} (e : Ex F H) (T : Tr F H v (tY d) A) (fr : ∀ a, a ∈ A → F a = none) : ∃ F', Ex F F' ∧ Ex F' H ∧ Dq F' v d ∧ ∀ a, a ∉ A → F' a = F a := by
  rcases tY_cases d with ⟨x, ds, rfl⟩ | h
  · cases T with
    | tup h1 h2 h3 =>
    cases h2 with
    | cons g1 g2 =>
    cases g1 with
    | d hx =>
    cases g2 with
    | cons g3 g4 =>
    cases g3 with
    | lst k1 k2 k3 =>
    rename_i b vs
    cases g4
    have m : b ∈ ([] : List Addr) ++ ([b] ++ []) := by simp
    have fb := fr b m
    have ex := Evl.Ex.new (o := HO.lst vs) fb
    refine ⟨upd F b (.lst vs), ex, fun a u q => ?_, .tup (ex _ _ h1) (.cons (hx.mono' ex) (.cons (.lst upd_same (k2.mono' ex) k3) .nil)) (Nat.le_of_ble_eq_true rfl), fun a na => ?_⟩
    · by_cases z : a = b
      · subst z; rw [upd_same] at q; rw [k1]; exact q
      · rw [upd_ne z] at q; exact e a u q
    · rw [upd_ne fun z => na (by rw [z]; exact m)]
  · rw [h] at T
    cases T with
    | d hd => exact ⟨F, Evl.Ex.refl F, e, hd, fun _ _ => rfl⟩
section
variable {K : Frag} {F0 H0 F H : Hp} {σ : List (Option V)} {env env' : List Sl} {i : Nat} {d z : PyData} {te ta tb : TE} {tt : TT} {ts tu : TS} {O : Type} {enc : O → Out} {m : Option O} {v : V} {x : PyData} {ds : List PyData} {b : Bool}
theorem EnvOk.freezeY (E : EnvOk K F0 H0 F H σ env) (hi : env[i]? = some (.tr (tY d))) : ∃ F', Ex F F' ∧ EnvOk K F0 H0 F' H σ (env.set i (.sh d)) := by
  obtain ⟨o, e1, v, A, rfl, T, nd, fr⟩ := E.sl i _ hi
  obtain ⟨F', ex, fh, hd, ne⟩ := T.freezeY E.fh fun a m => (fr a m).1
  refine ⟨F', ex, E.mutT (s := .tr (tY d)) (A := A) (B := []) fh ex hi e1 (fun A' h c m => ?_) (fun a u h f n => ⟨fun _ => by rw [ne a n]; exact f, h⟩) (fun b m => by cases m) ⟨⟨_, rfl, hd⟩, rfl⟩⟩
  obtain ⟨w, ew, T', _⟩ := h
  cases ew
  rw [Tr.uniq T' T]
  exact m
theorem bx_fzY (i : Nat) (hi : env[i]? = some (.tr (tY d))) (h : BX K ts (env.set i (.sh d)) enc m) : BX K ts env enc m := fun o ho F0 H0 F H σ D E c => by
  obtain ⟨F', ex, E'⟩ := E.freezeY hi
  exact h o ho D E' c
theorem Fz.unfz {F H F' F2 H2 : Hp} (e : Ex F F') (hh : Ex F' H) (z : Fz F' H F2 H2) : Fz F H F H2 := ⟨Evl.Ex.refl F, fun a u q => z.fh a u (z.f a u (e a u q)), fun p o h n => ⟨fun _ => n, by
  cases q : F' p with
  | none => exact (z.own' p o h q).2
  | some u =>
    have := hh p u q
    rw [h] at this
    cases this
    exact z.fh p o (z.f p o q)⟩⟩
def scal : PyData → Prop
  | .none => True
  | .bool _ => True
  | .int _ => True
  | .str _ => True
  | _ => False
theorem Dq.scal {F F' : Hp} {v : V} {z : PyData} (h : Dq F v z) (s : scal z) : Dq F' v z := by
  cases h with
  | non => exact .non
  | bl b => exact .bl b
  | int i => exact .int i
  | str x l => exact .str x l
  | lst _ _ _ => exact s.elim
  | tup _ _ _ => exact s.elim
  | dct _ _ _ _ _ => exact s.elim
theorem et_tmpY (hi : env[i]? = some (.tr (tY d))) (h : ET K tt (env.set i (.sh d)) b) : ET K tt env b := fun F0 H0 F H σ E Q q => by
  obtain ⟨F', ex, E'⟩ := E.freezeY hi
  exact h E' Q fun F2 H2 z2 => q F H2 (Fz.unfz ex E'.fh z2)
theorem ext_pairY (ha : EX K ta env x) (hb : EXw K tb env ds) : EXt K (tTup (tCons ta (tCons tb tNil))) env (tY (.tuple [x, .list ds])) := fun F0 H0 F H σ E Q q =>
  ha E _ fun v F1 H1 z1 hv => hb (E.step z1) _ fun p vs F2 H2 z2 hn hf h1 h2 h3 => ⟨Nat.le_of_ble_eq_true rfl, fun t ht => by
    have E2 := (E.step z1).step z2
    have ft := Evl.fresh_back E2.fh ht
    have ex := Evl.Ex.new (o := HO.tup [v, .ref p]) ft
    have ne : p ≠ t := fun z => by rw [z, ht] at h1; cases h1
    have T : Tr (upd F2 t (.tup [v, .ref p])) (upd H2 t (.tup [v, .ref p])) (.ref t) (.tup [.d x, .lst ds]) ([] ++ ([p] ++ [])) := .tup upd_same (.cons (.d ((hv.mono' z2.f).mono' ex)) (.cons (.lst (by rw [upd_ne ne]; exact h1) (h2.mono' ex) h3) .nil)) (Nat.le_of_ble_eq_true rfl)
    refine q (.ref t) _ _ _ ((z1.trans z2).trans (Fz.new E2.fh ht)) T (by simp) fun b m => ?_
    have m : b = p := by simpa using m
    subst m
    exact ⟨z1.hn hn, by rw [upd_ne ne]; exact hf⟩⟩
theorem EX.thingY (hd : tY d = .d d) (h : EX K te env d) : EXt K te env (tY d) := by rw [hd]; exact h.thing
theorem ext_pairO {α : Type} {e : α → PyData} {y : Option (List α)} (ha : EX K ta env x) (hb : EXwO K tb env (y.map (·.map e))) : EXt K (tTup (tCons ta (tCons tb tNil))) env (tY (.tuple [x, eO (eL e) y])) := by
  cases y with
  | none => exact EX.thingY rfl (ex_tup (ea_cons ha (ea_cons hb ea_nil)) (Nat.le_of_ble_eq_true rfl))
  | some xs => exact ext_pairY ha hb
theorem EXt.is {t t' : OT} (h : EXt K te env t) (e : t = t') : EXt K te env t' := e ▸ h
theorem EXt.shY (h : EXt K te env (tY d)) : EX K te env d := fun F0 H0 F H σ E Q q => h E Q fun v F' H' B zf T nd fr => by
  obtain ⟨F2, ex, fh, hd, ne⟩ := T.freezeY zf.fh fun a m => (fr a m).2
  refine q v F2 H' ⟨zf.f.trans ex, fh, fun p o hp hn => ?_⟩ hd
  obtain ⟨k1, k2⟩ := zf.own' p o hp hn
  refine ⟨fun nt => ?_, k2⟩
  rw [ne p fun m => by rw [(fr p m).1] at hp; cases hp]
  exact k1 nt
theorem exe_varY {t : OT} (hi : env[i]? = some (.tr t)) : EXe K (tVar i) env t (env.set i .un) := fun F0 H0 F H σ E Q q => by
  obtain ⟨As, a, _⟩ := E.as
  obtain ⟨o1, e1, e2⟩ := a i _ hi
  obtain ⟨v, rfl, T0, nd0, fr0⟩ := e2
  refine ⟨_, e1, q _ F H (Evl.Ex.refl F) ?_⟩
  refine E.ret (C := As i) (B := []) (D := As i) (Evl.Ex.refl F) E.fh (fun b u h f _ => ⟨fun _ => f, h⟩) hi e1 (fun A hA c mc => ?_) (fun _ m => by cases m) (t := .un) ⟨trivial, rfl⟩ (fun b m => .inr m) (tr_ok.mpr ⟨T0, nd0, fr0⟩) fun _ m => by cases m
  obtain ⟨w, ew, T1, _, _⟩ := hA
  cases ew
  rw [Tr.uniq T1 T0]
  exact mc
theorem bx_appY {n : PyData} (hi : env[i]? = some (.tr (tY (.tuple [x, .list ds])))) (hb : EX K tb env (.int 1)) (hx : EX K te env n) (hl : ds.length < lim) (h : BX K tu (env.set i .un) enc m) : BX K (tSeq (tDrop (tBM K "list" rAppend (tOp (rIxT K) (tVar i) tb) (tCons te tNil))) tu) env enc m := fun o ho F0 H0 F H σ D E c => by
  obtain ⟨o1, e1, v, A, rfl, T, nd, fr⟩ := E.sl i _ hi
  have T0 : Tr F H v (.tup [.d x, .lst ds]) A := T
  cases T0 with
  | @tup t _ _ _ h1 h2 h3 =>
  cases h2 with
  | cons g1 g2 =>
  cases g1 with
  | d hxd =>
  cases g2 with
  | cons g3 g4 =>
  cases g3 with
  | @lst b vs _ k1 k2 k3 =>
  cases g4
  have fb : F b = none := (fr b (by simp)).1
  refine ⟨.ref t, e1, hb E _ fun w1 F1 H1 z1 hw1 => ?_⟩
  cases hw1
  obtain ⟨f1, hb1⟩ := z1.own b _ k1 fb
  refine ⟨t, _, 1, .ref b, rfl, rfl, SqT.of (z1.fh _ _ (z1.f _ _ h1)), (show atI [_, V.ref b] 1 = some (.ref b) from rfl), .inl ⟨rfl, vs, SqL.of hb1⟩, hx (E.step z1) _ fun w F2 H2 z2 hw => ?_⟩
  obtain ⟨f2, hb2⟩ := z2.own b _ hb1 f1
  have E2 := (E.step z1).step z2
  have hlen := k2.len
  refine ⟨b, vs, w, rfl, rfl, hb2, by rw [hlen]; exact lim_lt hl, h o ho (F := F2) D ?_ c⟩
  refine E2.mutT (s := .tr (tY (.tuple [x, .list ds]))) (t := .un) (A := [b]) (B := []) (fun a u q => ?_) (Evl.Ex.refl F2) hi e1 (fun A' hA c' m' => ?_) (fun a u hh ff na => ⟨fun _ => ff, ?_⟩) (fun _ m' => by cases m') ⟨trivial, rfl⟩
  · rw [upd_ne fun z => by rw [z, f2] at q; cases q]; exact E2.fh a u q
  · obtain ⟨w', ew, T', _⟩ := hA
    cases ew
    have T2 := T.keep (z1.trans z2).f (F' := F2) (H' := H2) fun a ma u hu => by
      have eq : a = b := by simpa using ma
      subst eq
      rw [k1] at hu
      cases hu
      exact hb2
    rw [Tr.uniq T' T2, List.mem_singleton.mp m']
    simp
  · rw [upd_ne fun z => na (by rw [z]; exact List.mem_singleton.mpr rfl)]; exact hh
def appY? : PyData → Option Unit
  | .tuple [_, .list ds] => if ds.length < lim then some () else none
  | _ => none
theorem bx_appYq {n : PyData} {y : Unit} (hi : env[i]? = some (.tr (tY d))) (hy : appY? d = some y) (hb : EX K tb env (.int 1)) (hx : EX K te env n) (h : BX K tu (env.set i .un) enc m) : BX K (tSeq (tDrop (tBM K "list" rAppend (tOp (rIxT K) (tVar i) tb) (tCons te tNil))) tu) env enc m := by
  unfold appY? at hy
  split at hy
  · split at hy
    · rename_i hl
      exact bx_appY hi hb hx hl h
    · cases hy
  · cases hy
theorem bx_parWS {j : Nat} {x : PyData} (ha : EXw K ta env ds) (hb : EX K tb env x) (h : BX K tu ((env.set i (.ow ds)).set j (.sh x)) enc m) : BX K (tSeq (tPar i j (tCons ta (tCons tb tNil))) tu) env enc m := fun o ho F0 H0 F H σ D E c =>
  ha E _ fun p vs F1 H1 z1 hn hf h1 h2 h3 => hb (E.step z1) _ fun w F2 H2 z2 hw => by
    obtain ⟨f2, g1⟩ := z2.own p _ h1 hf
    exact ⟨.ref p, w, rfl, h o ho D ((E.setO (z1.trans z2) i hn (s := .ow ds) ⟨p, vs, rfl, E.z.hn hn, f2, g1, DqAll.mono z2.f _ _ h2, h3⟩).setS j hw) c⟩
end
end Rb

set_option Elab.async false
set_option linter.all false
set_option maxRecDepth 100000
set_option maxHeartbeats 2000000
namespace Rb
def FT (m : Int) (x : Int → Int) : Prop := ∀ p, 0 ≤ p → p < m → 0 ≤ x p ∧ x p < m ∧ x p ≠ p ∧ x (x p) = p
def ring (c : Int) (x : Int → Int) : Int := if x c = c + 1 then 1 else 0
end Rb

set_option Elab.async false
set_option linter.all false
set_option maxRecDepth 100000
set_option maxHeartbeats 2000000
namespace Rb
open L2
theorem mem_rng {lo hi p : Int} : p ∈ rng lo hi ↔ lo ≤ p ∧ p < hi := by
  unfold rng
  rw [List.mem_map]
  constructor
  · rintro ⟨i, hi, rfl⟩
    rw [List.mem_range] at hi
    omega
  · intro ⟨h1, h2⟩
    exact ⟨(p - lo).toNat, by rw [List.mem_range]; omega, by omega⟩
theorem atI_eq {α : Type} {xs : List α} {p : Int} (h0 : 0 ≤ p) (h1 : p < (xs.length : Int)) : atI xs p = xs[p.toNat]? := by
  unfold atI ixN
  rw [if_pos h0, if_pos h1]
  rfl
theorem atI_last {α : Type} {xs : List α} {p : Int} (h0 : p < 0) (h1 : -(xs.length : Int) ≤ p) : atI xs p = xs[(p + xs.length).toNat]? := by
  unfold atI ixN
  rw [if_neg (by omega), if_pos h1]
  rfl
def lst (m : Int) (x : Int → Int) : List Int := (rng 0 m).map x
theorem lst_ext {m : Int} {x y : Int → Int} (h : ∀ p, 0 ≤ p → p < m → x p = y p) : lst m x = lst m y := by
  unfold lst
  exact List.map_congr_left fun p hp => h p (mem_rng.mp hp).1 (mem_rng.mp hp).2
section
variable {α β S : Type}
theorem forS_cons {f : S → α → Option S} {s : S} {x : α} {xs : List α} : forS f s (x :: xs) = (f s x).bind fun s' => forS f s' xs := rfl
theorem forS_foldl {f : S → α → Option S} {g : S → α → S} : ∀ {xs : List α} {s : S}, (∀ s x, x ∈ xs → f s x = some (g s x)) → forS f s xs = some (xs.foldl g s)
  | [], s, _ => rfl
  | x :: xs, s, h => by
    rw [forS_cons, h s x List.mem_cons_self]
    exact forS_foldl fun s y hy => h s y (List.mem_cons_of_mem _ hy)
theorem compM_some {t : α → Option Bool} {f : α → Option β} {g : α → β} : ∀ {xs : List α}, (∀ x, x ∈ xs → t x = some true) → (∀ x, x ∈ xs → f x = some (g x)) → compM t f xs = some (xs.map g)
  | [], _, _ => rfl
  | x :: xs, h1, h2 => by
    unfold compM
    rw [h1 x List.mem_cons_self, h2 x List.mem_cons_self, compM_some (fun y hy => h1 y (List.mem_cons_of_mem _ hy)) fun y hy => h2 y (List.mem_cons_of_mem _ hy)]
    rfl
theorem app_ok {xs : List α} {x : α} (h : xs.length < lim) : app? xs x = some (xs ++ [x]) := by unfold app?; rw [if_pos h]
theorem rngOk_of {n : Int} (h0 : -50000 ≤ n) (h1 : n ≤ 50000) : rngOk n := ⟨h0, h1⟩
end
inductive Runs (u l : Int → Int) (n : Int) : Bool → Int → Int → List Int → Prop
  | stopL {p : Int} : n ≤ l p → Runs u l n true p (l p) []
  | stopU {p : Int} : u p < n → Runs u l n false p (u p) []
  | goL {p e : Int} {ms : List Int} : l p < n → Runs u l n false (l p + n) e ms → Runs u l n true p e (l p :: ms)
  | goU {p e : Int} {ms : List Int} : n ≤ u p → Runs u l n true (u p - n) e ms → Runs u l n false p e ((u p - n) :: ms)
end Rb

set_option Elab.async false
set_option linter.all false
set_option maxRecDepth 100000
set_option maxHeartbeats 4000000
namespace Rb
def Btw (ps : Int → Int) (u v w : Int) : Prop := (ps u < ps w ∧ ps w < ps v) ∨ (ps v < ps w ∧ ps w < ps u)
structure Pm (A : Int → Prop) (ps t : Int → Int) : Prop where
  ft : ∀ p, A p → A (t p) ∧ t p ≠ p ∧ t (t p) = p
  nc : ∀ p q, A p → A q → q ≠ p → q ≠ t p → (Btw ps p (t p) q ↔ Btw ps p (t p) (t q))
def glue (t : Int → Int) (a b : Int) : Int → Int := fun p => if t a = b then t p else if p = t a then t b else if p = t b then t a else t p
end Rb

set_option Elab.async false
set_option linter.all false
set_option maxRecDepth 100000
set_option maxHeartbeats 4000000
namespace Rb
def rd (n p : Int) : Int := if p < n then p else 3 * n - 1 - p
def Fr (n : Int) (x : Int → Int) : Prop := Pm (fun p => 0 ≤ p ∧ p < 2 * n) (rd n) x
theorem Fr.ft {n : Int} {x : Int → Int} (h : Fr n x) : FT (2 * n) x := fun p a b => by
  obtain ⟨⟨h1, h2⟩, h3, h4⟩ := Pm.ft h p ⟨a, b⟩
  exact ⟨h1, h2, h3, h4⟩
def two (n : Int) (x y : Int → Int) : Int → Int := fun p => if p < 2 * n then x p else y (p - 2 * n) + 2 * n
def Al (n k : Int) (p : Int) : Prop := 0 ≤ p ∧ p < 4 * n ∧ ¬ (n + k ≤ p ∧ p < 2 * n) ∧ ¬ (2 * n + k ≤ p ∧ p < 3 * n)
def gl (n : Int) (s : (Int → Int) × Int) (k : Int) : (Int → Int) × Int := (glue s.1 (2 * n + k) (n + k), s.2 + if s.1 (2 * n + k) = n + k then 1 else 0)
def gls (n : Int) (x y : Int → Int) : Nat → (Int → Int) × Int
  | 0 => (two n x y, 0)
  | j + 1 => gl n (gls n x y j) (n - 1 - j)
theorem Pm.imp {A B : Int → Prop} {ps t : Int → Int} (h : Pm A ps t) (e : ∀ p, B p ↔ A p) : Pm B ps t :=
  ⟨fun p hp => by obtain ⟨a, b⟩ := h.ft p ((e p).mp hp); exact ⟨(e _).mpr a, b⟩, fun p q hp hq => h.nc p q ((e p).mp hp) ((e q).mp hq)⟩
def back (n r : Int) : Int := if r < n then r else r - 2 * n
def forth (n p : Int) : Int := if p < n then p else p + 2 * n
def comp (n : Int) (x y : Int → Int) (p : Int) : Int := back n ((gls n x y n.toNat).1 (forth n p))
def crings (n : Int) (x y : Int → Int) : Int := (gls n x y n.toNat).2
end Rb

set_option Elab.async false
set_option linter.all false
set_option maxRecDepth 100000
set_option maxHeartbeats 4000000
namespace Rb
def In (n k q : Int) : Prop := (n + k ≤ q ∧ q < 2 * n) ∨ (2 * n + k ≤ q ∧ q < 3 * n)
def cr (n q : Int) : Int := if q < 2 * n then q + n else q - n
def pg (n q : Int) : Int := if q < 2 * n then q - n else q - 2 * n
inductive Rk (T : Int → Int) (n k : Int) : Int → Int → List Int → Prop
  | stop {c : Int} : ¬ In n k (T c) → Rk T n k c (T c) []
  | go {c e : Int} {ms : List Int} : In n k (T c) → Rk T n k (cr n (T c)) e ms → Rk T n k c e (pg n (T c) :: ms)
theorem Rk.down {T : Int → Int} {n k c e : Int} {ms : List Int} (h : Rk T n (k + 1) c e ms) (he : ¬ In n k e) : Rk T n k c e ms := by
  induction h with
  | @stop c h => exact .stop he
  | @go c e ms h r ih => exact .go (by unfold In at *; omega) (ih he)
theorem Rk.join {T : Int → Int} {n k c e e' : Int} {ms ms' : List Int} (h : Rk T n (k + 1) c e ms) (he : In n k e) (r : Rk T n k (cr n e) e' ms') : Rk T n k c e' (ms ++ pg n e :: ms') := by
  induction h with
  | @stop c h => exact .go he r
  | @go c e ms h r' ih => exact .go (by unfold In at *; omega) (ih he r)
theorem Rk.inner {T : Int → Int} {n k c e : Int} {ms : List Int} (k0 : 0 ≤ k) (h : Rk T n k c e ms) : ∀ i, i ∈ ms → k ≤ i ∧ i < n := by
  induction h with
  | stop h => intro i hi; cases hi
  | @go c e ms h r ih =>
    intro i hi
    rcases List.mem_cons.mp hi with z | z
    · subst z; unfold In at h; unfold pg; grind
    · exact ih i z
structure Nbr (T : Int → Int) (n c e : Int) (ms : List Int) : Prop where
  up : ∀ i, i ∈ ms → (T (2 * n + i) = c ∨ T (2 * n + i) = e ∨ ∃ j, j ∈ ms ∧ T (2 * n + i) = 2 * n + j)
  lo : ∀ i, i ∈ ms → (T (n + i) = c ∨ T (n + i) = e ∨ ∃ j, j ∈ ms ∧ T (n + i) = n + j)
  st : T c = e ∨ ∃ j, j ∈ ms ∧ (T c = n + j ∨ T c = 2 * n + j)
structure T2 (n : Int) (T : Int → Int) : Prop where
  inv : ∀ q, 0 ≤ q → q < 4 * n → T (T q) = q
  up : ∀ q, 0 ≤ q → q < 2 * n → 0 ≤ T q ∧ T q < 2 * n
  lo : ∀ q, 2 * n ≤ q → q < 4 * n → 2 * n ≤ T q ∧ T q < 4 * n
theorem Rk.nbr {T : Int → Int} {n k c e : Int} {ms : List Int} (hT : T2 n T) (k0 : 0 ≤ k) (h : Rk T n k c e ms) : 0 ≤ c → c < 4 * n → Nbr T n c e ms := by
  induction h with
  | @stop c h => exact fun _ _ => ⟨fun i hi => (by cases hi), fun i hi => (by cases hi), .inl rfl⟩
  | @go c e ms h r ih =>
    intro c0 c1
    have hj : (T c < 2 * n ∧ T c = n + pg n (T c) ∧ cr n (T c) = 2 * n + pg n (T c)) ∨ (2 * n ≤ T c ∧ T c = 2 * n + pg n (T c) ∧ cr n (T c) = n + pg n (T c)) := by unfold In at h; unfold pg cr; grind
    have hb : 0 ≤ pg n (T c) ∧ pg n (T c) < n := by unfold In at h; unfold pg; grind
    have hi := hT.inv c c0 c1
    have I := r.inner k0
    have q := ih (by omega) (by omega)
    generalize pg n (T c) = j at *
    generalize cr n (T c) = c' at *
    refine ⟨fun i hm => ?_, fun i hm => ?_, .inr ⟨j, List.mem_cons_self, by omega⟩⟩
    · have bi : 0 ≤ i ∧ i < n := by
        rcases List.mem_cons.mp hm with z | z
        · omega
        · have := I i z; omega
      have u := hT.lo (2 * n + i) (by omega) (by omega)
      rcases List.mem_cons.mp hm with z | z
      · subst z
        rcases hj with ⟨h1, h2, h3⟩ | ⟨h1, h2, h3⟩
        · rw [← h3] at u ⊢
          rcases q.st with s | ⟨j', m, s⟩
          · exact .inr (.inl s)
          · have := I j' m
            exact .inr (.inr ⟨j', List.mem_cons_of_mem _ m, by omega⟩)
        · rw [← h2]; exact .inl hi
      · rcases q.up i z with s | s | ⟨j', m, s⟩
        · exact .inr (.inr ⟨j, List.mem_cons_self, by omega⟩)
        · exact .inr (.inl s)
        · exact .inr (.inr ⟨j', List.mem_cons_of_mem _ m, s⟩)
    · have bi : 0 ≤ i ∧ i < n := by
        rcases List.mem_cons.mp hm with z | z
        · omega
        · have := I i z; omega
      have u := hT.up (n + i) (by omega) (by omega)
      rcases List.mem_cons.mp hm with z | z
      · subst z
        rcases hj with ⟨h1, h2, h3⟩ | ⟨h1, h2, h3⟩
        · rw [← h2]; exact .inl hi
        · rw [← h3] at u ⊢
          rcases q.st with s | ⟨j', m, s⟩
          · exact .inr (.inl s)
          · have := I j' m
            exact .inr (.inr ⟨j', List.mem_cons_of_mem _ m, by omega⟩)
      · rcases q.lo i z with s | s | ⟨j', m, s⟩
        · exact .inr (.inr ⟨j, List.mem_cons_self, by omega⟩)
        · exact .inr (.inl s)
        · exact .inr (.inr ⟨j', List.mem_cons_of_mem _ m, s⟩)
inductive Con (f g : Int → Int) : Int → Int → Prop
  | refl {i : Int} : Con f g i i
  | f {i j : Int} : Con f g i j → Con f g i (f j)
  | g {i j : Int} : Con f g i j → Con f g i (g j)
theorem Con.trans {f g : Int → Int} {i j l : Int} (h : Con f g i j) (r : Con f g j l) : Con f g i l := by
  induction r with
  | refl => exact h
  | f _ ih => exact ih.f
  | g _ ih => exact ih.g
def fT (T : Int → Int) (n i : Int) : Int := T (2 * n + i) - 2 * n
def gT (T : Int → Int) (n i : Int) : Int := T (n + i) - n
theorem Rk.con {T : Int → Int} {n k c e : Int} {ms : List Int} (hT : T2 n T) (k0 : 0 ≤ k) (h : Rk T n k c e ms) : ∀ i0, 0 ≤ i0 → i0 < n → (c = n + i0 ∨ c = 2 * n + i0) → ∀ i, i ∈ ms → Con (fT T n) (gT T n) i0 i := by
  induction h with
  | @stop c h => intro i0 _ _ _ i hi; cases hi
  | @go c e ms h r ih =>
    intro i0 b0 b1 hc i hm
    have hj : (T c < 2 * n ∧ T c = n + pg n (T c) ∧ cr n (T c) = 2 * n + pg n (T c)) ∨ (2 * n ≤ T c ∧ T c = 2 * n + pg n (T c) ∧ cr n (T c) = n + pg n (T c)) := by unfold In at h; unfold pg cr; grind
    have hb : 0 ≤ pg n (T c) ∧ pg n (T c) < n := by unfold In at h; unfold pg; grind
    have IH := ih (pg n (T c)) hb.1 hb.2 (by omega)
    generalize pg n (T c) = j at *
    have one : Con (fT T n) (gT T n) i0 j := by
      rcases hc with z | z
      · subst z
        have u := hT.up (n + i0) (by omega) (by omega)
        have e : j = gT T n i0 := by unfold gT; omega
        rw [e]; exact .g .refl
      · subst z
        have u := hT.lo (2 * n + i0) (by omega) (by omega)
        have e : j = fT T n i0 := by unfold fT; omega
        rw [e]; exact .f .refl
    rcases List.mem_cons.mp hm with z | z
    · subst z; exact one
    · exact one.trans (IH i z)
inductive Cnt (f g : Int → Int) : (Int → Prop) → Int → Prop
  | nil {D : Int → Prop} : (∀ i, ¬ D i) → Cnt f g D 0
  | ring {D D' W : Int → Prop} {r c : Int} : W r → (∀ i, W i → D i ∧ W (f i) ∧ W (g i) ∧ Con f g r i) → (∀ i, D' i ↔ D i ∧ ¬ W i) → Cnt f g D' c → Cnt f g D (c + 1)
theorem Cnt.imp {f g : Int → Int} {D E : Int → Prop} {c : Int} (h : Cnt f g D c) (e : ∀ i, D i ↔ E i) : Cnt f g E c := by
  have : D = E := funext fun i => propext (e i)
  rw [← this]; exact h
end Rb

set_option Elab.async false
set_option linter.all false
set_option maxRecDepth 100000
set_option maxHeartbeats 4000000
namespace Rb
structure Gs (T : Int → Int) (n k : Int) (t : Int → Int) (P : Int → List Int) (c : Int) : Prop where
  ft : ∀ p, Al n k p → Al n k (t p) ∧ t p ≠ p ∧ t (t p) = p
  rk : ∀ p, Al n k p → Rk T n k p (t p) (P p)
  nd : ∀ p, Al n k p → (P p).Nodup
  rev : ∀ p, Al n k p → ∀ i, i ∈ P (t p) ↔ i ∈ P p
  dj : ∀ p q, Al n k p → Al n k q → q ≠ p → q ≠ t p → ∀ i, i ∈ P p → i ∉ P q
  cnt : Cnt (fT T n) (gT T n) (fun i => k ≤ i ∧ i < n ∧ ∀ p, Al n k p → i ∉ P p) c
theorem al_not_in {n k p : Int} (h : Al n k p) : ¬ In n k p := by unfold Al at h; unfold In; omega
theorem Gs.start {T : Int → Int} {n : Int} (hn : 0 ≤ n) (hT : T2 n T) (hne : ∀ q, 0 ≤ q → q < 4 * n → T q ≠ q) : Gs T n n T (fun _ => []) 0 := by
  have tb : ∀ q, 0 ≤ q → q < 4 * n → 0 ≤ T q ∧ T q < 4 * n := fun q a b => by
    by_cases c : q < 2 * n
    · have := hT.up q a c; omega
    · have := hT.lo q (by omega) b; omega
  refine ⟨fun p hp => ?_, fun p hp => .stop ?_, fun p hp => .nil, fun p hp i => Iff.rfl, fun p q hp hq _ _ i hi => (by cases hi), .nil fun i hi => by omega⟩
  · unfold Al at hp
    have a := tb p (by omega) (by omega)
    exact ⟨by unfold Al; omega, hne p (by omega) (by omega), hT.inv p (by omega) (by omega)⟩
  · unfold In; omega
theorem Gs.step {T t : Int → Int} {n k c : Int} {P : Int → List Int} (hT : T2 n T) (k0 : 0 ≤ k) (k1 : k < n) (h : Gs T n (k + 1) t P c) :
    ∃ P', Gs T n k (glue t (2 * n + k) (n + k)) P' (c + if t (2 * n + k) = n + k then 1 else 0) := by
  have aA : Al n (k + 1) (2 * n + k) := by unfold Al; omega
  have bA : Al n (k + 1) (n + k) := by unfold Al; omega
  have ab : 2 * n + k ≠ n + k := by omega
  have inA : In n k (2 * n + k) := by unfold In; omega
  have inB : In n k (n + k) := by unfold In; omega
  have crA : cr n (2 * n + k) = n + k := by unfold cr; rw [if_neg (by omega)]; omega
  have crB : cr n (n + k) = 2 * n + k := by unfold cr; rw [if_pos (by omega)]; omega
  have pgA : pg n (2 * n + k) = k := by unfold pg; rw [if_neg (by omega)]; omega
  have pgB : pg n (n + k) = k := by unfold pg; rw [if_pos (by omega)]; omega
  have split : ∀ p, Al n k p ↔ Al n (k + 1) p ∧ p ≠ 2 * n + k ∧ p ≠ n + k := fun p => by unfold Al; omega
  have nin : ∀ p, Al n (k + 1) p → p ≠ 2 * n + k → p ≠ n + k → ¬ In n k p := fun p hp x y => al_not_in ((split p).mpr ⟨hp, x, y⟩)
  have kno : ∀ p, Al n (k + 1) p → k ∉ P p := fun p hp z => by have := (h.rk p hp).inner (by omega) k z; omega
  have fa := h.ft _ aA
  have fb := h.ft _ bA
  generalize ha : 2 * n + k = a at *
  generalize hb : n + k = b at *
  by_cases ct : t a = b
  · have et : glue t a b = t := by funext p; unfold glue; rw [if_pos ct]
    rw [et, if_pos ct]
    have tba : t b = a := by rw [← ct]; exact fa.2.2
    have ne : ∀ p, Al n k p → t p ≠ a ∧ t p ≠ b := fun p hp => by
      have q := (split p).mp hp
      have f := h.ft p q.1
      refine ⟨fun z => q.2.2 ?_, fun z => q.2.1 ?_⟩
      · rw [← f.2.2, z, ct]
      · rw [← f.2.2, z, tba]
    refine ⟨P, fun p hp => ?_, fun p hp => ?_, fun p hp => h.nd p ((split p).mp hp).1, fun p hp => h.rev p ((split p).mp hp).1, fun p q hp hq => h.dj p q ((split p).mp hp).1 ((split q).mp hq).1, ?_⟩
    · have f := h.ft p ((split p).mp hp).1
      exact ⟨(split _).mpr ⟨f.1, ne p hp⟩, f.2⟩
    · have f := h.ft p ((split p).mp hp).1
      exact (h.rk p ((split p).mp hp).1).down (nin _ f.1 (ne p hp).1 (ne p hp).2)
    · have ra := h.rk a aA
      rw [ct] at ra
      have N := ra.nbr hT (by omega) (by omega) (by omega)
      have I := ra.inner (by omega)
      have C := ra.con hT (by omega) k k0 k1 (by omega)
      refine .ring (W := fun i => i = k ∨ i ∈ P a) (r := k) (.inl rfl) (fun i hi => ⟨⟨?_, ?_, fun p hp => ?_⟩, ?_, ?_, ?_⟩) (fun i => ?_) h.cnt
      · rcases hi with z | z
        · omega
        · have := I i z; omega
      · rcases hi with z | z
        · omega
        · have := I i z; omega
      · have q := (split p).mp hp
        rcases hi with z | z
        · rw [z]; exact kno p q.1
        · exact h.dj a p aA q.1 q.2.1 (by rw [ct]; exact q.2.2) i z
      · rcases hi with z | z
        · subst z
          have u := hT.lo a (by omega) (by omega)
          have e : fT T n i = T a - 2 * n := by unfold fT; rw [ha]
          rcases N.st with s | ⟨j, m, s⟩
          · omega
          · right
            have := I j m
            have : fT T n i = j := by omega
            rw [this]; exact m
        · have b1 := I i z
          have u := hT.lo (2 * n + i) (by omega) (by omega)
          rcases N.up i z with s | s | ⟨j, m, s⟩
          · left; unfold fT; omega
          · omega
          · right
            have : fT T n i = j := by unfold fT; omega
            rw [this]; exact m
      · rcases hi with z | z
        · subst z
          have u := hT.up b (by omega) (by omega)
          have e : gT T n i = T b - n := by unfold gT; rw [hb]
          -- the last peg met before b
          have rb := h.rk b bA
          rw [tba] at rb
          have Nb := rb.nbr hT (by omega) (by omega) (by omega)
          have Ib := rb.inner (by omega)
          rcases Nb.st with s | ⟨j, m, s⟩
          · omega
          · right
            have := Ib j m
            have e2 : gT T n i = j := by omega
            rw [e2]
            exact (h.rev a aA j).mp (by rw [ct]; exact m)
        · have b1 := I i z
          have u := hT.up (n + i) (by omega) (by omega)
          rcases N.lo i z with s | s | ⟨j, m, s⟩
          · omega
          · left; unfold gT; omega
          · right
            have : gT T n i = j := by unfold gT; omega
            rw [this]; exact m
      · rcases hi with z | z
        · rw [z]; exact .refl
        · exact C i z
      · constructor
        · rintro ⟨x, y, z⟩
          refine ⟨⟨by omega, y, fun p hp => z p ((split p).mp hp).1⟩, fun w => ?_⟩
          rcases w with w | w
          · omega
          · exact z a aA w
        · rintro ⟨⟨x, y, z⟩, w⟩
          refine ⟨by have : i ≠ k := fun e => w (.inl e); omega, y, fun p hp m => ?_⟩
          by_cases pa : p = a
          · subst pa; exact w (.inr m)
          · by_cases pb : p = b
            · subst pb
              have := (h.rev a aA i).mp (by rw [ct]; exact m)
              exact w (.inr this)
            · exact z p ((split p).mpr ⟨hp, pa, pb⟩) m
  · have et : ∀ p, glue t a b p = if p = t a then t b else if p = t b then t a else t p := fun p => by unfold glue; rw [if_neg ct]
    rw [if_neg ct, Int.add_zero]
    have tab : t a ≠ t b := fun z => ab (by rw [← fa.2.2, z, fb.2.2])
    have tbna : t b ≠ a := fun z => ct (by rw [← z]; exact fb.2.2)
    let P' : Int → List Int := fun p => if p = t a then P p ++ k :: P b else if p = t b then P p ++ k :: P a else P p
    have e1 : P' (t a) = P (t a) ++ k :: P b := if_pos rfl
    have e2 : P' (t b) = P (t b) ++ k :: P a := by show (if t b = t a then _ else if t b = t b then _ else _) = _; rw [if_neg (Ne.symm tab), if_pos rfl]
    have e3 : ∀ p, p ≠ t a → p ≠ t b → P' p = P p := fun p x y => by show (if p = t a then _ else if p = t b then _ else _) = _; rw [if_neg x, if_neg y]
    have g1 : glue t a b (t a) = t b := by rw [et, if_pos rfl]
    have g2 : glue t a b (t b) = t a := by rw [et, if_neg (Ne.symm tab), if_pos rfl]
    have g3 : ∀ p, p ≠ t a → p ≠ t b → glue t a b p = t p := fun p x y => by rw [et, if_neg x, if_neg y]
    have ta : Al n k (t a) := (split _).mpr ⟨fa.1, fa.2.1, ct⟩
    have tb : Al n k (t b) := (split _).mpr ⟨fb.1, tbna, fb.2.1⟩
    have other : ∀ p, Al n k p → p ≠ t a → p ≠ t b → t p ≠ a ∧ t p ≠ b ∧ t p ≠ t a ∧ t p ≠ t b := fun p hp x y => by
      have q := (split p).mp hp
      have f := h.ft p q.1
      refine ⟨fun z => x ?_, fun z => y ?_, fun z => q.2.1 ?_, fun z => q.2.2 ?_⟩
      · rw [← z, f.2.2]
      · rw [← z, f.2.2]
      · rw [← f.2.2, z, fa.2.2]
      · rw [← f.2.2, z, fb.2.2]
    have mA : ∀ i, i ∈ P' (t a) ↔ i ∈ P a ∨ i = k ∨ i ∈ P b := fun i => by rw [e1, List.mem_append, List.mem_cons, h.rev a aA]
    have mB : ∀ i, i ∈ P' (t b) ↔ i ∈ P b ∨ i = k ∨ i ∈ P a := fun i => by rw [e2, List.mem_append, List.mem_cons, h.rev b bA]
    have dAB : ∀ i, i ∈ P a → i ∉ P b := h.dj a b aA bA (Ne.symm ab) (fun z => ct z.symm)
    have dO : ∀ p, Al n k p → p ≠ t a → p ≠ t b → ∀ i, i ∈ P p → i ∉ P a ∧ i ≠ k ∧ i ∉ P b := fun p hp x y i hi => by
      have q := (split p).mp hp
      have o := other p hp x y
      exact ⟨h.dj p a q.1 aA (Ne.symm q.2.1) (Ne.symm o.1) i hi, fun z => kno p q.1 (z ▸ hi), h.dj p b q.1 bA (Ne.symm q.2.2) (Ne.symm o.2.1) i hi⟩
    refine ⟨P', fun p hp => ?_, fun p hp => ?_, fun p hp => ?_, fun p hp => ?_, fun p q hp hq nq nt i hi hi2 => ?_, h.cnt.imp fun i => ?_⟩
    · by_cases p1 : p = t a
      · subst p1; rw [g1, g2]; exact ⟨tb, Ne.symm tab, rfl⟩
      · by_cases p2 : p = t b
        · subst p2; rw [g2, g1]; exact ⟨ta, tab, rfl⟩
        · have o := other p hp p1 p2
          have f := h.ft p ((split p).mp hp).1
          rw [g3 p p1 p2, g3 (t p) o.2.2.1 o.2.2.2]
          exact ⟨(split _).mpr ⟨f.1, o.1, o.2.1⟩, f.2⟩
    · by_cases p1 : p = t a
      · subst p1; rw [g1, e1]
        have r := h.rk (t a) fa.1
        rw [fa.2.2] at r
        have := r.join inA (by rw [crA]; exact (h.rk b bA).down (nin _ fb.1 tbna fb.2.1))
        rw [pgA] at this
        exact this
      · by_cases p2 : p = t b
        · subst p2; rw [g2, e2]
          have r := h.rk (t b) fb.1
          rw [fb.2.2] at r
          have := r.join inB (by rw [crB]; exact (h.rk a aA).down (nin _ fa.1 fa.2.1 ct))
          rw [pgB] at this
          exact this
        · have o := other p hp p1 p2
          rw [g3 p p1 p2, e3 p p1 p2]
          have q := (split p).mp hp
          exact (h.rk p q.1).down (nin _ (h.ft p q.1).1 o.1 o.2.1)
    · by_cases p1 : p = t a
      · subst p1; rw [e1]
        refine List.nodup_append.mpr ⟨h.nd _ fa.1, List.nodup_cons.mpr ⟨kno b bA, h.nd b bA⟩, fun i hi j hj e => ?_⟩
        subst e
        rw [h.rev a aA] at hi
        rcases List.mem_cons.mp hj with z | z
        · exact kno a aA (z ▸ hi)
        · exact dAB i hi z
      · by_cases p2 : p = t b
        · subst p2; rw [e2]
          refine List.nodup_append.mpr ⟨h.nd _ fb.1, List.nodup_cons.mpr ⟨kno a aA, h.nd a aA⟩, fun i hi j hj e => ?_⟩
          subst e
          rw [h.rev b bA] at hi
          rcases List.mem_cons.mp hj with z | z
          · exact kno b bA (z ▸ hi)
          · exact dAB i z hi
        · rw [e3 p p1 p2]; exact h.nd p ((split p).mp hp).1
    · intro i
      by_cases p1 : p = t a
      · subst p1; rw [g1, mB, mA]; grind
      · by_cases p2 : p = t b
        · subst p2; rw [g2, mA, mB]; grind
        · have o := other p hp p1 p2
          rw [g3 p p1 p2, e3 p p1 p2, e3 (t p) o.2.2.1 o.2.2.2]
          exact h.rev p ((split p).mp hp).1 i
    · by_cases p1 : p = t a
      · subst p1
        rw [g1] at nt
        rw [e3 q nq nt] at hi2
        have := dO q hq nq nt i hi2
        rcases (mA i).mp hi with z | z | z
        · exact this.1 z
        · exact this.2.1 z
        · exact this.2.2 z
      · by_cases p2 : p = t b
        · subst p2
          rw [g2] at nt
          rw [e3 q nt nq] at hi2
          have := dO q hq nt nq i hi2
          rcases (mB i).mp hi with z | z | z
          · exact this.2.2 z
          · exact this.2.1 z
          · exact this.1 z
        · rw [g3 p p1 p2] at nt
          rw [e3 p p1 p2] at hi
          have D := dO p hp p1 p2 i hi
          by_cases q1 : q = t a
          · subst q1
            rcases (mA i).mp hi2 with z | z | z
            · exact D.1 z
            · exact D.2.1 z
            · exact D.2.2 z
          · by_cases q2 : q = t b
            · subst q2
              rcases (mB i).mp hi2 with z | z | z
              · exact D.2.2 z
              · exact D.2.1 z
              · exact D.1 z
            · rw [e3 q q1 q2] at hi2
              exact h.dj p q ((split p).mp hp).1 ((split q).mp hq).1 nq nt i hi hi2
    · constructor
      · rintro ⟨x, y, z⟩
        refine ⟨by omega, y, fun p hp m => ?_⟩
        by_cases p1 : p = t a
        · subst p1
          rcases (mA i).mp m with w | w | w
          · exact z a aA w
          · omega
          · exact z b bA w
        · by_cases p2 : p = t b
          · subst p2
            rcases (mB i).mp m with w | w | w
            · exact z b bA w
            · omega
            · exact z a aA w
          · rw [e3 p p1 p2] at m
            exact z p ((split p).mp hp).1 m
      · rintro ⟨x, y, z⟩
        have zA := z _ ta
        rw [mA] at zA
        have nk : i ≠ k := fun e => zA (.inr (.inl e))
        refine ⟨by omega, y, fun p hp m => ?_⟩
        by_cases pa : p = a
        · subst pa; exact zA (.inl m)
        · by_cases pb : p = b
          · subst pb; exact zA (.inr (.inr m))
          · have hp' := (split p).mpr ⟨hp, pa, pb⟩
            by_cases p1 : p = t a
            · subst p1; exact zA (.inl ((h.rev a aA i).mp m))
            · by_cases p2 : p = t b
              · subst p2; exact zA (.inr (.inr ((h.rev b bA i).mp m)))
              · exact z p hp' (by rw [e3 p p1 p2]; exact m)
end Rb

set_option Elab.async false
set_option linter.all false
set_option maxRecDepth 100000
set_option maxHeartbeats 4000000
namespace Rb
theorem Con.congr {f g f' g' : Int → Int} {W : Int → Prop} {r i : Int} (hr : W r) (hW : ∀ i, W i → W (f i) ∧ W (g i) ∧ f i = f' i ∧ g i = g' i) (h : Con f g r i) : W i ∧ Con f' g' r i := by
  induction h with
  | refl => exact ⟨hr, .refl⟩
  | f _ ih =>
    have := hW _ ih.1
    exact ⟨this.1, this.2.2.1 ▸ ih.2.f⟩
  | g _ ih =>
    have := hW _ ih.1
    exact ⟨this.2.1, this.2.2.2 ▸ ih.2.g⟩
theorem Cnt.congr {f g f' g' : Int → Int} {D : Int → Prop} {c : Int} (h : Cnt f g D c) : (∀ i, D i → f i = f' i ∧ g i = g' i) → Cnt f' g' D c := by
  induction h with
  | nil h => intro _; exact .nil h
  | ring hr hw hd _ ih =>
    intro e
    refine .ring hr (fun i hi => ?_) hd (ih fun i hi => e i ((hd i).mp hi).1)
    have q := hw i hi
    have e' := e i q.1
    exact ⟨q.1, e'.1 ▸ q.2.1, e'.2 ▸ q.2.2.1, (q.2.2.2.congr hr fun j hj => ⟨(hw j hj).2.1, (hw j hj).2.2.1, e j (hw j hj).1⟩).2⟩
structure Inv2 (f g : Int → Int) (D : Int → Prop) : Prop where
  f : ∀ i, D i → D (f i) ∧ f i ≠ i ∧ f (f i) = i
  g : ∀ i, D i → D (g i) ∧ g i ≠ i ∧ g (g i) = i
theorem Con.mem {f g : Int → Int} {W : Int → Prop} {i j : Int} (h : Con f g i j) (hi : W i) (hW : ∀ i, W i → W (f i) ∧ W (g i)) : W j := by
  induction h with
  | refl => exact hi
  | f _ ih => exact (hW _ ih).1
  | g _ ih => exact (hW _ ih).2
theorem Con.symm {f g : Int → Int} {D : Int → Prop} {i j : Int} (v : Inv2 f g D) (h : Con f g i j) (hi : D i) : Con f g j i := by
  induction h with
  | refl => exact .refl
  | @f j h ih =>
    have dj : D j := h.mem hi fun i hi => ⟨(v.f i hi).1, (v.g i hi).1⟩
    have e := (v.f j dj).2.2
    have : Con f g (f j) (f (f j)) := .f .refl
    rw [e] at this
    exact this.trans ih
  | @g j h ih =>
    have dj : D j := h.mem hi fun i hi => ⟨(v.f i hi).1, (v.g i hi).1⟩
    have e := (v.g j dj).2.2
    have : Con f g (g j) (g (g j)) := .g .refl
    rw [e] at this
    exact this.trans ih
structure Ring (f g : Int → Int) (D W : Int → Prop) (r0 : Int) : Prop where
  r : W r0
  all : ∀ i, W i → D i ∧ W (f i) ∧ W (g i) ∧ Con f g r0 i
theorem Ring.same {f g : Int → Int} {D W V : Int → Prop} {r s i : Int} (v : Inv2 f g D) (a : Ring f g D W r) (b : Ring f g D V s) (h1 : W i) (h2 : V i) (j : Int) (hj : W j) : V j := by
  have c1 := (a.all i h1).2.2.2
  have c2 := (a.all j hj).2.2.2
  exact ((c1.symm v (a.all r a.r).1).trans c2).mem h2 fun k hk => ⟨(b.all k hk).2.1, (b.all k hk).2.2.1⟩
theorem Inv2.less {f g : Int → Int} {D W D' : Int → Prop} {r : Int} (v : Inv2 f g D) (a : Ring f g D W r) (hd : ∀ i, D' i ↔ D i ∧ ¬ W i) : Inv2 f g D' := by
  refine ⟨fun i hi => ?_, fun i hi => ?_⟩
  · obtain ⟨h1, h2⟩ := (hd i).mp hi
    have q := v.f i h1
    refine ⟨(hd _).mpr ⟨q.1, fun z => h2 ?_⟩, q.2⟩
    have := (a.all _ z).2.1
    rw [q.2.2] at this; exact this
  · obtain ⟨h1, h2⟩ := (hd i).mp hi
    have q := v.g i h1
    refine ⟨(hd _).mpr ⟨q.1, fun z => h2 ?_⟩, q.2⟩
    have := (a.all _ z).2.2.1
    rw [q.2.2] at this; exact this
theorem Cnt.less {f g : Int → Int} {D : Int → Prop} {c : Int} (h : Cnt f g D c) : Inv2 f g D → ∀ {V D' : Int → Prop} {s : Int}, Ring f g D V s → (∀ i, D' i ↔ D i ∧ ¬ V i) → Cnt f g D' (c - 1) := by
  induction h with
  | nil h => intro v V D' s b hd; exact absurd (b.all s b.r).1 (h s)
  | @ring D D1 W r c hr hw hd1 h1 ih =>
    intro v V D' s b hd
    have a : Ring f g D W r := ⟨hr, hw⟩
    have e : c + 1 - 1 = c := by omega
    rw [e]
    by_cases m : ∃ i, W i ∧ V i
    · obtain ⟨i, m1, m2⟩ := m
      refine h1.imp fun j => ?_
      rw [hd1, hd]
      exact ⟨fun z => ⟨z.1, fun w => z.2 (b.same v a m2 m1 j w)⟩, fun z => ⟨z.1, fun w => z.2 (a.same v b m1 m2 j w)⟩⟩
    · have nm : ∀ i, W i → ¬ V i := fun i h1 h2 => m ⟨i, h1, h2⟩
      have b1 : Ring f g D1 V s := ⟨b.r, fun i hi => ⟨(hd1 i).mpr ⟨(b.all i hi).1, fun w => nm i w hi⟩, (b.all i hi).2⟩⟩
      have q := ih (v.less a hd1) b1 (D' := fun i => D1 i ∧ ¬ V i) (fun i => Iff.rfl)
      have e2 : c = c - 1 + 1 := by omega
      rw [e2]
      refine .ring (W := W) hr (fun i hi => ⟨(hd i).mpr ⟨(hw i hi).1, nm i hi⟩, (hw i hi).2⟩) (fun i => ?_) q
      show D1 i ∧ ¬ V i ↔ _
      rw [hd1, hd]
      exact ⟨fun z => ⟨⟨z.1.1, z.2⟩, z.1.2⟩, fun z => ⟨⟨z.1.1, z.2⟩, z.1.2⟩⟩
theorem Cnt.zero {f g : Int → Int} {D : Int → Prop} {c : Int} (h : Cnt f g D c) (hn : ∀ i, ¬ D i) : c = 0 := by
  cases h with
  | nil _ => rfl
  | ring hr hw _ _ => exact absurd (hw _ hr).1 (hn _)
end Rb

set_option Elab.async false
set_option linter.all false
set_option maxRecDepth 100000
set_option maxHeartbeats 4000000
namespace Rb
open PySem L2
theorem rng_nil {lo hi : Int} (h : hi ≤ lo) : rng lo hi = [] := by
  unfold rng
  have : (hi - lo).toNat = 0 := by omega
  rw [this]; rfl
theorem rng_cons {lo hi : Int} (h : lo < hi) : rng lo hi = lo :: rng (lo + 1) hi := by
  unfold rng
  have : (hi - lo).toNat = (hi - (lo + 1)).toNat + 1 := by omega
  rw [this, List.range_succ_eq_map, List.map_cons, List.map_map]
  congr 1
  · omega
  · apply List.map_congr_left
    intro i _
    show lo + ((i + 1 : Nat) : Int) = lo + 1 + (i : Int)
    omega
section
variable {α β S R : Type}
theorem forR_cons {f : S → α → Option (S ⊕ R)} {s : S} {x : α} {xs : List α} : forR f s (x :: xs) = (f s x).bind fun o => match o with | .inl s' => forR f s' xs | .inr r => some (.inr r) := rfl
end
structure Opn (E : Int → Int) (p : Int) (Q : List Int) : Prop where
  srt : Q.Pairwise (· < ·)
  mem : ∀ q, q ∈ Q ↔ 0 ≤ q ∧ q < p ∧ p ≤ E q
theorem Opn.push {E : Int → Int} {m p : Int} {Q : List Int} (h : Opn E p Q) (hE : FT m E) (p0 : 0 ≤ p) (p1 : p < m) (u : p < E p) : Opn E (p + 1) (Q ++ [p]) := by
  refine ⟨List.pairwise_append.mpr ⟨h.srt, List.pairwise_singleton _ _, fun a ha b hb => ?_⟩, fun q => ?_⟩
  · have := (h.mem a).mp ha
    have : b = p := by simpa using hb
    omega
  · rw [List.mem_append, h.mem, List.mem_singleton]
    constructor
    · rintro (⟨a, b, c⟩ | rfl)
      · have := hE q a (by omega)
        have : E q ≠ p := fun z => by rw [z] at this; omega
        omega
      · omega
    · rintro ⟨a, b, c⟩
      by_cases e : q = p
      · exact .inr e
      · exact .inl ⟨a, by omega, by omega⟩
theorem Opn.pop {E : Int → Int} {m p : Int} {Q : List Int} (h : Opn E p Q) (hE : FT m E) (p0 : 0 ≤ p) (p1 : p < m) (u : E p < p) :
    ∃ Q' q, Q = Q' ++ [q] ∧ (E q = p → Opn E (p + 1) Q') ∧ (E q = p ↔ ∀ r, E p < r → r < p → E r < p) := by
  have hp := hE p p0 p1
  have me : E p ∈ Q := (h.mem _).mpr ⟨hp.1, u, by omega⟩
  have ne : Q ≠ [] := List.ne_nil_of_mem me
  have eq := (List.dropLast_concat_getLast ne).symm
  generalize Q.getLast ne = q at eq
  generalize Q.dropLast = Q' at eq
  subst eq
  have hq := (h.mem q).mp (by simp)
  obtain ⟨s1, s2, s3⟩ := List.pairwise_append.mp h.srt
  have last : ∀ r, r ∈ Q' → r < q := fun r hr => s3 r hr q (by simp)
  have inj : ∀ r s, 0 ≤ r → r < m → 0 ≤ s → s < m → E r = E s → r = s := fun r s a b c d e => by
    have x := hE r a b
    have y := hE s c d
    rw [← x.2.2.2, e, y.2.2.2]
  refine ⟨Q', q, rfl, fun e => ⟨s1, fun r => ?_⟩, fun e r r1 r2 => ?_, fun k => ?_⟩
  · have hm := h.mem r
    rw [List.mem_append, List.mem_singleton] at hm
    constructor
    · intro hr
      have := hm.mp (.inl hr)
      have l := last r hr
      have : E r ≠ p := fun z => by
        have := inj r q this.1 (by omega) hq.1 (by omega) (by rw [z, e])
        omega
      omega
    · rintro ⟨a, b, c⟩
      by_cases rp : r = p
      · subst rp; omega
      · rcases hm.mpr ⟨a, by omega, by omega⟩ with z | z
        · exact z
        · subst z; omega
  · have eq : q = E p := by rw [← e]; exact ((hE q hq.1 (by omega)).2.2.2).symm
    refine Int.not_le.mp fun c => ?_
    have : r ∈ Q' ++ [q] := (h.mem r).mpr ⟨by omega, r2, c⟩
    rcases List.mem_append.mp this with z | z
    · have := last r z; omega
    · have : r = q := by simpa using z
      omega
  · have le : E p ≤ q := by
      rcases List.mem_append.mp me with z | z
      · have := last _ z; omega
      · have : E p = q := by simpa using z
        omega
    by_cases c : E p = q
    · rw [← c]; exact hp.2.2.2
    · have := k q (by omega) hq.2.1
      omega
end Rb

set_option Elab.async false
set_option linter.all false
set_option maxRecDepth 100000
set_option maxHeartbeats 4000000
namespace Rb
open PySem L2
section
variable {κ β : Type} [DecidableEq κ]
end
end Rb

set_option Elab.async false
set_option linter.all false
set_option maxRecDepth 100000
set_option maxHeartbeats 4000000
namespace Rb
theorem forR_go {α S R : Type} {f : S → α → Option (S ⊕ R)} {s s' : S} {x : α} {xs : List α} (h : f s x = some (.inl s')) : forR f s (x :: xs) = forR f s' xs := by
  rw [forR_cons, h]; rfl
theorem forR_all {α S R : Type} {f : S → α → Option (S ⊕ R)} {s : S} : ∀ {xs : List α}, (∀ x, x ∈ xs → f s x = some (.inl s)) → forR f s xs = some (.inl s)
  | [], _ => rfl
  | x :: xs, h => by
    rw [forR_go (h x List.mem_cons_self)]
    exact forR_all fun y hy => h y (List.mem_cons_of_mem _ hy)
def plainF (n : Int) (p : Int) : Int := if p < n then p + n else p - n
theorem Fr.turn {n : Int} {x f g : Int → Int} (h : Fr n x) (hf : ∀ p, 0 ≤ p → p < 2 * n → 0 ≤ f p ∧ f p < 2 * n ∧ g (f p) = p) (hg : ∀ p, 0 ≤ p → p < 2 * n → 0 ≤ g p ∧ g p < 2 * n ∧ f (g p) = p)
    (hb : ∀ a b c d, (0 ≤ a ∧ a < 2 * n) → (0 ≤ b ∧ b < 2 * n) → (0 ≤ c ∧ c < 2 * n) → (0 ≤ d ∧ d < 2 * n) → a ≠ c → a ≠ d → b ≠ c → b ≠ d → (Btw (rd n) a b c ↔ Btw (rd n) a b d) → (Btw (rd n) (f a) (f b) (f c) ↔ Btw (rd n) (f a) (f b) (f d))) : Fr n (fun p => f (x (g p))) := by
  refine ⟨fun p hp => ?_, fun p q hp hq np nt => ?_⟩
  · have a := hg p hp.1 hp.2
    have b := h.ft _ a.1 a.2.1
    have c := hf _ b.1 b.2.1
    refine ⟨⟨c.1, c.2.1⟩, fun z => b.2.2.1 ?_, ?_⟩
    · rw [← c.2.2, z]
    · show f (x (g (f (x (g p))))) = p
      rw [c.2.2, b.2.2.2, a.2.2]
  · have a := hg p hp.1 hp.2
    have b := h.ft _ a.1 a.2.1
    have a' := hg q hq.1 hq.2
    have b' := h.ft _ a'.1 a'.2.1
    have m1 : g p ≠ g q := fun z => np (by rw [← a'.2.2, ← z, a.2.2])
    have m2 : x (g p) ≠ g q := fun z => nt (by rw [z, a'.2.2])
    have m3 : g p ≠ x (g q) := fun z => m2 (by rw [z, b'.2.2.2])
    have m4 : x (g p) ≠ x (g q) := fun z => m1 (by rw [← b.2.2.2, z, b'.2.2.2])
    have := hb (g p) (x (g p)) (g q) (x (g q)) ⟨a.1, a.2.1⟩ ⟨b.1, b.2.1⟩ ⟨a'.1, a'.2.1⟩ ⟨b'.1, b'.2.1⟩ m1 m3 m2 m4 (Pm.nc h (g p) (g q) ⟨a.1, a.2.1⟩ ⟨a'.1, a'.2.1⟩ (Ne.symm m1) (Ne.symm m2))
    rw [a.2.2, a'.2.2] at this
    exact this
end Rb
namespace Rb
end Rb
namespace Rb
open PySem L2
theorem sIx_none {len d : Nat} : HT.sIx len d none = d := rfl
end Rb

set_option Elab.async false
set_option linter.all false
set_option maxRecDepth 100000
set_option maxHeartbeats 4000000
namespace Rb
open PySem L2
def sh (m b r : Int) : Int := (r + b) % m
end Rb

set_option Elab.async false
set_option linter.all false
set_option maxRecDepth 100000
set_option maxHeartbeats 4000000
namespace Rb
def Iv (A : Int → Prop) (t : Int → Int) : Prop := ∀ p, A p → A (t p) ∧ t p ≠ p ∧ t (t p) = p
theorem Iv.glue {A : Int → Prop} {t : Int → Int} {a b : Int} (h : Iv A t) (ha : A a) (hb : A b) (hab : a ≠ b) : Iv (fun p => A p ∧ p ≠ a ∧ p ≠ b) (glue t a b) := by
  intro p ⟨hp, pa, pb⟩
  have fa := h a ha
  have fb := h b hb
  have fp := h p hp
  unfold Rb.glue
  grind
def gst (s : (Int → Int) × Int) (q : Int × Int) : (Int → Int) × Int := (glue s.1 q.1 q.2, s.2 + if s.1 q.1 = q.2 then 1 else 0)
def glL (L : List (Int × Int)) (s : (Int → Int) × Int) : (Int → Int) × Int := L.foldl gst s
theorem glL_cons {q : Int × Int} {L : List (Int × Int)} {s : (Int → Int) × Int} : glL (q :: L) s = glL L (gst s q) := rfl
theorem glL_app {L M : List (Int × Int)} {s : (Int → Int) × Int} : glL (L ++ M) s = glL M (glL L s) := List.foldl_append
theorem glL_congr {A : Int → Prop} : ∀ {L : List (Int × Int)} {s s' : (Int → Int) × Int}, (∀ q, q ∈ L → A q.1 ∧ A q.2) → (∀ p, A p → s.1 p = s'.1 p) → s.2 = s'.2 → (∀ p, A p → (glL L s).1 p = (glL L s').1 p) ∧ (glL L s).2 = (glL L s').2
  | [], s, s', _, h, e => ⟨h, e⟩
  | q :: L, s, s', hA, h, e => by
    have a := hA q List.mem_cons_self
    rw [glL_cons, glL_cons]
    refine glL_congr (fun r hr => hA r (List.mem_cons_of_mem _ hr)) (fun p hp => ?_) ?_
    · show glue s.1 q.1 q.2 p = glue s'.1 q.1 q.2 p
      unfold glue
      rw [h p hp, h _ a.1, h _ a.2]
    · show s.2 + _ = s'.2 + _
      rw [e, h _ a.1]
end Rb

set_option Elab.async false
set_option linter.all false
set_option maxRecDepth 100000
set_option maxHeartbeats 4000000
namespace Rb
def AL (u v : Int) : Nat → List (Int × Int)
  | 0 => []
  | j + 1 => (u + j, v + j) :: AL u v j
theorem mem_AL {u v : Int} {q : Int × Int} : ∀ {j : Nat}, q ∈ AL u v j ↔ ∃ k : Int, 0 ≤ k ∧ k < j ∧ q = (u + k, v + k)
  | 0 => by
    refine ⟨fun z => (by cases z), ?_⟩
    rintro ⟨k, a, b, _⟩
    omega
  | j + 1 => by
    unfold AL
    rw [List.mem_cons, mem_AL]
    constructor
    · rintro (z | ⟨k, a, b, c⟩)
      · exact ⟨j, by omega, by omega, z⟩
      · exact ⟨k, a, by omega, c⟩
    · rintro ⟨k, a, b, c⟩
      by_cases e : k = j
      · subst e; exact .inl c
      · exact .inr ⟨k, a, by omega, c⟩
theorem gls_AL {n : Int} {x y : Int → Int} : ∀ {j : Nat}, (j : Int) ≤ n → gls n x y j = glL (AL (3 * n - j) (2 * n - j) j) (two n x y, 0)
  | 0, _ => rfl
  | j + 1, h => by
    have e : ∀ (u v : Int) (j : Nat), AL u v (j + 1) = AL (u + 1) (v + 1) j ++ [(u, v)] := fun u v j => by
      induction j with
      | zero =>
        show [(u + ((0 : Nat) : Int), v + ((0 : Nat) : Int))] = [(u, v)]
        simp
      | succ j ih =>
        show (u + ((j + 1 : Nat) : Int), v + ((j + 1 : Nat) : Int)) :: AL u v (j + 1) = (u + 1 + (j : Int), v + 1 + (j : Int)) :: AL (u + 1) (v + 1) j ++ [(u, v)]
        rw [ih, List.cons_append]
        have e1 : u + ((j + 1 : Nat) : Int) = u + 1 + (j : Int) := by omega
        have e2 : v + ((j + 1 : Nat) : Int) = v + 1 + (j : Int) := by omega
        rw [e1, e2]
    rw [e, glL_app]
    have e1 : 3 * n - ((j + 1 : Nat) : Int) + 1 = 3 * n - j := by omega
    have e2 : 2 * n - ((j + 1 : Nat) : Int) + 1 = 2 * n - j := by omega
    rw [e1, e2, ← gls_AL (by omega)]
    show gl n (gls n x y j) _ = gst (gls n x y j) _
    unfold gl gst
    have e3 : 3 * n - ((j + 1 : Nat) : Int) = 2 * n + (n - 1 - j) := by omega
    have e4 : 2 * n - ((j + 1 : Nat) : Int) = n + (n - 1 - j) := by omega
    rw [e3, e4]
theorem gls_all {n : Int} {x y : Int → Int} (hn : 0 ≤ n) : gls n x y n.toNat = glL (AL (2 * n) n n.toNat) (two n x y, 0) := by
  rw [gls_AL (by omega)]
  have e1 : 3 * n - (n.toNat : Int) = 2 * n := by omega
  have e2 : 2 * n - (n.toNat : Int) = n := by omega
  rw [e1, e2]
theorem AL_in {n : Int} {q : Int × Int} (h : q ∈ AL (2 * n) n n.toNat) : ∃ k : Int, 0 ≤ k ∧ k < n ∧ q = (2 * n + k, n + k) := by
  obtain ⟨k, a, b, c⟩ := mem_AL.mp h
  exact ⟨k, a, by omega, c⟩
end Rb

set_option Elab.async false
set_option linter.all false
set_option maxRecDepth 100000
set_option maxHeartbeats 4000000
namespace Rb
theorem inA4 {n : Int} : ∀ q, q ∈ AL (2 * n) n n.toNat → (0 ≤ q.1 ∧ q.1 < 4 * n) ∧ 0 ≤ q.2 ∧ q.2 < 4 * n := fun q hq => by
  obtain ⟨k, a, b, rfl⟩ := AL_in hq
  simp only
  omega
def cls (n : Int) (x : Int → Int) : Int := (glL (AL n 0 n.toNat) (x, 0)).2
theorem FT.iv {n : Int} {x : Int → Int} (hx : FT (2 * n) x) : Iv (fun p => 0 ≤ p ∧ p < 2 * n) x := fun p hp => by
  have := hx p hp.1 hp.2
  exact ⟨⟨this.1, this.2.1⟩, this.2.2⟩
end Rb

set_option Elab.async false
set_option linter.all false
set_option maxRecDepth 100000
set_option maxHeartbeats 4000000
namespace Rb
open L2
theorem comp_congr {n : Int} {x y x' y' : Int → Int} (hn : 0 ≤ n) (hx : ∀ p, 0 ≤ p → p < 2 * n → x p = x' p) (hy : ∀ p, 0 ≤ p → p < 2 * n → y p = y' p) :
    (∀ p, 0 ≤ p → p < 2 * n → comp n x y p = comp n x' y' p) ∧ crings n x y = crings n x' y' := by
  have r := glL_congr (A := fun p => 0 ≤ p ∧ p < 4 * n) (L := AL (2 * n) n n.toNat) (s := (two n x y, 0)) (s' := (two n x' y', 0)) inA4 (fun p hp => by
    show two n x y p = two n x' y' p
    unfold two
    by_cases c : p < 2 * n
    · rw [if_pos c, if_pos c, hx p hp.1 c]
    · rw [if_neg c, if_neg c, hy (p - 2 * n) (by omega) (by omega)]) rfl
  rw [← gls_all hn, ← gls_all hn] at r
  refine ⟨fun p p0 p1 => ?_, r.2⟩
  show back n _ = back n _
  rw [r.1 (forth n p) ⟨by unfold forth; split <;> omega, by unfold forth; split <;> omega⟩]
def stk (n : Int) (fs : List (Int → Int)) : (Int → Int) × Int := fs.foldl (fun s x => (comp n s.1 x, s.2 + crings n s.1 x)) (plainF n, 0)
def Lk (n : Int) (s t : (Int → Int) × Int) : Prop := (∀ p, 0 ≤ p → p < 2 * n → s.1 p = t.1 p) ∧ s.2 = t.2
theorem Lk.refl {n : Int} (s : (Int → Int) × Int) : Lk n s s := ⟨fun _ _ _ => rfl, rfl⟩
theorem Lk.symm {n : Int} {s t : (Int → Int) × Int} (h : Lk n s t) : Lk n t s := ⟨fun p a b => (h.1 p a b).symm, h.2.symm⟩
theorem Lk.trans {n : Int} {s t u : (Int → Int) × Int} (h : Lk n s t) (g : Lk n t u) : Lk n s u := ⟨fun p a b => (h.1 p a b).trans (g.1 p a b), h.2.trans g.2⟩
def tw (n : Int) (s t : (Int → Int) × Int) : (Int → Int) × Int := (comp n s.1 t.1, crings n s.1 t.1 + s.2 + t.2)
theorem Lk.tw {n : Int} {s t s' t' : (Int → Int) × Int} (hn : 0 ≤ n) (h : Lk n s s') (g : Lk n t t') : Lk n (tw n s t) (tw n s' t') := by
  have c := comp_congr hn h.1 g.1
  refine ⟨c.1, ?_⟩
  show crings n s.1 t.1 + s.2 + t.2 = crings n s'.1 t'.1 + s'.2 + t'.2
  rw [c.2, h.2, g.2]
theorem Lk.lst {n : Int} {s t : (Int → Int) × Int} (h : Lk n s t) : (lst (2 * n) s.1, s.2) = (lst (2 * n) t.1, t.2) := by
  rw [lst_ext h.1, h.2]
structure WayG (f g : Int → Int) (L0 : List Int) (p0 : Int) (L : List Int) (q : Int) : Prop where
  nd : L.Nodup
  sub : ∀ i, i ∈ L → i ∈ L0
  hp : p0 ∈ L0 ∧ p0 ∉ L
  hq : q ∈ L0 ∧ q ∉ L ∧ q ≠ p0
  hf : ∀ i, i ∈ L0 → i ∉ L → f i ∉ L
  hg : ∀ i, i ∈ L0 → i ∉ L → i ≠ p0 → i ≠ q → g i ∉ L ∧ g i ≠ p0 ∧ g i ≠ q
  con : ∀ i, i ∈ L0 → i ∉ L → Con f g p0 i
end Rb

set_option Elab.async false
set_option linter.all false
set_option maxRecDepth 100000
set_option maxHeartbeats 4000000
namespace Rb
open L2
theorem Cnt.uniq {f g : Int → Int} {D : Int → Prop} {c : Int} (h : Cnt f g D c) : Inv2 f g D → ∀ {c' : Int}, Cnt f g D c' → c = c' := by
  induction h with
  | nil hn => intro _ c' h'; exact (h'.zero hn).symm
  | @ring D D' W r c hr hw hd _ ih =>
    intro v c' h'
    have rg : Ring f g D W r := ⟨hr, hw⟩
    have := ih (v.less rg hd) (h'.less v rg hd)
    omega
structure Mid (n : Int) (x y x' y' : Int → Int) : Prop where
  u : ∀ i, 0 ≤ i → i < n → (n ≤ x (n + i) → x' (n + i) = x (n + i)) ∧ (x (n + i) < n → x' (n + i) < n)
  l : ∀ i, 0 ≤ i → i < n → (y i < n → y' i = y i) ∧ (n ≤ y i → n ≤ y' i)
theorem Mid.symm {n : Int} {x y x' y' : Int → Int} (h : Mid n x y x' y') : Mid n x' y' x y := by
  refine ⟨fun i a b => ?_, fun i a b => ?_⟩
  · have := h.u i a b
    by_cases c : n ≤ x (n + i)
    · have := this.1 c; exact ⟨fun _ => this.symm, fun z => by omega⟩
    · have := this.2 (by omega); exact ⟨fun z => by omega, fun _ => by omega⟩
  · have := h.l i a b
    by_cases c : y i < n
    · have := this.1 c; exact ⟨fun _ => this.symm, fun z => by omega⟩
    · have := this.2 (by omega); exact ⟨fun z => by omega, fun _ => by omega⟩
end Rb

set_option Elab.async false
set_option linter.all false
set_option maxRecDepth 100000
set_option maxHeartbeats 4000000
namespace Rb
open L2
structure Hf (n : Int) (h : Int → Int) : Prop where
  iv : ∀ p, 0 ≤ p → p < n → 0 ≤ h p ∧ h p < n ∧ h (h p) = p
  nc : ∀ p, 0 ≤ p → p < n → h p < p → ∀ r, h p < r → r < p → h r < p
  op : ∀ p, 0 ≤ p → p < n → h p = p → ∀ q, 0 ≤ q → q < p → h q < p
theorem Hf.congr {n : Int} {h g : Int → Int} (H : Hf n h) (e : ∀ p, 0 ≤ p → p < n → g p = h p) : Hf n g := by
  refine ⟨fun p a b => ?_, fun p a b c r d f => ?_, fun p a b c q d f => ?_⟩
  · have i := H.iv p a b
    rw [e p a b, e _ i.1 i.2.1]
    exact i
  · rw [e p a b] at c d
    rw [e r (by have := H.iv p a b; omega) (by omega)]
    exact H.nc p a b c r d f
  · rw [e p a b] at c
    rw [e q d (by omega)]
    exact H.op p a b c q d f
def upF (n : Int) (x : Int → Int) (p : Int) : Int := if x p < n then x p else p
theorem Fr.up {n : Int} {x : Int → Int} (f : Fr n x) : Hf n (upF n x) := by
  have ft := f.ft
  refine ⟨fun p a b => ?_, fun p a b c r d e => ?_, fun p a b c q d e => ?_⟩
  · have h := ft p a (by omega)
    unfold upF
    by_cases c : x p < n
    · rw [if_pos c, h.2.2.2, if_pos b]; omega
    · rw [if_neg c, if_neg c]; omega
  · have h := ft p a (by omega)
    unfold upF at *
    by_cases g : x p < n
    · rw [if_pos g] at c d
      have hr := ft r (by omega) (by omega)
      have nc := f.nc p r ⟨a, by omega⟩ ⟨by omega, by omega⟩ (by omega) (by omega)
      unfold Btw rd at nc
      split <;> grind
    · rw [if_neg g] at c; omega
  · have h := ft p a (by omega)
    unfold upF at *
    have hq := ft q d (by omega)
    by_cases g : x p < n
    · rw [if_pos g] at c; omega
    · by_cases k : x q < n
      · rw [if_pos k]
        have ne : x q ≠ p := fun z => by rw [← z, hq.2.2.2] at g; omega
        have nc := f.nc q p ⟨d, by omega⟩ ⟨a, by omega⟩ (by omega) (by omega)
        unfold Btw rd at nc
        grind
      · rw [if_neg k]; omega
end Rb

set_option Elab.async false
set_option linter.all false
set_option maxRecDepth 100000
set_option maxHeartbeats 0
namespace Rb.M_k31
open PySem PySem.Spec PyProof.Rows L2 Rb
def p_ask_pegs (v_pegs : Int) : Option Unit :=
  (if (!((decide ((1 : Int) ≤ v_pegs)) && (decide (v_pegs ≤ (10 : Int))))) = true then none else (some ()))
def p_ask_hook (v_pegs : Int) (v_number : Int) : Option Unit :=
  (if (!((decide ((0 : Int) ≤ v_number)) && (decide (v_number < (v_pegs - (1 : Int)))))) = true then none else (some ()))
def p_ask_row_for1 (v_pegs : Int) (s_1 : Unit) (x2 : Int) : Option (Unit) :=
  (Option.bind (p_ask_hook v_pegs x2) fun u3 => (some ()))
def p_ask_row (v_pegs : Int) (v_row : (List Int)) : Option Unit :=
  (Option.bind (p_ask_pegs v_pegs) fun u1 => (Option.bind (forS (p_ask_row_for1 v_pegs) () v_row) fun (s4 : Unit) => (some ())))
def p_beside (v_one : Int) (v_other : Int) : Option Bool :=
  (some (decide ((if (v_one - v_other) < 0 then -(v_one - v_other) else (v_one - v_other)) = (1 : Int))))
def p_swapped (v_row : (List Int)) (v_at : Int) : Option (Option (List Int)) :=
  (Option.bind (Option.bind (some (!((decide ((0 : Int) ≤ v_at)) && (decide (v_at < ((v_row.length : Int) - (1 : Int))))))) fun a => if a = true then some true else (Option.bind (atI v_row v_at) fun u1 => (Option.bind (atI v_row (v_at + (1 : Int))) fun u2 => (some (decide ((if (u1 - u2) < 0 then -(u1 - u2) else (u1 - u2)) < (2 : Int))))))) fun c3 => (if c3 = true then (some none) else (Option.bind (atI v_row (v_at + (1 : Int))) fun u4 => (Option.bind (atI v_row v_at) fun u5 => (Option.bind (grd (((cutA v_row none (some v_at)) ++ ([u4, u5])).length ≤ lim)) fun g6 => (Option.bind (grd ((((cutA v_row none (some v_at)) ++ ([u4, u5])) ++ (cutA v_row (some (v_at + (2 : Int))) none)).length ≤ lim)) fun g7 => (some (some (((cutA v_row none (some v_at)) ++ ([u4, u5])) ++ (cutA v_row (some (v_at + (2 : Int))) none))))))))))
def p_dropped (v_row : (List Int)) (v_at : Int) : Option (Option (List Int)) :=
  (Option.bind (Option.bind (some (!((decide ((0 : Int) ≤ v_at)) && (decide (v_at < ((v_row.length : Int) - (1 : Int))))))) fun a => if a = true then some true else (Option.bind (atI v_row v_at) fun u1 => (Option.bind (atI v_row (v_at + (1 : Int))) fun u2 => (some (!(decide (u1 = u2))))))) fun c3 => (if c3 = true then (some none) else (Option.bind (grd (((cutA v_row none (some v_at)) ++ (cutA v_row (some (v_at + (1 : Int))) none)).length ≤ lim)) fun g4 => (some (some ((cutA v_row none (some v_at)) ++ (cutA v_row (some (v_at + (1 : Int))) none)))))))
def p_cut (v_row : (List Int)) (v_at : Int) : Option (Option (List Int)) :=
  (Option.bind (Option.bind (some (!((decide ((0 : Int) ≤ v_at)) && (decide (v_at < ((v_row.length : Int) - (2 : Int))))))) fun a => if a = true then some true else (Option.bind (Option.bind (atI v_row v_at) fun u1 => (Option.bind (atI v_row (v_at + (2 : Int))) fun u2 => (some (!(decide (u1 = u2)))))) fun a => if a = true then some true else (Option.bind (atI v_row v_at) fun u3 => (Option.bind (atI v_row (v_at + (1 : Int))) fun u4 => (Option.bind (p_beside u3 u4) fun u5 => (some (!u5))))))) fun c6 => (if c6 = true then (some none) else (Option.bind (grd (((cutA v_row none (some (v_at + (1 : Int)))) ++ (cutA v_row (some (v_at + (3 : Int))) none)).length ≤ lim)) fun g7 => (some (some ((cutA v_row none (some (v_at + (1 : Int)))) ++ (cutA v_row (some (v_at + (3 : Int))) none)))))))
def p_grown (v_pegs : Int) (v_row : (List Int)) (v_at : Int) (v_number : Int) : Option (Option (List Int)) :=
  (Option.bind (Option.bind (some (!((decide ((0 : Int) ≤ v_at)) && (decide (v_at < (v_row.length : Int)))))) fun a => if a = true then some true else (Option.bind (some (!((decide ((0 : Int) ≤ v_number)) && (decide (v_number < (v_pegs - (1 : Int))))))) fun a => if a = true then some true else (Option.bind (atI v_row v_at) fun u1 => (Option.bind (p_beside u1 v_number) fun u2 => (some (!u2)))))) fun c3 => (if c3 = true then (some none) else (Option.bind (atI v_row v_at) fun u4 => (Option.bind (grd (((cutA v_row none (some (v_at + (1 : Int)))) ++ ([v_number, u4])).length ≤ lim)) fun g5 => (Option.bind (grd ((((cutA v_row none (some (v_at + (1 : Int)))) ++ ([v_number, u4])) ++ (cutA v_row (some (v_at + (1 : Int))) none)).length ≤ lim)) fun g6 => (some (some (((cutA v_row none (some (v_at + (1 : Int)))) ++ ([v_number, u4])) ++ (cutA v_row (some (v_at + (1 : Int))) none)))))))))
def p_behind (v_pegs : Int) (v_rings : Int) (v_row : (List Int)) (v_trade : PyData) : Option (Int × (Option (List Int))) :=
  (Option.bind (lenD v_trade) fun u1 => (Option.bind (Option.bind (some (decide (u1 = (3 : Int)))) fun a => if a = true then (Option.bind (ixDc v_trade (0 : Int)) fun u2 => (Option.bind (grd (SeqAt.shaped (eD u2) = true)) fun g3 => (Option.bind (grd (SeqAt.shaped (PyData.str (Str.ofString "grow")) = true)) fun g4 => (some (PyData.eqv (eD u2) (PyData.str (Str.ofString "grow"))))))) else some false) fun c5 => (if c5 = true then (Option.bind (ixDc v_trade (1 : Int)) fun u6 => (Option.bind (ixDc v_trade (2 : Int)) fun u7 => (Option.bind (decI u6) fun u8 => (Option.bind (decI u7) fun u9 => (Option.bind (p_grown v_pegs v_row u8 u9) fun u10 => (some ((v_rings, u10) : (Int × (Option (List Int)))))))))) else (Option.bind (lenD v_trade) fun u11 => (if (!(decide (u11 = (2 : Int)))) = true then (some (v_rings, (none : (Option (List Int))))) else (Option.bind (ixDc v_trade (1 : Int)) fun u12 => (Option.bind (ixDc v_trade (0 : Int)) fun u13 => (Option.bind (grd (SeqAt.shaped (eD u13) = true)) fun g14 => (Option.bind (grd (SeqAt.shaped (PyData.str (Str.ofString "swap")) = true)) fun g15 => (if (PyData.eqv (eD u13) (PyData.str (Str.ofString "swap"))) = true then (Option.bind (decI u12) fun u16 => (Option.bind (p_swapped v_row u16) fun u17 => (some ((v_rings, u17) : (Int × (Option (List Int))))))) else (Option.bind (ixDc v_trade (0 : Int)) fun u18 => (Option.bind (grd (SeqAt.shaped (eD u18) = true)) fun g19 => (Option.bind (grd (SeqAt.shaped (PyData.str (Str.ofString "drop")) = true)) fun g20 => (if (PyData.eqv (eD u18) (PyData.str (Str.ofString "drop"))) = true then (Option.bind (decI u12) fun u21 => (Option.bind (p_dropped v_row u21) fun u22 => (some (((v_rings + (1 : Int)), u22) : (Int × (Option (List Int))))))) else (Option.bind (ixDc v_trade (0 : Int)) fun u23 => (Option.bind (grd (SeqAt.shaped (eD u23) = true)) fun g24 => (Option.bind (grd (SeqAt.shaped (PyData.str (Str.ofString "cut")) = true)) fun g25 => (if (PyData.eqv (eD u23) (PyData.str (Str.ofString "cut"))) = true then (Option.bind (decI u12) fun u26 => (Option.bind (p_cut v_row u26) fun u27 => (some ((v_rings, u27) : (Int × (Option (List Int))))))) else (Option.bind (ixDc v_trade (0 : Int)) fun u28 => (Option.bind (grd (SeqAt.shaped (eD u28) = true)) fun g29 => (Option.bind (grd (SeqAt.shaped (PyData.str (Str.ofString "double")) = true)) fun g30 => (Option.bind (Option.bind (some (PyData.eqv (eD u28) (PyData.str (Str.ofString "double")))) fun a => if a = true then (Option.bind (some (decide (v_rings > (0 : Int)))) fun a => if a = true then (Option.bind (decI u12) fun u31 => (some ((decide ((0 : Int) ≤ u31)) && (decide (u31 < (v_row.length : Int)))))) else some false) else some false) fun c32 => (if c32 = true then (Option.bind (decI u12) fun u33 => (Option.bind (decI u12) fun u34 => (Option.bind (grd (((cutA v_row none (some (u33 + (1 : Int)))) ++ (cutA v_row (some u34) none)).length ≤ lim)) fun g35 => (some (((v_rings - (1 : Int)), some ((cutA v_row none (some (u33 + (1 : Int)))) ++ (cutA v_row (some u34) none))) : (Int × (Option (List Int)))))))) else (some (v_rings, (none : (Option (List Int))))))))))))))))))))))))))))
def x_walked_for1 (v_pegs : Int) (s_1 : (Int × (Option (List Int)))) (x2 : (Int × PyData)) : Option (((Int × (Option (List Int)))) ⊕ (Except Exn (Int × (Option (List Int))))) :=
  (Option.bind s_1.2 fun u3 => (Option.bind (p_behind v_pegs s_1.1 u3 x2.2) fun u4 => (if u4.2.isNone = true then ((some ((Except.error (α := (Int × (Option (List Int))))) ⟨"BadTrade", some ("at", PyData.int x2.1)⟩))).map Sum.inr else (some (Sum.inl u4)))))
def x_walked (v_pegs : Int) (v_rings : Int) (v_row : (List Int)) (v_trades : (List PyData)) : Option (Except Exn (Int × (Option (List Int)))) :=
  (Option.bind (p_ask_row v_pegs v_row) fun u1 => (bindR (R := (Except Exn (Int × (Option (List Int))))) (forR (x_walked_for1 v_pegs) ((v_rings, some v_row) : (Int × (Option (List Int)))) (enumI v_trades)) (fun (s5 : (Int × (Option (List Int)))) => (some (Except.ok s5))) id))
def l_kin (v_e : Str) : Option Str :=
  (Option.bind (some (([(decide (v_e = "BadPegs")), (decide (v_e = "BadFrame")), (decide (v_e = "BadHalf")), (decide (v_e = "BadHook"))]) : (List Bool))) fun v_found_1 => (Option.bind (grd ((v_found_1 ++ ([(decide (v_e = "BadName")), (decide (v_e = "NoNumber")), (decide (v_e = "NoFrame")), (decide (v_e = "NoStack"))])).length ≤ lim)) fun g2 => (Option.bind (some ((v_found_1 ++ ([(decide (v_e = "BadName")), (decide (v_e = "NoNumber")), (decide (v_e = "NoFrame")), (decide (v_e = "NoStack"))])) : (List Bool))) fun v_found_3 => (Option.bind (grd ((v_found_3 ++ ([(decide (v_e = "NoPlace")), (decide (v_e = "Taken")), (decide (v_e = "Full")), (decide (v_e = "NothingThere"))])).length ≤ lim)) fun g4 => (Option.bind (some ((v_found_3 ++ ([(decide (v_e = "NoPlace")), (decide (v_e = "Taken")), (decide (v_e = "Full")), (decide (v_e = "NothingThere"))])) : (List Bool))) fun v_found_5 => (Option.bind (grd ((v_found_5 ++ ([(decide (v_e = "BadTrade")), (decide (v_e = "Hangs")), (decide (v_e = "BadPage"))])).length ≤ lim)) fun g6 => (Option.bind (some ((v_found_5 ++ ([(decide (v_e = "BadTrade")), (decide (v_e = "Hangs")), (decide (v_e = "BadPage"))])) : (List Bool))) fun v_found_7 => (Option.bind (app? v_found_7 (!true)) fun u8 => (Option.bind (some (([(Str.ofString "BadPegs"), (Str.ofString "BadFrame"), (Str.ofString "BadHalf"), (Str.ofString "BadHook"), (Str.ofString "BadName"), (Str.ofString "NoNumber"), (Str.ofString "NoFrame"), (Str.ofString "NoStack"), (Str.ofString "NoPlace")]) : (List Str))) fun v_words_9 => (Option.bind (grd ((v_words_9 ++ ([(Str.ofString "Taken"), (Str.ofString "Full"), (Str.ofString "NothingThere"), (Str.ofString "BadTrade"), (Str.ofString "Hangs"), (Str.ofString "BadPage"), (Str.ofString "odd")])).length ≤ lim)) fun g10 => (Option.bind (some ((v_words_9 ++ ([(Str.ofString "Taken"), (Str.ofString "Full"), (Str.ofString "NothingThere"), (Str.ofString "BadTrade"), (Str.ofString "Hangs"), (Str.ofString "BadPage"), (Str.ofString "odd")])) : (List Str))) fun v_words_11 => (Option.bind (grd (joinOk (Str.ofString "") (((List.zip v_words_11 u8).filter fun (x12 : (Str × Bool)) => x12.2).map fun (x12 : (Str × Bool)) => x12.1))) fun g13 => (some (Txt.join (Str.ofString "") (((List.zip v_words_11 u8).filter fun (x12 : (Str × Bool)) => x12.2).map fun (x12 : (Str × Bool)) => x12.1)))))))))))))))
theorem l_kin_ok : ∀ n, n ∈ exNames → l_kin n = some n := by decide +kernel
def l_mix (v_seed : Int) : Option Int :=
  (Option.bind (some ((((v_seed * (48271 : Int)) + (11 : Int)) % (2147483647 : Int)) : Int)) fun v_one_1 => (Option.bind (grd (CMul v_one_1 v_one_1)) fun g2 => (Option.bind (some (((((v_one_1 * v_one_1) + ((40692 : Int) * v_one_1)) + v_seed) % (2147483399 : Int)) : Int)) fun v_two_3 => (Option.bind (grd (CMul v_two_3 v_two_3)) fun g4 => (some ((((v_two_3 * v_two_3) + ((69621 : Int) * v_two_3)) + v_one_1) % (2147483563 : Int)))))))
def l_raw_for1 (v_k : Int) (v_cell : Int) (s_1 : Int) (x7 : Int) : Option (Int) :=
  (Option.bind (l_mix ((v_cell + ((1009 : Int) * v_k)) + ((7919 : Int) * x7))) fun u8 => (Option.bind (some (((s_1 * (2147483563 : Int)) + u8) : Int)) fun v_found_9 => (some v_found_9)))
def l_raw (v_script : (List Int)) (v_k : Int) : Option Int :=
  (Option.bind (some ((((7 : Int) * v_k) + (3 : Int)) : Int)) fun v_cell_1 => (Option.bind (if (decide ((v_script.length : Int) > (0 : Int))) = true then (Option.bind (grd ((0 : Int) < (v_script.length : Int))) fun g3 => (Option.bind (atI v_script (v_k % (v_script.length : Int))) fun u4 => (Option.bind (grd (CDivW v_k (v_script.length : Int))) fun g5 => (Option.bind (some ((u4 + ((9973 : Int) * (v_k / (v_script.length : Int)))) : Int)) fun v_cell_6 => (some v_cell_6))))) else (some v_cell_1)) fun (s2 : Int) => (if ((decide (v_k < (v_script.length : Int))) && (decide (s2 ≥ ((10 : Int) ^ Int.toNat (18 : Int))))) = true then (some (s2 - ((10 : Int) ^ Int.toNat (18 : Int)))) else (Option.bind (forS (l_raw_for1 v_k s2) (0 : Int) (rng 0 (40 : Int))) fun (s10 : Int) => (some s10)))))
def l_digits_for1  (s_1 : Int × (List Int)) (x2 : Int) : Option (Int × (List Int)) :=
  (Option.bind (grd ((0 : Int) < x2)) fun g3 => (Option.bind (app? s_1.2 (s_1.1 % x2)) fun u4 => (Option.bind (grd (CDivW s_1.1 x2)) fun g5 => (Option.bind (some ((s_1.1 / x2) : Int)) fun v_rest_6 => (some (v_rest_6, u4))))))
def l_digits (v_script : (List Int)) (v_k : Int) (v_sizes : (List Int)) : Option (List Int) :=
  (Option.bind (l_raw v_script v_k) fun u1 => (Option.bind (forS l_digits_for1 (u1, ([] : (List Int))) v_sizes) fun (s7 : Int × (List Int)) => (some s7.2)))
def l_hooks_for2 (v_pegs : Int) (s_2 : (List Int)) (x4 : Int) : Option (((List Int)) ⊕ (List Int)) :=
  (if (decide (v_pegs < (2 : Int))) = true then ((some ([] : (List Int)))).map Sum.inr else (Option.bind (grd ((0 : Int) < (v_pegs - (1 : Int)))) fun g5 => (Option.bind (some ((x4 % (v_pegs - (1 : Int))) : Int)) fun v_number_6 => (Option.bind (if ((!(decide (s_2 = ([] : (List Int))))) && (decide ((x4 % (3 : Int)) = (1 : Int)))) = true then (Option.bind (atI s_2 (-(1 : Int))) fun u8 => (Option.bind (atI ([(1 : Int), (-(1 : Int)), (0 : Int)]) ((x4 % (7 : Int)) % (3 : Int))) fun u9 => (Option.bind (some ((if (if (u8 + u9) > (0 : Int) then (u8 + u9) else (0 : Int)) < (v_pegs - (2 : Int)) then (if (u8 + u9) > (0 : Int) then (u8 + u9) else (0 : Int)) else (v_pegs - (2 : Int))) : Int)) fun v_number_10 => (some v_number_10)))) else (some v_number_6)) fun (s7 : Int) => (Option.bind (app? s_2 s7) fun u11 => (some (Sum.inl u11)))))))
def l_hooks_for1 (v_script : (List Int)) (v_k : Int) (v_pegs : Int) (v_size : Int) (s_1 : (List Int)) (x2 : Int) : Option (((List Int)) ⊕ (List Int)) :=
  (Option.bind (l_digits v_script (v_k + (x2 / (12 : Int))) (List.replicate 12 (97 : Int))) fun u3 => (bindR (R := (List Int)) (forR (l_hooks_for2 v_pegs) s_1 (cutA u3 none (some (v_size - x2)))) (fun (s12 : (List Int)) => (some (Sum.inl s12))) Sum.inr))
def l_hooks (v_script : (List Int)) (v_k : Int) (v_pegs : Int) (v_size : Int) : Option (List Int) :=
  (Option.bind (grd (rngOk v_size)) fun g1 => (bindR (R := (List Int)) (forR (l_hooks_for1 v_script v_k v_pegs v_size) ([] : (List Int)) (rng3 (0 : Int) v_size (12 : Int))) (fun (s13 : (List Int)) => (some s13)) id))
def l_after (v_pegs : Int) (v_pair : (Int × (List Int))) (v_trade : PyData) : Option (Option (Int × (List Int))) :=
  (Option.bind (ixDc v_trade (0 : Int)) fun u1 => (Option.bind (ixDc v_trade (1 : Int)) fun u2 => (Option.bind (decI u2) fun u3 => (Option.bind (Option.bind (some (!((decide ((0 : Int) ≤ u3)) && (decide (u3 < (v_pair.2.length : Int)))))) fun a => if a = true then some true else (Option.bind (lenD v_trade) fun u4 => (Option.bind (grd (SeqAt.shaped (eD u1) = true)) fun g5 => (Option.bind (grd (SeqAt.shaped (PyData.str (Str.ofString "grow")) = true)) fun g6 => (some (!(decide (u4 = ((2 : Int) + (if (PyData.eqv (eD u1) (PyData.str (Str.ofString "grow"))) then 1 else 0)))))))))) fun c7 => (if c7 = true then (some none) else (Option.bind (atI v_pair.2 u3) fun u8 => (Option.bind (grd (SeqAt.shaped (eD u1) = true)) fun g9 => (Option.bind (grd (SeqAt.shaped (PyData.str (Str.ofString "double")) = true)) fun g10 => (if ((PyData.eqv (eD u1) (PyData.str (Str.ofString "double"))) && (decide (v_pair.1 > (0 : Int)))) = true then (Option.bind (grd (((cutA v_pair.2 none (some (u3 + (1 : Int)))) ++ ([u8])).length ≤ lim)) fun g11 => (Option.bind (grd ((((cutA v_pair.2 none (some (u3 + (1 : Int)))) ++ ([u8])) ++ (cutA v_pair.2 (some (u3 + (1 : Int))) none)).length ≤ lim)) fun g12 => (some (some ((v_pair.1 - (1 : Int)), (((cutA v_pair.2 none (some (u3 + (1 : Int)))) ++ ([u8])) ++ (cutA v_pair.2 (some (u3 + (1 : Int))) none))))))) else (Option.bind (grd (SeqAt.shaped (eD u1) = true)) fun g13 => (Option.bind (grd (SeqAt.shaped (PyData.str (Str.ofString "grow")) = true)) fun g14 => (Option.bind (Option.bind (some (PyData.eqv (eD u1) (PyData.str (Str.ofString "grow")))) fun a => if a = true then (Option.bind (Option.bind (ixDc v_trade (2 : Int)) fun u15 => (Option.bind (decI u15) fun u16 => (some ((decide ((0 : Int) ≤ u16)) && (decide (u16 < (v_pegs - (1 : Int)))))))) fun a => if a = true then (Option.bind (ixDc v_trade (2 : Int)) fun u17 => (Option.bind (decI u17) fun u18 => (some (decide (u18 ∈ [(u8 - (1 : Int)), (u8 + (1 : Int))]))))) else some false) else some false) fun c19 => (if c19 = true then (Option.bind (ixDc v_trade (2 : Int)) fun u20 => (Option.bind (decI u20) fun u21 => (Option.bind (grd (((cutA v_pair.2 none (some (u3 + (1 : Int)))) ++ ([u21, u8])).length ≤ lim)) fun g22 => (Option.bind (grd ((((cutA v_pair.2 none (some (u3 + (1 : Int)))) ++ ([u21, u8])) ++ (cutA v_pair.2 (some (u3 + (1 : Int))) none)).length ≤ lim)) fun g23 => (some (some (v_pair.1, (((cutA v_pair.2 none (some (u3 + (1 : Int)))) ++ ([u21, u8])) ++ (cutA v_pair.2 (some (u3 + (1 : Int))) none))))))))) else (Option.bind (grd (SeqAt.shaped (eD u1) = true)) fun g24 => (Option.bind (grd (SeqAt.shaped (PyData.str (Str.ofString "swap")) = true)) fun g25 => (Option.bind (Option.bind (some (PyData.eqv (eD u1) (PyData.str (Str.ofString "swap")))) fun a => if a = true then (Option.bind (some (!(decide ((cutA v_pair.2 (some (u3 + (1 : Int))) none) = ([] : (List Int)))))) fun a => if a = true then (Option.bind (atI (cutA v_pair.2 (some (u3 + (1 : Int))) none) (0 : Int)) fun u26 => (some (!(decide (u26 ∈ [(u8 - (1 : Int)), u8, (u8 + (1 : Int))]))))) else some false) else some false) fun c27 => (if c27 = true then (Option.bind (atI (cutA v_pair.2 (some (u3 + (1 : Int))) none) (0 : Int)) fun u28 => (Option.bind (grd (((cutA v_pair.2 none (some u3)) ++ ([u28, u8])).length ≤ lim)) fun g29 => (Option.bind (grd ((((cutA v_pair.2 none (some u3)) ++ ([u28, u8])) ++ (cutA (cutA v_pair.2 (some (u3 + (1 : Int))) none) (some (1 : Int)) none)).length ≤ lim)) fun g30 => (some (some (v_pair.1, (((cutA v_pair.2 none (some u3)) ++ ([u28, u8])) ++ (cutA (cutA v_pair.2 (some (u3 + (1 : Int))) none) (some (1 : Int)) none)))))))) else (Option.bind (grd (SeqAt.shaped (eD u1) = true)) fun g31 => (Option.bind (grd (SeqAt.shaped (PyData.str (Str.ofString "drop")) = true)) fun g32 => (Option.bind (Option.bind (some (PyData.eqv (eD u1) (PyData.str (Str.ofString "drop")))) fun a => if a = true then (Option.bind (some (!(decide ((cutA v_pair.2 (some (u3 + (1 : Int))) none) = ([] : (List Int)))))) fun a => if a = true then (Option.bind (atI (cutA v_pair.2 (some (u3 + (1 : Int))) none) (0 : Int)) fun u33 => (some (decide (u33 = u8)))) else some false) else some false) fun c34 => (if c34 = true then (Option.bind (grd (((cutA v_pair.2 none (some (u3 + (1 : Int)))) ++ (cutA (cutA v_pair.2 (some (u3 + (1 : Int))) none) (some (1 : Int)) none)).length ≤ lim)) fun g35 => (some (some ((v_pair.1 + (1 : Int)), ((cutA v_pair.2 none (some (u3 + (1 : Int)))) ++ (cutA (cutA v_pair.2 (some (u3 + (1 : Int))) none) (some (1 : Int)) none)))))) else (Option.bind (grd (SeqAt.shaped (eD u1) = true)) fun g36 => (Option.bind (grd (SeqAt.shaped (PyData.str (Str.ofString "cut")) = true)) fun g37 => (Option.bind (Option.bind (some (PyData.eqv (eD u1) (PyData.str (Str.ofString "cut")))) fun a => if a = true then (Option.bind (some (decide (((cutA v_pair.2 (some (u3 + (1 : Int))) none).length : Int) > (1 : Int)))) fun a => if a = true then (Option.bind (Option.bind (atI (cutA v_pair.2 (some (u3 + (1 : Int))) none) (1 : Int)) fun u38 => (some (decide (u38 = u8)))) fun a => if a = true then (Option.bind (atI (cutA v_pair.2 (some (u3 + (1 : Int))) none) (0 : Int)) fun u39 => (some (decide (u39 ∈ [(u8 - (1 : Int)), (u8 + (1 : Int))])))) else some false) else some false) else some false) fun c40 => (if c40 = true then (Option.bind (grd (((cutA v_pair.2 none (some (u3 + (1 : Int)))) ++ (cutA (cutA v_pair.2 (some (u3 + (1 : Int))) none) (some (2 : Int)) none)).length ≤ lim)) fun g41 => (some (some (v_pair.1, ((cutA v_pair.2 none (some (u3 + (1 : Int)))) ++ (cutA (cutA v_pair.2 (some (u3 + (1 : Int))) none) (some (2 : Int)) none)))))) else (some none))))))))))))))))))))))))))
def l_some_trade_for1 (v_pair : (Int × (List Int))) (s_1 : (List PyData)) (x9 : Int) : Option ((List PyData)) :=
  (Option.bind (grd ((s_1 ++ ([(Str.ofString "swap"), (Str.ofString "drop"), (Str.ofString "cut"), (Str.ofString "double")].map fun (x10 : Str) => ((eP PyData.str PyData.int) (x10, x9)))).length ≤ lim)) fun g11 => (Option.bind (some ((s_1 ++ ([(Str.ofString "swap"), (Str.ofString "drop"), (Str.ofString "cut"), (Str.ofString "double")].map fun (x10 : Str) => ((eP PyData.str PyData.int) (x10, x9)))) : (List PyData))) fun v_good_12 => (Option.bind (compM (fun (x13 : Int) => (some true)) (fun (x13 : Int) => (Option.bind (atI v_pair.2 x9) fun u14 => (some ((eP3 PyData.str PyData.int PyData.int) ((Str.ofString "grow"), x9, (u14 + x13)))))) [(-(1 : Int)), (1 : Int)]) fun u15 => (Option.bind (grd ((v_good_12 ++ u15).length ≤ lim)) fun g16 => (Option.bind (some ((v_good_12 ++ u15) : (List PyData))) fun v_good_17 => (some v_good_17))))))
def l_some_trade (v_script : (List Int)) (v_k : Int) (v_pegs : Int) (v_pair : (Int × (List Int))) : Option PyData :=
  (Option.bind (l_digits v_script v_k ([(14 : Int), ((v_pair.2.length : Int) + (2 : Int)), (10 : Int), ((10 : Int) ^ Int.toNat (20 : Int))])) fun u1 => (Option.bind (unp4 u1) fun u6 => (Option.bind (some ((u6.2.1 - (1 : Int)) : Int)) fun v_at_7 => (Option.bind (grd (rngOk (v_pair.2.length : Int))) fun g8 => (Option.bind (forS (l_some_trade_for1 v_pair) ([] : (List PyData)) (rng 0 (v_pair.2.length : Int))) fun (s18 : (List PyData)) => (Option.bind (compM (fun (x19 : PyData) => (Option.bind (l_after v_pegs v_pair x19) fun u20 => (some (!u20.isNone)))) (fun (x19 : PyData) => (some x19)) s18) fun u21 => (Option.bind (Option.bind (some (decide (u6.1 < (9 : Int)))) fun a => if a = true then (Option.bind (grd (SeqAt.shaped ((eL eD) u21) = true)) fun g22 => (Option.bind (grd (SeqAt.shaped ((eL eD) ([] : (List PyData))) = true)) fun g23 => (some (!(PyData.eqv ((eL eD) u21) ((eL eD) ([] : (List PyData)))))))) else some false) fun c24 => (if c24 = true then (Option.bind (grd ((0 : Int) < (u21.length : Int))) fun g25 => (Option.bind (atI u21 (u6.2.2.2 % (u21.length : Int))) fun u26 => (some u26))) else (if (decide (u6.1 = (9 : Int))) = true then (Option.bind (atI ([(u6.2.2.1 - (1 : Int)), u6.2.2.2, ((0 : Int) - u6.2.2.2)]) (u6.2.2.2 % (3 : Int))) fun u27 => (some ((eP3 PyData.str PyData.int PyData.int) ((Str.ofString "grow"), v_at_7, u27)))) else (if (decide (u6.1 = (10 : Int))) = true then (Option.bind (some (([((eP PyData.str PyData.int) ((Str.ofString "grow"), v_at_7)), ((eP3 PyData.str PyData.int PyData.int) ((Str.ofString "swap"), v_at_7, (0 : Int))), ((eP PyData.str PyData.int) ((Str.ofString ""), v_at_7)), ((eP PyData.str PyData.int) ((Str.ofString "Swap"), v_at_7)), ((eP PyData.str PyData.int) ((Str.ofString "drop"), u6.2.2.2)), ((eP PyData.str PyData.int) ((Str.ofString "cut"), ((0 : Int) - u6.2.2.2)))]) : (List PyData))) fun v_odd_28 => (Option.bind (grd ((v_odd_28 ++ ([((eP3 PyData.str PyData.int PyData.int) ((Str.ofString "drop"), v_at_7, (0 : Int))), ((eP3 PyData.str PyData.int PyData.int) ((Str.ofString "double"), v_at_7, (0 : Int))), ((eP3 PyData.str PyData.int PyData.int) ((Str.ofString "cut"), v_at_7, (0 : Int)))])).length ≤ lim)) fun g29 => (Option.bind (atI (v_odd_28 ++ ([((eP3 PyData.str PyData.int PyData.int) ((Str.ofString "drop"), v_at_7, (0 : Int))), ((eP3 PyData.str PyData.int PyData.int) ((Str.ofString "double"), v_at_7, (0 : Int))), ((eP3 PyData.str PyData.int PyData.int) ((Str.ofString "cut"), v_at_7, (0 : Int)))])) (u6.2.2.2 % (9 : Int))) fun u30 => (some u30)))) else (Option.bind (atI ([(Str.ofString "swap"), (Str.ofString "drop"), (Str.ofString "cut"), (Str.ofString "double")]) (u6.2.2.2 % (4 : Int))) fun u31 => (some ((eP PyData.str PyData.int) (u31, v_at_7))))))))))))))
def l_same : Nat → PyData → PyData → Option Bool
  | 0, _, _ => none
  | n + 1, v_told, v_due =>
  (if (isNone v_due) = true then (some (isNone v_told)) else (if ((!((isBD v_told) == (isBD v_due))) || (!((isID v_told) == (isID v_due)))) = true then (some false) else (if ((!((isLD v_told) == (isLD v_due))) || (!((isTD v_told) == (isTD v_due)))) = true then (some false) else (if ((!(isLD v_due)) && (!(isTD v_due))) = true then (Option.bind (Option.bind (some ((isSD v_told) == (isSD v_due))) fun a => if a = true then (Option.bind (eqLeaf v_told v_due) fun u1 => (some u1)) else some false) fun c2 => (some c2)) else (Option.bind (lenD v_told) fun u3 => (Option.bind (lenD v_due) fun u4 => (Option.bind (Option.bind (some (decide (u3 = u4))) fun a => if a = true then (Option.bind (zipD v_told v_due) fun u5 => (Option.bind (compM (fun (x6 : (PyData × PyData)) => (some true)) (fun (x6 : (PyData × PyData)) => (Option.bind (l_same n x6.1 x6.2) fun u7 => (some u7))) u5) fun u8 => (some (u8.all id)))) else some false) fun c9 => (some c9))))))))
def l_word (v_pegs : Int) (v_pair : (Int × (List Int))) (v_trades : (List PyData)) : Option PyData :=
  (Option.bind (tryM ((bindX (x_walked v_pegs v_pair.1 v_pair.2 v_trades) Except.error fun u2 => (some (Except.ok ((eP PyData.int (eO (eL PyData.int))) u2)))) : Option (Except Exn (PyData))) (fun s => some s) (fun xE => (selM "BadTrade" xE (Option.bind (kinM xE) fun n3 => (Option.bind (Option.bind (fldM "at" xE) decI) fun u4 => (Option.bind (kinM xE) fun n5 => (Option.bind (Option.bind (fldM "at" xE) decI) fun u6 => (some ((eP PyData.str PyData.int) (n5, u6))))))) none))) fun (s1 : PyData) => (some s1))
def l_law_for2 (v_script : (List Int)) (v_k : Int) (v_pegs : Int) (v_bad : Int) (s_2 : (Int × (List Int)) × (List PyData) × PyData) (x15 : Int) : Option ((Int × (List Int)) × (List PyData) × PyData) :=
  (Option.bind (l_some_trade v_script (((5 : Int) + ((20 : Int) * v_k)) + x15) v_pegs s_2.1) fun u16 => (Option.bind (l_after v_pegs s_2.1 u16) fun u17 => (if (decide (x15 = v_bad)) = true then (Option.bind (atI ([u16, ((eP PyData.str PyData.int) ((Str.ofString "swap"), (s_2.1.2.length : Int)))]) (if (!u17.isNone) then 1 else 0)) fun u18 => (Option.bind (app? s_2.2.1 u18) fun u19 => (some (s_2.1, u19, ((eP PyData.str PyData.int) ((Str.ofString "BadTrade"), (s_2.2.1.length : Int))))))) else (if (!u17.isNone) = true then (Option.bind (app? s_2.2.1 u16) fun u20 => (Option.bind u17 fun u21 => (some (u21, u20, s_2.2.2)))) else (some (s_2.1, s_2.2.1, s_2.2.2))))))
def l_law_for1 (v_script : (List Int)) (s_1 : Unit) (x2 : Int) : Option ((Unit) ⊕ Bool) :=
  (Option.bind (l_digits v_script ((60 : Int) + x2) ([(9 : Int), (6 : Int), (13 : Int), (16 : Int), (32 : Int)])) fun u3 => (Option.bind (unp5 u3) fun u9 => (Option.bind (some (((2 : Int) + u9.1) : Int)) fun v_pegs_10 => (Option.bind (l_hooks v_script ((2 : Int) * x2) v_pegs_10 u9.2.2.1) fun u11 => (Option.bind (some ((u9.2.1, u11) : (Int × (List Int)))) fun v_pair_12 => (Option.bind (some ((u9.2.1, v_pair_12.2) : (Int × (List Int)))) fun v_handed_13 => (Option.bind (grd (rngOk u9.2.2.2.1)) fun g14 => (Option.bind (forS (l_law_for2 v_script x2 v_pegs_10 u9.2.2.2.2) (v_pair_12, ([] : (List PyData)), (eN ())) (rng 0 u9.2.2.2.1)) fun (s22 : (Int × (List Int)) × (List PyData) × PyData) => (Option.bind (if (isNone s22.2.2) = true then (some ((eP PyData.int (eL PyData.int)) s22.1)) else (some s22.2.2)) fun (s23 : PyData) => (Option.bind (some (([((eL PyData.int) v_handed_13.2), ((eL eD) s22.2.1)]) : (List PyData))) fun v_kept_24 => (Option.bind (l_word v_pegs_10 v_handed_13 s22.2.1) fun u25 => (Option.bind (l_same 6 u25 s23) fun u26 => (if (!u26) = true then ((some false)).map Sum.inr else (Option.bind (ixDc u25 (1 : Int)) fun u27 => (Option.bind (if (isLD u27) = true then (Option.bind (appY? u25) fun u29 => (some ())) else (some ())) fun (s28 : Unit) => (Option.bind (l_word (1 : Int) (u9.2.1, ([] : (List Int))) ([] : (List PyData))) fun u30 => (Option.bind (l_word (1 : Int) (u9.2.1, ([] : (List Int))) ([((eP PyData.str PyData.int) ((Str.ofString "double"), (0 : Int)))])) fun u31 => (Option.bind (some (([u30, u31]) : (List PyData))) fun v_bare_32 => (Option.bind (l_same 6 ((eL eD) v_bare_32) ((eL eD) ([((eP PyData.int (eL eD)) (u9.2.1, ([] : (List PyData)))), ((eP PyData.str PyData.int) ((Str.ofString "BadTrade"), (0 : Int)))]))) fun u33 => (if (!u33) = true then ((some false)).map Sum.inr else (Option.bind (grd (SeqAt.shaped ((eL eD) ([((eL PyData.int) v_handed_13.2), ((eL eD) s22.2.1)])) = true)) fun g34 => (Option.bind (grd (SeqAt.shaped ((eL eD) v_kept_24) = true)) fun g35 => (if (!(PyData.eqv ((eL eD) ([((eL PyData.int) v_handed_13.2), ((eL eD) s22.2.1)])) ((eL eD) v_kept_24))) = true then ((some false)).map Sum.inr else (some (Sum.inl ())))))))))))))))))))))))))
def l_law (v_script : (List Int)) : Option Bool :=
  (Option.bind (some ((cutA v_script none (some (63 : Int))) : (List Int))) fun v_script_1 => (bindR (R := Bool) (forR (l_law_for1 v_script_1) () (rng 0 (2 : Int))) (fun (s36 : Unit) => (some true)) id))
end Rb.M_k31

set_option Elab.async false
set_option autoImplicit false
set_option linter.all false
set_option maxRecDepth 100000
set_option maxHeartbeats 4000000
namespace Rb.M_k31
open PySem L2 Rb
def Dig : List Int → List Int → Prop
  | [], [] => True
  | d :: ds, s :: ss => 0 ≤ d ∧ d < s ∧ Dig ds ss
  | _, _ => False
def SzOk (ss : List Int) : Prop := ∀ s, s ∈ ss → 0 < s ∧ s < 2 ^ 200
theorem log_small {j : Int} (h : 0 < j ∧ j < 2 ^ 200) : CDivW 0 j := by
  refine ⟨h.1, ?_⟩
  have : j.natAbs < 2 ^ 200 := by omega
  have h2 : j.natAbs ≠ 0 := by omega
  have := (Nat.log2_lt h2).mpr this
  omega
theorem cmul_mod (a : Int) {m : Int} (h0 : 0 < m) (h1 : m < 2 ^ 63) : CMul (a % m) (a % m) := by
  have a1 := Int.emod_nonneg a (show m ≠ 0 by omega)
  have a2 := Int.emod_lt_of_pos a h0
  exact .inl ⟨by omega, by omega⟩
theorem mix_ok (s : Int) : ∃ v, l_mix s = some v := by
  unfold l_mix
  simp only [Option.bind_some]
  rw [grd_true (cmul_mod _ (by decide) (by decide)), Option.bind_some, grd_true (cmul_mod _ (by decide) (by decide)), Option.bind_some]
  exact ⟨_, rfl⟩
theorem raw_loop (k c : Int) : ∀ (xs : List Int) (s : Int), ∃ v, forS (l_raw_for1 k c) s xs = some v
  | [], s => ⟨s, rfl⟩
  | x :: xs, s => by
    obtain ⟨v, hv⟩ := mix_ok ((c + 1009 * k) + 7919 * x)
    rw [forS_cons]
    unfold l_raw_for1
    rw [hv]
    exact raw_loop k c xs _
theorem raw_ok {ns : List Int} {k : Int} (hk : 0 ≤ k) (hl : ns.length ≤ 63) : ∃ v, l_raw ns k = some v := by
  unfold l_raw
  simp only [Option.bind_some]
  have tail : ∀ s2 : Int, ∃ v, (if ((decide (k < (ns.length : Int))) && (decide (s2 ≥ ((10 : Int) ^ Int.toNat (18 : Int))))) = true then (some (s2 - ((10 : Int) ^ Int.toNat (18 : Int)))) else (Option.bind (forS (l_raw_for1 k s2) (0 : Int) (rng 0 (40 : Int))) fun (s10 : Int) => (some s10))) = some v := by
    intro s2
    obtain ⟨v, hv⟩ := raw_loop k s2 (rng 0 40) 0
    split
    · exact ⟨_, rfl⟩
    · rw [hv]; exact ⟨_, rfl⟩
  by_cases c : (ns.length : Int) > 0
  · rw [if_pos (decide_eq_true c), grd_true (by exact c), Option.bind_some]
    have b0 := Int.emod_nonneg k (show (ns.length : Int) ≠ 0 by omega)
    have b1 := Int.emod_lt_of_pos k c
    rw [atI_eq b0 b1]
    obtain ⟨y, hy⟩ : ∃ y, ns[(k % (ns.length : Int)).toNat]? = some y := ⟨_, List.getElem?_eq_getElem (by omega)⟩
    have g := log_small (j := (ns.length : Int)) ⟨c, by omega⟩
    rw [hy, Option.bind_some, grd_true (p := CDivW k (ns.length : Int)) g, Option.bind_some]
    exact tail _
  · rw [if_neg (by simpa using c)]
    exact tail _
theorem digits_loop : ∀ (ss : List Int) (r : Int) (acc : List Int), SzOk ss → acc.length + ss.length < lim → ∃ r' ds, forS l_digits_for1 (r, acc) ss = some (r', acc ++ ds) ∧ Dig ds ss
  | [], r, acc, _, _ => ⟨r, [], by simp [forS], trivial⟩
  | s :: ss, r, acc, h, hl => by
    have hs := h s List.mem_cons_self
    rw [List.length_cons] at hl
    obtain ⟨r', ds, e, d⟩ := digits_loop ss (r / s) (acc ++ [r % s]) (fun x hx => h x (List.mem_cons_of_mem _ hx)) (by rw [List.length_append, List.length_singleton]; omega)
    refine ⟨r', (r % s) :: ds, ?_, Int.emod_nonneg r (by omega), Int.emod_lt_of_pos r hs.1, d⟩
    have a1 : app? acc (r % s) = some (acc ++ [r % s]) := app_ok (by omega)
    have g : grd (CDivW r s) = some () := grd_true (p := CDivW r s) (log_small hs)
    have t : l_digits_for1 (r, acc) s = some (r / s, acc ++ [r % s]) := by
      unfold l_digits_for1
      simp only [grd_true hs.1, a1, g, Option.bind_some]
    rw [forS_cons, t, Option.bind_some, e, List.append_assoc]
    rfl
theorem digits_ok {ns : List Int} {k : Int} {ss : List Int} (hk : 0 ≤ k) (hl : ns.length ≤ 63) (hs : SzOk ss) (hz : ss.length ≤ 100) : ∃ ds, l_digits ns k ss = some ds ∧ Dig ds ss := by
  obtain ⟨v, hv⟩ := raw_ok (ns := ns) hk hl
  obtain ⟨r', ds, e, d⟩ := digits_loop ss v [] hs (by unfold lim; simp; omega)
  refine ⟨ds, ?_, d⟩
  unfold l_digits
  rw [hv, Option.bind_some, e]
  rfl
theorem Dig.len : ∀ {ds ss : List Int}, Dig ds ss → ds.length = ss.length
  | [], [], _ => rfl
  | d :: ds, s :: ss, h => by rw [List.length_cons, List.length_cons, Dig.len h.2.2]
  | [], _ :: _, h => h.elim
  | _ :: _, [], h => h.elim
theorem Dig.nonneg : ∀ {ds ss : List Int}, Dig ds ss → ∀ d, d ∈ ds → 0 ≤ d
  | [], [], _ => fun d h => by cases h
  | d :: ds, s :: ss, h => fun x hx => by
    rcases List.mem_cons.mp hx with e | e
    · rw [e]; exact h.1
    · exact Dig.nonneg h.2.2 x e
  | [], _ :: _, h => h.elim
  | _ :: _, [], h => h.elim
theorem ask_pegs_ok {n : Int} (h0 : 1 ≤ n) (h1 : n ≤ 10) : p_ask_pegs n = some () := by
  unfold p_ask_pegs
  simp [h0, h1]
theorem ask_hook_ok {n i : Int} (i0 : 0 ≤ i) (i1 : i + 1 < n) : p_ask_hook n i = some () := by
  unfold p_ask_hook
  have : i < n - 1 := by omega
  simp [i0, this]
def RowOk (n : Int) (row : List Int) : Prop := ∀ i, i ∈ row → 0 ≤ i ∧ i + 1 < n
theorem row_nil {n : Int} : RowOk n [] := fun j hj => by cases hj
theorem ask_row_ok {n : Int} {row : List Int} (h1 : 1 ≤ n) (h10 : n ≤ 10) (hr : RowOk n row) : p_ask_row n row = some () := by
  unfold p_ask_row
  rw [ask_pegs_ok h1 h10, Option.bind_some, forS_foldl (g := fun _ _ => ()) fun s i hi => by
    unfold p_ask_row_for1
    rw [ask_hook_ok (hr i hi).1 (hr i hi).2]
    rfl]
  rfl
theorem hooks_turn {n x : Int} {s : List Int} (n2 : 2 ≤ n) (x0 : 0 ≤ x) (hs : RowOk n s) (hl : s.length < lim) : ∃ i, l_hooks_for2 n s x = some (.inl (s ++ [i])) ∧ 0 ≤ i ∧ i + 1 < n := by
  unfold l_hooks_for2
  have b0 := Int.emod_nonneg x (show n - 1 ≠ 0 by omega)
  have b1 := Int.emod_lt_of_pos x (show 0 < n - 1 by omega)
  rw [if_neg (by simp; omega), grd_true (by omega), Option.bind_some, Option.bind_some]
  by_cases c : ((!(decide (s = ([] : List Int)))) && (decide ((x % (3 : Int)) = (1 : Int)))) = true
  · rw [if_pos c]
    have hne : s ≠ [] := by
      intro z; subst z; simp at c
    have hp : 0 < s.length := List.length_pos_iff.mpr hne
    have a1 : atI s (-1) = some (s.getLast hne) := by
      rw [atI_last (by omega) (by omega)]
      have e : (-1 + (s.length : Int)).toNat = s.length - 1 := by omega
      rw [e, ← List.getLast?_eq_getElem?, List.getLast?_eq_getLast hne]
    have m0 := Int.emod_nonneg (x % 7) (show (3 : Int) ≠ 0 by omega)
    have m1 := Int.emod_lt_of_pos (x % 7) (show (0 : Int) < 3 by omega)
    obtain ⟨y, a2⟩ : ∃ y, atI [(1 : Int), (-(1 : Int)), (0 : Int)] ((x % 7) % 3) = some y := by
      rw [atI_eq m0 (by simpa using m1)]
      exact ⟨_, List.getElem?_eq_getElem (by simp; omega)⟩
    rw [a1, Option.bind_some, a2, Option.bind_some, Option.bind_some, Option.bind_some, app_ok hl, Option.bind_some]
    refine ⟨_, rfl, ?_⟩
    split <;> split <;> omega
  · rw [if_neg c, Option.bind_some, app_ok hl, Option.bind_some]
    exact ⟨_, rfl, by omega, by omega⟩
theorem hooks_inner {n : Int} (n2 : 2 ≤ n) : ∀ {xs s : List Int}, (∀ x, x ∈ xs → 0 ≤ x) → RowOk n s → s.length + xs.length < lim → ∃ s', forR (l_hooks_for2 n) s xs = some (.inl s') ∧ RowOk n s' ∧ s'.length ≤ s.length + xs.length
  | [], s, _, h, _ => ⟨s, rfl, h, by simp⟩
  | x :: xs, s, hx, h, hl => by
    rw [List.length_cons] at hl
    obtain ⟨i, e, i0, i1⟩ := hooks_turn n2 (hx x List.mem_cons_self) h (by omega)
    obtain ⟨s', e', r, l⟩ := hooks_inner n2 (xs := xs) (s := s ++ [i]) (fun y hy => hx y (List.mem_cons_of_mem _ hy)) (fun j hj => by
      rcases List.mem_append.mp hj with z | z
      · exact h j z
      · have : j = i := by simpa using z
        subst this; exact ⟨i0, i1⟩) (by rw [List.length_append, List.length_singleton]; omega)
    refine ⟨s', ?_, r, ?_⟩
    · rw [forR_go e]; exact e'
    · rw [List.length_append, List.length_singleton] at l
      rw [List.length_cons]
      omega
theorem hooks_outer {n k z : Int} {ns : List Int} (n2 : 2 ≤ n) (k0 : 0 ≤ k) (hns : ns.length ≤ 63) : ∀ {xs s : List Int}, (∀ x, x ∈ xs → 0 ≤ x) → RowOk n s → s.length + 12 * xs.length < 1000 → ∃ s', forR (l_hooks_for1 ns k n z) s xs = some (.inl s') ∧ RowOk n s' ∧ s'.length ≤ s.length + 12 * xs.length
  | [], s, _, h, _ => ⟨s, rfl, h, by simp⟩
  | x :: xs, s, hx, h, hl => by
    rw [List.length_cons] at hl
    have x0 := hx x List.mem_cons_self
    obtain ⟨ds, e1, dg⟩ := digits_ok (ns := ns) (k := k + x / 12) (ss := List.replicate 12 97) (by omega) hns (fun s hs => by rw [(List.mem_replicate.mp hs).2]; decide) (by simp)
    have l12 := dg.len
    rw [List.length_replicate] at l12
    have nn := dg.nonneg
    obtain ⟨s1, e2, r1, l1⟩ := hooks_inner n2 (xs := cutA ds none (some (z - x))) (s := s) (fun y hy => nn y (List.mem_of_mem_drop (List.mem_of_mem_take hy))) h (by
      have := cutA_len (xs := ds) (lo := none) (hi := some (z - x))
      unfold lim
      omega)
    have c := cutA_len (xs := ds) (lo := none) (hi := some (z - x))
    obtain ⟨s', e', r, l⟩ := hooks_outer n2 k0 hns (z := z) (xs := xs) (s := s1) (fun y hy => hx y (List.mem_cons_of_mem _ hy)) r1 (by omega)
    refine ⟨s', ?_, r, by rw [List.length_cons]; omega⟩
    have t : l_hooks_for1 ns k n z s x = some (.inl s1) := by
      unfold l_hooks_for1
      rw [e1, Option.bind_some]
      unfold bindR
      rw [e2]
      rfl
    rw [forR_go t]
    exact e'
theorem rng3_nonneg {z x : Int} (h : x ∈ rng3 0 z 12) : 0 ≤ x := by
  unfold rng3 at h
  obtain ⟨i, _, rfl⟩ := List.mem_map.mp h
  omega
theorem rng3_len12 {z : Int} (h0 : 0 ≤ z) (h : z ≤ 60) : (rng3 0 z 12).length ≤ 5 := by
  unfold rng3 rng3N
  rw [List.length_map, List.length_range, if_pos (by decide)]
  split
  · omega
  · omega
theorem hooks_ok {n k z : Int} {ns : List Int} (n2 : 2 ≤ n) (k0 : 0 ≤ k) (hns : ns.length ≤ 63) (z0 : 0 ≤ z) (z1 : z ≤ 60) : ∃ row, l_hooks ns k n z = some row ∧ RowOk n row ∧ row.length ≤ 60 := by
  have l := rng3_len12 z0 z1
  obtain ⟨s', e, r, l'⟩ := hooks_outer (z := z) n2 k0 hns (xs := rng3 0 z 12) (s := []) (fun x hx => rng3_nonneg hx) (fun i hi => by cases hi) (by simp; omega)
  refine ⟨s', ?_, r, by simp at l'; omega⟩
  unfold l_hooks
  rw [grd_true (rngOk_of (by omega) (by omega)), Option.bind_some]
  unfold bindR
  rw [e]
  rfl
theorem hooks_one {k z : Int} {ns : List Int} (k0 : 0 ≤ k) (hns : ns.length ≤ 63) (z0 : 0 ≤ z) (z1 : z ≤ 60) : l_hooks ns k 1 z = some [] := by
  unfold l_hooks
  rw [grd_true (rngOk_of (by omega) (by omega)), Option.bind_some]
  have key : ∀ xs : List Int, (∀ x, x ∈ xs → 0 ≤ x) → ∃ r, forR (l_hooks_for1 ns k 1 z) ([] : List Int) xs = some r ∧ (r = .inl [] ∨ r = .inr []) := by
    intro xs
    induction xs with
    | nil => intro _; exact ⟨_, rfl, .inl rfl⟩
    | cons x xs ih =>
      intro hx
      have x0 := hx x List.mem_cons_self
      obtain ⟨ds, e1, dg⟩ := digits_ok (ns := ns) (k := k + x / 12) (ss := List.replicate 12 97) (by omega) hns (fun s hs => by rw [(List.mem_replicate.mp hs).2]; decide) (by simp)
      cases hc : cutA ds none (some (z - x)) with
      | nil =>
        have t : l_hooks_for1 ns k 1 z [] x = some (.inl []) := by
          unfold l_hooks_for1
          rw [e1, Option.bind_some, hc]
          rfl
        rw [forR_go t]
        exact ih fun y hy => hx y (List.mem_cons_of_mem _ hy)
      | cons y ys =>
        have t : l_hooks_for1 ns k 1 z [] x = some (.inr []) := by
          unfold l_hooks_for1
          rw [e1, Option.bind_some, hc]
          rfl
        refine ⟨.inr [], ?_, .inr rfl⟩
        unfold forR
        rw [t]
        rfl
  obtain ⟨r, e, h⟩ := key _ (fun x hx => rng3_nonneg hx)
  unfold bindR
  rw [e]
  rcases h with rfl | rfl <;> rfl
theorem hooks_any {n k z : Int} {ns : List Int} (n1 : 1 ≤ n) (k0 : 0 ≤ k) (hns : ns.length ≤ 63) (z0 : 0 ≤ z) (z1 : z ≤ 60) : ∃ row, l_hooks ns k n z = some row ∧ RowOk n row ∧ row.length ≤ 60 := by
  by_cases h : n = 1
  · subst h
    exact ⟨[], hooks_one k0 hns z0 z1, (fun i hi => by cases hi), by simp⟩
  · exact hooks_ok (by omega) k0 hns z0 z1
def Sm (n : Nat) (d : PyData) : Prop := l_same n d d = some true
theorem zip_self {xs : List PyData} {p : PyData × PyData} (h : p ∈ xs.zip xs) : p.1 = p.2 ∧ p.1 ∈ xs := by
  obtain ⟨i, hi, e⟩ := List.getElem_of_mem h
  have q := zip_get (p := p) (i := i) (xs := xs) (ys := xs) (by rw [List.getElem?_eq_getElem hi, e])
  have e1 := q.1.symm.trans q.2
  exact ⟨Option.some.inj e1, List.mem_of_getElem? q.1⟩
theorem sm_zip {n : Nat} {xs : List PyData} (h : ∀ x, x ∈ xs → Sm n x) : (compM (fun (_ : (PyData × PyData)) => (some true)) (fun (x6 : (PyData × PyData)) => (Option.bind (l_same n x6.1 x6.2) fun u7 => (some u7))) (xs.zip xs)) = some ((xs.zip xs).map fun _ => true) :=
  compM_some (fun _ _ => rfl) fun p hp => by
    obtain ⟨a, b⟩ := zip_self hp
    rw [← a, show l_same n p.1 p.1 = some true from h _ b]
    rfl
theorem all_true {α : Type} (xs : List α) : (xs.map fun _ => true).all id = true := by
  rw [List.all_eq_true]
  intro x hx
  obtain ⟨_, _, rfl⟩ := List.mem_map.mp hx
  rfl
theorem Sm.int (n : Nat) (i : Int) : Sm (n + 1) (.int i) := by
  unfold Sm l_same
  simp [isNone, isBD, isID, isLD, isTD, isSD, eqLeaf]
theorem Sm.bool (n : Nat) (i : Bool) : Sm (n + 1) (.bool i) := by
  unfold Sm l_same
  simp [isNone, isBD, isID, isLD, isTD, isSD, eqLeaf]
theorem Sm.str (n : Nat) (i : Str) : Sm (n + 1) (.str i) := by
  unfold Sm l_same
  simp [isNone, isBD, isID, isLD, isTD, isSD, eqLeaf]
theorem Sm.none (n : Nat) : Sm (n + 1) .none := by
  unfold Sm l_same
  simp [isNone]
theorem Sm.list {n : Nat} {xs : List PyData} (h : ∀ x, x ∈ xs → Sm n x) : Sm (n + 1) (.list xs) := by
  unfold Sm l_same
  have z : zipD (.list xs) (.list xs) = some (xs.zip xs) := rfl
  have l : lenD (.list xs) = some (xs.length : Int) := rfl
  have a := all_true (xs.zip xs)
  simp only [isNone, isBD, isID, isLD, isTD, isSD, l, z, Option.bind_some, sm_zip h, a]
  simp
theorem Sm.tup {n : Nat} {xs : List PyData} (h : ∀ x, x ∈ xs → Sm n x) : Sm (n + 1) (.tuple xs) := by
  unfold Sm l_same
  have z : zipD (.tuple xs) (.tuple xs) = some (xs.zip xs) := rfl
  have l : lenD (.tuple xs) = some (xs.length : Int) := rfl
  have a := all_true (xs.zip xs)
  simp only [isNone, isBD, isID, isLD, isTD, isSD, l, z, Option.bind_some, sm_zip h, a]
  simp
theorem Sm.ints (n : Nat) (xs : List Int) : Sm (n + 2) (eT PyData.int xs) := .tup fun x hx => by
  obtain ⟨i, _, rfl⟩ := List.mem_map.mp hx
  exact .int n i
theorem Sm.intl (n : Nat) (xs : List Int) : Sm (n + 2) (eL PyData.int xs) := .list fun x hx => by
  obtain ⟨i, _, rfl⟩ := List.mem_map.mp hx
  exact .int n i
theorem Sm.pair {n : Nat} {a b : PyData} (h1 : Sm n a) (h2 : Sm n b) : Sm (n + 1) (.tuple [a, b]) := .tup fun x hx => by
  simp only [List.mem_cons, List.not_mem_nil, or_false] at hx
  rcases hx with rfl | rfl
  · exact h1
  · exact h2
theorem Sm.pairl {n : Nat} {a b : PyData} (h1 : Sm n a) (h2 : Sm n b) : Sm (n + 1) (.list [a, b]) := .list fun x hx => by
  simp only [List.mem_cons, List.not_mem_nil, or_false] at hx
  rcases hx with rfl | rfl
  · exact h1
  · exact h2
theorem cut_take {xs : List Int} {k : Int} (h : 0 ≤ k) : cutA xs none (some k) = xs.take k.toNat := by
  unfold cutA
  show (xs.drop (HT.sIx xs.length 0 none)).take (HT.sIx xs.length xs.length (some k) - HT.sIx xs.length 0 none) = _
  have e : HT.sIx xs.length xs.length (some k) = min k.toNat xs.length := if_neg (by omega)
  rw [e, HT.sIx_none, List.drop_zero, Nat.sub_zero]
  rw [List.take_eq_take_iff]
  omega
theorem cut_drop {xs : List Int} {k : Int} (h : 0 ≤ k) : cutA xs (some k) none = xs.drop k.toNat := by
  unfold cutA
  have e : HT.sIx xs.length 0 (some k) = min k.toNat xs.length := if_neg (by omega)
  rw [e, HT.sIx_none]
  have l : (xs.drop (min k.toNat xs.length)).length ≤ xs.length - min k.toNat xs.length := by rw [List.length_drop]; omega
  rw [List.take_of_length_le l]
  by_cases c : k.toNat ≤ xs.length
  · rw [Nat.min_eq_left c]
  · rw [Nat.min_eq_right (by omega), List.drop_of_length_le (Nat.le_refl _), List.drop_of_length_le (by omega)]
def tradeWords : List Str := ["swap", "drop", "cut", "double", "grow", "", "Swap"]
abbrev T2 (w : Str) (a : Int) : PyData := eP PyData.str PyData.int (w, a)
abbrev T3 (w : Str) (a k : Int) : PyData := eP3 PyData.str PyData.int PyData.int (w, a, k)
def TradeOk (v : PyData) : Prop := (∃ w a, w ∈ tradeWords ∧ v = T2 w a) ∨ ∃ w a k, w ∈ tradeWords ∧ v = T3 w a k
theorem word_sh {w : Str} (h : w ∈ tradeWords) : grd (SeqAt.shaped (eD (PyData.str w)) = true) = some () := by
  have : ∀ w, w ∈ tradeWords → SeqAt.shaped (eD (PyData.str w)) = true := by decide +kernel
  exact grd_true (this w h)
theorem word_sh2 {w : Str} (h : w ∈ tradeWords) : grd (SeqAt.shaped (PyData.str w) = true) = some () := word_sh h
theorem word_eq (w z : Str) : PyData.eqv (eD (PyData.str w)) (PyData.str z) = decide (w = z) := EnQ.str.eq w z
theorem beside_ok (a b : Int) : p_beside a b = some (decide (b = a - 1 ∨ b = a + 1)) := by
  unfold p_beside
  by_cases c : a - b < 0
  · rw [if_pos c]
    congr 1
    rw [Bool.eq_iff_iff, decide_eq_true_eq, decide_eq_true_eq]
    omega
  · rw [if_neg c]
    congr 1
    rw [Bool.eq_iff_iff, decide_eq_true_eq, decide_eq_true_eq]
    omega
theorem at_in {α : Type} {xs : List α} {i : Int} (i0 : 0 ≤ i) (i1 : i < (xs.length : Int)) : ∃ v, atI xs i = some v ∧ v ∈ xs := by
  rw [atI_eq i0 i1, List.getElem?_eq_getElem (by omega)]
  exact ⟨_, rfl, List.getElem_mem _⟩
section
variable {A R : List Int} {h b c : Int}
theorem at_0 : atI (A ++ h :: R) (A.length : Int) = some h := by
  rw [atI_eq (by omega) (by simp; omega), Int.toNat_natCast, List.getElem?_append_right (Nat.le_refl _), Nat.sub_self]
  rfl
theorem at_1 : atI (A ++ h :: b :: R) ((A.length : Int) + 1) = some b := by
  have := at_0 (A := A ++ [h]) (h := b) (R := R)
  rw [List.append_assoc, List.length_append] at this
  exact this
theorem at_2 : atI (A ++ h :: b :: c :: R) ((A.length : Int) + 2) = some c := by
  have := at_0 (A := A ++ [h, b]) (h := c) (R := R)
  rw [List.append_assoc, List.length_append] at this
  exact this
theorem ct_0 : cutA (A ++ R) none (some (A.length : Int)) = A := by
  rw [cut_take (by omega), Int.toNat_natCast, List.take_left]
theorem ct_1 : cutA (A ++ h :: R) none (some ((A.length : Int) + 1)) = A ++ [h] := by
  have := ct_0 (A := A ++ [h]) (R := R)
  rw [List.append_assoc, List.length_append] at this
  exact this
theorem cd_0 : cutA (A ++ R) (some (A.length : Int)) none = R := by
  rw [cut_drop (by omega), Int.toNat_natCast, List.drop_left]
theorem cd_1 : cutA (A ++ h :: R) (some ((A.length : Int) + 1)) none = R := by
  have := cd_0 (A := A ++ [h]) (R := R)
  rw [List.append_assoc, List.length_append] at this
  exact this
theorem cd_2 : cutA (A ++ h :: b :: R) (some ((A.length : Int) + 2)) none = R := by
  have := cd_0 (A := A ++ [h, b]) (R := R)
  rw [List.append_assoc, List.length_append] at this
  exact this
theorem cd_3 : cutA (A ++ h :: b :: c :: R) (some ((A.length : Int) + 3)) none = R := by
  have := cd_0 (A := A ++ [h, b, c]) (R := R)
  rw [List.append_assoc, List.length_append] at this
  exact this
theorem cut_1 : cutA (b :: R) (some 1) none = R := by
  rw [cut_drop (by omega)]; rfl
theorem cut_2 : cutA (b :: c :: R) (some 2) none = R := by
  rw [cut_drop (by omega)]; rfl
theorem at_00 : atI (b :: R) (0 : Int) = some b := by
  rw [atI_eq (by omega) (by simp)]; rfl
theorem at_01 : atI (b :: c :: R) (1 : Int) = some c := by
  rw [atI_eq (by omega) (by simp; omega)]; rfl
end
def oS (A : List Int) (h : Int) : List Int → Option (List Int)
  | b :: R => if b ∈ [h - 1, h, h + 1] then none else some (A ++ b :: h :: R)
  | [] => none
def oD (A : List Int) (h : Int) : List Int → Option (List Int)
  | b :: R => if b = h then some (A ++ h :: R) else none
  | [] => none
def oC (A : List Int) (h : Int) : List Int → Option (List Int)
  | b :: c :: R => if c = h ∧ b ∈ [h - 1, h + 1] then some (A ++ h :: R) else none
  | _ => none
theorem oS_c (A : List Int) (h b : Int) (R : List Int) : oS A h (b :: R) = if b ∈ [h - 1, h, h + 1] then none else some (A ++ b :: h :: R) := rfl
theorem oD_c (A : List Int) (h b : Int) (R : List Int) : oD A h (b :: R) = if b = h then some (A ++ h :: R) else none := rfl
theorem oC_c (A : List Int) (h b c : Int) (R : List Int) : oC A h (b :: c :: R) = if c = h ∧ b ∈ [h - 1, h + 1] then some (A ++ h :: R) else none := rfl
def oG (n : Int) (A : List Int) (h : Int) (R : List Int) (k : Int) : Option (List Int) :=
  if (0 ≤ k ∧ k < n - 1) ∧ k ∈ [h - 1, h + 1] then some (A ++ h :: k :: h :: R) else none
theorem rng_no {a b : Int} (h : ¬ (0 ≤ a ∧ a < b)) : (!((decide ((0 : Int) ≤ a)) && (decide (a < b)))) = true := by
  rw [← Bool.decide_and, decide_eq_false h]; rfl
theorem rng_yes {a b : Int} (h : 0 ≤ a ∧ a < b) : (!((decide ((0 : Int) ≤ a)) && (decide (a < b)))) = false := by
  rw [← Bool.decide_and, decide_eq_true h]; rfl
theorem sob {α β : Type} (a : α) (f : α → Option β) : Option.bind (some a) f = f a := rfl
theorem abs2 (h b : Int) : decide ((if h - b < 0 then -(h - b) else h - b) < 2) = decide (b ∈ [h - 1, h, h + 1]) := by
  rw [Bool.eq_iff_iff, decide_eq_true_eq, decide_eq_true_eq]
  simp only [List.mem_cons, List.not_mem_nil, or_false]
  by_cases c : h - b < 0
  · rw [if_pos c]; omega
  · rw [if_neg c]; omega
theorem gl {α β : Type} {xs : List α} (h : xs.length ≤ 1000) (f : Unit → Option β) : Option.bind (grd (xs.length ≤ lim)) f = f () := by
  rw [grd_true (Nat.le_trans h (by decide))]; rfl
theorem besideL (a b : Int) : p_beside a b = some (decide (b ∈ [a - 1, a + 1])) := by
  rw [beside_ok]
  congr 1
  rw [Bool.eq_iff_iff, decide_eq_true_eq, decide_eq_true_eq]
  simp only [List.mem_cons, List.not_mem_nil, or_false]
theorem swapped_out {row : List Int} {a : Int} (h : ¬ (0 ≤ a ∧ a < (row.length : Int) - 1)) : p_swapped row a = some none := by
  unfold p_swapped
  rw [rng_no h]; rfl
theorem dropped_out {row : List Int} {a : Int} (h : ¬ (0 ≤ a ∧ a < (row.length : Int) - 1)) : p_dropped row a = some none := by
  unfold p_dropped
  rw [rng_no h]; rfl
theorem cut_out {row : List Int} {a : Int} (h : ¬ (0 ≤ a ∧ a < (row.length : Int) - 2)) : p_cut row a = some none := by
  unfold p_cut
  rw [rng_no h]; rfl
theorem grown_out {n k : Int} {row : List Int} {a : Int} (h : ¬ (0 ≤ a ∧ a < (row.length : Int))) : p_grown n row a k = some none := by
  unfold p_grown
  rw [rng_no h]; rfl
section
variable {A : List Int} {h : Int}
theorem swapped_in : ∀ {R : List Int}, A.length + R.length ≤ 900 → p_swapped (A ++ h :: R) A.length = some (oS A h R)
  | [], l => by
    rw [swapped_out (by simp)]; rfl
  | b :: R, l => by
    unfold p_swapped oS
    rw [rng_yes (by simp; omega)]
    simp only [sob, Bool.false_eq_true, if_false, at_0, at_1, ct_0, cd_2, abs2]
    by_cases d : b ∈ [h - 1, h, h + 1]
    · rw [decide_eq_true d, if_pos rfl, if_pos d]
    · rw [decide_eq_false d, if_neg (by simp), if_neg d]
      rw [gl (by simp at l ⊢; omega), gl (by simp at l ⊢; omega), List.append_assoc]; rfl
theorem dropped_in : ∀ {R : List Int}, A.length + R.length ≤ 900 → p_dropped (A ++ h :: R) A.length = some (oD A h R)
  | [], l => by
    rw [dropped_out (by simp)]; rfl
  | b :: R, l => by
    unfold p_dropped oD
    rw [rng_yes (by simp; omega)]
    simp only [sob, Bool.false_eq_true, if_false, at_0, at_1, ct_0, cd_1]
    by_cases d : b = h
    · cases d
      rw [decide_eq_true rfl, if_neg (by simp), if_pos rfl]
      rw [gl (by simp at l ⊢; omega)]
    · rw [decide_eq_false (fun e => d e.symm), if_pos (by simp), if_neg d]
theorem cut_in : ∀ {R : List Int}, A.length + R.length ≤ 900 → p_cut (A ++ h :: R) A.length = some (oC A h R)
  | [], l => by
    rw [cut_out (by simp; omega)]; rfl
  | [b], l => by
    rw [cut_out (by simp)]; rfl
  | b :: c :: R, l => by
    unfold p_cut oC
    rw [rng_yes (by simp; omega)]
    simp only [sob, Bool.false_eq_true, if_false, at_0, at_1, at_2, ct_1, cd_3, besideL]
    by_cases d : c = h
    · subst d
      rw [decide_eq_true rfl, if_neg (by simp)]
      by_cases e : b ∈ [c - 1, c + 1]
      · rw [decide_eq_true e, if_pos (show c = c ∧ b ∈ [c - 1, c + 1] from ⟨rfl, e⟩)]
        simp only [Bool.not_true, Bool.false_eq_true, if_false]
        rw [gl (by simp at l ⊢; omega), List.append_assoc]; rfl
      · rw [decide_eq_false e, if_neg (show ¬ (c = c ∧ b ∈ [c - 1, c + 1]) from fun x => e x.2)]
        simp only [Bool.not_false, sob, if_true]
    · rw [decide_eq_false (fun e => d e.symm)]
      simp only [Bool.not_false, if_true, sob]
      rw [if_neg (fun x => d x.1)]
theorem grown_in {n k : Int} {R : List Int} (l : A.length + R.length ≤ 900) : p_grown n (A ++ h :: R) A.length k = some (oG n A h R k) := by
  unfold p_grown oG
  rw [rng_yes (by simp; omega)]
  simp only [sob, Bool.false_eq_true, if_false]
  by_cases e : 0 ≤ k ∧ k < n - 1
  · rw [rng_yes e]
    simp only [sob, Bool.false_eq_true, if_false, at_0, besideL]
    by_cases d : k ∈ [h - 1, h + 1]
    · rw [decide_eq_true d, if_neg (by simp), if_pos ⟨e, d⟩]
      simp only [ct_1, cd_1]
      rw [gl (by simp at l ⊢; omega), gl (by simp at l ⊢; omega)]
      simp
    · rw [decide_eq_false d, if_pos (by simp), if_neg (fun x => d x.2)]
  · rw [rng_no e, if_neg (show ¬ ((0 ≤ k ∧ k < n - 1) ∧ k ∈ [h - 1, h + 1]) from fun x => e x.1)]; rfl
end
theorem wq_swap_swap : PyData.eqv (eD (PyData.str (Str.ofString "swap"))) (PyData.str (Str.ofString "swap")) = true := (word_eq _ _).trans (by decide +kernel)
theorem wq_swap_drop : PyData.eqv (eD (PyData.str (Str.ofString "swap"))) (PyData.str (Str.ofString "drop")) = false := (word_eq _ _).trans (by decide +kernel)
theorem wq_swap_cut : PyData.eqv (eD (PyData.str (Str.ofString "swap"))) (PyData.str (Str.ofString "cut")) = false := (word_eq _ _).trans (by decide +kernel)
theorem wq_swap_double : PyData.eqv (eD (PyData.str (Str.ofString "swap"))) (PyData.str (Str.ofString "double")) = false := (word_eq _ _).trans (by decide +kernel)
theorem wq_swap_grow : PyData.eqv (eD (PyData.str (Str.ofString "swap"))) (PyData.str (Str.ofString "grow")) = false := (word_eq _ _).trans (by decide +kernel)
theorem wq_drop_swap : PyData.eqv (eD (PyData.str (Str.ofString "drop"))) (PyData.str (Str.ofString "swap")) = false := (word_eq _ _).trans (by decide +kernel)
theorem wq_drop_drop : PyData.eqv (eD (PyData.str (Str.ofString "drop"))) (PyData.str (Str.ofString "drop")) = true := (word_eq _ _).trans (by decide +kernel)
theorem wq_drop_cut : PyData.eqv (eD (PyData.str (Str.ofString "drop"))) (PyData.str (Str.ofString "cut")) = false := (word_eq _ _).trans (by decide +kernel)
theorem wq_drop_double : PyData.eqv (eD (PyData.str (Str.ofString "drop"))) (PyData.str (Str.ofString "double")) = false := (word_eq _ _).trans (by decide +kernel)
theorem wq_drop_grow : PyData.eqv (eD (PyData.str (Str.ofString "drop"))) (PyData.str (Str.ofString "grow")) = false := (word_eq _ _).trans (by decide +kernel)
theorem wq_cut_swap : PyData.eqv (eD (PyData.str (Str.ofString "cut"))) (PyData.str (Str.ofString "swap")) = false := (word_eq _ _).trans (by decide +kernel)
theorem wq_cut_drop : PyData.eqv (eD (PyData.str (Str.ofString "cut"))) (PyData.str (Str.ofString "drop")) = false := (word_eq _ _).trans (by decide +kernel)
theorem wq_cut_cut : PyData.eqv (eD (PyData.str (Str.ofString "cut"))) (PyData.str (Str.ofString "cut")) = true := (word_eq _ _).trans (by decide +kernel)
theorem wq_cut_double : PyData.eqv (eD (PyData.str (Str.ofString "cut"))) (PyData.str (Str.ofString "double")) = false := (word_eq _ _).trans (by decide +kernel)
theorem wq_cut_grow : PyData.eqv (eD (PyData.str (Str.ofString "cut"))) (PyData.str (Str.ofString "grow")) = false := (word_eq _ _).trans (by decide +kernel)
theorem wq_double_swap : PyData.eqv (eD (PyData.str (Str.ofString "double"))) (PyData.str (Str.ofString "swap")) = false := (word_eq _ _).trans (by decide +kernel)
theorem wq_double_drop : PyData.eqv (eD (PyData.str (Str.ofString "double"))) (PyData.str (Str.ofString "drop")) = false := (word_eq _ _).trans (by decide +kernel)
theorem wq_double_cut : PyData.eqv (eD (PyData.str (Str.ofString "double"))) (PyData.str (Str.ofString "cut")) = false := (word_eq _ _).trans (by decide +kernel)
theorem wq_double_double : PyData.eqv (eD (PyData.str (Str.ofString "double"))) (PyData.str (Str.ofString "double")) = true := (word_eq _ _).trans (by decide +kernel)
theorem wq_double_grow : PyData.eqv (eD (PyData.str (Str.ofString "double"))) (PyData.str (Str.ofString "grow")) = false := (word_eq _ _).trans (by decide +kernel)
theorem wq_grow_swap : PyData.eqv (eD (PyData.str (Str.ofString "grow"))) (PyData.str (Str.ofString "swap")) = false := (word_eq _ _).trans (by decide +kernel)
theorem wq_grow_drop : PyData.eqv (eD (PyData.str (Str.ofString "grow"))) (PyData.str (Str.ofString "drop")) = false := (word_eq _ _).trans (by decide +kernel)
theorem wq_grow_cut : PyData.eqv (eD (PyData.str (Str.ofString "grow"))) (PyData.str (Str.ofString "cut")) = false := (word_eq _ _).trans (by decide +kernel)
theorem wq_grow_double : PyData.eqv (eD (PyData.str (Str.ofString "grow"))) (PyData.str (Str.ofString "double")) = false := (word_eq _ _).trans (by decide +kernel)
theorem wq_grow_grow : PyData.eqv (eD (PyData.str (Str.ofString "grow"))) (PyData.str (Str.ofString "grow")) = true := (word_eq _ _).trans (by decide +kernel)
theorem wq_e_swap : PyData.eqv (eD (PyData.str (Str.ofString ""))) (PyData.str (Str.ofString "swap")) = false := (word_eq _ _).trans (by decide +kernel)
theorem wq_e_drop : PyData.eqv (eD (PyData.str (Str.ofString ""))) (PyData.str (Str.ofString "drop")) = false := (word_eq _ _).trans (by decide +kernel)
theorem wq_e_cut : PyData.eqv (eD (PyData.str (Str.ofString ""))) (PyData.str (Str.ofString "cut")) = false := (word_eq _ _).trans (by decide +kernel)
theorem wq_e_double : PyData.eqv (eD (PyData.str (Str.ofString ""))) (PyData.str (Str.ofString "double")) = false := (word_eq _ _).trans (by decide +kernel)
theorem wq_e_grow : PyData.eqv (eD (PyData.str (Str.ofString ""))) (PyData.str (Str.ofString "grow")) = false := (word_eq _ _).trans (by decide +kernel)
theorem wq_S_swap : PyData.eqv (eD (PyData.str (Str.ofString "Swap"))) (PyData.str (Str.ofString "swap")) = false := (word_eq _ _).trans (by decide +kernel)
theorem wq_S_drop : PyData.eqv (eD (PyData.str (Str.ofString "Swap"))) (PyData.str (Str.ofString "drop")) = false := (word_eq _ _).trans (by decide +kernel)
theorem wq_S_cut : PyData.eqv (eD (PyData.str (Str.ofString "Swap"))) (PyData.str (Str.ofString "cut")) = false := (word_eq _ _).trans (by decide +kernel)
theorem wq_S_double : PyData.eqv (eD (PyData.str (Str.ofString "Swap"))) (PyData.str (Str.ofString "double")) = false := (word_eq _ _).trans (by decide +kernel)
theorem wq_S_grow : PyData.eqv (eD (PyData.str (Str.ofString "Swap"))) (PyData.str (Str.ofString "grow")) = false := (word_eq _ _).trans (by decide +kernel)
theorem ws_swap : grd (SeqAt.shaped (eD (PyData.str (Str.ofString "swap"))) = true) = some () := word_sh (by simp [tradeWords])
theorem wt_swap : grd (SeqAt.shaped (PyData.str (Str.ofString "swap")) = true) = some () := word_sh2 (by simp [tradeWords])
theorem ws_drop : grd (SeqAt.shaped (eD (PyData.str (Str.ofString "drop"))) = true) = some () := word_sh (by simp [tradeWords])
theorem wt_drop : grd (SeqAt.shaped (PyData.str (Str.ofString "drop")) = true) = some () := word_sh2 (by simp [tradeWords])
theorem ws_cut : grd (SeqAt.shaped (eD (PyData.str (Str.ofString "cut"))) = true) = some () := word_sh (by simp [tradeWords])
theorem wt_cut : grd (SeqAt.shaped (PyData.str (Str.ofString "cut")) = true) = some () := word_sh2 (by simp [tradeWords])
theorem ws_double : grd (SeqAt.shaped (eD (PyData.str (Str.ofString "double"))) = true) = some () := word_sh (by simp [tradeWords])
theorem wt_double : grd (SeqAt.shaped (PyData.str (Str.ofString "double")) = true) = some () := word_sh2 (by simp [tradeWords])
theorem ws_grow : grd (SeqAt.shaped (eD (PyData.str (Str.ofString "grow"))) = true) = some () := word_sh (by simp [tradeWords])
theorem wt_grow : grd (SeqAt.shaped (PyData.str (Str.ofString "grow")) = true) = some () := word_sh2 (by simp [tradeWords])
theorem ws_e : grd (SeqAt.shaped (eD (PyData.str (Str.ofString ""))) = true) = some () := word_sh (by simp [tradeWords])
theorem ws_S : grd (SeqAt.shaped (eD (PyData.str (Str.ofString "Swap"))) = true) = some () := word_sh (by simp [tradeWords])
theorem ix20 (w : Str) (a : Int) : ixDc (T2 w a) 0 = some (PyData.str w) := rfl
theorem ix21 (w : Str) (a : Int) : ixDc (T2 w a) 1 = some (PyData.int a) := rfl
theorem ix30 (w : Str) (a k : Int) : ixDc (T3 w a k) 0 = some (PyData.str w) := rfl
theorem ix31 (w : Str) (a k : Int) : ixDc (T3 w a k) 1 = some (PyData.int a) := rfl
theorem ix32 (w : Str) (a k : Int) : ixDc (T3 w a k) 2 = some (PyData.int k) := rfl
theorem len2 (w : Str) (a : Int) : lenD (T2 w a) = some 2 := rfl
theorem len3 (w : Str) (a k : Int) : lenD (T3 w a k) = some 3 := rfl
theorem decI_i (a : Int) : decI (PyData.int a) = some a := rfl
theorem iT {α : Type} (x y : α) : (if true = true then x else y) = x := rfl
theorem iF {α : Type} (x y : α) : (if false = true then x else y) = y := rfl
theorem after_out2 {n r : Int} {row : List Int} (w : Str) (a : Int) (h : ¬ (0 ≤ a ∧ a < (row.length : Int))) : l_after n (r, row) (T2 w a) = some none := by
  unfold l_after
  simp only [ix20, ix21, sob, decI_i]
  rw [rng_no h]; rfl
theorem after_out3 {n r : Int} {row : List Int} (w : Str) (a : Int) (k : Int) (h : ¬ (0 ≤ a ∧ a < (row.length : Int))) : l_after n (r, row) (T3 w a k) = some none := by
  unfold l_after
  simp only [ix30, ix31, sob, decI_i]
  rw [rng_no h]; rfl
theorem beh2_swap {n r a : Int} {row : List Int} {o : Option (List Int)} (h : p_swapped row a = some o) : p_behind n r row (T2 (Str.ofString "swap") a) = some (r, o) := by
  unfold p_behind
  simp only [decide_true, decide_false, if_true, if_false, Bool.false_eq_true, sob, ix20, ix21, ix30, ix31, ix32, len2, len3, decI_i, iT, iF, Bool.true_and, Bool.false_and, Bool.not_true, Bool.not_false, Bool.and_true, Bool.and_false, wq_swap_swap, wq_swap_drop, wq_swap_cut, wq_swap_double, wq_swap_grow, ws_cut, ws_swap, ws_grow, ws_drop, ws_double, wt_swap, wt_drop, wt_cut, wt_double, wt_grow, show decide ((2 : Int) = 3) = false from rfl, show decide ((2 : Int) = 2) = true from rfl, h]
theorem beh2_drop {n r a : Int} {row : List Int} {o : Option (List Int)} (h : p_dropped row a = some o) : p_behind n r row (T2 (Str.ofString "drop") a) = some (r + 1, o) := by
  unfold p_behind
  simp only [decide_true, decide_false, if_true, if_false, Bool.false_eq_true, sob, ix20, ix21, ix30, ix31, ix32, len2, len3, decI_i, iT, iF, Bool.true_and, Bool.false_and, Bool.not_true, Bool.not_false, Bool.and_true, Bool.and_false, wq_drop_swap, wq_drop_drop, wq_drop_cut, wq_drop_double, wq_drop_grow, ws_cut, ws_swap, ws_grow, ws_drop, ws_double, wt_swap, wt_drop, wt_cut, wt_double, wt_grow, show decide ((2 : Int) = 3) = false from rfl, show decide ((2 : Int) = 2) = true from rfl, h]
theorem beh2_cut {n r a : Int} {row : List Int} {o : Option (List Int)} (h : p_cut row a = some o) : p_behind n r row (T2 (Str.ofString "cut") a) = some (r, o) := by
  unfold p_behind
  simp only [decide_true, decide_false, if_true, if_false, Bool.false_eq_true, sob, ix20, ix21, ix30, ix31, ix32, len2, len3, decI_i, iT, iF, Bool.true_and, Bool.false_and, Bool.not_true, Bool.not_false, Bool.and_true, Bool.and_false, wq_cut_swap, wq_cut_drop, wq_cut_cut, wq_cut_double, wq_cut_grow, ws_cut, ws_swap, ws_grow, ws_drop, ws_double, wt_swap, wt_drop, wt_cut, wt_double, wt_grow, show decide ((2 : Int) = 3) = false from rfl, show decide ((2 : Int) = 2) = true from rfl, h]
theorem beh2_grow {n r a : Int} {row : List Int} : p_behind n r row (T2 (Str.ofString "grow") a) = some (r, none) := by
  unfold p_behind
  simp only [decide_true, decide_false, if_true, if_false, Bool.false_eq_true, sob, ix20, ix21, ix30, ix31, ix32, len2, len3, decI_i, iT, iF, Bool.true_and, Bool.false_and, Bool.not_true, Bool.not_false, Bool.and_true, Bool.and_false, wq_grow_swap, wq_grow_drop, wq_grow_cut, wq_grow_double, wq_grow_grow, ws_cut, ws_swap, ws_grow, ws_drop, ws_double, wt_swap, wt_drop, wt_cut, wt_double, wt_grow, show decide ((2 : Int) = 3) = false from rfl, show decide ((2 : Int) = 2) = true from rfl]
theorem beh2_e {n r a : Int} {row : List Int} : p_behind n r row (T2 (Str.ofString "") a) = some (r, none) := by
  unfold p_behind
  simp only [decide_true, decide_false, if_true, if_false, Bool.false_eq_true, sob, ix20, ix21, ix30, ix31, ix32, len2, len3, decI_i, iT, iF, Bool.true_and, Bool.false_and, Bool.not_true, Bool.not_false, Bool.and_true, Bool.and_false, wq_e_swap, wq_e_drop, wq_e_cut, wq_e_double, wq_e_grow, ws_e, ws_cut, ws_swap, ws_grow, ws_drop, ws_double, wt_swap, wt_drop, wt_cut, wt_double, wt_grow, show decide ((2 : Int) = 3) = false from rfl, show decide ((2 : Int) = 2) = true from rfl]
theorem beh2_S {n r a : Int} {row : List Int} : p_behind n r row (T2 (Str.ofString "Swap") a) = some (r, none) := by
  unfold p_behind
  simp only [decide_true, decide_false, if_true, if_false, Bool.false_eq_true, sob, ix20, ix21, ix30, ix31, ix32, len2, len3, decI_i, iT, iF, Bool.true_and, Bool.false_and, Bool.not_true, Bool.not_false, Bool.and_true, Bool.and_false, wq_S_swap, wq_S_drop, wq_S_cut, wq_S_double, wq_S_grow, ws_cut, ws_swap, ws_grow, ws_drop, ws_S, ws_double, wt_swap, wt_drop, wt_cut, wt_double, wt_grow, show decide ((2 : Int) = 3) = false from rfl, show decide ((2 : Int) = 2) = true from rfl]
theorem beh2_double_in {n r : Int} {A R : List Int} {h : Int} (l : A.length + R.length ≤ 900) (c : 0 < r) : p_behind n r (A ++ h :: R) (T2 (Str.ofString "double") A.length) = some (r - 1, some (A ++ h :: h :: R)) := by
  unfold p_behind
  simp only [decide_true, decide_false, if_true, if_false, Bool.false_eq_true, sob, ix20, ix21, ix30, ix31, ix32, len2, len3, decI_i, iT, iF, Bool.true_and, Bool.false_and, Bool.not_true, Bool.not_false, Bool.and_true, Bool.and_false, wq_double_swap, wq_double_drop, wq_double_cut, wq_double_double, wq_double_grow, ws_cut, ws_swap, ws_grow, ws_drop, ws_double, wt_swap, wt_drop, wt_cut, wt_double, wt_grow, show decide ((2 : Int) = 3) = false from rfl, show decide ((2 : Int) = 2) = true from rfl, decide_eq_true c]
  rw [show (decide ((0 : Int) ≤ (A.length : Int)) && decide ((A.length : Int) < ((A ++ h :: R).length : Int))) = true from by simp; omega]
  simp only [iT, ct_1, cd_0]
  rw [gl (by simp at l ⊢; omega), List.append_assoc]; rfl
theorem beh2_double_out {n r a : Int} {row : List Int} (c : ¬ (0 < r ∧ 0 ≤ a ∧ a < (row.length : Int))) : p_behind n r row (T2 (Str.ofString "double") a) = some (r, none) := by
  unfold p_behind
  simp only [decide_true, decide_false, if_true, if_false, Bool.false_eq_true, sob, ix20, ix21, ix30, ix31, ix32, len2, len3, decI_i, iT, iF, Bool.true_and, Bool.false_and, Bool.not_true, Bool.not_false, Bool.and_true, Bool.and_false, wq_double_swap, wq_double_drop, wq_double_cut, wq_double_double, wq_double_grow, ws_cut, ws_swap, ws_grow, ws_drop, ws_double, wt_swap, wt_drop, wt_cut, wt_double, wt_grow, show decide ((2 : Int) = 3) = false from rfl, show decide ((2 : Int) = 2) = true from rfl]
  by_cases d : r > 0
  · have e : (decide ((0 : Int) ≤ a) && decide (a < (row.length : Int))) = false := by
      rw [← Bool.decide_and]; exact decide_eq_false fun z => c ⟨d, z⟩
    simp only [decide_eq_true d, e, iT, iF, sob, if_true, if_false, Bool.false_eq_true]
  · simp only [decide_eq_false d, iF, sob]
theorem beh3_grow {n r a k : Int} {row : List Int} {o : Option (List Int)} (h : p_grown n row a k = some o) : p_behind n r row (T3 (Str.ofString "grow") a k) = some (r, o) := by
  unfold p_behind
  simp only [decide_true, decide_false, if_true, if_false, Bool.false_eq_true, sob, ix20, ix21, ix30, ix31, ix32, len2, len3, decI_i, iT, iF, Bool.true_and, Bool.false_and, Bool.not_true, Bool.not_false, Bool.and_true, Bool.and_false, wq_grow_swap, wq_grow_drop, wq_grow_cut, wq_grow_double, wq_grow_grow, ws_cut, ws_swap, ws_grow, ws_drop, ws_double, wt_swap, wt_drop, wt_cut, wt_double, wt_grow, show decide ((3 : Int) = 3) = true from rfl, h]
theorem beh3_swap {n r a k : Int} {row : List Int} : p_behind n r row (T3 (Str.ofString "swap") a k) = some (r, none) := by
  unfold p_behind
  simp only [decide_true, decide_false, if_true, if_false, Bool.false_eq_true, sob, ix20, ix21, ix30, ix31, ix32, len2, len3, decI_i, iT, iF, Bool.true_and, Bool.false_and, Bool.not_true, Bool.not_false, Bool.and_true, Bool.and_false, wq_swap_swap, wq_swap_drop, wq_swap_cut, wq_swap_double, wq_swap_grow, ws_cut, ws_swap, ws_grow, ws_drop, ws_double, wt_swap, wt_drop, wt_cut, wt_double, wt_grow, show decide ((3 : Int) = 3) = true from rfl, show decide ((3 : Int) = 2) = false from rfl]
theorem beh3_drop {n r a k : Int} {row : List Int} : p_behind n r row (T3 (Str.ofString "drop") a k) = some (r, none) := by
  unfold p_behind
  simp only [decide_true, decide_false, if_true, if_false, Bool.false_eq_true, sob, ix20, ix21, ix30, ix31, ix32, len2, len3, decI_i, iT, iF, Bool.true_and, Bool.false_and, Bool.not_true, Bool.not_false, Bool.and_true, Bool.and_false, wq_drop_swap, wq_drop_drop, wq_drop_cut, wq_drop_double, wq_drop_grow, ws_cut, ws_swap, ws_grow, ws_drop, ws_double, wt_swap, wt_drop, wt_cut, wt_double, wt_grow, show decide ((3 : Int) = 3) = true from rfl, show decide ((3 : Int) = 2) = false from rfl]
theorem beh3_cut {n r a k : Int} {row : List Int} : p_behind n r row (T3 (Str.ofString "cut") a k) = some (r, none) := by
  unfold p_behind
  simp only [decide_true, decide_false, if_true, if_false, Bool.false_eq_true, sob, ix20, ix21, ix30, ix31, ix32, len2, len3, decI_i, iT, iF, Bool.true_and, Bool.false_and, Bool.not_true, Bool.not_false, Bool.and_true, Bool.and_false, wq_cut_swap, wq_cut_drop, wq_cut_cut, wq_cut_double, wq_cut_grow, ws_cut, ws_swap, ws_grow, ws_drop, ws_double, wt_swap, wt_drop, wt_cut, wt_double, wt_grow, show decide ((3 : Int) = 3) = true from rfl, show decide ((3 : Int) = 2) = false from rfl]
theorem beh3_double {n r a k : Int} {row : List Int} : p_behind n r row (T3 (Str.ofString "double") a k) = some (r, none) := by
  unfold p_behind
  simp only [decide_true, decide_false, if_true, if_false, Bool.false_eq_true, sob, ix20, ix21, ix30, ix31, ix32, len2, len3, decI_i, iT, iF, Bool.true_and, Bool.false_and, Bool.not_true, Bool.not_false, Bool.and_true, Bool.and_false, wq_double_swap, wq_double_drop, wq_double_cut, wq_double_double, wq_double_grow, ws_cut, ws_swap, ws_grow, ws_drop, ws_double, wt_swap, wt_drop, wt_cut, wt_double, wt_grow, show decide ((3 : Int) = 3) = true from rfl, show decide ((3 : Int) = 2) = false from rfl]
theorem beh3_e {n r a k : Int} {row : List Int} : p_behind n r row (T3 (Str.ofString "") a k) = some (r, none) := by
  unfold p_behind
  simp only [decide_true, decide_false, if_true, if_false, Bool.false_eq_true, sob, ix20, ix21, ix30, ix31, ix32, len2, len3, decI_i, iT, iF, Bool.true_and, Bool.false_and, Bool.not_true, Bool.not_false, Bool.and_true, Bool.and_false, wq_e_swap, wq_e_drop, wq_e_cut, wq_e_double, wq_e_grow, ws_e, ws_cut, ws_swap, ws_grow, ws_drop, ws_double, wt_swap, wt_drop, wt_cut, wt_double, wt_grow, show decide ((3 : Int) = 3) = true from rfl, show decide ((3 : Int) = 2) = false from rfl]
theorem beh3_S {n r a k : Int} {row : List Int} : p_behind n r row (T3 (Str.ofString "Swap") a k) = some (r, none) := by
  unfold p_behind
  simp only [decide_true, decide_false, if_true, if_false, Bool.false_eq_true, sob, ix20, ix21, ix30, ix31, ix32, len2, len3, decI_i, iT, iF, Bool.true_and, Bool.false_and, Bool.not_true, Bool.not_false, Bool.and_true, Bool.and_false, wq_S_swap, wq_S_drop, wq_S_cut, wq_S_double, wq_S_grow, ws_cut, ws_swap, ws_grow, ws_drop, ws_S, ws_double, wt_swap, wt_drop, wt_cut, wt_double, wt_grow, show decide ((3 : Int) = 3) = true from rfl, show decide ((3 : Int) = 2) = false from rfl]
section
variable {n r h k : Int} {A : List Int}
theorem inr {R : List Int} : (!((decide ((0 : Int) ≤ (A.length : Int))) && (decide ((A.length : Int) < ((A ++ h :: R).length : Int))))) = false := rng_yes (by simp; omega)
theorem aft2_swap : ∀ {R : List Int}, A.length + R.length ≤ 900 → l_after n (r, A ++ h :: R) (T2 (Str.ofString "swap") A.length) = some ((oS A h R).map fun x => (r, x))
  | [], l => by
    unfold l_after
    simp only [decide_true, decide_false, if_true, if_false, Bool.false_eq_true, sob, ix20, ix21, ix30, ix31, ix32, len2, len3, decI_i, iT, iF, Bool.true_and, Bool.false_and, Bool.not_true, Bool.not_false, Bool.and_true, Bool.and_false, wq_swap_swap, wq_swap_drop, wq_swap_cut, wq_swap_double, wq_swap_grow, ws_cut, ws_swap, ws_grow, ws_drop, ws_double, wt_swap, wt_drop, wt_cut, wt_double, wt_grow, show decide ((2 : Int) = 2 + 0) = true from rfl, show decide ((2 : Int) = 2 + 1) = false from rfl, show decide ((3 : Int) = 2 + 0) = false from rfl, show decide ((3 : Int) = 2 + 1) = true from rfl, Bool.false_eq_true, if_false, if_true, at_0, ct_0, ct_1, cd_1, inr, show decide (([] : List Int) = []) = true from rfl]; rfl
  | b :: R, l => by
    unfold l_after
    simp only [decide_true, decide_false, if_true, if_false, Bool.false_eq_true, sob, ix20, ix21, ix30, ix31, ix32, len2, len3, decI_i, iT, iF, Bool.true_and, Bool.false_and, Bool.not_true, Bool.not_false, Bool.and_true, Bool.and_false, wq_swap_swap, wq_swap_drop, wq_swap_cut, wq_swap_double, wq_swap_grow, ws_cut, ws_swap, ws_grow, ws_drop, ws_double, wt_swap, wt_drop, wt_cut, wt_double, wt_grow, show decide ((2 : Int) = 2 + 0) = true from rfl, show decide ((2 : Int) = 2 + 1) = false from rfl, show decide ((3 : Int) = 2 + 0) = false from rfl, show decide ((3 : Int) = 2 + 1) = true from rfl, Bool.false_eq_true, if_false, if_true, at_0, ct_0, ct_1, cd_1, inr, show decide ((b :: R : List Int) = []) = false from rfl, at_00, cut_1]
    rw [oS_c]
    by_cases d : b ∈ [h - 1, h, h + 1]
    · simp only [decide_eq_true d, if_pos d, iT, iF, Bool.not_true]; rfl
    · simp only [decide_eq_false d, if_neg d, iT, iF, Bool.not_false]
      rw [gl (by simp at l ⊢; omega), gl (by simp at l ⊢; omega), List.append_assoc]; rfl
theorem aft2_drop : ∀ {R : List Int}, A.length + R.length ≤ 900 → l_after n (r, A ++ h :: R) (T2 (Str.ofString "drop") A.length) = some ((oD A h R).map fun x => (r + 1, x))
  | [], l => by
    unfold l_after
    simp only [decide_true, decide_false, if_true, if_false, Bool.false_eq_true, sob, ix20, ix21, ix30, ix31, ix32, len2, len3, decI_i, iT, iF, Bool.true_and, Bool.false_and, Bool.not_true, Bool.not_false, Bool.and_true, Bool.and_false, wq_drop_swap, wq_drop_drop, wq_drop_cut, wq_drop_double, wq_drop_grow, ws_cut, ws_swap, ws_grow, ws_drop, ws_double, wt_swap, wt_drop, wt_cut, wt_double, wt_grow, show decide ((2 : Int) = 2 + 0) = true from rfl, show decide ((2 : Int) = 2 + 1) = false from rfl, show decide ((3 : Int) = 2 + 0) = false from rfl, show decide ((3 : Int) = 2 + 1) = true from rfl, Bool.false_eq_true, if_false, if_true, at_0, ct_0, ct_1, cd_1, inr, show decide (([] : List Int) = []) = true from rfl]; rfl
  | b :: R, l => by
    unfold l_after
    simp only [decide_true, decide_false, if_true, if_false, Bool.false_eq_true, sob, ix20, ix21, ix30, ix31, ix32, len2, len3, decI_i, iT, iF, Bool.true_and, Bool.false_and, Bool.not_true, Bool.not_false, Bool.and_true, Bool.and_false, wq_drop_swap, wq_drop_drop, wq_drop_cut, wq_drop_double, wq_drop_grow, ws_cut, ws_swap, ws_grow, ws_drop, ws_double, wt_swap, wt_drop, wt_cut, wt_double, wt_grow, show decide ((2 : Int) = 2 + 0) = true from rfl, show decide ((2 : Int) = 2 + 1) = false from rfl, show decide ((3 : Int) = 2 + 0) = false from rfl, show decide ((3 : Int) = 2 + 1) = true from rfl, Bool.false_eq_true, if_false, if_true, at_0, ct_0, ct_1, cd_1, inr, show decide ((b :: R : List Int) = []) = false from rfl, at_00, cut_1]
    rw [oD_c]
    by_cases d : b = h
    · simp only [decide_eq_true d, if_pos d, iT, iF]
      rw [gl (by simp at l ⊢; omega), List.append_assoc]; rfl
    · simp only [decide_eq_false d, if_neg d, iT, iF]; rfl
theorem aft2_cut : ∀ {R : List Int}, A.length + R.length ≤ 900 → l_after n (r, A ++ h :: R) (T2 (Str.ofString "cut") A.length) = some ((oC A h R).map fun x => (r, x))
  | [], l => by
    unfold l_after
    simp only [decide_true, decide_false, if_true, if_false, Bool.false_eq_true, sob, ix20, ix21, ix30, ix31, ix32, len2, len3, decI_i, iT, iF, Bool.true_and, Bool.false_and, Bool.not_true, Bool.not_false, Bool.and_true, Bool.and_false, wq_cut_swap, wq_cut_drop, wq_cut_cut, wq_cut_double, wq_cut_grow, ws_cut, ws_swap, ws_grow, ws_drop, ws_double, wt_swap, wt_drop, wt_cut, wt_double, wt_grow, show decide ((2 : Int) = 2 + 0) = true from rfl, show decide ((2 : Int) = 2 + 1) = false from rfl, show decide ((3 : Int) = 2 + 0) = false from rfl, show decide ((3 : Int) = 2 + 1) = true from rfl, Bool.false_eq_true, if_false, if_true, at_0, ct_0, ct_1, cd_1, inr, show decide ((([] : List Int).length : Int) > 1) = false from rfl]; rfl
  | [b], l => by
    unfold l_after
    simp only [decide_true, decide_false, if_true, if_false, Bool.false_eq_true, sob, ix20, ix21, ix30, ix31, ix32, len2, len3, decI_i, iT, iF, Bool.true_and, Bool.false_and, Bool.not_true, Bool.not_false, Bool.and_true, Bool.and_false, wq_cut_swap, wq_cut_drop, wq_cut_cut, wq_cut_double, wq_cut_grow, ws_cut, ws_swap, ws_grow, ws_drop, ws_double, wt_swap, wt_drop, wt_cut, wt_double, wt_grow, show decide ((2 : Int) = 2 + 0) = true from rfl, show decide ((2 : Int) = 2 + 1) = false from rfl, show decide ((3 : Int) = 2 + 0) = false from rfl, show decide ((3 : Int) = 2 + 1) = true from rfl, Bool.false_eq_true, if_false, if_true, at_0, ct_0, ct_1, cd_1, inr, show decide ((([b] : List Int).length : Int) > 1) = false from rfl]; rfl
  | b :: c :: R, l => by
    unfold l_after
    simp only [decide_true, decide_false, if_true, if_false, Bool.false_eq_true, sob, ix20, ix21, ix30, ix31, ix32, len2, len3, decI_i, iT, iF, Bool.true_and, Bool.false_and, Bool.not_true, Bool.not_false, Bool.and_true, Bool.and_false, wq_cut_swap, wq_cut_drop, wq_cut_cut, wq_cut_double, wq_cut_grow, ws_cut, ws_swap, ws_grow, ws_drop, ws_double, wt_swap, wt_drop, wt_cut, wt_double, wt_grow, show decide ((2 : Int) = 2 + 0) = true from rfl, show decide ((2 : Int) = 2 + 1) = false from rfl, show decide ((3 : Int) = 2 + 0) = false from rfl, show decide ((3 : Int) = 2 + 1) = true from rfl, Bool.false_eq_true, if_false, if_true, at_0, ct_0, ct_1, cd_1, inr, show decide (((b :: c :: R : List Int).length : Int) > 1) = true from decide_eq_true (by simp; omega), at_00, at_01, cut_2]
    rw [oC_c]
    by_cases d : c = h
    · simp only [decide_eq_true d, iT, iF]
      by_cases e : b ∈ [h - 1, h + 1]
      · rw [if_pos (show c = h ∧ b ∈ [h - 1, h + 1] from ⟨d, e⟩)]
        simp only [decide_eq_true e, iT, iF]
        rw [gl (by simp at l ⊢; omega), List.append_assoc]; rfl
      · rw [if_neg (show ¬ (c = h ∧ b ∈ [h - 1, h + 1]) from fun x => e x.2)]
        simp only [decide_eq_false e, iT, iF]; rfl
    · rw [if_neg (show ¬ (c = h ∧ b ∈ [h - 1, h + 1]) from fun x => d x.1)]
      simp only [decide_eq_false d, iT, iF]; rfl
theorem aft2_double_in {R : List Int} (l : A.length + R.length ≤ 900) (c : 0 < r) : l_after n (r, A ++ h :: R) (T2 (Str.ofString "double") A.length) = some (some (r - 1, A ++ h :: h :: R)) := by
  unfold l_after
  simp only [decide_true, decide_false, if_true, if_false, Bool.false_eq_true, sob, ix20, ix21, ix30, ix31, ix32, len2, len3, decI_i, iT, iF, Bool.true_and, Bool.false_and, Bool.not_true, Bool.not_false, Bool.and_true, Bool.and_false, wq_double_swap, wq_double_drop, wq_double_cut, wq_double_double, wq_double_grow, ws_cut, ws_swap, ws_grow, ws_drop, ws_double, wt_swap, wt_drop, wt_cut, wt_double, wt_grow, show decide ((2 : Int) = 2 + 0) = true from rfl, show decide ((2 : Int) = 2 + 1) = false from rfl, show decide ((3 : Int) = 2 + 0) = false from rfl, show decide ((3 : Int) = 2 + 1) = true from rfl, Bool.false_eq_true, if_false, if_true, at_0, ct_0, ct_1, cd_1, inr, decide_eq_true (show r > 0 from c)]
  rw [gl (by simp at l ⊢; omega), gl (by simp at l ⊢; omega)]
  simp
theorem aft2_double_out {R : List Int} (c : ¬ 0 < r) : l_after n (r, A ++ h :: R) (T2 (Str.ofString "double") A.length) = some none := by
  unfold l_after
  simp only [decide_true, decide_false, if_true, if_false, Bool.false_eq_true, sob, ix20, ix21, ix30, ix31, ix32, len2, len3, decI_i, iT, iF, Bool.true_and, Bool.false_and, Bool.not_true, Bool.not_false, Bool.and_true, Bool.and_false, wq_double_swap, wq_double_drop, wq_double_cut, wq_double_double, wq_double_grow, ws_cut, ws_swap, ws_grow, ws_drop, ws_double, wt_swap, wt_drop, wt_cut, wt_double, wt_grow, show decide ((2 : Int) = 2 + 0) = true from rfl, show decide ((2 : Int) = 2 + 1) = false from rfl, show decide ((3 : Int) = 2 + 0) = false from rfl, show decide ((3 : Int) = 2 + 1) = true from rfl, Bool.false_eq_true, if_false, if_true, at_0, ct_0, ct_1, cd_1, inr, decide_eq_false (show ¬ r > 0 from c)]
theorem aft2_grow {R : List Int} : l_after n (r, A ++ h :: R) (T2 (Str.ofString "grow") A.length) = some none := by
  unfold l_after
  simp only [decide_true, decide_false, if_true, if_false, Bool.false_eq_true, sob, ix20, ix21, ix30, ix31, ix32, len2, len3, decI_i, iT, iF, Bool.true_and, Bool.false_and, Bool.not_true, Bool.not_false, Bool.and_true, Bool.and_false, wq_grow_swap, wq_grow_drop, wq_grow_cut, wq_grow_double, wq_grow_grow, ws_cut, ws_swap, ws_grow, ws_drop, ws_double, wt_swap, wt_drop, wt_cut, wt_double, wt_grow, show decide ((2 : Int) = 2 + 0) = true from rfl, show decide ((2 : Int) = 2 + 1) = false from rfl, show decide ((3 : Int) = 2 + 0) = false from rfl, show decide ((3 : Int) = 2 + 1) = true from rfl, Bool.false_eq_true, if_false, if_true, at_0, ct_0, ct_1, cd_1, inr]
theorem aft2_e {R : List Int} : l_after n (r, A ++ h :: R) (T2 (Str.ofString "") A.length) = some none := by
  unfold l_after
  simp only [decide_true, decide_false, if_true, if_false, Bool.false_eq_true, sob, ix20, ix21, ix30, ix31, ix32, len2, len3, decI_i, iT, iF, Bool.true_and, Bool.false_and, Bool.not_true, Bool.not_false, Bool.and_true, Bool.and_false, wq_e_swap, wq_e_drop, wq_e_cut, wq_e_double, wq_e_grow, ws_e, ws_cut, ws_swap, ws_grow, ws_drop, ws_double, wt_swap, wt_drop, wt_cut, wt_double, wt_grow, show decide ((2 : Int) = 2 + 0) = true from rfl, show decide ((2 : Int) = 2 + 1) = false from rfl, show decide ((3 : Int) = 2 + 0) = false from rfl, show decide ((3 : Int) = 2 + 1) = true from rfl, Bool.false_eq_true, if_false, if_true, at_0, ct_0, ct_1, cd_1, inr]
theorem aft2_S {R : List Int} : l_after n (r, A ++ h :: R) (T2 (Str.ofString "Swap") A.length) = some none := by
  unfold l_after
  simp only [decide_true, decide_false, if_true, if_false, Bool.false_eq_true, sob, ix20, ix21, ix30, ix31, ix32, len2, len3, decI_i, iT, iF, Bool.true_and, Bool.false_and, Bool.not_true, Bool.not_false, Bool.and_true, Bool.and_false, wq_S_swap, wq_S_drop, wq_S_cut, wq_S_double, wq_S_grow, ws_cut, ws_swap, ws_grow, ws_drop, ws_S, ws_double, wt_swap, wt_drop, wt_cut, wt_double, wt_grow, show decide ((2 : Int) = 2 + 0) = true from rfl, show decide ((2 : Int) = 2 + 1) = false from rfl, show decide ((3 : Int) = 2 + 0) = false from rfl, show decide ((3 : Int) = 2 + 1) = true from rfl, Bool.false_eq_true, if_false, if_true, at_0, ct_0, ct_1, cd_1, inr]
theorem aft3_grow {R : List Int} (l : A.length + R.length ≤ 900) : l_after n (r, A ++ h :: R) (T3 (Str.ofString "grow") A.length k) = some ((oG n A h R k).map fun x => (r, x)) := by
  unfold l_after
  simp only [decide_true, decide_false, if_true, if_false, Bool.false_eq_true, sob, ix20, ix21, ix30, ix31, ix32, len2, len3, decI_i, iT, iF, Bool.true_and, Bool.false_and, Bool.not_true, Bool.not_false, Bool.and_true, Bool.and_false, wq_grow_swap, wq_grow_drop, wq_grow_cut, wq_grow_double, wq_grow_grow, ws_cut, ws_swap, ws_grow, ws_drop, ws_double, wt_swap, wt_drop, wt_cut, wt_double, wt_grow, show decide ((2 : Int) = 2 + 0) = true from rfl, show decide ((2 : Int) = 2 + 1) = false from rfl, show decide ((3 : Int) = 2 + 0) = false from rfl, show decide ((3 : Int) = 2 + 1) = true from rfl, Bool.false_eq_true, if_false, if_true, at_0, ct_0, ct_1, cd_1, inr]
  unfold oG
  by_cases c : 0 ≤ k ∧ k < n - 1
  · rw [show (decide ((0 : Int) ≤ k) && decide (k < n - 1)) = true from by simp; omega]
    simp only [iT]
    by_cases e : k ∈ [h - 1, h + 1]
    · rw [if_pos (show (0 ≤ k ∧ k < n - 1) ∧ k ∈ [h - 1, h + 1] from ⟨c, e⟩)]
      simp only [decide_eq_true e, iT]
      rw [gl (by simp at l ⊢; omega), gl (by simp at l ⊢; omega)]
      simp
    · rw [if_neg (show ¬ ((0 ≤ k ∧ k < n - 1) ∧ k ∈ [h - 1, h + 1]) from fun x => e x.2)]
      simp only [decide_eq_false e, iF]; rfl
  · rw [show (decide ((0 : Int) ≤ k) && decide (k < n - 1)) = false from by simp; omega]
    rw [if_neg (show ¬ ((0 ≤ k ∧ k < n - 1) ∧ k ∈ [h - 1, h + 1]) from fun x => c x.1)]
    simp only [iF]; rfl
theorem aft3_swap {R : List Int} : l_after n (r, A ++ h :: R) (T3 (Str.ofString "swap") A.length k) = some none := by
  unfold l_after
  simp only [decide_true, decide_false, if_true, if_false, Bool.false_eq_true, sob, ix20, ix21, ix30, ix31, ix32, len2, len3, decI_i, iT, iF, Bool.true_and, Bool.false_and, Bool.not_true, Bool.not_false, Bool.and_true, Bool.and_false, wq_swap_swap, wq_swap_drop, wq_swap_cut, wq_swap_double, wq_swap_grow, ws_cut, ws_swap, ws_grow, ws_drop, ws_double, wt_swap, wt_drop, wt_cut, wt_double, wt_grow, show decide ((2 : Int) = 2 + 0) = true from rfl, show decide ((2 : Int) = 2 + 1) = false from rfl, show decide ((3 : Int) = 2 + 0) = false from rfl, show decide ((3 : Int) = 2 + 1) = true from rfl, Bool.false_eq_true, if_false, if_true, at_0, ct_0, ct_1, cd_1, inr]
theorem aft3_drop {R : List Int} : l_after n (r, A ++ h :: R) (T3 (Str.ofString "drop") A.length k) = some none := by
  unfold l_after
  simp only [decide_true, decide_false, if_true, if_false, Bool.false_eq_true, sob, ix20, ix21, ix30, ix31, ix32, len2, len3, decI_i, iT, iF, Bool.true_and, Bool.false_and, Bool.not_true, Bool.not_false, Bool.and_true, Bool.and_false, wq_drop_swap, wq_drop_drop, wq_drop_cut, wq_drop_double, wq_drop_grow, ws_cut, ws_swap, ws_grow, ws_drop, ws_double, wt_swap, wt_drop, wt_cut, wt_double, wt_grow, show decide ((2 : Int) = 2 + 0) = true from rfl, show decide ((2 : Int) = 2 + 1) = false from rfl, show decide ((3 : Int) = 2 + 0) = false from rfl, show decide ((3 : Int) = 2 + 1) = true from rfl, Bool.false_eq_true, if_false, if_true, at_0, ct_0, ct_1, cd_1, inr]
theorem aft3_cut {R : List Int} : l_after n (r, A ++ h :: R) (T3 (Str.ofString "cut") A.length k) = some none := by
  unfold l_after
  simp only [decide_true, decide_false, if_true, if_false, Bool.false_eq_true, sob, ix20, ix21, ix30, ix31, ix32, len2, len3, decI_i, iT, iF, Bool.true_and, Bool.false_and, Bool.not_true, Bool.not_false, Bool.and_true, Bool.and_false, wq_cut_swap, wq_cut_drop, wq_cut_cut, wq_cut_double, wq_cut_grow, ws_cut, ws_swap, ws_grow, ws_drop, ws_double, wt_swap, wt_drop, wt_cut, wt_double, wt_grow, show decide ((2 : Int) = 2 + 0) = true from rfl, show decide ((2 : Int) = 2 + 1) = false from rfl, show decide ((3 : Int) = 2 + 0) = false from rfl, show decide ((3 : Int) = 2 + 1) = true from rfl, Bool.false_eq_true, if_false, if_true, at_0, ct_0, ct_1, cd_1, inr]
theorem aft3_double {R : List Int} : l_after n (r, A ++ h :: R) (T3 (Str.ofString "double") A.length k) = some none := by
  unfold l_after
  simp only [decide_true, decide_false, if_true, if_false, Bool.false_eq_true, sob, ix20, ix21, ix30, ix31, ix32, len2, len3, decI_i, iT, iF, Bool.true_and, Bool.false_and, Bool.not_true, Bool.not_false, Bool.and_true, Bool.and_false, wq_double_swap, wq_double_drop, wq_double_cut, wq_double_double, wq_double_grow, ws_cut, ws_swap, ws_grow, ws_drop, ws_double, wt_swap, wt_drop, wt_cut, wt_double, wt_grow, show decide ((2 : Int) = 2 + 0) = true from rfl, show decide ((2 : Int) = 2 + 1) = false from rfl, show decide ((3 : Int) = 2 + 0) = false from rfl, show decide ((3 : Int) = 2 + 1) = true from rfl, Bool.false_eq_true, if_false, if_true, at_0, ct_0, ct_1, cd_1, inr]
theorem aft3_e {R : List Int} : l_after n (r, A ++ h :: R) (T3 (Str.ofString "") A.length k) = some none := by
  unfold l_after
  simp only [decide_true, decide_false, if_true, if_false, Bool.false_eq_true, sob, ix20, ix21, ix30, ix31, ix32, len2, len3, decI_i, iT, iF, Bool.true_and, Bool.false_and, Bool.not_true, Bool.not_false, Bool.and_true, Bool.and_false, wq_e_swap, wq_e_drop, wq_e_cut, wq_e_double, wq_e_grow, ws_e, ws_cut, ws_swap, ws_grow, ws_drop, ws_double, wt_swap, wt_drop, wt_cut, wt_double, wt_grow, show decide ((2 : Int) = 2 + 0) = true from rfl, show decide ((2 : Int) = 2 + 1) = false from rfl, show decide ((3 : Int) = 2 + 0) = false from rfl, show decide ((3 : Int) = 2 + 1) = true from rfl, Bool.false_eq_true, if_false, if_true, at_0, ct_0, ct_1, cd_1, inr]
theorem aft3_S {R : List Int} : l_after n (r, A ++ h :: R) (T3 (Str.ofString "Swap") A.length k) = some none := by
  unfold l_after
  simp only [decide_true, decide_false, if_true, if_false, Bool.false_eq_true, sob, ix20, ix21, ix30, ix31, ix32, len2, len3, decI_i, iT, iF, Bool.true_and, Bool.false_and, Bool.not_true, Bool.not_false, Bool.and_true, Bool.and_false, wq_S_swap, wq_S_drop, wq_S_cut, wq_S_double, wq_S_grow, ws_cut, ws_swap, ws_grow, ws_drop, ws_S, ws_double, wt_swap, wt_drop, wt_cut, wt_double, wt_grow, show decide ((2 : Int) = 2 + 0) = true from rfl, show decide ((2 : Int) = 2 + 1) = false from rfl, show decide ((3 : Int) = 2 + 0) = false from rfl, show decide ((3 : Int) = 2 + 1) = true from rfl, Bool.false_eq_true, if_false, if_true, at_0, ct_0, ct_1, cd_1, inr]
end
inductive Tr (n : Int) : Int × List Int → Int × List Int → Prop
  | swap {r h b : Int} {A R : List Int} (c : b ∉ [h - 1, h, h + 1]) : Tr n (r, A ++ h :: b :: R) (r, A ++ b :: h :: R)
  | drop {r h : Int} {A R : List Int} : Tr n (r, A ++ h :: h :: R) (r + 1, A ++ h :: R)
  | cut {r h b : Int} {A R : List Int} (c : b ∈ [h - 1, h + 1]) : Tr n (r, A ++ h :: b :: h :: R) (r, A ++ h :: R)
  | double {r h : Int} {A R : List Int} (c : 0 < r) : Tr n (r, A ++ h :: R) (r - 1, A ++ h :: h :: R)
  | grow {r h k : Int} {A R : List Int} (c : 0 ≤ k ∧ k < n - 1) (d : k ∈ [h - 1, h + 1]) : Tr n (r, A ++ h :: R) (r, A ++ h :: k :: h :: R)
section
variable {n r r' a h k : Int} {A R row x : List Int}
theorem tr_oS : ∀ {R : List Int}, oS A h R = some x → Tr n (r, A ++ h :: R) (r, x)
  | [], e => by cases e
  | b :: R, e => by
    rw [oS_c] at e
    by_cases c : b ∈ [h - 1, h, h + 1]
    · rw [if_pos c] at e; cases e
    · rw [if_neg c] at e; cases e; exact .swap c
theorem tr_oD : ∀ {R : List Int}, oD A h R = some x → Tr n (r, A ++ h :: R) (r + 1, x)
  | [], e => by cases e
  | b :: R, e => by
    rw [oD_c] at e
    by_cases c : b = h
    · rw [if_pos c] at e; cases e; cases c; exact .drop
    · rw [if_neg c] at e; cases e
theorem tr_oC : ∀ {R : List Int}, oC A h R = some x → Tr n (r, A ++ h :: R) (r, x)
  | [], e => by cases e
  | [_], e => by cases e
  | b :: c :: R, e => by
    rw [oC_c] at e
    by_cases d : c = h ∧ b ∈ [h - 1, h + 1]
    · rw [if_pos d] at e; cases e; rw [d.1]; exact .cut d.2
    · rw [if_neg d] at e; cases e
theorem tr_oG (e : oG n A h R k = some x) : Tr n (r, A ++ h :: R) (r, x) := by
  unfold oG at e
  by_cases d : (0 ≤ k ∧ k < n - 1) ∧ k ∈ [h - 1, h + 1]
  · rw [if_pos d] at e; cases e; exact .grow d.1 d.2
  · rw [if_neg d] at e; cases e
def TradeEq (n r : Int) (row : List Int) (v : PyData) : Prop := ∃ (o : Option (List Int)) (r' : Int), l_after n (r, row) v = some (o.map fun x => (r', x)) ∧ p_behind n r row v = some (r', o) ∧ ∀ x, o = some x → Tr n (r, row) (r', x)
theorem mk_none {v : PyData} (e1 : l_after n (r, row) v = some none) (e2 : p_behind n r row v = some (r', none)) : TradeEq n r row v := ⟨none, r', e1, e2, fun x e => by cases e⟩
theorem split_at (h : 0 ≤ a ∧ a < (row.length : Int)) : ∃ (A : List Int) (h : Int) (R : List Int), row = A ++ h :: R ∧ a = (A.length : Int) := by
  have l : a.toNat < row.length := by omega
  refine ⟨row.take a.toNat, row[a.toNat], row.drop (a.toNat + 1), ?_, ?_⟩
  · rw [← List.drop_eq_getElem_cons l, List.take_append_drop]
  · rw [List.length_take]; omega
theorem trade_eq {v : PyData} (hv : TradeOk v) (l : row.length ≤ 900) : TradeEq n r row v := by
  by_cases e : ∃ a, (0 ≤ a ∧ a < (row.length : Int)) ∧ ((∃ w, w ∈ tradeWords ∧ v = T2 w a) ∨ ∃ w k, w ∈ tradeWords ∧ v = T3 w a k)
  · obtain ⟨a, ha, hv⟩ := e
    obtain ⟨A, h, R, rfl, rfl⟩ := split_at ha
    have l : A.length + R.length ≤ 900 := by
      rw [List.length_append, List.length_cons] at l; omega
    rcases hv with ⟨w, hw, rfl⟩ | ⟨w, k, hw, rfl⟩
    · simp only [tradeWords, List.mem_cons, List.not_mem_nil, or_false] at hw
      rcases hw with rfl | rfl | rfl | rfl | rfl | rfl | rfl
      · exact ⟨_, _, aft2_swap l, beh2_swap (swapped_in l), fun x e => tr_oS e⟩
      · exact ⟨_, _, aft2_drop l, beh2_drop (dropped_in l), fun x e => tr_oD e⟩
      · exact ⟨_, _, aft2_cut l, beh2_cut (cut_in l), fun x e => tr_oC e⟩
      · by_cases c : 0 < r
        · exact ⟨some _, _, aft2_double_in l c, beh2_double_in l c, fun x e => by cases e; exact .double c⟩
        · exact mk_none (aft2_double_out c) (beh2_double_out fun z => c z.1)
      · exact mk_none aft2_grow beh2_grow
      · exact mk_none aft2_e beh2_e
      · exact mk_none aft2_S beh2_S
    · simp only [tradeWords, List.mem_cons, List.not_mem_nil, or_false] at hw
      rcases hw with rfl | rfl | rfl | rfl | rfl | rfl | rfl
      · exact mk_none aft3_swap beh3_swap
      · exact mk_none aft3_drop beh3_drop
      · exact mk_none aft3_cut beh3_cut
      · exact mk_none aft3_double beh3_double
      · exact ⟨_, _, aft3_grow l, beh3_grow (grown_in l), fun x e => tr_oG e⟩
      · exact mk_none aft3_e beh3_e
      · exact mk_none aft3_S beh3_S
  · rcases hv with ⟨w, a, hw, rfl⟩ | ⟨w, a, k, hw, rfl⟩
    · have ha : ¬ (0 ≤ a ∧ a < (row.length : Int)) := fun z => e ⟨a, z, .inl ⟨w, hw, rfl⟩⟩
      have ea := after_out2 (n := n) (r := r) w a ha
      simp only [tradeWords, List.mem_cons, List.not_mem_nil, or_false] at hw
      rcases hw with rfl | rfl | rfl | rfl | rfl | rfl | rfl
      · exact mk_none ea (beh2_swap (swapped_out (by omega)))
      · exact mk_none ea (beh2_drop (dropped_out (by omega)))
      · exact mk_none ea (beh2_cut (cut_out (by omega)))
      · exact mk_none ea (beh2_double_out (by omega))
      · exact mk_none ea beh2_grow
      · exact mk_none ea beh2_e
      · exact mk_none ea beh2_S
    · have ha : ¬ (0 ≤ a ∧ a < (row.length : Int)) := fun z => e ⟨a, z, .inr ⟨w, k, hw, rfl⟩⟩
      have ea := after_out3 (n := n) (r := r) w a k ha
      simp only [tradeWords, List.mem_cons, List.not_mem_nil, or_false] at hw
      rcases hw with rfl | rfl | rfl | rfl | rfl | rfl | rfl
      · exact mk_none ea beh3_swap
      · exact mk_none ea beh3_drop
      · exact mk_none ea beh3_cut
      · exact mk_none ea beh3_double
      · exact mk_none ea (beh3_grow (grown_out ha))
      · exact mk_none ea beh3_e
      · exact mk_none ea beh3_S
end
theorem lay2 {w : Str} (a : Int) (h : w ∈ tradeWords) : (T2 w a).canLay0 = true := by
  have e : ∀ w, w ∈ tradeWords → (PyData.str w).canLay0 = true := by decide +kernel
  show (PyData.canLay0 (PyData.str w) && (PyData.canLay0 (PyData.int a) && true)) = true
  rw [e w h]; rfl
theorem lay3 {w : Str} (a k : Int) (h : w ∈ tradeWords) : (T3 w a k).canLay0 = true := by
  have e : ∀ w, w ∈ tradeWords → (PyData.str w).canLay0 = true := by decide +kernel
  show (PyData.canLay0 (PyData.str w) && (PyData.canLay0 (PyData.int a) && (PyData.canLay0 (PyData.int k) && true))) = true
  rw [e w h]; rfl
theorem TradeOk.lay {v : PyData} (h : TradeOk v) : v.canLay0 = true := by
  rcases h with ⟨w, a, hw, rfl⟩ | ⟨w, a, k, hw, rfl⟩
  · exact lay2 a hw
  · exact lay3 a k hw
theorem TradeOk.dep {v : PyData} (h : TradeOk v) : v.depth ≤ 1 := by
  rcases h with ⟨w, a, hw, rfl⟩ | ⟨w, a, k, hw, rfl⟩
  · exact Nat.le_refl 1
  · exact Nat.le_refl 1
theorem trades_lay : ∀ {vs : List PyData}, (∀ v, v ∈ vs → TradeOk v) → PyData.canLayAll0 vs = true ∧ PyData.depthAll vs ≤ 1
  | [], _ => ⟨rfl, Nat.zero_le _⟩
  | v :: vs, h => by
    obtain ⟨i1, i2⟩ := trades_lay fun u hu => h u (List.mem_cons_of_mem _ hu)
    have hv := h v List.mem_cons_self
    refine ⟨?_, ?_⟩
    · show (PyData.canLay0 v && PyData.canLayAll0 vs) = true
      rw [hv.lay, i1]; rfl
    · show max (PyData.depth v) (PyData.depthAll vs) ≤ 1
      exact Nat.max_le.mpr ⟨hv.dep, i2⟩
theorem trades_shaped {vs : List PyData} (h : ∀ v, v ∈ vs → TradeOk v) : SeqAt.shaped ((eL eD) vs) = true := by
  obtain ⟨i1, i2⟩ := trades_lay h
  have e : (eL eD) vs = .list vs := by show PyData.list (vs.map eD) = _; exact congrArg PyData.list (List.map_id vs)
  rw [e]
  unfold SeqAt.shaped
  have d : PyData.depth (.list vs) ≤ 64 := by
    show PyData.depthAll vs + 1 ≤ 64
    omega
  have c : PyData.canLay0 (.list vs) = true := i1
  rw [c, decide_eq_true d]; rfl
theorem comp_filter {α : Type} {t : α → Option Bool} : ∀ {xs : List α}, (∀ x, x ∈ xs → ∃ b, t x = some b) → ∃ ys, compM t (fun x => some x) xs = some ys ∧ ∀ y, y ∈ ys → y ∈ xs
  | [], _ => ⟨[], rfl, fun y h => h⟩
  | x :: xs, h => by
    obtain ⟨ys, e, k⟩ := comp_filter fun y hy => h y (List.mem_cons_of_mem _ hy)
    obtain ⟨b, eb⟩ := h x List.mem_cons_self
    unfold compM
    rw [eb, e]
    cases b with
    | true => exact ⟨x :: ys, rfl, fun y hy => by
        rcases List.mem_cons.mp hy with z | z
        · rw [z]; exact List.mem_cons_self
        · exact List.mem_cons_of_mem _ (k y z)⟩
    | false => exact ⟨ys, rfl, fun y hy => List.mem_cons_of_mem _ (k y hy)⟩
theorem tw2 {w : Str} (a : Int) (h : w ∈ tradeWords) : TradeOk (T2 w a) := .inl ⟨w, a, h, rfl⟩
theorem tw3 {w : Str} (a k : Int) (h : w ∈ tradeWords) : TradeOk (T3 w a k) := .inr ⟨w, a, k, h, rfl⟩
theorem some_loop {p : Int × List Int} : ∀ {xs : List Int} {s : List PyData}, (∀ x, x ∈ xs → 0 ≤ x ∧ x < (p.2.length : Int)) → (∀ v, v ∈ s → TradeOk v) → s.length + 6 * xs.length ≤ 10000 → ∃ s', forS (l_some_trade_for1 p) s xs = some s' ∧ (∀ v, v ∈ s' → TradeOk v)
  | [], s, _, hs, _ => ⟨s, rfl, hs⟩
  | x :: xs, s, hx, hs, l => by
    obtain ⟨x0, x1⟩ := hx x List.mem_cons_self
    obtain ⟨h, eh, _⟩ := at_in x0 x1
    rw [List.length_cons] at l
    have ec : compM (fun (x13 : Int) => (some true)) (fun (x13 : Int) => (Option.bind (atI p.2 x) fun u14 => (some ((eP3 PyData.str PyData.int PyData.int) ((Str.ofString "grow"), x, (u14 + x13)))))) [(-(1 : Int)), (1 : Int)] = some [T3 (Str.ofString "grow") x (h + -1), T3 (Str.ofString "grow") x (h + 1)] := by
      rw [eh]; rfl
    have turn : l_some_trade_for1 p s x = some ((s ++ [T2 (Str.ofString "swap") x, T2 (Str.ofString "drop") x, T2 (Str.ofString "cut") x, T2 (Str.ofString "double") x]) ++ [T3 (Str.ofString "grow") x (h + -1), T3 (Str.ofString "grow") x (h + 1)]) := by
      unfold l_some_trade_for1
      rw [ec, grd_true (by rw [List.length_append]; simp [lim]; omega)]
      simp only [sob]
      rw [grd_true (by rw [List.length_append, List.length_append]; simp [lim]; omega)]
      rfl
    rw [forS_cons, turn, sob]
    refine some_loop (fun y hy => hx y (List.mem_cons_of_mem _ hy)) (fun v hv => ?_) (by rw [List.length_append, List.length_append]; simp; omega)
    rcases List.mem_append.mp hv with hv | hv
    · rcases List.mem_append.mp hv with hv | hv
      · exact hs v hv
      · simp only [List.mem_cons, List.not_mem_nil, or_false] at hv
        rcases hv with rfl | rfl | rfl | rfl <;> exact tw2 _ (by simp [tradeWords])
    · simp only [List.mem_cons, List.not_mem_nil, or_false] at hv
      rcases hv with rfl | rfl <;> exact tw3 _ _ (by simp [tradeWords])
theorem some_trade_ok {ns : List Int} {k n : Int} {p : Int × List Int} (k0 : 0 ≤ k) (hl : ns.length ≤ 63) (l : p.2.length ≤ 100) : ∃ v, l_some_trade ns k n p = some v ∧ TradeOk v := by
  unfold l_some_trade
  obtain ⟨ds, e, dg⟩ := digits_ok (ns := ns) (k := k) (ss := [14, (p.2.length : Int) + 2, 10, (10 : Int) ^ Int.toNat 20]) k0 hl (fun s hs => by
    simp only [List.mem_cons, List.not_mem_nil, or_false] at hs
    rcases hs with rfl | rfl | rfl | rfl
    · decide
    · have : (2 : Int) ^ 200 > 1000000 := by decide
      omega
    · decide
    · decide) (by simp)
  match ds, dg with
  | [a, b, c, d], ⟨a0, a1, b0, b1, c0, c1, d0, d1, _⟩ =>
  rw [e, sob]
  show ∃ v, Option.bind (some (a, b, c, d)) _ = some v ∧ TradeOk v
  simp only [sob]
  obtain ⟨ss, es, ks⟩ := some_loop (p := p) (xs := rng 0 (p.2.length : Int)) (s := []) (fun x hx => mem_rng.mp hx) (fun v h => by cases h) (by rw [rng_len]; simp; omega)
  obtain ⟨us, eu, ku⟩ := comp_filter (t := fun (x19 : PyData) => (Option.bind (l_after n p x19) fun u20 => (some (!u20.isNone)))) (xs := ss) (fun x hx => by
    obtain ⟨o, r', e1, _, _⟩ := trade_eq (n := n) (r := p.1) (row := p.2) (ks x hx) (by omega)
    have e1 : l_after n p x = _ := e1
    rw [e1]
    exact ⟨_, rfl⟩)
  have kt : ∀ v, v ∈ us → TradeOk v := fun v hv => ks v (ku v hv)
  have g22 := grd_true (trades_shaped kt)
  have g23 : grd (SeqAt.shaped ((eL eD) ([] : (List PyData))) = true) = some () := grd_true (trades_shaped (fun v h => by cases h))
  rw [grd_true (rngOk_of (by omega) (by omega)), sob, es, sob, eu, sob]
  simp only [g22, g23, sob]
  by_cases ca : a < 9 ∧ (!PyData.eqv ((eL eD) us) ((eL eD) ([] : (List PyData)))) = true
  · simp only [decide_eq_true ca.1, ca.2, iT, sob]
    have un : us ≠ [] := fun z => by
      have := ca.2
      rw [z] at this
      cases this
    have ul : 0 < (us.length : Int) := by
      have := List.length_pos_iff.mpr un
      omega
    obtain ⟨v, ev, mv⟩ := at_in (xs := us) (Int.emod_nonneg d (by omega)) (Int.emod_lt_of_pos d ul)
    rw [grd_true ul, sob, ev]
    exact ⟨v, rfl, kt v mv⟩
  · have c24 : (if decide (a < 9) = true then some (!PyData.eqv ((eL eD) us) ((eL eD) ([] : (List PyData)))) else some false) = some false := by
      by_cases c9 : a < 9
      · rw [if_pos (decide_eq_true c9)]
        cases z : (!PyData.eqv ((eL eD) us) ((eL eD) ([] : (List PyData))))
        · rfl
        · exact absurd ⟨c9, z⟩ ca
      · rw [if_neg (by simpa using c9)]
    rw [c24]
    simp only [sob, iF]
    by_cases c9 : a = 9
    · rw [if_pos (decide_eq_true c9)]
      obtain ⟨v, ev, mv⟩ := at_in (xs := [c - 1, d, (0 : Int) - d]) (Int.emod_nonneg d (by decide : (3 : Int) ≠ 0)) (Int.emod_lt_of_pos d (by decide))
      rw [ev]
      exact ⟨_, rfl, tw3 _ _ (by simp [tradeWords])⟩
    · rw [if_neg (by simpa using c9)]
      by_cases c10 : a = 10
      · rw [if_pos (decide_eq_true c10), grd_true (by simp [lim])]
        obtain ⟨v, ev, mv⟩ := at_in (xs := [T2 (Str.ofString "grow") (b - 1), T3 (Str.ofString "swap") (b - 1) 0, T2 (Str.ofString "") (b - 1), T2 (Str.ofString "Swap") (b - 1), T2 (Str.ofString "drop") d, T2 (Str.ofString "cut") (0 - d)] ++ [T3 (Str.ofString "drop") (b - 1) 0, T3 (Str.ofString "double") (b - 1) 0, T3 (Str.ofString "cut") (b - 1) 0]) (Int.emod_nonneg d (by decide : (9 : Int) ≠ 0)) (Int.emod_lt_of_pos d (by decide))
        refine ⟨v, ?_, ?_⟩
        · exact congrArg (fun o => Option.bind o fun u => some u) ev
        · simp only [List.cons_append, List.nil_append, List.mem_cons, List.not_mem_nil, or_false] at mv
          rcases mv with rfl | rfl | rfl | rfl | rfl | rfl | rfl | rfl | rfl <;> first | exact tw2 _ (by simp [tradeWords]) | exact tw3 _ _ (by simp [tradeWords])
      · rw [if_neg (by simpa using c10)]
        obtain ⟨v, ev, mv⟩ := at_in (xs := [(Str.ofString "swap"), (Str.ofString "drop"), (Str.ofString "cut"), (Str.ofString "double")]) (Int.emod_nonneg d (by decide : (4 : Int) ≠ 0)) (Int.emod_lt_of_pos d (by decide))
        rw [ev]
        refine ⟨_, rfl, tw2 _ ?_⟩
        simp only [List.mem_cons, List.not_mem_nil, or_false] at mv
        simp only [tradeWords, List.mem_cons, List.not_mem_nil, or_false]
        rcases mv with rfl | rfl | rfl | rfl <;> simp
theorem bind_er {α O : Type} (x : Exn) (r : Exn → O) (k : α → Option O) : bindX (some (.error x)) r k = some (r x) := rfl
theorem try_er {α O : Type} (x : Exn) (k : α → Option O) (h : Exn → Option O) : tryM (some (.error x)) k h = h x := rfl
theorem same_ok {d : PyData} (h : Sm 6 d) : l_same 6 d d = some true := h
abbrev badT (i : Int) : PyData := T2 (Str.ofString "BadTrade") i
abbrev badX (i : Int) : Exn := ⟨"BadTrade", some ("at", .int i)⟩
theorem tr_small {n : Int} {p q : Int × List Int} (t : Tr n p q) (hr : RowOk n p.2) (r0 : 0 ≤ p.1) : RowOk n q.2 ∧ 0 ≤ q.1 ∧ q.2.length ≤ p.2.length + 2 := by
  cases t with
  | @swap r h b A R c => exact ⟨fun i hi => hr i (by simp only [List.mem_append, List.mem_cons] at hi ⊢; rcases hi with a | a | a | a <;> simp [a]), r0, by simp⟩
  | @drop r h A R => exact ⟨fun i hi => hr i (by simp only [List.mem_append, List.mem_cons] at hi ⊢; rcases hi with a | a | a <;> simp [a]), by have : 0 ≤ r := r0; show 0 ≤ r + 1; omega, by simp; omega⟩
  | @cut r h b A R c => exact ⟨fun i hi => hr i (by simp only [List.mem_append, List.mem_cons] at hi ⊢; rcases hi with a | a | a <;> simp [a]), r0, by simp; omega⟩
  | @double r h A R c => exact ⟨fun i hi => hr i (by simp only [List.mem_append, List.mem_cons] at hi ⊢; rcases hi with a | a | a | a <;> simp [a]), by show 0 ≤ r - 1; omega, by simp; omega⟩
  | @grow r h k A R c d =>
    refine ⟨fun i hi => ?_, r0, by simp; omega⟩
    have hi : i ∈ A ++ h :: k :: h :: R := hi
    simp only [List.mem_append, List.mem_cons] at hi
    rcases hi with a | a | a | a | a
    · exact hr i (List.mem_append_left _ a)
    · exact hr i (List.mem_append_right _ (by rw [a]; exact List.mem_cons_self))
    · subst a; omega
    · exact hr i (List.mem_append_right _ (by rw [a]; exact List.mem_cons_self))
    · exact hr i (List.mem_append_right _ (List.mem_cons_of_mem _ a))
theorem forR_in {α S R : Type} {f : S → α → Option (S ⊕ R)} : ∀ {xs ys : List α} {s s' : S}, forR f s xs = some (.inl s') → forR f s (xs ++ ys) = forR f s' ys
  | [], ys, s, s', h => by cases h; rfl
  | x :: xs, ys, s, s', h => by
    rw [forR_cons] at h
    rw [List.cons_append, forR_cons]
    obtain ⟨o, e, h⟩ := Option.bind_eq_some_iff.mp h
    rw [e, Option.bind_some]
    cases o with
    | inl t => exact forR_in h
    | inr r => cases h
theorem forR_out {α S R : Type} {f : S → α → Option (S ⊕ R)} {r : R} : ∀ {xs ys : List α} {s : S}, forR f s xs = some (.inr r) → forR f s (xs ++ ys) = some (.inr r)
  | [], ys, s, h => by cases h
  | x :: xs, ys, s, h => by
    rw [forR_cons] at h
    rw [List.cons_append, forR_cons]
    obtain ⟨o, e, h⟩ := Option.bind_eq_some_iff.mp h
    rw [e, Option.bind_some]
    cases o with
    | inl t => exact forR_out h
    | inr q => exact h
theorem enumF_app {α : Type} : ∀ (i : Int) (xs : List α) (x : α), enumF i (xs ++ [x]) = enumF i xs ++ [(i + xs.length, x)]
  | i, [], x => by show [(i, x)] = [(i + ((0 : Nat) : Int), x)]; simp
  | i, y :: xs, x => by
    show (i, y) :: enumF (i + 1) (xs ++ [x]) = (i, y) :: (enumF (i + 1) xs ++ [(i + ((y :: xs).length : Nat), x)])
    rw [enumF_app (i + 1) xs x, List.length_cons, show i + 1 + (xs.length : Int) = i + ((xs.length + 1 : Nat) : Int) by omega]
theorem enumI_app {α : Type} (xs : List α) (x : α) : enumI (xs ++ [x]) = enumI xs ++ [((xs.length : Int), x)] := by
  unfold enumI
  rw [enumF_app, Int.zero_add]
theorem step_ok {n r r' i : Int} {row x : List Int} {v : PyData} (e : p_behind n r row v = some (r', some x)) : x_walked_for1 n (r, some row) (i, v) = some (.inl (r', some x)) := by
  unfold x_walked_for1
  simp only [sob, e]
  rfl
theorem step_no {n r r' i : Int} {row : List Int} {v : PyData} (e : p_behind n r row v = some (r', none)) : x_walked_for1 n (r, some row) (i, v) = some (.inr (.error (badX i))) := by
  unfold x_walked_for1
  simp only [sob, e]
  rfl
theorem word_in {n b r : Int} {A row : List Int} {ts : List PyData} (h1 : 1 ≤ n) (h10 : n ≤ 10) (hr : RowOk n A) (e : forR (x_walked_for1 n) (b, some A) (enumI ts) = some (.inl (r, some row))) : l_word n (b, A) ts = some (eP PyData.int (eL PyData.int) (r, row)) := by
  unfold l_word x_walked
  rw [ask_row_ok h1 h10 hr, sob, e]
  rfl
theorem word_out {n b i : Int} {A : List Int} {ts : List PyData} (h1 : 1 ≤ n) (h10 : n ≤ 10) (hr : RowOk n A) (e : forR (x_walked_for1 n) (b, some A) (enumI ts) = some (.inr (.error (badX i)))) : l_word n (b, A) ts = some (badT i) := by
  unfold l_word x_walked
  rw [ask_row_ok h1 h10 hr, sob, e]
  have k : kinM (badX i) = some "BadTrade" := if_pos (show Str.ofString "BadTrade" ∈ exNames by decide +kernel)
  have f : fldM "at" (badX i) = some (.int i) := by
    show (if (Str.ofString "at") = (Str.ofString "at") then some (PyData.int i) else none) = _
    exact if_pos rfl
  show Option.bind (tryM (bindX (some (.error (badX i))) _ _) _ _) _ = _
  rw [bind_er, try_er]
  unfold selM
  rw [if_pos (show Str.ofString "BadTrade" ∈ exNames by decide +kernel), if_pos rfl, k, f]
  rfl
structure Iv (n b : Int) (A : List Int) (f x : Int) (s : (Int × List Int) × List PyData × PyData) : Prop where
  row : RowOk n s.1.2
  pos : 0 ≤ s.1.1
  len : s.1.2.length ≤ 60 + 2 * x.toNat
  ts : ∀ v, v ∈ s.2.1 → TradeOk v
  many : s.2.1.length ≤ x.toNat
  due : (s.2.2 = .none ∧ forR (x_walked_for1 n) (b, some A) (enumI s.2.1) = some (.inl (s.1.1, some s.1.2))) ∨ (f < x ∧ ∃ j, s.2.2 = badT j ∧ forR (x_walked_for1 n) (b, some A) (enumI s.2.1) = some (.inr (.error (badX j))))
theorem turn_ok {ms : List Int} {k n b f x : Int} {A : List Int} {s : (Int × List Int) × List PyData × PyData} (h1 : 1 ≤ n) (hl : ms.length ≤ 63) (k0 : 0 ≤ k) (x0 : 0 ≤ x) (x1 : x < 16) (h : Iv n b A f x s) : ∃ s', l_law_for2 ms k n f s x = some s' ∧ Iv n b A f (x + 1) s' := by
  obtain ⟨⟨r, row⟩, ts, due⟩ := s
  have hrow : RowOk n row := h.row
  have hpos : 0 ≤ r := h.pos
  have hlen : row.length ≤ 60 + 2 * x.toNat := h.len
  have hts : ∀ v, v ∈ ts → TradeOk v := h.ts
  have hmany : ts.length ≤ x.toNat := h.many
  have hdue : (due = .none ∧ forR (x_walked_for1 n) (b, some A) (enumI ts) = some (.inl (r, some row))) ∨ (f < x ∧ ∃ j, due = badT j ∧ forR (x_walked_for1 n) (b, some A) (enumI ts) = some (.inr (.error (badX j)))) := h.due
  obtain ⟨v, ev, tv⟩ := some_trade_ok (ns := ms) (k := 5 + 20 * k + x) (n := n) (p := (r, row)) (by omega) hl (by show row.length ≤ 100; omega)
  obtain ⟨o, r', a1, a2, a3⟩ := trade_eq (n := n) (r := r) (row := row) tv (by omega)
  have nx : (x + 1).toNat = x.toNat + 1 := by omega
  have tsx : ∀ t, TradeOk t → ∀ u, u ∈ ts ++ [t] → TradeOk u := fun t ht u hu => by
    rcases List.mem_append.mp hu with hu | hu
    · exact hts u hu
    · rw [List.mem_singleton.mp hu]; exact ht
  unfold l_law_for2
  rw [show l_some_trade ms (5 + 20 * k + x) n ((r, row), ts, due).1 = some v from ev, sob, show l_after n ((r, row), ts, due).1 v = _ from a1, sob]
  by_cases c : x = f
  · rw [decide_eq_true c, if_pos rfl]
    have t : ∃ t, atI [v, T2 (Str.ofString "swap") (row.length : Int)] (if (!(o.map fun x => (r', x)).isNone) then 1 else 0) = some t ∧ TradeOk t ∧ ∃ q, p_behind n r row t = some (q, none) := by
      cases o with
      | none => exact ⟨v, rfl, tv, r', a2⟩
      | some y => exact ⟨_, rfl, .inl ⟨_, _, by decide +kernel, rfl⟩, r, beh2_swap (swapped_out (by omega))⟩
    obtain ⟨t, t1, t2, q, t3⟩ := t
    show ∃ s', Option.bind (atI [v, T2 (Str.ofString "swap") (row.length : Int)] (if (!(o.map fun x => (r', x)).isNone) then 1 else 0)) _ = some s' ∧ _
    rw [t1, sob]
    show ∃ s', Option.bind (app? ts t) _ = some s' ∧ _
    rw [app_ok (by unfold lim; omega), sob]
    refine ⟨_, rfl, hrow, hpos, by show row.length ≤ _; omega, tsx t t2, by show (ts ++ [t]).length ≤ _; rw [List.length_append, List.length_singleton]; omega, .inr ⟨by omega, ts.length, rfl, ?_⟩⟩
    rcases hdue with ⟨_, w⟩ | ⟨z, _⟩
    · show forR _ _ (enumI (ts ++ [t])) = _
      rw [enumI_app, forR_in w, forR_cons, step_no t3]
      rfl
    · omega
  · rw [decide_eq_false c, if_neg (by simp)]
    cases o with
    | none =>
      rw [show (Option.map (fun x => (r', x)) (none : Option (List Int))).isNone = true from rfl, if_neg (by simp)]
      refine ⟨_, rfl, hrow, hpos, by show row.length ≤ _; omega, hts, by show ts.length ≤ _; omega, ?_⟩
      rcases hdue with h | ⟨z, h⟩
      · exact .inl h
      · exact .inr ⟨by omega, h⟩
    | some y =>
      rw [show (Option.map (fun x => (r', x)) (some y)).isNone = false from rfl, if_pos (show (!false) = true from rfl)]
      show ∃ s', Option.bind (app? ts v) _ = some s' ∧ _
      rw [app_ok (by unfold lim; omega), sob]
      obtain ⟨q1, q2, q3⟩ := tr_small (a3 y rfl) hrow hpos
      have q3 : y.length ≤ row.length + 2 := q3
      refine ⟨_, rfl, q1, q2, by show y.length ≤ _; omega, tsx v tv, by show (ts ++ [v]).length ≤ _; rw [List.length_append, List.length_singleton]; omega, ?_⟩
      show (due = .none ∧ forR (x_walked_for1 n) (b, some A) (enumI (ts ++ [v])) = some (.inl (r', some y))) ∨ (f < x + 1 ∧ ∃ j, due = badT j ∧ forR (x_walked_for1 n) (b, some A) (enumI (ts ++ [v])) = some (.inr (.error (badX j))))
      rw [enumI_app]
      rcases hdue with ⟨h, w⟩ | ⟨z, j, h, w⟩
      · refine .inl ⟨h, ?_⟩
        rw [forR_in w, forR_go (step_ok a2)]
        rfl
      · exact .inr ⟨by omega, j, h, forR_out w⟩
theorem turns_ok {ms : List Int} {k n b f : Int} {A : List Int} (h1 : 1 ≤ n) (hl : ms.length ≤ 63) (k0 : 0 ≤ k) : ∀ {d : Nat} {x : Int} {s : (Int × List Int) × List PyData × PyData}, 0 ≤ x → x + d ≤ 16 → Iv n b A f x s → ∃ s', forS (l_law_for2 ms k n f) s (rng x (x + d)) = some s' ∧ Iv n b A f (x + d) s'
  | 0, x, s, _, _, h => ⟨s, by rw [show x + ((0 : Nat) : Int) = x by omega, rng_nil (Int.le_refl x)]; rfl, by rw [show x + ((0 : Nat) : Int) = x by omega]; exact h⟩
  | d + 1, x, s, x0, x1, h => by
    obtain ⟨s1, e1, i1⟩ := turn_ok h1 hl k0 x0 (by omega) h
    obtain ⟨s2, e2, i2⟩ := turns_ok (d := d) (x := x + 1) h1 hl k0 (by omega) (by omega) i1
    refine ⟨s2, ?_, by rw [show x + ((d + 1 : Nat) : Int) = x + 1 + (d : Int) by omega]; exact i2⟩
    rw [show x + ((d + 1 : Nat) : Int) = x + 1 + (d : Int) by omega, rng_cons (by omega), forS_cons, e1, Option.bind_some]
    exact e2
theorem eqv_tr {v : PyData} (h : TradeOk v) : PyData.eqv v v = true := by
  rcases h with ⟨w, a, _, rfl⟩ | ⟨w, a, k, _, rfl⟩
  · show ((w == w) && ((a == a) && true)) = true
    simp
  · show ((w == w) && ((a == a) && ((k == k) && true))) = true
    simp
theorem eqv_all {vs : List PyData} (h : ∀ v, v ∈ vs → PyData.eqv v v = true) : PyData.eqvAll vs vs = true := by
  induction vs with
  | nil => rfl
  | cons v vs ih =>
    show (PyData.eqv v v && PyData.eqvAll vs vs) = true
    rw [h v List.mem_cons_self, ih fun u hu => h u (List.mem_cons_of_mem _ hu)]; rfl
theorem lay_ints : ∀ A : List Int, PyData.canLayAll0 (A.map PyData.int) = true ∧ PyData.depthAll (A.map PyData.int) = 0
  | [] => ⟨rfl, rfl⟩
  | a :: A => by
    obtain ⟨i1, i2⟩ := lay_ints A
    refine ⟨?_, ?_⟩
    · show (true && PyData.canLayAll0 (A.map PyData.int)) = true
      rw [i1]; rfl
    · show max 0 (PyData.depthAll (A.map PyData.int)) = 0
      rw [i2]; rfl
theorem kept_ok {A : List Int} {ts : List PyData} (h : ∀ v, v ∈ ts → TradeOk v) : SeqAt.shaped ((eL eD) [(eL PyData.int) A, (eL eD) ts]) = true ∧ PyData.eqv ((eL eD) [(eL PyData.int) A, (eL eD) ts]) ((eL eD) [(eL PyData.int) A, (eL eD) ts]) = true := by
  obtain ⟨i1, i2⟩ := lay_ints A
  obtain ⟨t1, t2⟩ := trades_lay h
  have e : ts.map eD = ts := List.map_id ts
  refine ⟨?_, ?_⟩
  · unfold SeqAt.shaped
    have c : PyData.canLay0 ((eL eD) [(eL PyData.int) A, (eL eD) ts]) = true := by
      show (PyData.canLayAll0 (A.map PyData.int) && (PyData.canLayAll0 (ts.map eD) && true)) = true
      rw [e, i1, t1]; rfl
    have d : PyData.depth ((eL eD) [(eL PyData.int) A, (eL eD) ts]) ≤ 64 := by
      show max (PyData.depthAll (A.map PyData.int) + 1) (max (PyData.depthAll (ts.map eD) + 1) 0) + 1 ≤ 64
      rw [e, i2]
      omega
    rw [c, decide_eq_true d]; rfl
  · show (PyData.eqvAll (A.map PyData.int) (A.map PyData.int) && (PyData.eqvAll (ts.map eD) (ts.map eD) && true)) = true
    rw [e, eqv_all (vs := ts) fun v hv => eqv_tr (h v hv), eqv_all fun v hv => by
      obtain ⟨a, _, rfl⟩ := List.mem_map.mp hv
      show (a == a) = true
      simp]
    rfl
theorem law_turn {ms : List Int} {k : Int} (hl : ms.length ≤ 63) (k0 : 0 ≤ k) : l_law_for1 ms () k = some (.inl ()) := by
  unfold l_law_for1
  obtain ⟨ds, e, dg⟩ := digits_ok (ns := ms) (k := 60 + k) (ss := [9, 6, 13, 16, 32]) (by omega) hl (fun s hs => by
    simp only [List.mem_cons, List.not_mem_nil, or_false] at hs
    rcases hs with rfl | rfl | rfl | rfl | rfl <;> decide) (by decide)
  match ds, dg with
  | [a, b, c, d, f], ⟨a0, a1, b0, b1, c0, c1, d0, d1, f0, f1, _⟩ =>
  rw [e, sob]
  show Option.bind (some (a, b, c, d, f)) _ = _
  rw [sob, sob]
  have h1 : 1 ≤ 2 + a := by omega
  have h10 : 2 + a ≤ 10 := by omega
  generalize 2 + a = n at h1 h10
  obtain ⟨A, eA, rA, lA⟩ := hooks_any (n := n) (k := 2 * k) (z := c) h1 (by omega) hl c0 (by omega)
  show Option.bind (l_hooks ms (2 * k) n c) _ = _
  rw [eA, sob, sob, sob]
  show Option.bind (grd (rngOk d)) _ = _
  rw [grd_true (rngOk_of (by omega) (by omega)), sob]
  have i0 : Iv n b A f 0 ((b, A), ([] : List PyData), eN ()) := ⟨rA, b0, by show A.length ≤ _; omega, (fun v hv => nomatch hv), Nat.zero_le _, .inl ⟨rfl, rfl⟩⟩
  obtain ⟨s, es, i⟩ := turns_ok (ms := ms) (k := k) (d := d.toNat) (x := 0) h1 hl k0 (Int.le_refl 0) (by omega) i0
  rw [show (0 : Int) + (d.toNat : Int) = d by omega] at es i
  show Option.bind (forS (l_law_for2 ms k n f) ((b, A), ([] : List PyData), eN ()) (rng 0 d)) _ = _
  rw [es, sob]
  obtain ⟨⟨r, row⟩, ts, due⟩ := s
  have hts : ∀ v, v ∈ ts → TradeOk v := i.ts
  have hdue : (due = .none ∧ forR (x_walked_for1 n) (b, some A) (enumI ts) = some (.inl (r, some row))) ∨ (f < d ∧ ∃ j, due = badT j ∧ forR (x_walked_for1 n) (b, some A) (enumI ts) = some (.inr (.error (badX j)))) := i.due
  have hlen : row.length ≤ 60 + 2 * d.toNat := i.len
  obtain ⟨z1, z2⟩ := kept_ok (A := A) hts
  have w0 : l_word 1 (b, []) [] = some (eP PyData.int (eL PyData.int) (b, [])) := word_in (by decide) (by decide) row_nil rfl
  have w1 : l_word 1 (b, []) [T2 (Str.ofString "double") 0] = some (badT 0) := word_out (by decide) (by decide) row_nil (by
    show forR _ _ [((0 : Int), T2 (Str.ofString "double") 0)] = _
    rw [forR_cons, step_no (beh2_double_out (by simp))]
    rfl)
  have tail : (Option.bind (l_word (1 : Int) (b, ([] : List Int)) ([] : (List PyData))) (fun u30 => (Option.bind (l_word (1 : Int) (b, ([] : (List Int))) ([((eP PyData.str PyData.int) ((Str.ofString "double"), (0 : Int)))])) fun u31 => (Option.bind (some (([u30, u31]) : (List PyData))) fun v_bare_32 => (Option.bind (l_same 6 ((eL eD) v_bare_32) ((eL eD) ([((eP PyData.int (eL eD)) (b, ([] : (List PyData)))), ((eP PyData.str PyData.int) ((Str.ofString "BadTrade"), (0 : Int)))]))) fun u33 => (if (!u33) = true then ((some false)).map Sum.inr else (Option.bind (grd (SeqAt.shaped ((eL eD) ([((eL PyData.int) A), ((eL eD) ts)])) = true)) fun g34 => (Option.bind (grd (SeqAt.shaped ((eL eD) ([((eL PyData.int) A), ((eL eD) ts)])) = true)) fun g35 => (if (!(PyData.eqv ((eL eD) ([((eL PyData.int) A), ((eL eD) ts)])) ((eL eD) ([((eL PyData.int) A), ((eL eD) ts)])))) = true then ((some false)).map Sum.inr else (some (Sum.inl ())))))))))) : Option (Unit ⊕ Bool)) = some (.inl ()) := by
    rw [w0, sob, show l_word (1 : Int) (b, ([] : (List Int))) ([((eP PyData.str PyData.int) ((Str.ofString "double"), (0 : Int)))]) = some (badT 0) from w1, sob, sob]
    show Option.bind (l_same 6 (.list [eP PyData.int (eL PyData.int) (b, []), badT 0]) (.list [eP PyData.int (eL PyData.int) (b, []), badT 0])) _ = _
    rw [same_ok (.pairl (.pair (.int 3 b) (.intl 2 [])) (.pair (.str 3 _) (.int 3 0))), sob, if_neg (by simp), grd_true z1, sob, sob, z2]
    rfl
  rcases hdue with ⟨rfl, w⟩ | ⟨_, j, rfl, w⟩
  · rw [show (if isNone ((r, row), ts, PyData.none).2.2 = true then some ((eP PyData.int (eL PyData.int)) ((r, row), ts, PyData.none).1) else some ((r, row), ts, PyData.none).2.2) = some ((eP PyData.int (eL PyData.int)) (r, row)) from rfl, sob, sob]
    show Option.bind (l_word n (b, A) ts) _ = _
    rw [word_in h1 h10 rA w, sob, same_ok (.pair (.int 4 r) (.intl 3 row)), sob, if_neg (by simp), show ixDc (eP PyData.int (eL PyData.int) (r, row)) 1 = some (eL PyData.int row) from rfl, sob, show isLD (eL PyData.int row) = true from rfl, if_pos rfl, show appY? (eP PyData.int (eL PyData.int) (r, row)) = some () from by
      show (if (row.map PyData.int).length < lim then some () else none) = _
      rw [List.length_map, if_pos (by unfold lim; omega)], sob, sob]
    exact tail
  · rw [show (if isNone ((r, row), ts, badT j).2.2 = true then some ((eP PyData.int (eL PyData.int)) ((r, row), ts, badT j).1) else some ((r, row), ts, badT j).2.2) = some (badT j) from rfl, sob, sob]
    show Option.bind (l_word n (b, A) ts) _ = _
    rw [word_out h1 h10 rA w, sob, same_ok (.pair (.str 4 _) (.int 4 j)), sob, if_neg (by simp), show ixDc (badT j) 1 = some (PyData.int j) from rfl, sob, show isLD (PyData.int j) = false from rfl, if_neg (by simp), sob]
    exact tail
theorem law_true : ∀ ns : List Int, ns.length ≤ 63 → l_law ns = some true := by
  intro ns hns
  unfold l_law
  rw [sob]
  have l63 : (cutA ns none (some 63)).length ≤ 63 := Nat.le_trans cutA_len hns
  generalize cutA ns none (some 63) = ms at l63 ⊢
  rw [forR_all (fun k hk => law_turn l63 (mem_rng.mp hk).1)]
  rfl
end Rb.M_k31

set_option Elab.async false
set_option linter.all false
set_option maxRecDepth 100000
set_option maxHeartbeats 0
namespace Rb.M_k31
open PySem PySem.Spec PyProof.Rows L2 Rb
structure Tx (K : PySem.W.Frag) (mg : Str → Option Value) : Prop where
  dum : True
  cls_BadFrame : mg "BadFrame" = some (.ref (He.ga K "BadFrame"))
  cls_BadHalf : mg "BadHalf" = some (.ref (He.ga K "BadHalf"))
  cls_BadHook : mg "BadHook" = some (.ref (He.ga K "BadHook"))
  cls_BadName : mg "BadName" = some (.ref (He.ga K "BadName"))
  cls_BadPage : mg "BadPage" = some (.ref (He.ga K "BadPage"))
  cls_BadPegs : mg "BadPegs" = some (.ref (He.ga K "BadPegs"))
  cls_BadTrade : mg "BadTrade" = some (.ref (He.ga K "BadTrade"))
  cls_Full : mg "Full" = some (.ref (He.ga K "Full"))
  cls_Hangs : mg "Hangs" = some (.ref (He.ga K "Hangs"))
  cls_NoFrame : mg "NoFrame" = some (.ref (He.ga K "NoFrame"))
  cls_NoNumber : mg "NoNumber" = some (.ref (He.ga K "NoNumber"))
  cls_NoPlace : mg "NoPlace" = some (.ref (He.ga K "NoPlace"))
  cls_NoStack : mg "NoStack" = some (.ref (He.ga K "NoStack"))
  cls_NothingThere : mg "NothingThere" = some (.ref (He.ga K "NothingThere"))
  cls_Taken : mg "Taken" = some (.ref (He.ga K "Taken"))
  exB : exB K = true
  oex_BadTrade : OexF K "at" "BadTrade"
  ValueError : mg "ValueError" = none
  abs : mg "abs" = none
  all : mg "all" = none
  bool : mg "bool" = none
  enumerate : mg "enumerate" = none
  int : mg "int" = none
  isinstance : mg "isinstance" = none
  len : mg "len" = none
  list : mg "list" = none
  max : mg "max" = none
  min : mg "min" = none
  range : mg "range" = none
  str : mg "str" = none
  tuple : mg "tuple" = none
  zip : mg "zip" = none
  MOST_PEGS : ∃ t, mg "MOST_PEGS" = some (.int 10 t)
abbrev encR_p_ask_pegs (_ : Unit) : Out := .nx [.un]
abbrev st_p_ask_pegs : Stmt := top 19
abbrev NN_p_ask_pegs : List Str := ["pegs"]
theorem sc_p_ask_pegs : FnScope NN_p_ask_pegs ["pegs"] (defScope st_p_ask_pegs) := ⟨rfl, rfl, rfl, by decide +kernel, rfl, by decide +kernel, by decide +kernel⟩
abbrev I_p_ask_pegs : List PyData → Rv → Prop := Im (fun (a : (Int)) => [PyData.int a]) (fun (y : Unit) => Rv.sh (eN y)) (fun a => p_ask_pegs a)
theorem fn_p_ask_pegs {P : Program} {w : World} {K : PySem.W.Frag} {mg : Str → Option Value} {base : Heap} {f : Addr} {fd : FuncData} (F : FunD K "ask_pegs" "ask_pegs" (defArgs st_p_ask_pegs) (defBody st_p_ask_pegs) (defScope st_p_ask_pegs) [] [] f fd) (hg : mg "ask_pegs" = some (.ref f)) (T : Tx K mg)  : Fn P w K mg base "ask_pegs" 1 I_p_ask_pegs := by
  refine ⟨f, fd, ["pegs"], fn_ok (N := NN_p_ask_pegs) (en := encR_p_ask_pegs) F sc_p_ask_pegs (fun _ => rfl) (fun _ => .inr ⟨rfl, _, rfl⟩) (fun cdv A' outer s H E hr => ⟨_, (pss_cons (ps_if (pt_not (pt_chain op_le op_le pe_int (pv 0) (pe_const (by rfl) T.MOST_PEGS))) pss_never pss_nil) pss_nil), fun v_pegs => ?_⟩), hg, F.kp, F.bindsN fun _ _ _ _ _ _ us hl => match us, hl with | [_], _ => rfl⟩
  exact (show BX K _ [.sh (PyData.int v_pegs)] encR_p_ask_pegs (p_ask_pegs v_pegs) from
   (bx_ifNo (et_not (et_of (ex_chain (p := fun i j => decide (i ≤ j)) (p' := fun i j => decide (i ≤ j)) (fun _ _ => rfl) (fun _ _ => rfl) ex_int (ex_var (i := 0) rfl) ex_int))) (fun _ => (bx_nx (.un .nil) rfl))))
abbrev encR_p_ask_hook (_ : Unit) : Out := .nx [.un, .un]
abbrev st_p_ask_hook : Stmt := top 21
abbrev NN_p_ask_hook : List Str := ["pegs", "number"]
theorem sc_p_ask_hook : FnScope NN_p_ask_hook ["pegs", "number"] (defScope st_p_ask_hook) := ⟨rfl, rfl, rfl, by decide +kernel, rfl, by decide +kernel, by decide +kernel⟩
abbrev I_p_ask_hook : List PyData → Rv → Prop := Im (fun (a : (Int × Int)) => [PyData.int a.1, PyData.int a.2]) (fun (y : Unit) => Rv.sh (eN y)) (fun a => p_ask_hook a.1 a.2)
theorem fn_p_ask_hook {P : Program} {w : World} {K : PySem.W.Frag} {mg : Str → Option Value} {base : Heap} {f : Addr} {fd : FuncData} (F : FunD K "ask_hook" "ask_hook" (defArgs st_p_ask_hook) (defBody st_p_ask_hook) (defScope st_p_ask_hook) [] [] f fd) (hg : mg "ask_hook" = some (.ref f)) (T : Tx K mg)  : Fn P w K mg base "ask_hook" 1 I_p_ask_hook := by
  refine ⟨f, fd, ["pegs", "number"], fn_ok (N := NN_p_ask_hook) (en := encR_p_ask_hook) F sc_p_ask_hook (fun _ => rfl) (fun _ => .inr ⟨rfl, _, rfl⟩) (fun cdv A' outer s H E hr => ⟨_, (pss_cons (ps_if (pt_not (pt_chain op_le op_lt pe_int (pv 1) (pe_op op_sub (pv 0) pe_int))) pss_never pss_nil) pss_nil), fun a => ?_⟩), hg, F.kp, F.bindsN fun _ _ _ _ _ _ us hl => match us, hl with | [_, _], _ => rfl⟩
  obtain ⟨v_pegs, v_number⟩ := a
  exact (show BX K _ [.sh (PyData.int v_pegs), .sh (PyData.int v_number)] encR_p_ask_hook (p_ask_hook v_pegs v_number) from
   (bx_ifNo (et_not (et_of (ex_chain (p := fun i j => decide (i ≤ j)) (p' := fun i j => decide (i < j)) (fun _ _ => rfl) (fun _ _ => rfl) ex_int (ex_var (i := 1) rfl) (ex_sub (ex_var (i := 0) rfl) ex_int)))) (fun _ => (bx_nx (.un (.un .nil)) rfl))))
abbrev encR_p_ask_row (_ : Unit) : Out := .nx [.un, .un, .un]
abbrev st_p_ask_row : Stmt := top 22
abbrev NN_p_ask_row : List Str := ["pegs", "row", "number"]
theorem sc_p_ask_row : FnScope NN_p_ask_row ["pegs", "row"] (defScope st_p_ask_row) := ⟨rfl, rfl, rfl, by decide +kernel, rfl, by decide +kernel, by decide +kernel⟩
abbrev I_p_ask_row : List PyData → Rv → Prop := Im (fun (a : (Int × (List Int))) => [PyData.int a.1, (eL PyData.int) a.2]) (fun (y : Unit) => Rv.sh (eN y)) (fun a => p_ask_row a.1 a.2)
theorem fn_p_ask_row {P : Program} {w : World} {K : PySem.W.Frag} {mg : Str → Option Value} {base : Heap} {f : Addr} {fd : FuncData} (F : FunD K "ask_row" "ask_row" (defArgs st_p_ask_row) (defBody st_p_ask_row) (defScope st_p_ask_row) [] [] f fd) (hg : mg "ask_row" = some (.ref f)) (T : Tx K mg) (G_ask_pegs : Fn P w K mg base "ask_pegs" 1 I_p_ask_pegs) (G_ask_hook : Fn P w K mg base "ask_hook" 1 I_p_ask_hook) : Fn P w K mg base "ask_row" 2 I_p_ask_row := by
  refine ⟨f, fd, ["pegs", "row"], fn_ok (N := NN_p_ask_row) (en := encR_p_ask_row) F sc_p_ask_row (fun _ => rfl) (fun _ => .inr ⟨rfl, _, rfl⟩) (fun cdv A' outer s H E hr => ⟨_, (pss_cons (ps_expr (pe_fn G_ask_pegs (hr.mono (by decide)) (by rfl) (pa_cons (pv 0) pa_nil))) (pss_cons (ps_for PassesOwn.never rfl (pi_listK (K := K) (pv 1)) (pg_name (i := 2) sc_p_ask_row.nd rfl (by first | exact Or.inl rfl | exact Or.inr rfl)) (pss_cons (ps_expr (pe_fn G_ask_hook (hr.mono (by decide)) (by rfl) (pa_cons (pv 0) (pa_cons (pv 2) pa_nil)))) pss_nil)) pss_nil)), fun a => ?_⟩), hg, F.kp, F.bindsN fun _ _ _ _ _ _ us hl => match us, hl with | [_, _], _ => rfl⟩
  obtain ⟨v_pegs, v_row⟩ := a
  exact (show BX K _ [.sh (PyData.int v_pegs), .sh ((eL PyData.int) v_row), .un] encR_p_ask_row (p_ask_row v_pegs v_row) from
   (bx_bind fun u1 hu1 => (bx_drop (ex_call (ea_cons (ex_var (i := 0) rfl) ea_nil) ⟨v_pegs, u1, rfl, hu1, rfl⟩) (bx_then (envS := (fun (s_1 : Unit) => [.sh (PyData.int v_pegs), .sh ((eL PyData.int) v_row), .un])) (bx_forS (envS := (fun (s_1 : Unit) => [.sh (PyData.int v_pegs), .sh ((eL PyData.int) v_row), .un])) (e := PyData.int) (envB := (fun (s_1 : Unit) (x2 : Int) => [.sh (PyData.int v_pegs), .sh ((eL PyData.int) v_row), .sh (PyData.int x2)])) (f := (p_ask_row_for1 v_pegs)) (eis_list (ex_var (i := 1) rfl)) (.same (.same (.un .nil))) (fun s_1 x2 _ => EGc.eg (vs := [2]) (egc_name (i := 2) (by decide))) (fun s_1 x2 _ => (bx_bind fun u3 hu3 => (bx_drop (ex_call (ea_cons (ex_var (i := 0) rfl) (ea_cons (ex_var (i := 2) rfl) ea_nil)) ⟨(v_pegs, x2), u3, rfl, hu3, rfl⟩) (bx_nx (.same (.same (.un .nil))) rfl))))) (fun s4 _ => (bx_nx (.un (.un (.un .nil))) rfl))))))
abbrev encR_p_beside (y : Bool) : Out := .rt (.sh (PyData.bool y))
abbrev st_p_beside : Stmt := top 24
abbrev NN_p_beside : List Str := ["one", "other"]
theorem sc_p_beside : FnScope NN_p_beside ["one", "other"] (defScope st_p_beside) := ⟨rfl, rfl, rfl, by decide +kernel, rfl, by decide +kernel, by decide +kernel⟩
abbrev I_p_beside : List PyData → Rv → Prop := Im (fun (a : (Int × Int)) => [PyData.int a.1, PyData.int a.2]) (fun (y : Bool) => Rv.sh (PyData.bool y)) (fun a => p_beside a.1 a.2)
theorem fn_p_beside {P : Program} {w : World} {K : PySem.W.Frag} {mg : Str → Option Value} {base : Heap} {f : Addr} {fd : FuncData} (F : FunD K "beside" "beside" (defArgs st_p_beside) (defBody st_p_beside) (defScope st_p_beside) [] [] f fd) (hg : mg "beside" = some (.ref f)) (T : Tx K mg)  : Fn P w K mg base "beside" 1 I_p_beside := by
  refine ⟨f, fd, ["one", "other"], fn_ok (N := NN_p_beside) (en := encR_p_beside) F sc_p_beside (fun _ => rfl) (fun _ => .inl rfl) (fun cdv A' outer s H E hr => ⟨_, (pss_cons (ps_ret (pe_cmpR op_eq (pe_callB call_abs (by rfl) T.abs (by decide +kernel) (pa_cons (pe_op op_sub (pv 0) (pv 1)) pa_nil)) pe_int (nomark _))) pss_never), fun a => ?_⟩), hg, F.kp, F.bindsN fun _ _ _ _ _ _ us hl => match us, hl with | [_, _], _ => rfl⟩
  obtain ⟨v_one, v_other⟩ := a
  exact (show BX K _ [.sh (PyData.int v_one), .sh (PyData.int v_other)] encR_p_beside (p_beside v_one v_other) from
   (bx_retS (ex_eqI (ex_abs (ex_sub (ex_var (i := 0) rfl) (ex_var (i := 1) rfl))) ex_int) rfl))
abbrev encR_p_swapped (y : (Option (List Int))) : Out := .rt (rvO PyData.int y)
abbrev st_p_swapped : Stmt := top 25
abbrev NN_p_swapped : List Str := ["row", "at"]
theorem sc_p_swapped : FnScope NN_p_swapped ["row", "at"] (defScope st_p_swapped) := ⟨rfl, rfl, rfl, by decide +kernel, rfl, by decide +kernel, by decide +kernel⟩
abbrev I_p_swapped : List PyData → Rv → Prop := Im (fun (a : ((List Int) × Int)) => [(eL PyData.int) a.1, PyData.int a.2]) (rvO PyData.int) (fun a => p_swapped a.1 a.2)
theorem fn_p_swapped {P : Program} {w : World} {K : PySem.W.Frag} {mg : Str → Option Value} {base : Heap} {f : Addr} {fd : FuncData} (F : FunD K "swapped" "swapped" (defArgs st_p_swapped) (defBody st_p_swapped) (defScope st_p_swapped) [] [] f fd) (hg : mg "swapped" = some (.ref f)) (T : Tx K mg)  : Fn P w K mg base "swapped" 1 I_p_swapped := by
  refine ⟨f, fd, ["row", "at"], fn_ok (N := NN_p_swapped) (en := encR_p_swapped) F sc_p_swapped (fun _ => rfl) (fun _ => .inl rfl) (fun cdv A' outer s H E hr => ⟨_, (pss_cons (ps_if (PW.pt (pw_or (pt_not (pt_chain op_le op_lt pe_int (pv 1) (pe_op op_sub (pe_callB (call_lenK (K := K)) (by rfl) T.len (by decide +kernel) (pa_cons (pv 0) pa_nil)) pe_int))) (pw_or1 (pt_cmpR op_lt (pe_callB call_abs (by rfl) T.abs (by decide +kernel) (pa_cons (pe_op op_sub (pe_ix (ix_listK (K := K)) (pv 0) (pv 1) (fun _ _ => rfl)) (pe_ix (ix_listK (K := K)) (pv 0) (pe_op op_add (pv 1) pe_int) (fun _ _ => rfl))) pa_nil)) pe_int (nomark _))))) (pss_cons (ps_ret pe_non) pss_never) pss_nil) (pss_cons (ps_ret (pe_op op_cat (pe_op op_cat (pe_slice (sl_listK (K := K)) (pv 0) po_none (po_some (pv 1))) (pe_lst (pa_cons (pe_ix (ix_listK (K := K)) (pv 0) (pe_op op_add (pv 1) pe_int) (fun _ _ => rfl)) (pa_cons (pe_ix (ix_listK (K := K)) (pv 0) (pv 1) (fun _ _ => rfl)) pa_nil)))) (pe_slice (sl_listK (K := K)) (pv 0) (po_some (pe_op op_add (pv 1) pe_int)) po_none))) pss_never)), fun a => ?_⟩), hg, F.kp, F.bindsN fun _ _ _ _ _ _ us hl => match us, hl with | [_, _], _ => rfl⟩
  obtain ⟨v_row, v_at⟩ := a
  exact (show BX K _ [.sh ((eL PyData.int) v_row), .sh (PyData.int v_at)] encR_p_swapped (p_swapped v_row v_at) from
   (bx_bind fun c3 hc3 => (bx_ifRet ((eto_or (eto_some (et_not (et_of (ex_chain (p := fun i j => decide (i ≤ j)) (p' := fun i j => decide (i < j)) (fun _ _ => rfl) (fun _ _ => rfl) ex_int (ex_var (i := 1) rfl) (ex_sub (ex_lenL (EX.l (ex_var (i := 0) rfl))) ex_int))))) (eto_bind fun u1 hu1 => (eto_bind fun u2 hu2 => (eto_some (et_of (ex_lt (ex_abs (ex_sub (ex_ixL (EX.l (ex_var (i := 0) rfl)) (ex_var (i := 1) rfl) (atI_map hu1)) (ex_ixL (EX.l (ex_var (i := 0) rfl)) (ex_add (ex_var (i := 1) rfl) ex_int) (atI_map hu2)))) ex_int)))))) c3 hc3) (fun _ => (bx_retS ex_non rfl)) (fun _ _ _ h => nomatch h) (fun _ => (bx_bind fun u4 hu4 => (bx_bind fun u5 hu5 => (bx_bind fun g6 hg6 => (bx_bind fun g7 hg7 => (bx_retSW (exw_catT (EXw.l (exw_catT (EXw.l (exw_sl (EX.l (ex_var (i := 0) rfl)) eo_none (eo_some (ex_var (i := 1) rfl)))) (EXw.l (exw_lst (ds := ([u4, u5] : (List Int)).map PyData.int) (ea_cons (ex_ixL (EX.l (ex_var (i := 0) rfl)) (ex_add (ex_var (i := 1) rfl) ex_int) (atI_map hu4)) (ea_cons (ex_ixL (EX.l (ex_var (i := 0) rfl)) (ex_var (i := 1) rfl) (atI_map hu5)) ea_nil)) (Nat.le_of_ble_eq_true rfl))) (grd_ok hg6))) (EXw.l (exw_sl (EX.l (ex_var (i := 0) rfl)) (eo_some (ex_add (ex_var (i := 1) rfl) ex_int)) eo_none)) (grd_ok hg7)) rfl)))))))))
abbrev encR_p_dropped (y : (Option (List Int))) : Out := .rt (rvO PyData.int y)
abbrev st_p_dropped : Stmt := top 26
abbrev NN_p_dropped : List Str := ["row", "at"]
theorem sc_p_dropped : FnScope NN_p_dropped ["row", "at"] (defScope st_p_dropped) := ⟨rfl, rfl, rfl, by decide +kernel, rfl, by decide +kernel, by decide +kernel⟩
abbrev I_p_dropped : List PyData → Rv → Prop := Im (fun (a : ((List Int) × Int)) => [(eL PyData.int) a.1, PyData.int a.2]) (rvO PyData.int) (fun a => p_dropped a.1 a.2)
theorem fn_p_dropped {P : Program} {w : World} {K : PySem.W.Frag} {mg : Str → Option Value} {base : Heap} {f : Addr} {fd : FuncData} (F : FunD K "dropped" "dropped" (defArgs st_p_dropped) (defBody st_p_dropped) (defScope st_p_dropped) [] [] f fd) (hg : mg "dropped" = some (.ref f)) (T : Tx K mg)  : Fn P w K mg base "dropped" 1 I_p_dropped := by
  refine ⟨f, fd, ["row", "at"], fn_ok (N := NN_p_dropped) (en := encR_p_dropped) F sc_p_dropped (fun _ => rfl) (fun _ => .inl rfl) (fun cdv A' outer s H E hr => ⟨_, (pss_cons (ps_if (PW.pt (pw_or (pt_not (pt_chain op_le op_lt pe_int (pv 1) (pe_op op_sub (pe_callB (call_lenK (K := K)) (by rfl) T.len (by decide +kernel) (pa_cons (pv 0) pa_nil)) pe_int))) (pw_or1 (pt_cmpR op_ne (pe_ix (ix_listK (K := K)) (pv 0) (pv 1) (fun _ _ => rfl)) (pe_ix (ix_listK (K := K)) (pv 0) (pe_op op_add (pv 1) pe_int) (fun _ _ => rfl)) (nomark _))))) (pss_cons (ps_ret pe_non) pss_never) pss_nil) (pss_cons (ps_ret (pe_op op_cat (pe_slice (sl_listK (K := K)) (pv 0) po_none (po_some (pv 1))) (pe_slice (sl_listK (K := K)) (pv 0) (po_some (pe_op op_add (pv 1) pe_int)) po_none))) pss_never)), fun a => ?_⟩), hg, F.kp, F.bindsN fun _ _ _ _ _ _ us hl => match us, hl with | [_, _], _ => rfl⟩
  obtain ⟨v_row, v_at⟩ := a
  exact (show BX K _ [.sh ((eL PyData.int) v_row), .sh (PyData.int v_at)] encR_p_dropped (p_dropped v_row v_at) from
   (bx_bind fun c3 hc3 => (bx_ifRet ((eto_or (eto_some (et_not (et_of (ex_chain (p := fun i j => decide (i ≤ j)) (p' := fun i j => decide (i < j)) (fun _ _ => rfl) (fun _ _ => rfl) ex_int (ex_var (i := 1) rfl) (ex_sub (ex_lenL (EX.l (ex_var (i := 0) rfl))) ex_int))))) (eto_bind fun u1 hu1 => (eto_bind fun u2 hu2 => (eto_some (et_of (ex_neI (ex_ixL (EX.l (ex_var (i := 0) rfl)) (ex_var (i := 1) rfl) (atI_map hu1)) (ex_ixL (EX.l (ex_var (i := 0) rfl)) (ex_add (ex_var (i := 1) rfl) ex_int) (atI_map hu2)))))))) c3 hc3) (fun _ => (bx_retS ex_non rfl)) (fun _ _ _ h => nomatch h) (fun _ => (bx_bind fun g4 hg4 => (bx_retSW (exw_catT (EXw.l (exw_sl (EX.l (ex_var (i := 0) rfl)) eo_none (eo_some (ex_var (i := 1) rfl)))) (EXw.l (exw_sl (EX.l (ex_var (i := 0) rfl)) (eo_some (ex_add (ex_var (i := 1) rfl) ex_int)) eo_none)) (grd_ok hg4)) rfl))))))
abbrev encR_p_cut (y : (Option (List Int))) : Out := .rt (rvO PyData.int y)
abbrev st_p_cut : Stmt := top 27
abbrev NN_p_cut : List Str := ["row", "at"]
theorem sc_p_cut : FnScope NN_p_cut ["row", "at"] (defScope st_p_cut) := ⟨rfl, rfl, rfl, by decide +kernel, rfl, by decide +kernel, by decide +kernel⟩
abbrev I_p_cut : List PyData → Rv → Prop := Im (fun (a : ((List Int) × Int)) => [(eL PyData.int) a.1, PyData.int a.2]) (rvO PyData.int) (fun a => p_cut a.1 a.2)
theorem fn_p_cut {P : Program} {w : World} {K : PySem.W.Frag} {mg : Str → Option Value} {base : Heap} {f : Addr} {fd : FuncData} (F : FunD K "cut" "cut" (defArgs st_p_cut) (defBody st_p_cut) (defScope st_p_cut) [] [] f fd) (hg : mg "cut" = some (.ref f)) (T : Tx K mg) (G_beside : Fn P w K mg base "beside" 1 I_p_beside) : Fn P w K mg base "cut" 2 I_p_cut := by
  refine ⟨f, fd, ["row", "at"], fn_ok (N := NN_p_cut) (en := encR_p_cut) F sc_p_cut (fun _ => rfl) (fun _ => .inl rfl) (fun cdv A' outer s H E hr => ⟨_, (pss_cons (ps_if (PW.pt (pw_or (pt_not (pt_chain op_le op_lt pe_int (pv 1) (pe_op op_sub (pe_callB (call_lenK (K := K)) (by rfl) T.len (by decide +kernel) (pa_cons (pv 0) pa_nil)) pe_int))) (pw_or (pt_cmpR op_ne (pe_ix (ix_listK (K := K)) (pv 0) (pv 1) (fun _ _ => rfl)) (pe_ix (ix_listK (K := K)) (pv 0) (pe_op op_add (pv 1) pe_int) (fun _ _ => rfl)) (nomark _)) (pw_or1 (pt_not (pt_val (pe_fn G_beside (hr.mono (by decide)) (by rfl) (pa_cons (pe_ix (ix_listK (K := K)) (pv 0) (pv 1) (fun _ _ => rfl)) (pa_cons (pe_ix (ix_listK (K := K)) (pv 0) (pe_op op_add (pv 1) pe_int) (fun _ _ => rfl)) pa_nil))))))))) (pss_cons (ps_ret pe_non) pss_never) pss_nil) (pss_cons (ps_ret (pe_op op_cat (pe_slice (sl_listK (K := K)) (pv 0) po_none (po_some (pe_op op_add (pv 1) pe_int))) (pe_slice (sl_listK (K := K)) (pv 0) (po_some (pe_op op_add (pv 1) pe_int)) po_none))) pss_never)), fun a => ?_⟩), hg, F.kp, F.bindsN fun _ _ _ _ _ _ us hl => match us, hl with | [_, _], _ => rfl⟩
  obtain ⟨v_row, v_at⟩ := a
  exact (show BX K _ [.sh ((eL PyData.int) v_row), .sh (PyData.int v_at)] encR_p_cut (p_cut v_row v_at) from
   (bx_bind fun c6 hc6 => (bx_ifRet ((eto_or (eto_some (et_not (et_of (ex_chain (p := fun i j => decide (i ≤ j)) (p' := fun i j => decide (i < j)) (fun _ _ => rfl) (fun _ _ => rfl) ex_int (ex_var (i := 1) rfl) (ex_sub (ex_lenL (EX.l (ex_var (i := 0) rfl))) ex_int))))) (eto_or (eto_bind fun u1 hu1 => (eto_bind fun u2 hu2 => (eto_some (et_of (ex_neI (ex_ixL (EX.l (ex_var (i := 0) rfl)) (ex_var (i := 1) rfl) (atI_map hu1)) (ex_ixL (EX.l (ex_var (i := 0) rfl)) (ex_add (ex_var (i := 1) rfl) ex_int) (atI_map hu2))))))) (eto_bind fun u3 hu3 => (eto_bind fun u4 hu4 => (eto_bind fun u5 hu5 => (eto_some (et_not (et_B (ex_call (ea_cons (ex_ixL (EX.l (ex_var (i := 0) rfl)) (ex_var (i := 1) rfl) (atI_map hu3)) (ea_cons (ex_ixL (EX.l (ex_var (i := 0) rfl)) (ex_add (ex_var (i := 1) rfl) ex_int) (atI_map hu4)) ea_nil)) ⟨(u3, u4), u5, rfl, hu5, rfl⟩))))))))) c6 hc6) (fun _ => (bx_retS ex_non rfl)) (fun _ _ _ h => nomatch h) (fun _ => (bx_bind fun g7 hg7 => (bx_retSW (exw_catT (EXw.l (exw_sl (EX.l (ex_var (i := 0) rfl)) eo_none (eo_some (ex_add (ex_var (i := 1) rfl) ex_int)))) (EXw.l (exw_sl (EX.l (ex_var (i := 0) rfl)) (eo_some (ex_add (ex_var (i := 1) rfl) ex_int)) eo_none)) (grd_ok hg7)) rfl))))))
abbrev encR_p_grown (y : (Option (List Int))) : Out := .rt (rvO PyData.int y)
abbrev st_p_grown : Stmt := top 28
abbrev NN_p_grown : List Str := ["pegs", "row", "at", "number"]
theorem sc_p_grown : FnScope NN_p_grown ["pegs", "row", "at", "number"] (defScope st_p_grown) := ⟨rfl, rfl, rfl, by decide +kernel, rfl, by decide +kernel, by decide +kernel⟩
abbrev I_p_grown : List PyData → Rv → Prop := Im (fun (a : (Int × (List Int) × Int × Int)) => [PyData.int a.1, (eL PyData.int) a.2.1, PyData.int a.2.2.1, PyData.int a.2.2.2]) (rvO PyData.int) (fun a => p_grown a.1 a.2.1 a.2.2.1 a.2.2.2)
theorem fn_p_grown {P : Program} {w : World} {K : PySem.W.Frag} {mg : Str → Option Value} {base : Heap} {f : Addr} {fd : FuncData} (F : FunD K "grown" "grown" (defArgs st_p_grown) (defBody st_p_grown) (defScope st_p_grown) [] [] f fd) (hg : mg "grown" = some (.ref f)) (T : Tx K mg) (G_beside : Fn P w K mg base "beside" 1 I_p_beside) : Fn P w K mg base "grown" 2 I_p_grown := by
  refine ⟨f, fd, ["pegs", "row", "at", "number"], fn_ok (N := NN_p_grown) (en := encR_p_grown) F sc_p_grown (fun _ => rfl) (fun _ => .inl rfl) (fun cdv A' outer s H E hr => ⟨_, (pss_cons (ps_if (PW.pt (pw_or (pt_not (pt_chain op_le op_lt pe_int (pv 2) (pe_callB (call_lenK (K := K)) (by rfl) T.len (by decide +kernel) (pa_cons (pv 1) pa_nil)))) (pw_or (pt_not (pt_chain op_le op_lt pe_int (pv 3) (pe_op op_sub (pv 0) pe_int))) (pw_or1 (pt_not (pt_val (pe_fn G_beside (hr.mono (by decide)) (by rfl) (pa_cons (pe_ix (ix_listK (K := K)) (pv 1) (pv 2) (fun _ _ => rfl)) (pa_cons (pv 3) pa_nil))))))))) (pss_cons (ps_ret pe_non) pss_never) pss_nil) (pss_cons (ps_ret (pe_op op_cat (pe_op op_cat (pe_slice (sl_listK (K := K)) (pv 1) po_none (po_some (pe_op op_add (pv 2) pe_int))) (pe_lst (pa_cons (pv 3) (pa_cons (pe_ix (ix_listK (K := K)) (pv 1) (pv 2) (fun _ _ => rfl)) pa_nil)))) (pe_slice (sl_listK (K := K)) (pv 1) (po_some (pe_op op_add (pv 2) pe_int)) po_none))) pss_never)), fun a => ?_⟩), hg, F.kp, F.bindsN fun _ _ _ _ _ _ us hl => match us, hl with | [_, _, _, _], _ => rfl⟩
  obtain ⟨v_pegs, v_row, v_at, v_number⟩ := a
  exact (show BX K _ [.sh (PyData.int v_pegs), .sh ((eL PyData.int) v_row), .sh (PyData.int v_at), .sh (PyData.int v_number)] encR_p_grown (p_grown v_pegs v_row v_at v_number) from
   (bx_bind fun c3 hc3 => (bx_ifRet ((eto_or (eto_some (et_not (et_of (ex_chain (p := fun i j => decide (i ≤ j)) (p' := fun i j => decide (i < j)) (fun _ _ => rfl) (fun _ _ => rfl) ex_int (ex_var (i := 2) rfl) (ex_lenL (EX.l (ex_var (i := 1) rfl))))))) (eto_or (eto_some (et_not (et_of (ex_chain (p := fun i j => decide (i ≤ j)) (p' := fun i j => decide (i < j)) (fun _ _ => rfl) (fun _ _ => rfl) ex_int (ex_var (i := 3) rfl) (ex_sub (ex_var (i := 0) rfl) ex_int))))) (eto_bind fun u1 hu1 => (eto_bind fun u2 hu2 => (eto_some (et_not (et_B (ex_call (ea_cons (ex_ixL (EX.l (ex_var (i := 1) rfl)) (ex_var (i := 2) rfl) (atI_map hu1)) (ea_cons (ex_var (i := 3) rfl) ea_nil)) ⟨(u1, v_number), u2, rfl, hu2, rfl⟩)))))))) c3 hc3) (fun _ => (bx_retS ex_non rfl)) (fun _ _ _ h => nomatch h) (fun _ => (bx_bind fun u4 hu4 => (bx_bind fun g5 hg5 => (bx_bind fun g6 hg6 => (bx_retSW (exw_catT (EXw.l (exw_catT (EXw.l (exw_sl (EX.l (ex_var (i := 1) rfl)) eo_none (eo_some (ex_add (ex_var (i := 2) rfl) ex_int)))) (EXw.l (exw_lst (ds := ([v_number, u4] : (List Int)).map PyData.int) (ea_cons (ex_var (i := 3) rfl) (ea_cons (ex_ixL (EX.l (ex_var (i := 1) rfl)) (ex_var (i := 2) rfl) (atI_map hu4)) ea_nil)) (Nat.le_of_ble_eq_true rfl))) (grd_ok hg5))) (EXw.l (exw_sl (EX.l (ex_var (i := 1) rfl)) (eo_some (ex_add (ex_var (i := 2) rfl) ex_int)) eo_none)) (grd_ok hg6)) rfl))))))))
abbrev encE_p_behind (K : PySem.W.Frag) (E : XK) (x : Exn) : Out := .ex [.un, .un, .un, .un, .un] x fun c d _ H => E c d H
abbrev encR_p_behind (K : PySem.W.Frag) (y : (Int × (Option (List Int)))) : Out := .re [.un, .un, .un, .un, .un] (some (tY ((eP PyData.int (eO (eL PyData.int))) y)))
abbrev encX_p_behind (K : PySem.W.Frag) (E : XK) (z : Except Exn (Int × (Option (List Int)))) : Out := match z with
  | .ok y => .re [.un, .un, .un, .un, .un] (some (tY ((eP PyData.int (eO (eL PyData.int))) y)))
  | .error x => .ex [.un, .un, .un, .un, .un] x fun c d _ H => E c d H
abbrev st_p_behind : Stmt := top 29
abbrev NN_p_behind : List Str := ["pegs", "rings", "row", "trade", "at"]
theorem sc_p_behind : FnScope NN_p_behind ["pegs", "rings", "row", "trade"] (defScope st_p_behind) := ⟨rfl, rfl, rfl, by decide +kernel, rfl, by decide +kernel, by decide +kernel⟩
abbrev I_p_behind (K : PySem.W.Frag) : List Ag → (Rt × List OT) ⊕ Exn → Prop := ImE (fun (a : (Int × Int × (List Int) × PyData)) => [.d (PyData.int a.1), .d (PyData.int a.2.1), .d ((eL PyData.int) a.2.2.1), .d (eD a.2.2.2)]) (fun y => .t (tY ((eP PyData.int (eO (eL PyData.int))) y))) (fun _ => []) (fun a => (p_behind a.1 a.2.1 a.2.2.1 a.2.2.2).map Except.ok)
theorem fn_p_behind {P : Program} {w : World} {K : PySem.W.Frag} {mg : Str → Option Value} {base : Heap} {f : Addr} {fd : FuncData} (F : FunD K "behind" "behind" (defArgs st_p_behind) (defBody st_p_behind) (defScope st_p_behind) [] [] f fd) (hg : mg "behind" = some (.ref f)) (T : Tx K mg) (G_grown : Fn P w K mg base "grown" 2 I_p_grown) (G_swapped : Fn P w K mg base "swapped" 1 I_p_swapped) (G_dropped : Fn P w K mg base "dropped" 1 I_p_dropped) (G_cut : Fn P w K mg base "cut" 2 I_p_cut) : FnE P w K mg base "behind" 3 (I_p_behind K) := by
  refine ⟨f, fd, ["pegs", "rings", "row", "trade"], fn_okTr (N := NN_p_behind) (en := fun E z => encX_p_behind K E z) (n := 1) F sc_p_behind (fun _ => rfl) rfl (fun _ => rfl) (fun _ _ => rfl) (fun _ _ => rfl) (fun cdv A' outer s H E hr => ⟨_, (pss_cons (ps_if (PW.pt (pw_and (pt_cmpR op_eq (pe_callB (call_lenK (K := K)) (by rfl) T.len (by decide +kernel) (pa_cons (pv 3) pa_nil)) pe_int (nomark _)) (pw_and1 (pt_cmpR (op_eqDK (K := K) hr.units) (pe_ix (ix_tupK (K := K)) (pv 3) pe_int (fun _ _ => rfl)) pe_str (nomark _))))) (pss_cons (ps_ret (pe_tup (pa_cons (pv 1) (pa_cons (pe_fn G_grown (hr.mono (by decide)) (by rfl) (pa_cons (pv 0) (pa_cons (pv 2) (pa_cons (pe_ix (ix_tupK (K := K)) (pv 3) pe_int (fun _ _ => rfl)) (pa_cons (pe_ix (ix_tupK (K := K)) (pv 3) pe_int (fun _ _ => rfl)) pa_nil))))) pa_nil)))) pss_never) pss_nil) (pss_cons (ps_if (pt_cmpR op_ne (pe_callB (call_lenK (K := K)) (by rfl) T.len (by decide +kernel) (pa_cons (pv 3) pa_nil)) pe_int (nomark _)) (pss_cons (ps_ret (pe_tup (pa_cons (pv 1) (pa_cons pe_non pa_nil)))) pss_never) pss_nil) (pss_cons (ps_set (i := 4) sc_p_behind.nd rfl (by first | exact Or.inl rfl | exact Or.inr rfl) (pe_ix (ix_tupK (K := K)) (pv 3) pe_int (fun _ _ => rfl))) (pss_cons (ps_if (pt_cmpR (op_eqDK (K := K) hr.units) (pe_ix (ix_tupK (K := K)) (pv 3) pe_int (fun _ _ => rfl)) pe_str (nomark _)) (pss_cons (ps_ret (pe_tup (pa_cons (pv 1) (pa_cons (pe_fn G_swapped (hr.mono (by decide)) (by rfl) (pa_cons (pv 2) (pa_cons (pv 4) pa_nil))) pa_nil)))) pss_never) pss_nil) (pss_cons (ps_if (pt_cmpR (op_eqDK (K := K) hr.units) (pe_ix (ix_tupK (K := K)) (pv 3) pe_int (fun _ _ => rfl)) pe_str (nomark _)) (pss_cons (ps_ret (pe_tup (pa_cons (pe_op op_add (pv 1) pe_int) (pa_cons (pe_fn G_dropped (hr.mono (by decide)) (by rfl) (pa_cons (pv 2) (pa_cons (pv 4) pa_nil))) pa_nil)))) pss_never) pss_nil) (pss_cons (ps_if (pt_cmpR (op_eqDK (K := K) hr.units) (pe_ix (ix_tupK (K := K)) (pv 3) pe_int (fun _ _ => rfl)) pe_str (nomark _)) (pss_cons (ps_ret (pe_tup (pa_cons (pv 1) (pa_cons (pe_fn G_cut (hr.mono (by decide)) (by rfl) (pa_cons (pv 2) (pa_cons (pv 4) pa_nil))) pa_nil)))) pss_never) pss_nil) (pss_cons (ps_if (PW.pt (pw_and (pt_cmpR (op_eqDK (K := K) hr.units) (pe_ix (ix_tupK (K := K)) (pv 3) pe_int (fun _ _ => rfl)) pe_str (nomark _)) (pw_and (pt_cmpR op_gt (pv 1) pe_int (nomark _)) (pw_and1 (pt_chain op_le op_lt pe_int (pv 4) (pe_callB (call_lenK (K := K)) (by rfl) T.len (by decide +kernel) (pa_cons (pv 2) pa_nil))))))) (pss_cons (ps_ret (pe_tup (pa_cons (pe_op op_sub (pv 1) pe_int) (pa_cons (pe_op op_cat (pe_slice (sl_listK (K := K)) (pv 2) po_none (po_some (pe_op op_add (pv 4) pe_int))) (pe_slice (sl_listK (K := K)) (pv 2) (po_some (pv 4)) po_none)) pa_nil)))) pss_never) pss_nil) (pss_cons (ps_ret (pe_tup (pa_cons (pv 1) (pa_cons pe_non pa_nil)))) pss_never)))))))), fun a => ?_⟩), hg, F.kp, F.bindsN fun _ _ _ _ _ _ us hl => match us, hl with | [_, _, _, _], _ => rfl⟩
  obtain ⟨v_pegs, v_rings, v_row, v_trade⟩ := a
  refine bx_map (f := Except.ok) (enc := (encR_p_behind K)) (m := (p_behind v_pegs v_rings v_row v_trade)) ?_ (fun _ => rfl)
  exact (show BX K _ [.sh (PyData.int v_pegs), .sh (PyData.int v_rings), .sh ((eL PyData.int) v_row), .sh (eD v_trade), .un] (encR_p_behind K) (p_behind v_pegs v_rings v_row v_trade) from
   (bx_bind fun u1 hu1 => (bx_bind fun c5 hc5 => (bx_ifRet ((eto_and (eto_some (et_of (ex_eqI (ex_lenD (ex_var (i := 3) rfl) hu1) ex_int))) (eto_bind fun u2 hu2 => (eto_bind fun g3 hg3 => (eto_bind fun g4 hg4 => (eto_some (et_of (ex_eqDG (d := (eD u2)) (e := (PyData.str (Str.ofString "grow"))) (grd_ok hg3) (grd_ok hg4) (EX.q (ex_ixD (ex_var (i := 3) rfl) ex_int hu2)) (EX.q (ex_str (Nat.le_of_ble_eq_true rfl)))))))))) c5 hc5) (fun _ => (bx_bind fun u6 hu6 => (bx_bind fun u7 hu7 => (bx_bind fun u8 hu8 => (bx_bind fun u9 hu9 => (bx_bind fun u10 hu10 => (bx_retTr (EXt.e (ext_pairO (e := PyData.int) (y := u10) (ex_var (i := 1) rfl) (exo_callF (e := PyData.int) (y := u10) (ea_cons (ex_var (i := 0) rfl) (ea_cons (ex_var (i := 2) rfl) (ea_cons (ex_is (ex_ixD (ex_var (i := 3) rfl) ex_int hu6) (decI_ok hu8)) (ea_cons (ex_is (ex_ixD (ex_var (i := 3) rfl) ex_int hu7) (decI_ok hu9)) ea_nil)))) ⟨(v_pegs, v_row, u8, u9), u10, rfl, hu10, rfl⟩))) rfl (.un (.un (.un (.un (.un .nil)))))))))))) (fun _ _ _ h => nomatch h) (fun _ => (bx_bind fun u11 hu11 => (bx_ifRet (et_of (ex_neI (ex_lenD (ex_var (i := 3) rfl) hu11) ex_int)) (fun _ => (bx_retTr (EXt.e (EX.thingY rfl (ex_tup (ea_cons (ex_var (i := 1) rfl) (ea_cons ex_non ea_nil)) (Nat.le_of_ble_eq_true rfl)))) rfl (.un (.un (.un (.un (.un .nil))))))) (fun _ _ _ h => nomatch h) (fun _ => (bx_bind fun u12 hu12 => (bx_asg (d := eD u12) (ex_ixD (ex_var (i := 3) rfl) ex_int hu12) (EGc.eg (egc_name (i := 4) (vs := [4]) (by decide))) (bx_bind fun u13 hu13 => (bx_bind fun g14 hg14 => (bx_bind fun g15 hg15 => (bx_ifRet (et_of (ex_eqDG (d := (eD u13)) (e := (PyData.str (Str.ofString "swap"))) (grd_ok hg14) (grd_ok hg15) (EX.q (ex_ixD (ex_var (i := 3) rfl) ex_int hu13)) (EX.q (ex_str (Nat.le_of_ble_eq_true rfl))))) (fun _ => (bx_bind fun u16 hu16 => (bx_bind fun u17 hu17 => (bx_retTr (EXt.e (ext_pairO (e := PyData.int) (y := u17) (ex_var (i := 1) rfl) (exo_callF (e := PyData.int) (y := u17) (ea_cons (ex_var (i := 2) rfl) (ea_cons (ex_is (ex_var (i := 4) rfl) (decI_ok hu16)) ea_nil)) ⟨(v_row, u16), u17, rfl, hu17, rfl⟩))) rfl (.un (.un (.un (.un (.un .nil))))))))) (fun _ _ _ h => nomatch h) (fun _ => (bx_bind fun u18 hu18 => (bx_bind fun g19 hg19 => (bx_bind fun g20 hg20 => (bx_ifRet (et_of (ex_eqDG (d := (eD u18)) (e := (PyData.str (Str.ofString "drop"))) (grd_ok hg19) (grd_ok hg20) (EX.q (ex_ixD (ex_var (i := 3) rfl) ex_int hu18)) (EX.q (ex_str (Nat.le_of_ble_eq_true rfl))))) (fun _ => (bx_bind fun u21 hu21 => (bx_bind fun u22 hu22 => (bx_retTr (EXt.e (ext_pairO (e := PyData.int) (y := u22) (ex_add (ex_var (i := 1) rfl) ex_int) (exo_callF (e := PyData.int) (y := u22) (ea_cons (ex_var (i := 2) rfl) (ea_cons (ex_is (ex_var (i := 4) rfl) (decI_ok hu21)) ea_nil)) ⟨(v_row, u21), u22, rfl, hu22, rfl⟩))) rfl (.un (.un (.un (.un (.un .nil))))))))) (fun _ _ _ h => nomatch h) (fun _ => (bx_bind fun u23 hu23 => (bx_bind fun g24 hg24 => (bx_bind fun g25 hg25 => (bx_ifRet (et_of (ex_eqDG (d := (eD u23)) (e := (PyData.str (Str.ofString "cut"))) (grd_ok hg24) (grd_ok hg25) (EX.q (ex_ixD (ex_var (i := 3) rfl) ex_int hu23)) (EX.q (ex_str (Nat.le_of_ble_eq_true rfl))))) (fun _ => (bx_bind fun u26 hu26 => (bx_bind fun u27 hu27 => (bx_retTr (EXt.e (ext_pairO (e := PyData.int) (y := u27) (ex_var (i := 1) rfl) (exo_callF (e := PyData.int) (y := u27) (ea_cons (ex_var (i := 2) rfl) (ea_cons (ex_is (ex_var (i := 4) rfl) (decI_ok hu26)) ea_nil)) ⟨(v_row, u26), u27, rfl, hu27, rfl⟩))) rfl (.un (.un (.un (.un (.un .nil))))))))) (fun _ _ _ h => nomatch h) (fun _ => (bx_bind fun u28 hu28 => (bx_bind fun g29 hg29 => (bx_bind fun g30 hg30 => (bx_bind fun c32 hc32 => (bx_ifRet ((eto_and (eto_some (et_of (ex_eqDG (d := (eD u28)) (e := (PyData.str (Str.ofString "double"))) (grd_ok hg29) (grd_ok hg30) (EX.q (ex_ixD (ex_var (i := 3) rfl) ex_int hu28)) (EX.q (ex_str (Nat.le_of_ble_eq_true rfl)))))) (eto_and (eto_some (et_of (ex_gt (ex_var (i := 1) rfl) ex_int))) (eto_bind fun u31 hu31 => (eto_some (et_of (ex_chain (p := fun i j => decide (i ≤ j)) (p' := fun i j => decide (i < j)) (fun _ _ => rfl) (fun _ _ => rfl) ex_int (ex_is (ex_var (i := 4) rfl) (decI_ok hu31)) (ex_lenL (EX.l (ex_var (i := 2) rfl))))))))) c32 hc32) (fun _ => (bx_bind fun u33 hu33 => (bx_bind fun u34 hu34 => (bx_bind fun g35 hg35 => (bx_retTr (EXt.e (ext_pairY (ex_sub (ex_var (i := 1) rfl) ex_int) (exw_catT (EXw.l (exw_sl (EX.l (ex_var (i := 2) rfl)) eo_none (eo_some (ex_add (ex_is (ex_var (i := 4) rfl) (decI_ok hu33)) ex_int)))) (EXw.l (exw_sl (EX.l (ex_var (i := 2) rfl)) (eo_some (ex_is (ex_var (i := 4) rfl) (decI_ok hu34))) eo_none)) (grd_ok hg35)))) rfl (.un (.un (.un (.un (.un .nil)))))))))) (fun _ _ _ h => nomatch h) (fun _ => (bx_retTr (EXt.e (EX.thingY rfl (ex_tup (ea_cons (ex_var (i := 1) rfl) (ea_cons ex_non ea_nil)) (Nat.le_of_ble_eq_true rfl)))) rfl (.un (.un (.un (.un (.un .nil)))))))))))))))))))))))))))))))))))))
abbrev encE_x_walked (K : PySem.W.Frag) (E : XK) (x : Exn) : Out := .ex [.un, .un, .un, .un, .un, .un, .un] x fun c d _ H => E c d H
abbrev encR_x_walked (K : PySem.W.Frag) (y : (Int × (Option (List Int)))) : Out := .re [.un, .un, .un, .un, .un, .un, .un] (some (tY ((eP PyData.int (eO (eL PyData.int))) y)))
abbrev encX_x_walked (K : PySem.W.Frag) (E : XK) (z : Except Exn (Int × (Option (List Int)))) : Out := match z with
  | .ok y => .re [.un, .un, .un, .un, .un, .un, .un] (some (tY ((eP PyData.int (eO (eL PyData.int))) y)))
  | .error x => .ex [.un, .un, .un, .un, .un, .un, .un] x fun c d _ H => E c d H
abbrev st_x_walked : Stmt := top 30
abbrev NN_x_walked : List Str := ["pegs", "rings", "row", "trades", "found", "place", "trade"]
theorem sc_x_walked : FnScope NN_x_walked ["pegs", "rings", "row", "trades"] (defScope st_x_walked) := ⟨rfl, rfl, rfl, by decide +kernel, rfl, by decide +kernel, by decide +kernel⟩
abbrev I_x_walked (K : PySem.W.Frag) : List Ag → (Rt × List OT) ⊕ Exn → Prop := ImE (fun (a : (Int × Int × (List Int) × (List PyData))) => [.d (PyData.int a.1), .d (PyData.int a.2.1), .d ((eL PyData.int) a.2.2.1), .d ((eL eD) a.2.2.2)]) (fun y => .t (tY ((eP PyData.int (eO (eL PyData.int))) y))) (fun _ => []) (fun a => x_walked a.1 a.2.1 a.2.2.1 a.2.2.2)
theorem fn_x_walked {P : Program} {w : World} {K : PySem.W.Frag} {mg : Str → Option Value} {base : Heap} {f : Addr} {fd : FuncData} (F : FunD K "walked" "walked" (defArgs st_x_walked) (defBody st_x_walked) (defScope st_x_walked) [] [] f fd) (hg : mg "walked" = some (.ref f)) (T : Tx K mg) (G_ask_row : Fn P w K mg base "ask_row" 2 I_p_ask_row) (G_behind : FnE P w K mg base "behind" 3 (I_p_behind K)) (X_BadTrade : ExI P w K mg base "at" "BadTrade") : FnE P w K mg base "walked" 4 (I_x_walked K) := by
  refine ⟨f, fd, ["pegs", "rings", "row", "trades"], fn_okTr (N := NN_x_walked) (en := fun E z => encX_x_walked K E z) (n := 3) F sc_x_walked (fun _ => rfl) rfl (fun _ => rfl) (fun _ _ => rfl) (fun _ _ => rfl) (fun cdv A' outer s H E hr => ⟨_, (pss_cons (ps_expr (pe_fn G_ask_row (hr.mono (by decide)) (by rfl) (pa_cons (pv 0) (pa_cons (pv 2) pa_nil)))) (pss_cons (ps_set (i := 4) sc_x_walked.nd rfl (by first | exact Or.inl rfl | exact Or.inr rfl) (pe_tup (pa_cons (pv 1) (pa_cons (pe_callTy (call_listK (K := K)) (by rfl) T.list (by decide +kernel) (pa_cons (pv 2) pa_nil)) pa_nil)))) (pss_cons (ps_for (passes_of (by rfl)) rfl (pi_enumK (K := K) (by rfl) T.enumerate (pa_cons (pv 3) pa_nil)) (pg_tupK (K := K) (n := 2) (by rfl) (pgs_cons (pg_name (i := 5) sc_x_walked.nd rfl (by first | exact Or.inl rfl | exact Or.inr rfl)) (pgs_cons (pg_name (i := 6) sc_x_walked.nd rfl (by first | exact Or.inl rfl | exact Or.inr rfl)) pgs_nil))) (pss_cons (ps_set (i := 4) sc_x_walked.nd rfl (by first | exact Or.inl rfl | exact Or.inr rfl) (pe_fnES (K := K) G_behind (hr.mono (by decide)) (by rfl) (pa_cons (pv 0) (pa_cons (pe_ix (ix_tupK (K := K)) (pv 4) pe_int (fun _ _ => rfl)) (pa_cons (pe_ix (ix_tupK (K := K)) (pv 4) pe_int (fun _ _ => rfl)) (pa_cons (pv 6) pa_nil)))))) (pss_cons (ps_if (pt_cmpR op_isN (pe_ix (ix_tupK (K := K)) (pv 4) pe_int (fun _ _ => rfl)) pe_non (nomark _)) (pss_cons (ps_raiseF (K := K) rfl X_BadTrade (L2N.takes_of rfl rfl rfl rfl) (hr.mono (by decide)) (by rfl) (pa_cons (pv 5) pa_nil) (by rfl)) pss_never) pss_nil) pss_nil))) (pss_cons (ps_ret (pv 4)) pss_never)))), fun a => ?_⟩), hg, F.kp, F.bindsN fun _ _ _ _ _ _ us hl => match us, hl with | [_, _, _, _], _ => rfl⟩
  obtain ⟨v_pegs, v_rings, v_row, v_trades⟩ := a
  exact (show BX K _ [.sh (PyData.int v_pegs), .sh (PyData.int v_rings), .sh ((eL PyData.int) v_row), .sh ((eL eD) v_trades), .un, .un, .un] (encX_x_walked K E) (x_walked v_pegs v_rings v_row v_trades) from
   (bx_bind fun u1 hu1 => (bx_drop (ex_call (ea_cons (ex_var (i := 0) rfl) (ea_cons (ex_var (i := 2) rfl) ea_nil)) ⟨(v_pegs, v_row), u1, rfl, hu1, rfl⟩) (bx_asgT (j := 4) (EXt.e (ext_pairY (ex_var (i := 1) rfl) (exw_listL (EX.l (ex_var (i := 2) rfl))))) (bx_bindR (envS := (fun (s_1 : (Int × (Option (List Int)))) => [.sh (PyData.int v_pegs), .sh (PyData.int v_rings), .sh ((eL PyData.int) v_row), .sh ((eL eD) v_trades), .tr (tY ((eP PyData.int (eO (eL PyData.int))) s_1)), .un, .un])) (encR := (encX_x_walked K  E)) (bx_forR (encR := (encX_x_walked K  E)) (envS := (fun (s_1 : (Int × (Option (List Int)))) => [.sh (PyData.int v_pegs), .sh (PyData.int v_rings), .sh ((eL PyData.int) v_row), .sh ((eL eD) v_trades), .tr (tY ((eP PyData.int (eO (eL PyData.int))) s_1)), .un, .un])) (e := (eP PyData.int eD)) (envB := (fun (s_1 : (Int × (Option (List Int)))) (x2 : (Int × PyData)) => [.sh (PyData.int v_pegs), .sh (PyData.int v_rings), .sh ((eL PyData.int) v_row), .sh ((eL eD) v_trades), .tr (tY ((eP PyData.int (eO (eL PyData.int))) s_1)), .sh (PyData.int x2.1), .sh (eD x2.2)])) (f := (x_walked_for1 v_pegs)) (eis_enumL (ex_var (i := 3) rfl)) (.same (.same (.same (.same (.same (.un (.un .nil))))))) (fun r => by cases r <;> trivial) (fun s_1 x2 _ => EGc.eg (vs := [5, 6]) (egc_tup (egs_cons (egc_name (i := 5) (by decide)) (egs_cons (egc_name (i := 6) (by decide)) egs_nil)) rfl)) (fun s_1 x2 _ => (bx_fzY 4 rfl (bx_bind fun u3 hu3 => (bx_bind fun u4 hu4 => (bx_asgT (j := 4) (EXt.e (ext_call0 (ss := ([.d (PyData.int v_pegs), .d (PyData.int s_1.1), .d ((eL PyData.int) u3), .d (eD x2.2)] : List Sr)) (eag_d (ex_var (i := 0) rfl) (eag_d (ex_ixT (ex_var (i := 4) rfl) ex_int rfl) (eag_d (ex_is (ex_ixT (ex_var (i := 4) rfl) ex_int rfl) (congrArg (eO (eL PyData.int)) hu3)) (eag_d (ex_var (i := 6) rfl) eag_nil)))) (OkAll.at (ss := ([.d (PyData.int v_pegs), .d (PyData.int s_1.1), .d ((eL PyData.int) u3), .d (eD x2.2)] : List Sr)) ⟨trivial, ⟨trivial, ⟨trivial, ⟨trivial, trivial⟩⟩⟩⟩) (noMu_at (ss := ([.d (PyData.int v_pegs), .d (PyData.int s_1.1), .d ((eL PyData.int) u3), .d (eD x2.2)] : List Sr)) rfl) ⟨(v_pegs, s_1.1, u3, x2.2), .ok u4, rfl, ok_of hu4, rfl⟩)) (bx_ifRetM (encR := (encX_x_walked K  E)) (et_tmpY (i := 4) rfl (et_of (ex_isNO (e := (eL PyData.int)) (m := u4.2) (ex_ixT (ex_var (i := 4) rfl) ex_int rfl)))) (fun _ => (bx_raiseF (W := (fun c d _ H => E c d H)) T.oex_BadTrade (ea_cons (ex_var (i := 5) rfl) ea_nil) rfl (.un (.un (.un (.un (.un (.un (.un .nil))))))))) (fun r e h => by cases r <;> cases h) (fun _ => rfl) (fun _ => (bx_nx (.same (.same (.same (.same (.same (.un (.un .nil))))))) rfl))))))))) (fun _ => rfl) (fun r e h => by cases r <;> cases h) (fun s5 _ => (bx_retTr (exe_varY (i := 4) rfl) rfl (.un (.un (.un (.un (.un (.un (.un .nil))))))))))))))
abbrev encR_l_kin (y : Str) : Out := .rt (.sh (PyData.str y))
abbrev st_l_kin : Stmt := top 32
abbrev NN_l_kin : List Str := ["_law_e", "_law_found", "_law_words", "_law_word_here", "_law_kin_here"]
theorem sc_l_kin : FnScope NN_l_kin ["_law_e"] (defScope st_l_kin) := ⟨rfl, rfl, rfl, by decide +kernel, rfl, by decide +kernel, by decide +kernel⟩
theorem fn_l_kin {P : Program} {w : World} {K : PySem.W.Frag} {mg : Str → Option Value} {f : Addr} {fd : FuncData} (F : FunD K "_law_kin" "_law_kin" (defArgs st_l_kin) (defBody st_l_kin) (defScope st_l_kin) [] [] f fd) (hg : mg "_law_kin" = some (.ref f)) (T : Tx K mg) : KinOk P w K mg "_law_kin" 0 := by
  refine ⟨f, fd, "_law_e", "_law_kin", _, _, _, NN_l_kin, hg, F, sc_l_kin, F.bindsN fun _ _ _ _ _ _ us hl => match us, hl with | [_], _ => rfl, fun base cdv A outer s H p xd v_e hr hot hx hn => ⟨_, (pss_cons (ps_set (i := 1) sc_l_kin.nd rfl (by first | exact Or.inl rfl | exact Or.inr rfl) (pe_lst (pa_cons (pe_callB (call_isX (K := K) (p := p) List.mem_cons_self) (by rfl) T.isinstance (by decide +kernel) (pa_cons (pv 0) (pa_cons (pe_glob (v := .ref (He.ga K "BadPegs")) (by rfl) T.cls_BadPegs rfl) pa_nil))) (pa_cons (pe_callB (call_isX (K := K) (p := p) List.mem_cons_self) (by rfl) T.isinstance (by decide +kernel) (pa_cons (pv 0) (pa_cons (pe_glob (v := .ref (He.ga K "BadFrame")) (by rfl) T.cls_BadFrame rfl) pa_nil))) (pa_cons (pe_callB (call_isX (K := K) (p := p) List.mem_cons_self) (by rfl) T.isinstance (by decide +kernel) (pa_cons (pv 0) (pa_cons (pe_glob (v := .ref (He.ga K "BadHalf")) (by rfl) T.cls_BadHalf rfl) pa_nil))) (pa_cons (pe_callB (call_isX (K := K) (p := p) List.mem_cons_self) (by rfl) T.isinstance (by decide +kernel) (pa_cons (pv 0) (pa_cons (pe_glob (v := .ref (He.ga K "BadHook")) (by rfl) T.cls_BadHook rfl) pa_nil))) pa_nil)))))) (pss_cons (ps_set (i := 1) sc_l_kin.nd rfl (by first | exact Or.inl rfl | exact Or.inr rfl) (pe_op op_cat (pv 1) (pe_lst (pa_cons (pe_callB (call_isX (K := K) (p := p) List.mem_cons_self) (by rfl) T.isinstance (by decide +kernel) (pa_cons (pv 0) (pa_cons (pe_glob (v := .ref (He.ga K "BadName")) (by rfl) T.cls_BadName rfl) pa_nil))) (pa_cons (pe_callB (call_isX (K := K) (p := p) List.mem_cons_self) (by rfl) T.isinstance (by decide +kernel) (pa_cons (pv 0) (pa_cons (pe_glob (v := .ref (He.ga K "NoNumber")) (by rfl) T.cls_NoNumber rfl) pa_nil))) (pa_cons (pe_callB (call_isX (K := K) (p := p) List.mem_cons_self) (by rfl) T.isinstance (by decide +kernel) (pa_cons (pv 0) (pa_cons (pe_glob (v := .ref (He.ga K "NoFrame")) (by rfl) T.cls_NoFrame rfl) pa_nil))) (pa_cons (pe_callB (call_isX (K := K) (p := p) List.mem_cons_self) (by rfl) T.isinstance (by decide +kernel) (pa_cons (pv 0) (pa_cons (pe_glob (v := .ref (He.ga K "NoStack")) (by rfl) T.cls_NoStack rfl) pa_nil))) pa_nil))))))) (pss_cons (ps_set (i := 1) sc_l_kin.nd rfl (by first | exact Or.inl rfl | exact Or.inr rfl) (pe_op op_cat (pv 1) (pe_lst (pa_cons (pe_callB (call_isX (K := K) (p := p) List.mem_cons_self) (by rfl) T.isinstance (by decide +kernel) (pa_cons (pv 0) (pa_cons (pe_glob (v := .ref (He.ga K "NoPlace")) (by rfl) T.cls_NoPlace rfl) pa_nil))) (pa_cons (pe_callB (call_isX (K := K) (p := p) List.mem_cons_self) (by rfl) T.isinstance (by decide +kernel) (pa_cons (pv 0) (pa_cons (pe_glob (v := .ref (He.ga K "Taken")) (by rfl) T.cls_Taken rfl) pa_nil))) (pa_cons (pe_callB (call_isX (K := K) (p := p) List.mem_cons_self) (by rfl) T.isinstance (by decide +kernel) (pa_cons (pv 0) (pa_cons (pe_glob (v := .ref (He.ga K "Full")) (by rfl) T.cls_Full rfl) pa_nil))) (pa_cons (pe_callB (call_isX (K := K) (p := p) List.mem_cons_self) (by rfl) T.isinstance (by decide +kernel) (pa_cons (pv 0) (pa_cons (pe_glob (v := .ref (He.ga K "NothingThere")) (by rfl) T.cls_NothingThere rfl) pa_nil))) pa_nil))))))) (pss_cons (ps_set (i := 1) sc_l_kin.nd rfl (by first | exact Or.inl rfl | exact Or.inr rfl) (pe_op op_cat (pv 1) (pe_lst (pa_cons (pe_callB (call_isX (K := K) (p := p) List.mem_cons_self) (by rfl) T.isinstance (by decide +kernel) (pa_cons (pv 0) (pa_cons (pe_glob (v := .ref (He.ga K "BadTrade")) (by rfl) T.cls_BadTrade rfl) pa_nil))) (pa_cons (pe_callB (call_isX (K := K) (p := p) List.mem_cons_self) (by rfl) T.isinstance (by decide +kernel) (pa_cons (pv 0) (pa_cons (pe_glob (v := .ref (He.ga K "Hangs")) (by rfl) T.cls_Hangs rfl) pa_nil))) (pa_cons (pe_callB (call_isX (K := K) (p := p) List.mem_cons_self) (by rfl) T.isinstance (by decide +kernel) (pa_cons (pv 0) (pa_cons (pe_glob (v := .ref (He.ga K "BadPage")) (by rfl) T.cls_BadPage rfl) pa_nil))) pa_nil)))))) (pss_cons (ps_expr (pe_bm PySem.F.plainAttrs_list PySem.F.slot_list_append PySem.F.type_list_append mt_append (pv 1) (pa_cons (pe_not (pe_callB (call_isX (K := K) (p := p) List.mem_cons_self) (by rfl) T.isinstance (by decide +kernel) (pa_cons (pv 0) (pa_cons (pe_bltn (u := .type "ValueError") (v := .ty "ValueError") (by rfl) T.ValueError (by decide +kernel) rfl) pa_nil)))) pa_nil))) (pss_cons (ps_set (i := 2) sc_l_kin.nd rfl (by first | exact Or.inl rfl | exact Or.inr rfl) (pe_lst (pa_cons pe_str (pa_cons pe_str (pa_cons pe_str (pa_cons pe_str (pa_cons pe_str (pa_cons pe_str (pa_cons pe_str (pa_cons pe_str (pa_cons pe_str pa_nil))))))))))) (pss_cons (ps_set (i := 2) sc_l_kin.nd rfl (by first | exact Or.inl rfl | exact Or.inr rfl) (pe_op op_cat (pv 2) (pe_lst (pa_cons pe_str (pa_cons pe_str (pa_cons pe_str (pa_cons pe_str (pa_cons pe_str (pa_cons pe_str (pa_cons pe_str pa_nil)))))))))) (pss_cons (ps_ret (pe_joinK (K := K) pe_str (pe_lcH (own := [("_law_word_here", 3), ("_law_kin_here", 4)]) ⟨p, hot, List.mem_cons_self⟩ sc_l_kin.nd (pi_zipH (K := K) (by rfl) T.zip (pa_cons (pv 2) (pa_cons (pv 1) pa_nil))) (blkOk_by (N := NN_l_kin) (sc := defScope st_l_kin) (by decide +kernel)) (fun _ _ _ _ _ q hq => (pg_tupH (K := K) (n := 2) ⟨q, hq, List.mem_cons_self⟩ (pgs_cons (pg_name (i := 3) sc_l_kin.nd rfl (by first | exact Or.inl rfl | exact Or.inr rfl)) (pgs_cons (pg_name (i := 4) sc_l_kin.nd rfl (by first | exact Or.inl rfl | exact Or.inr rfl)) pgs_nil)))) (fun _ _ _ _ _ _ _ => (pts_one (pt_val (pv 4)))) (fun _ _ _ _ _ _ _ => (pv 3))))) pss_never)))))))), ?_⟩⟩
  rw [← l_kin_ok v_e hn]
  exact (show BX K _ [.xo p.1 xd, .un, .un, .un, .un] encR_l_kin (l_kin v_e) from
   (bx_asgWB (e := PyData.bool) (i := 1) (exw_lst (ds := ([(decide (v_e = "BadPegs")), (decide (v_e = "BadFrame")), (decide (v_e = "BadHalf")), (decide (v_e = "BadHook"))] : (List Bool)).map PyData.bool) (ea_cons (ex_isX (i := 0) (y := "BadPegs") rfl hx (exB_ok T.exB hn) (by decide +kernel)) (ea_cons (ex_isX (i := 0) (y := "BadFrame") rfl hx (exB_ok T.exB hn) (by decide +kernel)) (ea_cons (ex_isX (i := 0) (y := "BadHalf") rfl hx (exB_ok T.exB hn) (by decide +kernel)) (ea_cons (ex_isX (i := 0) (y := "BadHook") rfl hx (exB_ok T.exB hn) (by decide +kernel)) ea_nil)))) (Nat.le_of_ble_eq_true rfl)) (fun v_found_1 => (bx_bind fun g2 hg2 => (bx_asgWB (e := PyData.bool) (i := 1) (exw_catT (exl_var (i := 1) rfl) (EXw.l (exw_lst (ds := ([(decide (v_e = "BadName")), (decide (v_e = "NoNumber")), (decide (v_e = "NoFrame")), (decide (v_e = "NoStack"))] : (List Bool)).map PyData.bool) (ea_cons (ex_isX (i := 0) (y := "BadName") rfl hx (exB_ok T.exB hn) (by decide +kernel)) (ea_cons (ex_isX (i := 0) (y := "NoNumber") rfl hx (exB_ok T.exB hn) (by decide +kernel)) (ea_cons (ex_isX (i := 0) (y := "NoFrame") rfl hx (exB_ok T.exB hn) (by decide +kernel)) (ea_cons (ex_isX (i := 0) (y := "NoStack") rfl hx (exB_ok T.exB hn) (by decide +kernel)) ea_nil)))) (Nat.le_of_ble_eq_true rfl))) (grd_ok hg2)) (fun v_found_3 => (bx_bind fun g4 hg4 => (bx_asgWB (e := PyData.bool) (i := 1) (exw_catT (exl_var (i := 1) rfl) (EXw.l (exw_lst (ds := ([(decide (v_e = "NoPlace")), (decide (v_e = "Taken")), (decide (v_e = "Full")), (decide (v_e = "NothingThere"))] : (List Bool)).map PyData.bool) (ea_cons (ex_isX (i := 0) (y := "NoPlace") rfl hx (exB_ok T.exB hn) (by decide +kernel)) (ea_cons (ex_isX (i := 0) (y := "Taken") rfl hx (exB_ok T.exB hn) (by decide +kernel)) (ea_cons (ex_isX (i := 0) (y := "Full") rfl hx (exB_ok T.exB hn) (by decide +kernel)) (ea_cons (ex_isX (i := 0) (y := "NothingThere") rfl hx (exB_ok T.exB hn) (by decide +kernel)) ea_nil)))) (Nat.le_of_ble_eq_true rfl))) (grd_ok hg4)) (fun v_found_5 => (bx_bind fun g6 hg6 => (bx_asgWB (e := PyData.bool) (i := 1) (exw_catT (exl_var (i := 1) rfl) (EXw.l (exw_lst (ds := ([(decide (v_e = "BadTrade")), (decide (v_e = "Hangs")), (decide (v_e = "BadPage"))] : (List Bool)).map PyData.bool) (ea_cons (ex_isX (i := 0) (y := "BadTrade") rfl hx (exB_ok T.exB hn) (by decide +kernel)) (ea_cons (ex_isX (i := 0) (y := "Hangs") rfl hx (exB_ok T.exB hn) (by decide +kernel)) (ea_cons (ex_isX (i := 0) (y := "BadPage") rfl hx (exB_ok T.exB hn) (by decide +kernel)) ea_nil))) (Nat.le_of_ble_eq_true rfl))) (grd_ok hg6)) (fun v_found_7 => (bx_bind fun u8 hu8 => (bx_app (e := PyData.bool) (x := (!true)) rfl (ex_notV (ex_isVE (i := 0) rfl hx (exB_ok T.exB hn))) hu8 (bx_asgB (e := (eL PyData.str)) (i := 2) (EXw.sh (exw_lst (ds := ([(Str.ofString "BadPegs"), (Str.ofString "BadFrame"), (Str.ofString "BadHalf"), (Str.ofString "BadHook"), (Str.ofString "BadName"), (Str.ofString "NoNumber"), (Str.ofString "NoFrame"), (Str.ofString "NoStack"), (Str.ofString "NoPlace")] : (List Str)).map PyData.str) (ea_cons (ex_str (Nat.le_of_ble_eq_true rfl)) (ea_cons (ex_str (Nat.le_of_ble_eq_true rfl)) (ea_cons (ex_str (Nat.le_of_ble_eq_true rfl)) (ea_cons (ex_str (Nat.le_of_ble_eq_true rfl)) (ea_cons (ex_str (Nat.le_of_ble_eq_true rfl)) (ea_cons (ex_str (Nat.le_of_ble_eq_true rfl)) (ea_cons (ex_str (Nat.le_of_ble_eq_true rfl)) (ea_cons (ex_str (Nat.le_of_ble_eq_true rfl)) (ea_cons (ex_str (Nat.le_of_ble_eq_true rfl)) ea_nil))))))))) (Nat.le_of_ble_eq_true rfl))) (fun v_words_9 => (bx_bind fun g10 hg10 => (bx_asgB (e := (eL PyData.str)) (i := 2) (EXw.sh (exw_catT (EX.l (ex_var (i := 2) rfl)) (EXw.l (exw_lst (ds := ([(Str.ofString "Taken"), (Str.ofString "Full"), (Str.ofString "NothingThere"), (Str.ofString "BadTrade"), (Str.ofString "Hangs"), (Str.ofString "BadPage"), (Str.ofString "odd")] : (List Str)).map PyData.str) (ea_cons (ex_str (Nat.le_of_ble_eq_true rfl)) (ea_cons (ex_str (Nat.le_of_ble_eq_true rfl)) (ea_cons (ex_str (Nat.le_of_ble_eq_true rfl)) (ea_cons (ex_str (Nat.le_of_ble_eq_true rfl)) (ea_cons (ex_str (Nat.le_of_ble_eq_true rfl)) (ea_cons (ex_str (Nat.le_of_ble_eq_true rfl)) (ea_cons (ex_str (Nat.le_of_ble_eq_true rfl)) ea_nil))))))) (Nat.le_of_ble_eq_true rfl))) (grd_ok hg10))) (fun v_words_11 => (bx_bind fun g13 hg13 => (bx_retS (ex_joinG (ex_str (Nat.le_of_ble_eq_true rfl)) (EXw.l (exw_lcp (e := (eP PyData.str PyData.bool)) (e' := PyData.str) (envB := (fun x12 => [.xo p.1 xd, .ow (u8.map PyData.bool), .sh ((eL PyData.str) v_words_11), .sh (PyData.str x12.1), .sh (PyData.bool x12.2)])) (ei_zipH (EX.l (ex_var (i := 2) rfl)) (exl_var (i := 1) rfl)) (fun x12 _ => (egc_tup (egs_cons (egc_name (i := 3) (by decide)) (egs_cons (egc_name (i := 4) (by decide)) egs_nil)) rfl)) (fun x12 _ => (et_B (ex_var (i := 4) rfl))) (fun x12 _ => (ex_var (i := 3) rfl)))) (grd_ok hg13)) rfl)))))))))))))))))))))
abbrev encR_l_mix (y : Int) : Out := .rt (.sh (PyData.int y))
abbrev st_l_mix : Stmt := top 33
abbrev NN_l_mix : List Str := ["_law_seed", "_law_one", "_law_two"]
theorem sc_l_mix : FnScope NN_l_mix ["_law_seed"] (defScope st_l_mix) := ⟨rfl, rfl, rfl, by decide +kernel, rfl, by decide +kernel, by decide +kernel⟩
abbrev I_l_mix : List PyData → Rv → Prop := Im (fun (a : (Int)) => [PyData.int a]) (fun (y : Int) => Rv.sh (PyData.int y)) (fun a => l_mix a)
theorem fn_l_mix {P : Program} {w : World} {K : PySem.W.Frag} {mg : Str → Option Value} {base : Heap} {f : Addr} {fd : FuncData} (F : FunD K "_law_mix" "_law_mix" (defArgs st_l_mix) (defBody st_l_mix) (defScope st_l_mix) [] [] f fd) (hg : mg "_law_mix" = some (.ref f)) (T : Tx K mg)  : Fn P w K mg base "_law_mix" 1 I_l_mix := by
  refine ⟨f, fd, ["_law_seed"], fn_ok (N := NN_l_mix) (en := encR_l_mix) F sc_l_mix (fun _ => rfl) (fun _ => .inl rfl) (fun cdv A' outer s H E hr => ⟨_, (pss_cons (ps_set (i := 1) sc_l_mix.nd rfl (by first | exact Or.inl rfl | exact Or.inr rfl) (pe_op op_mod (pe_op op_add (pe_op op_mul (pv 0) pe_int) pe_int) pe_int)) (pss_cons (ps_set (i := 2) sc_l_mix.nd rfl (by first | exact Or.inl rfl | exact Or.inr rfl) (pe_op op_mod (pe_op op_add (pe_op op_add (pe_op op_mul (pv 1) (pv 1)) (pe_op op_mul pe_int (pv 1))) (pv 0)) pe_int)) (pss_cons (ps_ret (pe_op op_mod (pe_op op_add (pe_op op_add (pe_op op_mul (pv 2) (pv 2)) (pe_op op_mul pe_int (pv 2))) (pv 1)) pe_int)) pss_never))), fun v_seed => ?_⟩), hg, F.kp, F.bindsN fun _ _ _ _ _ _ us hl => match us, hl with | [_], _ => rfl⟩
  exact (show BX K _ [.sh (PyData.int v_seed), .un, .un] encR_l_mix (l_mix v_seed) from
   (bx_asgB (e := PyData.int) (i := 1) (ex_mod (ex_add (ex_mul (ex_var (i := 0) rfl) ex_int (.inr ⟨by decide, by decide⟩)) ex_int) ex_int (by decide)) (fun v_one_1 => (bx_bind fun g2 hg2 => (bx_asgB (e := PyData.int) (i := 2) (ex_mod (ex_add (ex_add (ex_mul (ex_var (i := 1) rfl) (ex_var (i := 1) rfl) (grd_ok hg2)) (ex_mul ex_int (ex_var (i := 1) rfl) (.inl ⟨by decide, by decide⟩))) (ex_var (i := 0) rfl)) ex_int (by decide)) (fun v_two_3 => (bx_bind fun g4 hg4 => (bx_retS (ex_mod (ex_add (ex_add (ex_mul (ex_var (i := 2) rfl) (ex_var (i := 2) rfl) (grd_ok hg4)) (ex_mul ex_int (ex_var (i := 2) rfl) (.inl ⟨by decide, by decide⟩))) (ex_var (i := 1) rfl)) ex_int (by decide)) rfl))))))))
abbrev encR_l_raw (y : Int) : Out := .rt (.sh (PyData.int y))
abbrev st_l_raw : Stmt := top 34
abbrev NN_l_raw : List Str := ["_law_script", "_law_k", "_law_cell", "_law_found", "_law_turn"]
theorem sc_l_raw : FnScope NN_l_raw ["_law_script", "_law_k"] (defScope st_l_raw) := ⟨rfl, rfl, rfl, by decide +kernel, rfl, by decide +kernel, by decide +kernel⟩
abbrev I_l_raw : List PyData → Rv → Prop := Im (fun (a : ((List Int) × Int)) => [(eL PyData.int) a.1, PyData.int a.2]) (fun (y : Int) => Rv.sh (PyData.int y)) (fun a => l_raw a.1 a.2)
theorem fn_l_raw {P : Program} {w : World} {K : PySem.W.Frag} {mg : Str → Option Value} {base : Heap} {f : Addr} {fd : FuncData} (F : FunD K "_law_raw" "_law_raw" (defArgs st_l_raw) (defBody st_l_raw) (defScope st_l_raw) [] [] f fd) (hg : mg "_law_raw" = some (.ref f)) (T : Tx K mg) (G__law_mix : Fn P w K mg base "_law_mix" 1 I_l_mix) : Fn P w K mg base "_law_raw" 2 I_l_raw := by
  refine ⟨f, fd, ["_law_script", "_law_k"], fn_ok (N := NN_l_raw) (en := encR_l_raw) F sc_l_raw (fun _ => rfl) (fun _ => .inl rfl) (fun cdv A' outer s H E hr => ⟨_, (pss_cons (ps_set (i := 2) sc_l_raw.nd rfl (by first | exact Or.inl rfl | exact Or.inr rfl) (pe_op op_add (pe_op op_mul pe_int (pv 1)) pe_int)) (pss_cons (ps_if (pt_cmpR op_gt (pe_callB (call_lenK (K := K)) (by rfl) T.len (by decide +kernel) (pa_cons (pv 0) pa_nil)) pe_int (nomark _)) (pss_cons (ps_set (i := 2) sc_l_raw.nd rfl (by first | exact Or.inl rfl | exact Or.inr rfl) (pe_op op_add (pe_ix (ix_listK (K := K)) (pv 0) (pe_op op_mod (pv 1) (pe_callB (call_lenK (K := K)) (by rfl) T.len (by decide +kernel) (pa_cons (pv 0) pa_nil))) (fun _ _ => rfl)) (pe_op op_mul pe_int (pe_op op_fdivW (pv 1) (pe_callB (call_lenK (K := K)) (by rfl) T.len (by decide +kernel) (pa_cons (pv 0) pa_nil)))))) pss_nil) pss_nil) (pss_cons (ps_if (PW.pt (pw_and (pt_cmpR op_lt (pv 1) (pe_callB (call_lenK (K := K)) (by rfl) T.len (by decide +kernel) (pa_cons (pv 0) pa_nil)) (nomark _)) (pw_and1 (pt_cmpR op_ge (pv 2) (pe_op op_pow pe_int pe_int) (nomark _))))) (pss_cons (ps_ret (pe_op op_sub (pv 2) (pe_op op_pow pe_int pe_int))) pss_never) pss_nil) (pss_cons (ps_set (i := 3) sc_l_raw.nd rfl (by first | exact Or.inl rfl | exact Or.inr rfl) pe_int) (pss_cons (ps_for PassesOwn.never rfl (pi_range1 (by rfl) T.range (pa_cons pe_int pa_nil)) (pg_name (i := 4) sc_l_raw.nd rfl (by first | exact Or.inl rfl | exact Or.inr rfl)) (pss_cons (ps_set (i := 3) sc_l_raw.nd rfl (by first | exact Or.inl rfl | exact Or.inr rfl) (pe_op op_add (pe_op op_mul (pv 3) pe_int) (pe_fn G__law_mix (hr.mono (by decide)) (by rfl) (pa_cons (pe_op op_add (pe_op op_add (pv 2) (pe_op op_mul pe_int (pv 1))) (pe_op op_mul pe_int (pv 4))) pa_nil)))) pss_nil)) (pss_cons (ps_ret (pv 3)) pss_never)))))), fun a => ?_⟩), hg, F.kp, F.bindsN fun _ _ _ _ _ _ us hl => match us, hl with | [_, _], _ => rfl⟩
  obtain ⟨v_script, v_k⟩ := a
  exact (show BX K _ [.sh ((eL PyData.int) v_script), .sh (PyData.int v_k), .un, .un, .un] encR_l_raw (l_raw v_script v_k) from
   (bx_asgB (e := PyData.int) (i := 2) (ex_add (ex_mul ex_int (ex_var (i := 1) rfl) (.inl ⟨by decide, by decide⟩)) ex_int) (fun v_cell_1 => (bx_then (envS := fun (s2 : Int) => [.sh ((eL PyData.int) v_script), .sh (PyData.int v_k), .sh (PyData.int s2), .un, .un]) (bx_if (et_of (ex_gt (ex_lenL (EX.l (ex_var (i := 0) rfl))) ex_int)) (fun _ => (bx_bind fun g3 hg3 => (bx_bind fun u4 hu4 => (bx_bind fun g5 hg5 => (bx_asgB (e := PyData.int) (i := 2) (ex_add (ex_ixL (EX.l (ex_var (i := 0) rfl)) (ex_mod (ex_var (i := 1) rfl) (ex_lenL (EX.l (ex_var (i := 0) rfl))) (grd_ok hg3)) (atI_map hu4)) (ex_mul ex_int (ex_fdiv (ex_var (i := 1) rfl) (ex_lenL (EX.l (ex_var (i := 0) rfl))) (grd_ok hg5)) (.inl ⟨by decide, by decide⟩))) (fun v_cell_6 => (bx_nx (.same (.same (.same (.un (.un .nil))))) rfl))))))) (fun _ => (bx_nx (.same (.same (.same (.un (.un .nil))))) rfl))) (fun s2 _ => (bx_ifRet (et_and (et_of (ex_lt (ex_var (i := 1) rfl) (ex_lenL (EX.l (ex_var (i := 0) rfl))))) (et_of (ex_ge (ex_var (i := 2) rfl) (ex_pow ex_int ex_int ⟨by decide, by decide, by decide⟩)))) (fun _ => (bx_retS (ex_sub (ex_var (i := 2) rfl) (ex_pow ex_int ex_int ⟨by decide, by decide, by decide⟩)) rfl)) (fun _ _ _ h => nomatch h) (fun _ => (bx_asg (d := PyData.int (0 : Int)) ex_int (EGc.eg (egc_name (i := 3) (vs := [3]) (by decide))) (bx_then (envS := (fun (s_1 : Int) => [.sh ((eL PyData.int) v_script), .sh (PyData.int v_k), .sh (PyData.int s2), .sh (PyData.int s_1), .un])) (bx_forS (envS := (fun (s_1 : Int) => [.sh ((eL PyData.int) v_script), .sh (PyData.int v_k), .sh (PyData.int s2), .sh (PyData.int s_1), .un])) (e := PyData.int) (envB := (fun (s_1 : Int) (x7 : Int) => [.sh ((eL PyData.int) v_script), .sh (PyData.int v_k), .sh (PyData.int s2), .sh (PyData.int s_1), .sh (PyData.int x7)])) (f := (l_raw_for1 v_k s2)) (eis_rng1 ex_int (by decide)) (.same (.same (.same (.same (.un .nil))))) (fun s_1 x7 _ => EGc.eg (vs := [4]) (egc_name (i := 4) (by decide))) (fun s_1 x7 _ => (bx_bind fun u8 hu8 => (bx_asgB (e := PyData.int) (i := 3) (ex_add (ex_mul (ex_var (i := 3) rfl) ex_int (.inr ⟨by decide, by decide⟩)) (ex_call (ea_cons (ex_add (ex_add (ex_var (i := 2) rfl) (ex_mul ex_int (ex_var (i := 1) rfl) (.inl ⟨by decide, by decide⟩))) (ex_mul ex_int (ex_var (i := 4) rfl) (.inl ⟨by decide, by decide⟩))) ea_nil) ⟨((s2 + ((1009 : Int) * v_k)) + ((7919 : Int) * x7)), u8, rfl, hu8, rfl⟩)) (fun v_found_9 => (bx_nx (.same (.same (.same (.same (.un .nil))))) rfl)))))) (fun s10 _ => (bx_retS (ex_var (i := 3) rfl) rfl)))))))))))
abbrev encR_l_digits (y : (List Int)) : Out := .rt (.fr (y.map PyData.int))
abbrev st_l_digits : Stmt := top 35
abbrev NN_l_digits : List Str := ["_law_script", "_law_k", "_law_sizes", "_law_rest", "_law_found", "_law_size"]
theorem sc_l_digits : FnScope NN_l_digits ["_law_script", "_law_k", "_law_sizes"] (defScope st_l_digits) := ⟨rfl, rfl, rfl, by decide +kernel, rfl, by decide +kernel, by decide +kernel⟩
abbrev I_l_digits : List PyData → Rv → Prop := Im (fun (a : ((List Int) × Int × (List Int))) => [(eL PyData.int) a.1, PyData.int a.2.1, (eL PyData.int) a.2.2]) (fun (y : (List Int)) => Rv.fr (y.map PyData.int)) (fun a => l_digits a.1 a.2.1 a.2.2)
theorem fn_l_digits {P : Program} {w : World} {K : PySem.W.Frag} {mg : Str → Option Value} {base : Heap} {f : Addr} {fd : FuncData} (F : FunD K "_law_digits" "_law_digits" (defArgs st_l_digits) (defBody st_l_digits) (defScope st_l_digits) [] [] f fd) (hg : mg "_law_digits" = some (.ref f)) (T : Tx K mg) (G__law_raw : Fn P w K mg base "_law_raw" 2 I_l_raw) : Fn P w K mg base "_law_digits" 3 I_l_digits := by
  refine ⟨f, fd, ["_law_script", "_law_k", "_law_sizes"], fn_ok (N := NN_l_digits) (en := encR_l_digits) F sc_l_digits (fun _ => rfl) (fun _ => .inl rfl) (fun cdv A' outer s H E hr => ⟨_, (pss_cons (ps_set (i := 3) sc_l_digits.nd rfl (by first | exact Or.inl rfl | exact Or.inr rfl) (pe_fn G__law_raw (hr.mono (by decide)) (by rfl) (pa_cons (pv 0) (pa_cons (pv 1) pa_nil)))) (pss_cons (ps_set (i := 4) sc_l_digits.nd rfl (by first | exact Or.inl rfl | exact Or.inr rfl) (pe_lst pa_nil)) (pss_cons (ps_for PassesOwn.never rfl (pi_listK (K := K) (pv 2)) (pg_name (i := 5) sc_l_digits.nd rfl (by first | exact Or.inl rfl | exact Or.inr rfl)) (pss_cons (ps_expr (pe_bm PySem.F.plainAttrs_list PySem.F.slot_list_append PySem.F.type_list_append mt_append (pv 4) (pa_cons (pe_op op_mod (pv 3) (pv 5)) pa_nil))) (pss_cons (ps_set (i := 3) sc_l_digits.nd rfl (by first | exact Or.inl rfl | exact Or.inr rfl) (pe_op op_fdivW (pv 3) (pv 5))) pss_nil))) (pss_cons (ps_ret (pv 4)) pss_never)))), fun a => ?_⟩), hg, F.kp, F.bindsN fun _ _ _ _ _ _ us hl => match us, hl with | [_, _, _], _ => rfl⟩
  obtain ⟨v_script, v_k, v_sizes⟩ := a
  exact (show BX K _ [.sh ((eL PyData.int) v_script), .sh (PyData.int v_k), .sh ((eL PyData.int) v_sizes), .un, .un, .un] encR_l_digits (l_digits v_script v_k v_sizes) from
   (bx_bind fun u1 hu1 => (bx_asg (d := PyData.int u1) (ex_call (ea_cons (ex_var (i := 0) rfl) (ea_cons (ex_var (i := 1) rfl) ea_nil)) ⟨(v_script, v_k), u1, rfl, hu1, rfl⟩) (EGc.eg (egc_name (i := 3) (vs := [3]) (by decide))) (bx_asgW (exw_lst (ds := (([] : (List Int)) : (List Int)).map PyData.int) ea_nil (Nat.le_of_ble_eq_true rfl)) (bx_then (envS := (fun (s_1 : Int × (List Int)) => [.sh ((eL PyData.int) v_script), .sh (PyData.int v_k), .sh ((eL PyData.int) v_sizes), .sh (PyData.int s_1.1), .ow (s_1.2.map PyData.int), .un])) (bx_forS (envS := (fun (s_1 : Int × (List Int)) => [.sh ((eL PyData.int) v_script), .sh (PyData.int v_k), .sh ((eL PyData.int) v_sizes), .sh (PyData.int s_1.1), .ow (s_1.2.map PyData.int), .un])) (e := PyData.int) (envB := (fun (s_1 : Int × (List Int)) (x2 : Int) => [.sh ((eL PyData.int) v_script), .sh (PyData.int v_k), .sh ((eL PyData.int) v_sizes), .sh (PyData.int s_1.1), .ow (s_1.2.map PyData.int), .sh (PyData.int x2)])) (f := l_digits_for1) (eis_list (ex_var (i := 2) rfl)) (.same (.same (.same (.same (.same (.un .nil)))))) (fun s_1 x2 _ => EGc.eg (vs := [5]) (egc_name (i := 5) (by decide))) (fun s_1 x2 _ => (bx_bind fun g3 hg3 => (bx_bind fun u4 hu4 => (bx_app (e := PyData.int) (x := (s_1.1 % x2)) rfl (ex_mod (ex_var (i := 3) rfl) (ex_var (i := 5) rfl) (grd_ok hg3)) hu4 (bx_bind fun g5 hg5 => (bx_asgB (e := PyData.int) (i := 3) (ex_fdiv (ex_var (i := 3) rfl) (ex_var (i := 5) rfl) (grd_ok hg5)) (fun v_rest_6 => (bx_nx (.same (.same (.same (.same (.same (.un .nil)))))) rfl))))))))) (fun s7 _ => (bx_retO (i := 4) rfl rfl)))))))
abbrev encR_l_hooks (y : (List Int)) : Out := .rt (.fr (y.map PyData.int))
abbrev st_l_hooks : Stmt := top 36
abbrev NN_l_hooks : List Str := ["_law_script", "_law_k", "_law_pegs", "_law_size", "_law_found", "_law_start", "_law_steps", "_law_step", "_law_number"]
theorem sc_l_hooks : FnScope NN_l_hooks ["_law_script", "_law_k", "_law_pegs", "_law_size"] (defScope st_l_hooks) := ⟨rfl, rfl, rfl, by decide +kernel, rfl, by decide +kernel, by decide +kernel⟩
abbrev I_l_hooks : List PyData → Rv → Prop := Im (fun (a : ((List Int) × Int × Int × Int)) => [(eL PyData.int) a.1, PyData.int a.2.1, PyData.int a.2.2.1, PyData.int a.2.2.2]) (fun (y : (List Int)) => Rv.fr (y.map PyData.int)) (fun a => l_hooks a.1 a.2.1 a.2.2.1 a.2.2.2)
theorem fn_l_hooks {P : Program} {w : World} {K : PySem.W.Frag} {mg : Str → Option Value} {base : Heap} {f : Addr} {fd : FuncData} (F : FunD K "_law_hooks" "_law_hooks" (defArgs st_l_hooks) (defBody st_l_hooks) (defScope st_l_hooks) [] [] f fd) (hg : mg "_law_hooks" = some (.ref f)) (T : Tx K mg) (G__law_digits : Fn P w K mg base "_law_digits" 3 I_l_digits) : Fn P w K mg base "_law_hooks" 4 I_l_hooks := by
  refine ⟨f, fd, ["_law_script", "_law_k", "_law_pegs", "_law_size"], fn_ok (N := NN_l_hooks) (en := encR_l_hooks) F sc_l_hooks (fun _ => rfl) (fun _ => .inl rfl) (fun cdv A' outer s H E hr => ⟨_, (pss_cons (ps_set (i := 4) sc_l_hooks.nd rfl (by first | exact Or.inl rfl | exact Or.inr rfl) (pe_lst pa_nil)) (pss_cons (ps_for PassesOwn.never rfl (pi_range3 (by rfl) T.range (pa_cons pe_int (pa_cons (pv 3) (pa_cons pe_int pa_nil)))) (pg_name (i := 5) sc_l_hooks.nd rfl (by first | exact Or.inl rfl | exact Or.inr rfl)) (pss_cons (ps_set (i := 6) sc_l_hooks.nd rfl (by first | exact Or.inl rfl | exact Or.inr rfl) (pe_fn G__law_digits (hr.mono (by decide)) (by rfl) (pa_cons (pv 0) (pa_cons (pe_op op_add (pv 1) (pe_op op_fdivW (pv 5) pe_int)) (pa_cons (pe_op op_rep (pe_lst (pa_cons pe_int pa_nil)) pe_int) pa_nil))))) (pss_cons (ps_for PassesOwn.never rfl (pi_listK (K := K) (pe_slice (sl_listK (K := K)) (pv 6) po_none (po_some (pe_op op_sub (pv 3) (pv 5))))) (pg_name (i := 7) sc_l_hooks.nd rfl (by first | exact Or.inl rfl | exact Or.inr rfl)) (pss_cons (ps_if (pt_cmpR op_lt (pv 2) pe_int (nomark _)) (pss_cons (ps_ret (pe_lst pa_nil)) pss_never) pss_nil) (pss_cons (ps_set (i := 8) sc_l_hooks.nd rfl (by first | exact Or.inl rfl | exact Or.inr rfl) (pe_op op_mod (pv 7) (pe_op op_sub (pv 2) pe_int))) (pss_cons (ps_if (PW.pt (pw_and (pt_cmpR (op_neDK (K := K) hr.units) (pv 4) (pe_lst pa_nil) (nomark _)) (pw_and1 (pt_cmpR op_eq (pe_op op_mod (pv 7) pe_int) pe_int (nomark _))))) (pss_cons (ps_set (i := 8) sc_l_hooks.nd rfl (by first | exact Or.inl rfl | exact Or.inr rfl) (pe_callB (call_min2 rfl) (by rfl) T.min (by decide +kernel) (pa_cons (pe_op op_sub (pv 2) pe_int) (pa_cons (pe_callB (call_max2 rfl) (by rfl) T.max (by decide +kernel) (pa_cons pe_int (pa_cons (pe_op op_add (pe_ix (ix_listK (K := K)) (pv 4) (pe_un un_neg pe_int) (fun _ _ => rfl)) (pe_ix (ix_listK (K := K)) (pe_lst (pa_cons pe_int (pa_cons (pe_un un_neg pe_int) (pa_cons pe_int pa_nil)))) (pe_op op_mod (pe_op op_mod (pv 7) pe_int) pe_int) (fun _ _ => rfl))) pa_nil))) pa_nil)))) pss_nil) pss_nil) (pss_cons (ps_expr (pe_bm PySem.F.plainAttrs_list PySem.F.slot_list_append PySem.F.type_list_append mt_append (pv 4) (pa_cons (pv 8) pa_nil))) pss_nil))))) pss_nil))) (pss_cons (ps_ret (pv 4)) pss_never))), fun a => ?_⟩), hg, F.kp, F.bindsN fun _ _ _ _ _ _ us hl => match us, hl with | [_, _, _, _], _ => rfl⟩
  obtain ⟨v_script, v_k, v_pegs, v_size⟩ := a
  exact (show BX K _ [.sh ((eL PyData.int) v_script), .sh (PyData.int v_k), .sh (PyData.int v_pegs), .sh (PyData.int v_size), .un, .un, .un, .un, .un] encR_l_hooks (l_hooks v_script v_k v_pegs v_size) from
   (bx_asgW (exw_lst (ds := (([] : (List Int)) : (List Int)).map PyData.int) ea_nil (Nat.le_of_ble_eq_true rfl)) (bx_bind fun g1 hg1 => (bx_bindR (envS := (fun (s_1 : (List Int)) => [.sh ((eL PyData.int) v_script), .sh (PyData.int v_k), .sh (PyData.int v_pegs), .sh (PyData.int v_size), .ow (s_1.map PyData.int), .un, .un, .un, .un])) (encR := encR_l_hooks) (bx_forR (encR := encR_l_hooks) (envS := (fun (s_1 : (List Int)) => [.sh ((eL PyData.int) v_script), .sh (PyData.int v_k), .sh (PyData.int v_pegs), .sh (PyData.int v_size), .ow (s_1.map PyData.int), .un, .un, .un, .un])) (e := PyData.int) (envB := (fun (s_1 : (List Int)) (x2 : Int) => [.sh ((eL PyData.int) v_script), .sh (PyData.int v_k), .sh (PyData.int v_pegs), .sh (PyData.int v_size), .ow (s_1.map PyData.int), .sh (PyData.int x2), .un, .un, .un])) (f := (l_hooks_for1 v_script v_k v_pegs v_size)) (eis_rng3 ex_int (ex_var (i := 3) rfl) ex_int (by decide) (grd_ok hg1) (by decide) (by decide)) (.same (.same (.same (.same (.same (.un (.un (.un (.un .nil))))))))) (fun _ => trivial) (fun s_1 x2 _ => EGc.eg (vs := [5]) (egc_name (i := 5) (by decide))) (fun s_1 x2 _ => (bx_bind fun u3 hu3 => (bx_asg (d := (eL PyData.int) u3) (EXw.sh (exw_call (ea_cons (ex_var (i := 0) rfl) (ea_cons (ex_add (ex_var (i := 1) rfl) (ex_fdiv (ex_var (i := 5) rfl) ex_int ⟨by decide, by decide +kernel⟩)) (ea_cons (EXw.sh (exw_rep (EXw.l (exw_lst (ds := ([(97 : Int)] : (List Int)).map PyData.int) (ea_cons ex_int ea_nil) (Nat.le_of_ble_eq_true rfl))) ex_int ⟨by decide, by decide⟩ (Nat.le_of_ble_eq_true rfl) rfl)) ea_nil))) ⟨(v_script, (v_k + (x2 / (12 : Int))), (List.replicate 12 (97 : Int))), u3, rfl, hu3, rfl⟩)) (EGc.eg (egc_name (i := 6) (vs := [6]) (by decide))) (bx_bindR (envS := (fun (s_2 : (List Int)) => [.sh ((eL PyData.int) v_script), .sh (PyData.int v_k), .sh (PyData.int v_pegs), .sh (PyData.int v_size), .ow (s_2.map PyData.int), .sh (PyData.int x2), .sh ((eL PyData.int) u3), .un, .un])) (encR := encR_l_hooks) (bx_forR (encR := encR_l_hooks) (envS := (fun (s_2 : (List Int)) => [.sh ((eL PyData.int) v_script), .sh (PyData.int v_k), .sh (PyData.int v_pegs), .sh (PyData.int v_size), .ow (s_2.map PyData.int), .sh (PyData.int x2), .sh ((eL PyData.int) u3), .un, .un])) (e := PyData.int) (envB := (fun (s_2 : (List Int)) (x4 : Int) => [.sh ((eL PyData.int) v_script), .sh (PyData.int v_k), .sh (PyData.int v_pegs), .sh (PyData.int v_size), .ow (s_2.map PyData.int), .sh (PyData.int x2), .sh ((eL PyData.int) u3), .sh (PyData.int x4), .un])) (f := (l_hooks_for2 v_pegs)) (eis_list (EXw.sh (exw_sl (EX.l (ex_var (i := 6) rfl)) eo_none (eo_some (ex_sub (ex_var (i := 3) rfl) (ex_var (i := 5) rfl)))))) (.same (.same (.same (.same (.same (.same (.same (.un (.un .nil))))))))) (fun _ => trivial) (fun s_2 x4 _ => EGc.eg (vs := [7]) (egc_name (i := 7) (by decide))) (fun s_2 x4 _ => (bx_ifRetM (encR := encR_l_hooks) (et_of (ex_lt (ex_var (i := 2) rfl) ex_int)) (fun _ => (bx_retSW (exw_lst (ds := (([] : (List Int)) : (List Int)).map PyData.int) ea_nil (Nat.le_of_ble_eq_true rfl)) rfl)) (fun _ _ h => nomatch h) (fun _ => rfl) (fun _ => (bx_bind fun g5 hg5 => (bx_asgB (e := PyData.int) (i := 8) (ex_mod (ex_var (i := 7) rfl) (ex_sub (ex_var (i := 2) rfl) ex_int) (grd_ok hg5)) (fun v_number_6 => (bx_then (envS := fun (s7 : Int) => [.sh ((eL PyData.int) v_script), .sh (PyData.int v_k), .sh (PyData.int v_pegs), .sh (PyData.int v_size), .ow (s_2.map PyData.int), .sh (PyData.int x2), .sh ((eL PyData.int) u3), .sh (PyData.int x4), .sh (PyData.int s7)]) (bx_if (et_and (et_of (ex_neT (x := (s_2 : (List Int))) (y := (([] : (List Int)) : (List Int))) (EnOk.list EnOk.int) (EXl.q (exl_var (i := 4) rfl)) (EXl.q (EXw.l (exw_lst (ds := (([] : (List Int)) : (List Int)).map PyData.int) ea_nil (Nat.le_of_ble_eq_true rfl)))))) (et_of (ex_eqI (ex_mod (ex_var (i := 7) rfl) ex_int (by decide)) ex_int))) (fun _ => (bx_bind fun u8 hu8 => (bx_bind fun u9 hu9 => (bx_asgB (e := PyData.int) (i := 8) (ex_min (ex_sub (ex_var (i := 2) rfl) ex_int) (ex_max ex_int (ex_add (ex_ixL (exl_var (i := 4) rfl) (ex_neg ex_int) (atI_map hu8)) (ex_ixL (EXw.l (exw_lst (ds := ([(1 : Int), (-(1 : Int)), (0 : Int)] : (List Int)).map PyData.int) (ea_cons ex_int (ea_cons (ex_neg ex_int) (ea_cons ex_int ea_nil))) (Nat.le_of_ble_eq_true rfl))) (ex_mod (ex_mod (ex_var (i := 7) rfl) ex_int (by decide)) ex_int (by decide)) (atI_map hu9))))) (fun v_number_10 => (bx_nx (.same (.same (.same (.same (.same (.same (.same (.same (.same .nil))))))))) rfl)))))) (fun _ => (bx_nx (.same (.same (.same (.same (.same (.same (.same (.same (.same .nil))))))))) rfl))) (fun s7 _ => (bx_bind fun u11 hu11 => (bx_app (e := PyData.int) (x := s7) rfl (ex_var (i := 8) rfl) hu11 (bx_nx (.same (.same (.same (.same (.same (.same (.same (.un (.un .nil))))))))) rfl)))))))))))) (fun _ => rfl) (fun _ _ h => nomatch h) (fun s12 _ => (bx_nx (.same (.same (.same (.same (.same (.un (.un (.un (.un .nil))))))))) rfl))))))) (fun _ => rfl) (fun _ _ h => nomatch h) (fun s13 _ => (bx_retO (i := 4) rfl rfl))))))
abbrev encR_l_after (y : (Option (Int × (List Int)))) : Out := .rt (.sh ((eO (eP PyData.int (eL PyData.int))) y))
abbrev st_l_after : Stmt := top 37
abbrev NN_l_after : List Str := ["_law_pegs", "_law_pair", "_law_trade", "_law_rings", "_law_line", "_law_word_here", "_law_at", "_law_here", "_law_rest"]
theorem sc_l_after : FnScope NN_l_after ["_law_pegs", "_law_pair", "_law_trade"] (defScope st_l_after) := ⟨rfl, rfl, rfl, by decide +kernel, rfl, by decide +kernel, by decide +kernel⟩
abbrev I_l_after : List PyData → Rv → Prop := Im (fun (a : (Int × (Int × (List Int)) × PyData)) => [PyData.int a.1, (eP PyData.int (eL PyData.int)) a.2.1, eD a.2.2]) (fun (y : (Option (Int × (List Int)))) => Rv.sh ((eO (eP PyData.int (eL PyData.int))) y)) (fun a => l_after a.1 a.2.1 a.2.2)
theorem fn_l_after {P : Program} {w : World} {K : PySem.W.Frag} {mg : Str → Option Value} {base : Heap} {f : Addr} {fd : FuncData} (F : FunD K "_law_after" "_law_after" (defArgs st_l_after) (defBody st_l_after) (defScope st_l_after) [] [] f fd) (hg : mg "_law_after" = some (.ref f)) (T : Tx K mg)  : Fn P w K mg base "_law_after" 1 I_l_after := by
  refine ⟨f, fd, ["_law_pegs", "_law_pair", "_law_trade"], fn_ok (N := NN_l_after) (en := encR_l_after) F sc_l_after (fun _ => rfl) (fun _ => .inl rfl) (fun cdv A' outer s H E hr => ⟨_, (pss_cons (ps_asg (pv 1) (pg_tupK (K := K) (n := 2) (by rfl) (pgs_cons (pg_name (i := 3) sc_l_after.nd rfl (by first | exact Or.inl rfl | exact Or.inr rfl)) (pgs_cons (pg_name (i := 4) sc_l_after.nd rfl (by first | exact Or.inl rfl | exact Or.inr rfl)) pgs_nil)))) (pss_cons (ps_par (i := 5) (j := 6) (by rfl) sc_l_after.nd rfl rfl (by decide) rfl rfl (pa_cons (pe_ix (ix_tupK (K := K)) (pv 2) pe_int (fun _ _ => rfl)) (pa_cons (pe_ix (ix_tupK (K := K)) (pv 2) pe_int (fun _ _ => rfl)) pa_nil)) (by rfl)) (pss_cons (ps_if (PW.pt (pw_or (pt_not (pt_chain op_le op_lt pe_int (pv 6) (pe_callB (call_lenK (K := K)) (by rfl) T.len (by decide +kernel) (pa_cons (pv 4) pa_nil)))) (pw_or1 (pt_cmpR op_ne (pe_callB (call_lenK (K := K)) (by rfl) T.len (by decide +kernel) (pa_cons (pv 2) pa_nil)) (pe_op op_add pe_int (pe_callTy call_int1 (by rfl) T.int (by decide +kernel) (pa_cons (pe_cmpR (op_eqDK (K := K) hr.units) (pv 5) pe_str (nomark _)) pa_nil))) (nomark _))))) (pss_cons (ps_ret pe_non) pss_never) pss_nil) (pss_cons (ps_par (i := 7) (j := 8) (by rfl) sc_l_after.nd rfl rfl (by decide) rfl rfl (pa_cons (pe_ix (ix_listK (K := K)) (pv 4) (pv 6) (fun _ _ => rfl)) (pa_cons (pe_slice (sl_listK (K := K)) (pv 4) (po_some (pe_op op_add (pv 6) pe_int)) po_none) pa_nil)) (by rfl)) (pss_cons (ps_if (PW.pt (pw_and (pt_cmpR (op_eqDK (K := K) hr.units) (pv 5) pe_str (nomark _)) (pw_and1 (pt_cmpR op_gt (pv 3) pe_int (nomark _))))) (pss_cons (ps_ret (pe_tup (pa_cons (pe_op op_sub (pv 3) pe_int) (pa_cons (pe_op op_cat (pe_op op_cat (pe_slice (sl_listK (K := K)) (pv 4) po_none (po_some (pe_op op_add (pv 6) pe_int))) (pe_lst (pa_cons (pv 7) pa_nil))) (pv 8)) pa_nil)))) pss_never) pss_nil) (pss_cons (ps_if (PW.pt (pw_and (pt_cmpR (op_eqDK (K := K) hr.units) (pv 5) pe_str (nomark _)) (pw_and (pt_chain op_le op_lt pe_int (pe_ix (ix_tupK (K := K)) (pv 2) pe_int (fun _ _ => rfl)) (pe_op op_sub (pv 0) pe_int)) (pw_and1 (pt_cmpR (op_inK (K := K)) (pe_ix (ix_tupK (K := K)) (pv 2) pe_int (fun _ _ => rfl)) (pe_tup (pa_cons (pe_op op_sub (pv 7) pe_int) (pa_cons (pe_op op_add (pv 7) pe_int) pa_nil))) (by rfl)))))) (pss_cons (ps_ret (pe_tup (pa_cons (pv 3) (pa_cons (pe_op op_cat (pe_op op_cat (pe_slice (sl_listK (K := K)) (pv 4) po_none (po_some (pe_op op_add (pv 6) pe_int))) (pe_lst (pa_cons (pe_ix (ix_tupK (K := K)) (pv 2) pe_int (fun _ _ => rfl)) (pa_cons (pv 7) pa_nil)))) (pv 8)) pa_nil)))) pss_never) pss_nil) (pss_cons (ps_if (PW.pt (pw_and (pt_cmpR (op_eqDK (K := K) hr.units) (pv 5) pe_str (nomark _)) (pw_and (pt_cmpR (op_neDK (K := K) hr.units) (pv 8) (pe_lst pa_nil) (nomark _)) (pw_and1 (pt_cmpR (op_notInK (K := K)) (pe_ix (ix_listK (K := K)) (pv 8) pe_int (fun _ _ => rfl)) (pe_tup (pa_cons (pe_op op_sub (pv 7) pe_int) (pa_cons (pv 7) (pa_cons (pe_op op_add (pv 7) pe_int) pa_nil)))) (by rfl)))))) (pss_cons (ps_ret (pe_tup (pa_cons (pv 3) (pa_cons (pe_op op_cat (pe_op op_cat (pe_slice (sl_listK (K := K)) (pv 4) po_none (po_some (pv 6))) (pe_lst (pa_cons (pe_ix (ix_listK (K := K)) (pv 8) pe_int (fun _ _ => rfl)) (pa_cons (pv 7) pa_nil)))) (pe_slice (sl_listK (K := K)) (pv 8) (po_some pe_int) po_none)) pa_nil)))) pss_never) pss_nil) (pss_cons (ps_if (PW.pt (pw_and (pt_cmpR (op_eqDK (K := K) hr.units) (pv 5) pe_str (nomark _)) (pw_and (pt_cmpR (op_neDK (K := K) hr.units) (pv 8) (pe_lst pa_nil) (nomark _)) (pw_and1 (pt_cmpR op_eq (pe_ix (ix_listK (K := K)) (pv 8) pe_int (fun _ _ => rfl)) (pv 7) (nomark _)))))) (pss_cons (ps_ret (pe_tup (pa_cons (pe_op op_add (pv 3) pe_int) (pa_cons (pe_op op_cat (pe_slice (sl_listK (K := K)) (pv 4) po_none (po_some (pe_op op_add (pv 6) pe_int))) (pe_slice (sl_listK (K := K)) (pv 8) (po_some pe_int) po_none)) pa_nil)))) pss_never) pss_nil) (pss_cons (ps_if (PW.pt (pw_and (pt_cmpR (op_eqDK (K := K) hr.units) (pv 5) pe_str (nomark _)) (pw_and (pt_cmpR op_gt (pe_callB (call_lenK (K := K)) (by rfl) T.len (by decide +kernel) (pa_cons (pv 8) pa_nil)) pe_int (nomark _)) (pw_and (pt_cmpR op_eq (pe_ix (ix_listK (K := K)) (pv 8) pe_int (fun _ _ => rfl)) (pv 7) (nomark _)) (pw_and1 (pt_cmpR (op_inK (K := K)) (pe_ix (ix_listK (K := K)) (pv 8) pe_int (fun _ _ => rfl)) (pe_tup (pa_cons (pe_op op_sub (pv 7) pe_int) (pa_cons (pe_op op_add (pv 7) pe_int) pa_nil))) (by rfl))))))) (pss_cons (ps_ret (pe_tup (pa_cons (pv 3) (pa_cons (pe_op op_cat (pe_slice (sl_listK (K := K)) (pv 4) po_none (po_some (pe_op op_add (pv 6) pe_int))) (pe_slice (sl_listK (K := K)) (pv 8) (po_some pe_int) po_none)) pa_nil)))) pss_never) pss_nil) (pss_cons (ps_ret pe_non) pss_never)))))))))), fun a => ?_⟩), hg, F.kp, F.bindsN fun _ _ _ _ _ _ us hl => match us, hl with | [_, _, _], _ => rfl⟩
  obtain ⟨v_pegs, v_pair, v_trade⟩ := a
  exact (show BX K _ [.sh (PyData.int v_pegs), .sh ((eP PyData.int (eL PyData.int)) v_pair), .sh (eD v_trade), .un, .un, .un, .un, .un, .un] encR_l_after (l_after v_pegs v_pair v_trade) from
   (bx_asg (d := (eP PyData.int (eL PyData.int)) v_pair) (ex_var (i := 1) rfl) (EGc.eg (vs := [3, 4]) (egc_tup (egs_cons (egc_name (i := 3) (by decide)) (egs_cons (egc_name (i := 4) (by decide)) egs_nil)) rfl)) (bx_bind fun u1 hu1 => (bx_bind fun u2 hu2 => (bx_bind fun u3 hu3 => (bx_par (i := 5) (j := 6) (ex_ixD (ex_var (i := 2) rfl) ex_int hu1) (ex_is (ex_ixD (ex_var (i := 2) rfl) ex_int hu2) (decI_ok hu3)) (bx_bind fun c7 hc7 => (bx_ifRet ((eto_or (eto_some (et_not (et_of (ex_chain (p := fun i j => decide (i ≤ j)) (p' := fun i j => decide (i < j)) (fun _ _ => rfl) (fun _ _ => rfl) ex_int (ex_var (i := 6) rfl) (ex_lenL (EX.l (ex_var (i := 4) rfl))))))) (eto_bind fun u4 hu4 => (eto_bind fun g5 hg5 => (eto_bind fun g6 hg6 => (eto_some (et_of (ex_neI (ex_lenD (ex_var (i := 2) rfl) hu4) (ex_add ex_int (ex_intB (ex_eqDG (d := (eD u1)) (e := (PyData.str (Str.ofString "grow"))) (grd_ok hg5) (grd_ok hg6) (EX.q (ex_var (i := 5) rfl)) (EX.q (ex_str (Nat.le_of_ble_eq_true rfl))))))))))))) c7 hc7) (fun _ => (bx_retS ex_non rfl)) (fun _ _ _ h => nomatch h) (fun _ => (bx_bind fun u8 hu8 => (bx_par (i := 7) (j := 8) (ex_ixL (EX.l (ex_var (i := 4) rfl)) (ex_var (i := 6) rfl) (atI_map hu8)) (EXw.sh (exw_sl (EX.l (ex_var (i := 4) rfl)) (eo_some (ex_add (ex_var (i := 6) rfl) ex_int)) eo_none)) (bx_bind fun g9 hg9 => (bx_bind fun g10 hg10 => (bx_ifRet (et_and (et_of (ex_eqDG (d := (eD u1)) (e := (PyData.str (Str.ofString "double"))) (grd_ok hg9) (grd_ok hg10) (EX.q (ex_var (i := 5) rfl)) (EX.q (ex_str (Nat.le_of_ble_eq_true rfl))))) (et_of (ex_gt (ex_var (i := 3) rfl) ex_int))) (fun _ => (bx_bind fun g11 hg11 => (bx_bind fun g12 hg12 => (bx_retS (ex_tup (ea_cons (ex_sub (ex_var (i := 3) rfl) ex_int) (ea_cons (EXw.sh (exw_catT (EXw.l (exw_catT (EXw.l (exw_sl (EX.l (ex_var (i := 4) rfl)) eo_none (eo_some (ex_add (ex_var (i := 6) rfl) ex_int)))) (EXw.l (exw_lst (ds := ([u8] : (List Int)).map PyData.int) (ea_cons (ex_var (i := 7) rfl) ea_nil) (Nat.le_of_ble_eq_true rfl))) (grd_ok hg11))) (EX.l (ex_var (i := 8) rfl)) (grd_ok hg12))) ea_nil)) (Nat.le_of_ble_eq_true rfl)) rfl)))) (fun _ _ _ h => nomatch h) (fun _ => (bx_bind fun g13 hg13 => (bx_bind fun g14 hg14 => (bx_bind fun c19 hc19 => (bx_ifRet ((eto_and (eto_some (et_of (ex_eqDG (d := (eD u1)) (e := (PyData.str (Str.ofString "grow"))) (grd_ok hg13) (grd_ok hg14) (EX.q (ex_var (i := 5) rfl)) (EX.q (ex_str (Nat.le_of_ble_eq_true rfl)))))) (eto_and (eto_bind fun u15 hu15 => (eto_bind fun u16 hu16 => (eto_some (et_of (ex_chain (p := fun i j => decide (i ≤ j)) (p' := fun i j => decide (i < j)) (fun _ _ => rfl) (fun _ _ => rfl) ex_int (ex_is (ex_ixD (ex_var (i := 2) rfl) ex_int hu15) (decI_ok hu16)) (ex_sub (ex_var (i := 0) rfl) ex_int)))))) (eto_bind fun u17 hu17 => (eto_bind fun u18 hu18 => (eto_some (et_of (ex_inT (ex_is (ex_ixD (ex_var (i := 2) rfl) ex_int hu17) (decI_ok hu18)) (ex_tup (ea_cons (ex_sub (ex_var (i := 7) rfl) ex_int) (ea_cons (ex_add (ex_var (i := 7) rfl) ex_int) ea_nil)) (Nat.le_of_ble_eq_true rfl))))))))) c19 hc19) (fun _ => (bx_bind fun u20 hu20 => (bx_bind fun u21 hu21 => (bx_bind fun g22 hg22 => (bx_bind fun g23 hg23 => (bx_retS (ex_tup (ea_cons (ex_var (i := 3) rfl) (ea_cons (EXw.sh (exw_catT (EXw.l (exw_catT (EXw.l (exw_sl (EX.l (ex_var (i := 4) rfl)) eo_none (eo_some (ex_add (ex_var (i := 6) rfl) ex_int)))) (EXw.l (exw_lst (ds := ([u21, u8] : (List Int)).map PyData.int) (ea_cons (ex_is (ex_ixD (ex_var (i := 2) rfl) ex_int hu20) (decI_ok hu21)) (ea_cons (ex_var (i := 7) rfl) ea_nil)) (Nat.le_of_ble_eq_true rfl))) (grd_ok hg22))) (EX.l (ex_var (i := 8) rfl)) (grd_ok hg23))) ea_nil)) (Nat.le_of_ble_eq_true rfl)) rfl)))))) (fun _ _ _ h => nomatch h) (fun _ => (bx_bind fun g24 hg24 => (bx_bind fun g25 hg25 => (bx_bind fun c27 hc27 => (bx_ifRet ((eto_and (eto_some (et_of (ex_eqDG (d := (eD u1)) (e := (PyData.str (Str.ofString "swap"))) (grd_ok hg24) (grd_ok hg25) (EX.q (ex_var (i := 5) rfl)) (EX.q (ex_str (Nat.le_of_ble_eq_true rfl)))))) (eto_and (eto_some (et_of (ex_neT (x := ((cutA v_pair.2 (some (u3 + (1 : Int))) none) : (List Int))) (y := (([] : (List Int)) : (List Int))) (EnOk.list EnOk.int) (EX.q (ex_var (i := 8) rfl)) (EXl.q (EXw.l (exw_lst (ds := (([] : (List Int)) : (List Int)).map PyData.int) ea_nil (Nat.le_of_ble_eq_true rfl))))))) (eto_bind fun u26 hu26 => (eto_some (et_of (ex_ninT (ex_ixL (EX.l (ex_var (i := 8) rfl)) ex_int (atI_map hu26)) (ex_tup (ea_cons (ex_sub (ex_var (i := 7) rfl) ex_int) (ea_cons (ex_var (i := 7) rfl) (ea_cons (ex_add (ex_var (i := 7) rfl) ex_int) ea_nil))) (Nat.le_of_ble_eq_true rfl)))))))) c27 hc27) (fun _ => (bx_bind fun u28 hu28 => (bx_bind fun g29 hg29 => (bx_bind fun g30 hg30 => (bx_retS (ex_tup (ea_cons (ex_var (i := 3) rfl) (ea_cons (EXw.sh (exw_catT (EXw.l (exw_catT (EXw.l (exw_sl (EX.l (ex_var (i := 4) rfl)) eo_none (eo_some (ex_var (i := 6) rfl)))) (EXw.l (exw_lst (ds := ([u28, u8] : (List Int)).map PyData.int) (ea_cons (ex_ixL (EX.l (ex_var (i := 8) rfl)) ex_int (atI_map hu28)) (ea_cons (ex_var (i := 7) rfl) ea_nil)) (Nat.le_of_ble_eq_true rfl))) (grd_ok hg29))) (EXw.l (exw_sl (EX.l (ex_var (i := 8) rfl)) (eo_some ex_int) eo_none)) (grd_ok hg30))) ea_nil)) (Nat.le_of_ble_eq_true rfl)) rfl))))) (fun _ _ _ h => nomatch h) (fun _ => (bx_bind fun g31 hg31 => (bx_bind fun g32 hg32 => (bx_bind fun c34 hc34 => (bx_ifRet ((eto_and (eto_some (et_of (ex_eqDG (d := (eD u1)) (e := (PyData.str (Str.ofString "drop"))) (grd_ok hg31) (grd_ok hg32) (EX.q (ex_var (i := 5) rfl)) (EX.q (ex_str (Nat.le_of_ble_eq_true rfl)))))) (eto_and (eto_some (et_of (ex_neT (x := ((cutA v_pair.2 (some (u3 + (1 : Int))) none) : (List Int))) (y := (([] : (List Int)) : (List Int))) (EnOk.list EnOk.int) (EX.q (ex_var (i := 8) rfl)) (EXl.q (EXw.l (exw_lst (ds := (([] : (List Int)) : (List Int)).map PyData.int) ea_nil (Nat.le_of_ble_eq_true rfl))))))) (eto_bind fun u33 hu33 => (eto_some (et_of (ex_eqI (ex_ixL (EX.l (ex_var (i := 8) rfl)) ex_int (atI_map hu33)) (ex_var (i := 7) rfl))))))) c34 hc34) (fun _ => (bx_bind fun g35 hg35 => (bx_retS (ex_tup (ea_cons (ex_add (ex_var (i := 3) rfl) ex_int) (ea_cons (EXw.sh (exw_catT (EXw.l (exw_sl (EX.l (ex_var (i := 4) rfl)) eo_none (eo_some (ex_add (ex_var (i := 6) rfl) ex_int)))) (EXw.l (exw_sl (EX.l (ex_var (i := 8) rfl)) (eo_some ex_int) eo_none)) (grd_ok hg35))) ea_nil)) (Nat.le_of_ble_eq_true rfl)) rfl))) (fun _ _ _ h => nomatch h) (fun _ => (bx_bind fun g36 hg36 => (bx_bind fun g37 hg37 => (bx_bind fun c40 hc40 => (bx_ifRet ((eto_and (eto_some (et_of (ex_eqDG (d := (eD u1)) (e := (PyData.str (Str.ofString "cut"))) (grd_ok hg36) (grd_ok hg37) (EX.q (ex_var (i := 5) rfl)) (EX.q (ex_str (Nat.le_of_ble_eq_true rfl)))))) (eto_and (eto_some (et_of (ex_gt (ex_lenL (EX.l (ex_var (i := 8) rfl))) ex_int))) (eto_and (eto_bind fun u38 hu38 => (eto_some (et_of (ex_eqI (ex_ixL (EX.l (ex_var (i := 8) rfl)) ex_int (atI_map hu38)) (ex_var (i := 7) rfl))))) (eto_bind fun u39 hu39 => (eto_some (et_of (ex_inT (ex_ixL (EX.l (ex_var (i := 8) rfl)) ex_int (atI_map hu39)) (ex_tup (ea_cons (ex_sub (ex_var (i := 7) rfl) ex_int) (ea_cons (ex_add (ex_var (i := 7) rfl) ex_int) ea_nil)) (Nat.le_of_ble_eq_true rfl))))))))) c40 hc40) (fun _ => (bx_bind fun g41 hg41 => (bx_retS (ex_tup (ea_cons (ex_var (i := 3) rfl) (ea_cons (EXw.sh (exw_catT (EXw.l (exw_sl (EX.l (ex_var (i := 4) rfl)) eo_none (eo_some (ex_add (ex_var (i := 6) rfl) ex_int)))) (EXw.l (exw_sl (EX.l (ex_var (i := 8) rfl)) (eo_some ex_int) eo_none)) (grd_ok hg41))) ea_nil)) (Nat.le_of_ble_eq_true rfl)) rfl))) (fun _ _ _ h => nomatch h) (fun _ => (bx_retS ex_non rfl))))))))))))))))))))))))))))))))))))
abbrev encR_l_some_trade (y : PyData) : Out := .rt (.sh (eD y))
abbrev st_l_some_trade : Stmt := top 38
abbrev NN_l_some_trade : List Str := ["_law_script", "_law_k", "_law_pegs", "_law_pair", "_law_way", "_law_at", "_law_number", "_law_far", "_law_good", "_law_place", "_law_odd", "_law_trade", "_law_word_here", "_law_step"]
theorem sc_l_some_trade : FnScope NN_l_some_trade ["_law_script", "_law_k", "_law_pegs", "_law_pair"] (defScope st_l_some_trade) := ⟨rfl, rfl, rfl, by decide +kernel, rfl, by decide +kernel, by decide +kernel⟩
abbrev I_l_some_trade : List PyData → Rv → Prop := Im (fun (a : ((List Int) × Int × Int × (Int × (List Int)))) => [(eL PyData.int) a.1, PyData.int a.2.1, PyData.int a.2.2.1, (eP PyData.int (eL PyData.int)) a.2.2.2]) (fun (y : PyData) => Rv.sh (eD y)) (fun a => l_some_trade a.1 a.2.1 a.2.2.1 a.2.2.2)
theorem fn_l_some_trade {P : Program} {w : World} {K : PySem.W.Frag} {mg : Str → Option Value} {base : Heap} {f : Addr} {fd : FuncData} (F : FunD K "_law_some_trade" "_law_some_trade" (defArgs st_l_some_trade) (defBody st_l_some_trade) (defScope st_l_some_trade) [] [] f fd) (hg : mg "_law_some_trade" = some (.ref f)) (T : Tx K mg) (G__law_digits : Fn P w K mg base "_law_digits" 3 I_l_digits) (G__law_after : Fn P w K mg base "_law_after" 1 I_l_after) : Fn P w K mg base "_law_some_trade" 4 I_l_some_trade := by
  refine ⟨f, fd, ["_law_script", "_law_k", "_law_pegs", "_law_pair"], fn_ok (N := NN_l_some_trade) (en := encR_l_some_trade) F sc_l_some_trade (fun _ => rfl) (fun _ => .inl rfl) (fun cdv A' outer s H E hr => ⟨_, (pss_cons (ps_asg (pe_fn G__law_digits (hr.mono (by decide)) (by rfl) (pa_cons (pv 0) (pa_cons (pv 1) (pa_cons (pe_lst (pa_cons pe_int (pa_cons (pe_op op_add (pe_callB (call_lenK (K := K)) (by rfl) T.len (by decide +kernel) (pa_cons (pe_ix (ix_tupK (K := K)) (pv 3) pe_int (fun _ _ => rfl)) pa_nil)) pe_int) (pa_cons pe_int (pa_cons (pe_op op_pow pe_int pe_int) pa_nil))))) pa_nil)))) (pg_lstK (K := K) (by rfl) (pgs_cons (pg_name (i := 4) sc_l_some_trade.nd rfl (by first | exact Or.inl rfl | exact Or.inr rfl)) (pgs_cons (pg_name (i := 5) sc_l_some_trade.nd rfl (by first | exact Or.inl rfl | exact Or.inr rfl)) (pgs_cons (pg_name (i := 6) sc_l_some_trade.nd rfl (by first | exact Or.inl rfl | exact Or.inr rfl)) (pgs_cons (pg_name (i := 7) sc_l_some_trade.nd rfl (by first | exact Or.inl rfl | exact Or.inr rfl)) pgs_nil)))))) (pss_cons (ps_set (i := 5) sc_l_some_trade.nd rfl (by first | exact Or.inl rfl | exact Or.inr rfl) (pe_op op_sub (pv 5) pe_int)) (pss_cons (ps_set (i := 8) sc_l_some_trade.nd rfl (by first | exact Or.inl rfl | exact Or.inr rfl) (pe_lst pa_nil)) (pss_cons (ps_for PassesOwn.never rfl (pi_range1 (by rfl) T.range (pa_cons (pe_callB (call_lenK (K := K)) (by rfl) T.len (by decide +kernel) (pa_cons (pe_ix (ix_tupK (K := K)) (pv 3) pe_int (fun _ _ => rfl)) pa_nil)) pa_nil)) (pg_name (i := 9) sc_l_some_trade.nd rfl (by first | exact Or.inl rfl | exact Or.inr rfl)) (pss_cons (ps_set (i := 8) sc_l_some_trade.nd rfl (by first | exact Or.inl rfl | exact Or.inr rfl) (pe_op op_cat (pv 8) (pe_lc (own := [("_law_word_here", 12)]) (tt := tYes) rfl sc_l_some_trade.nd (pi_tupK (K := K) (pe_tup (pa_cons pe_str (pa_cons pe_str (pa_cons pe_str (pa_cons pe_str pa_nil)))))) (blkOk_by (N := NN_l_some_trade) (sc := defScope st_l_some_trade) (by decide +kernel)) (fun _ _ _ _ _ => (pg_name (i := 12) sc_l_some_trade.nd rfl (by first | exact Or.inl rfl | exact Or.inr rfl))) (fun _ _ _ _ _ => pts_nil) (fun _ _ _ _ _ => (pe_tup (pa_cons (pv 12) (pa_cons (pv 9) pa_nil))))))) (pss_cons (ps_set (i := 8) sc_l_some_trade.nd rfl (by first | exact Or.inl rfl | exact Or.inr rfl) (pe_op op_cat (pv 8) (pe_lc (own := [("_law_step", 13)]) (tt := tYes) rfl sc_l_some_trade.nd (pi_tupK (K := K) (pe_tup (pa_cons (pe_un un_neg pe_int) (pa_cons pe_int pa_nil)))) (blkOk_by (N := NN_l_some_trade) (sc := defScope st_l_some_trade) (by decide +kernel)) (fun _ _ _ _ _ => (pg_name (i := 13) sc_l_some_trade.nd rfl (by first | exact Or.inl rfl | exact Or.inr rfl))) (fun _ _ _ _ _ => pts_nil) (fun _ _ _ _ _ => (pe_tup (pa_cons pe_str (pa_cons (pv 9) (pa_cons (pe_op op_add (pe_ix (ix_listK (K := K)) (pe_ix (ix_tupK (K := K)) (pv 3) pe_int (fun _ _ => rfl)) (pv 9) (fun _ _ => rfl)) (pv 13)) pa_nil)))))))) pss_nil))) (pss_cons (ps_setLc (i := 8) (own := [("_law_trade", 11)]) rfl sc_l_some_trade.nd rfl rfl (sw_true rfl rfl rfl (by decide +kernel)) (pi_listK (K := K) (pv 8)) (blkOk_by (N := NN_l_some_trade) (sc := defScope st_l_some_trade) (by decide +kernel)) (fun _ _ _ _ _ => (pg_name (i := 11) sc_l_some_trade.nd rfl (by first | exact Or.inl rfl | exact Or.inr rfl))) (fun _ _ _ _ _ => (pts_one (pt_cmpR op_notN (pe_fn G__law_after (hr.mono (by decide)) (by rfl) (pa_cons (pv 2) (pa_cons (pv 3) (pa_cons (pv 11) pa_nil)))) pe_non (nomark _)))) (fun _ _ _ _ _ => (pv 11))) (pss_cons (ps_if (PW.pt (pw_and (pt_cmpR op_lt (pv 4) pe_int (nomark _)) (pw_and1 (pt_cmpR (op_neDK (K := K) hr.units) (pv 8) (pe_lst pa_nil) (nomark _))))) (pss_cons (ps_ret (pe_ix (ix_listK (K := K)) (pv 8) (pe_op op_mod (pv 7) (pe_callB (call_lenK (K := K)) (by rfl) T.len (by decide +kernel) (pa_cons (pv 8) pa_nil))) (fun _ _ => rfl))) pss_never) pss_nil) (pss_cons (ps_if (pt_cmpR op_eq (pv 4) pe_int (nomark _)) (pss_cons (ps_ret (pe_tup (pa_cons pe_str (pa_cons (pv 5) (pa_cons (pe_ix (ix_listK (K := K)) (pe_lst (pa_cons (pe_op op_sub (pv 6) pe_int) (pa_cons (pv 7) (pa_cons (pe_op op_sub pe_int (pv 7)) pa_nil)))) (pe_op op_mod (pv 7) pe_int) (fun _ _ => rfl)) pa_nil))))) pss_never) pss_nil) (pss_cons (ps_if (pt_cmpR op_eq (pv 4) pe_int (nomark _)) (pss_cons (ps_set (i := 10) sc_l_some_trade.nd rfl (by first | exact Or.inl rfl | exact Or.inr rfl) (pe_lst (pa_cons (pe_tup (pa_cons pe_str (pa_cons (pv 5) pa_nil))) (pa_cons (pe_tup (pa_cons pe_str (pa_cons (pv 5) (pa_cons pe_int pa_nil)))) (pa_cons (pe_tup (pa_cons pe_str (pa_cons (pv 5) pa_nil))) (pa_cons (pe_tup (pa_cons pe_str (pa_cons (pv 5) pa_nil))) (pa_cons (pe_tup (pa_cons pe_str (pa_cons (pv 7) pa_nil))) (pa_cons (pe_tup (pa_cons pe_str (pa_cons (pe_op op_sub pe_int (pv 7)) pa_nil))) pa_nil)))))))) (pss_cons (ps_ret (pe_ix (ix_listK (K := K)) (pe_op op_cat (pv 10) (pe_lst (pa_cons (pe_tup (pa_cons pe_str (pa_cons (pv 5) (pa_cons pe_int pa_nil)))) (pa_cons (pe_tup (pa_cons pe_str (pa_cons (pv 5) (pa_cons pe_int pa_nil)))) (pa_cons (pe_tup (pa_cons pe_str (pa_cons (pv 5) (pa_cons pe_int pa_nil)))) pa_nil))))) (pe_op op_mod (pv 7) pe_int) (fun _ _ => rfl))) pss_never)) pss_nil) (pss_cons (ps_ret (pe_tup (pa_cons (pe_ix (ix_listK (K := K)) (pe_lst (pa_cons pe_str (pa_cons pe_str (pa_cons pe_str (pa_cons pe_str pa_nil))))) (pe_op op_mod (pv 7) pe_int) (fun _ _ => rfl)) (pa_cons (pv 5) pa_nil)))) pss_never))))))))), fun a => ?_⟩), hg, F.kp, F.bindsN fun _ _ _ _ _ _ us hl => match us, hl with | [_, _, _, _], _ => rfl⟩
  obtain ⟨v_script, v_k, v_pegs, v_pair⟩ := a
  exact (show BX K _ [.sh ((eL PyData.int) v_script), .sh (PyData.int v_k), .sh (PyData.int v_pegs), .sh ((eP PyData.int (eL PyData.int)) v_pair), .un, .un, .un, .un, .un, .un, .un, .un, .un, .un] encR_l_some_trade (l_some_trade v_script v_k v_pegs v_pair) from
   (bx_bind fun u1 hu1 => (bx_bind fun u6 hu6 => (bx_asg (d := (eL PyData.int) [u6.1, u6.2.1, u6.2.2.1, u6.2.2.2]) (ex_is (EXw.sh (exw_call (ea_cons (ex_var (i := 0) rfl) (ea_cons (ex_var (i := 1) rfl) (ea_cons (EXw.sh (exw_lst (ds := ([(14 : Int), ((v_pair.2.length : Int) + (2 : Int)), (10 : Int), ((10 : Int) ^ Int.toNat (20 : Int))] : (List Int)).map PyData.int) (ea_cons ex_int (ea_cons (ex_add (ex_lenL (EX.l (ex_ixT (ex_var (i := 3) rfl) ex_int rfl))) ex_int) (ea_cons ex_int (ea_cons (ex_pow ex_int ex_int ⟨by decide, by decide, by decide⟩) ea_nil)))) (Nat.le_of_ble_eq_true rfl))) ea_nil))) ⟨(v_script, v_k, ([(14 : Int), ((v_pair.2.length : Int) + (2 : Int)), (10 : Int), ((10 : Int) ^ Int.toNat (20 : Int))])), u1, rfl, hu1, rfl⟩)) (congrArg (eL PyData.int) (unp4_ok hu6))) (EGc.eg (vs := [4, 5, 6, 7]) (egc_lst (egs_cons (egc_name (i := 4) (by decide)) (egs_cons (egc_name (i := 5) (by decide)) (egs_cons (egc_name (i := 6) (by decide)) (egs_cons (egc_name (i := 7) (by decide)) egs_nil)))) rfl)) (bx_asgB (e := PyData.int) (i := 5) (ex_sub (ex_var (i := 5) rfl) ex_int) (fun v_at_7 => (bx_asg (d := (eL eD) ([] : (List PyData))) (EXw.sh (exw_lst (ds := (([] : (List PyData)) : (List PyData)).map eD) ea_nil (Nat.le_of_ble_eq_true rfl))) (EGc.eg (egc_name (i := 8) (vs := [8]) (by decide))) (bx_bind fun g8 hg8 => (bx_then (envS := (fun (s_1 : (List PyData)) => [.sh ((eL PyData.int) v_script), .sh (PyData.int v_k), .sh (PyData.int v_pegs), .sh ((eP PyData.int (eL PyData.int)) v_pair), .sh (PyData.int u6.1), .sh (PyData.int v_at_7), .sh (PyData.int u6.2.2.1), .sh (PyData.int u6.2.2.2), .sh ((eL eD) s_1), .un, .un, .un, .un, .un])) (bx_forS (envS := (fun (s_1 : (List PyData)) => [.sh ((eL PyData.int) v_script), .sh (PyData.int v_k), .sh (PyData.int v_pegs), .sh ((eP PyData.int (eL PyData.int)) v_pair), .sh (PyData.int u6.1), .sh (PyData.int v_at_7), .sh (PyData.int u6.2.2.1), .sh (PyData.int u6.2.2.2), .sh ((eL eD) s_1), .un, .un, .un, .un, .un])) (e := PyData.int) (envB := (fun (s_1 : (List PyData)) (x9 : Int) => [.sh ((eL PyData.int) v_script), .sh (PyData.int v_k), .sh (PyData.int v_pegs), .sh ((eP PyData.int (eL PyData.int)) v_pair), .sh (PyData.int u6.1), .sh (PyData.int v_at_7), .sh (PyData.int u6.2.2.1), .sh (PyData.int u6.2.2.2), .sh ((eL eD) s_1), .sh (PyData.int x9), .un, .un, .un, .un])) (f := (l_some_trade_for1 v_pair)) (eis_rng1 (ex_lenL (EX.l (ex_ixT (ex_var (i := 3) rfl) ex_int rfl))) (grd_ok hg8)) (.same (.same (.same (.same (.same (.same (.same (.same (.same (.un (.un (.un (.un (.un .nil)))))))))))))) (fun s_1 x9 _ => EGc.eg (vs := [9]) (egc_name (i := 9) (by decide))) (fun s_1 x9 _ => (bx_bind fun g11 hg11 => (bx_asgB (e := (eL eD)) (i := 8) (EXw.sh (exw_catT (EX.l (ex_var (i := 8) rfl)) (EXw.l (exw_lcm (e := PyData.str) (e' := eD) (envB := (fun x10 => [.sh ((eL PyData.int) v_script), .sh (PyData.int v_k), .sh (PyData.int v_pegs), .sh ((eP PyData.int (eL PyData.int)) v_pair), .sh (PyData.int u6.1), .sh (PyData.int v_at_7), .sh (PyData.int u6.2.2.1), .sh (PyData.int u6.2.2.2), .sh ((eL eD) s_1), .sh (PyData.int x9), .un, .un, .sh (PyData.str x10), .un])) (EIs.i (eis_tup (ex_tup (ea_cons (ex_str (Nat.le_of_ble_eq_true rfl)) (ea_cons (ex_str (Nat.le_of_ble_eq_true rfl)) (ea_cons (ex_str (Nat.le_of_ble_eq_true rfl)) (ea_cons (ex_str (Nat.le_of_ble_eq_true rfl)) ea_nil)))) (Nat.le_of_ble_eq_true rfl)))) (fun x10 _ => (egc_name (i := 12) (by decide))) (fun x10 _ => (ex_tup (ea_cons (ex_var (i := 12) rfl) (ea_cons (ex_var (i := 9) rfl) ea_nil)) (Nat.le_of_ble_eq_true rfl))))) (grd_ok hg11))) (fun v_good_12 => (bx_bind fun u15 hu15 => (bx_bind fun g16 hg16 => (bx_asgB (e := (eL eD)) (i := 8) (EXw.sh (exw_catT (EX.l (ex_var (i := 8) rfl)) (EXw.l (exw_lc (e := PyData.int) (e' := eD) (envB := (fun x13 => [.sh ((eL PyData.int) v_script), .sh (PyData.int v_k), .sh (PyData.int v_pegs), .sh ((eP PyData.int (eL PyData.int)) v_pair), .sh (PyData.int u6.1), .sh (PyData.int v_at_7), .sh (PyData.int u6.2.2.1), .sh (PyData.int u6.2.2.2), .sh ((eL eD) v_good_12), .sh (PyData.int x9), .un, .un, .un, .sh (PyData.int x13)])) (EIs.i (eis_tup (ex_tup (ea_cons (ex_neg ex_int) (ea_cons ex_int ea_nil)) (Nat.le_of_ble_eq_true rfl)))) hu15 (fun x13 _ => (egc_name (i := 13) (by decide))) (fun x13 _ => (eto_some et_yes)) (fun x13 _ => (exo_bind fun u14 hu14 => (exo_some (e := eD) (ex_tup (ea_cons (ex_str (Nat.le_of_ble_eq_true rfl)) (ea_cons (ex_var (i := 9) rfl) (ea_cons (ex_add (ex_ixL (EX.l (ex_ixT (ex_var (i := 3) rfl) ex_int rfl)) (ex_var (i := 9) rfl) (atI_map hu14)) (ex_var (i := 13) rfl)) ea_nil))) (Nat.le_of_ble_eq_true rfl))))))) (grd_ok hg16))) (fun v_good_17 => (bx_nx (.same (.same (.same (.same (.same (.same (.same (.same (.same (.un (.un (.un (.un (.un .nil)))))))))))))) rfl)))))))))) (fun s18 _ => (bx_bind fun u21 hu21 => (bx_asg (d := (eL eD) u21) (EXw.sh (exw_lc (e := eD) (e' := eD) (envB := (fun x19 => [.sh ((eL PyData.int) v_script), .sh (PyData.int v_k), .sh (PyData.int v_pegs), .sh ((eP PyData.int (eL PyData.int)) v_pair), .sh (PyData.int u6.1), .sh (PyData.int v_at_7), .sh (PyData.int u6.2.2.1), .sh (PyData.int u6.2.2.2), .sh ((eL eD) s18), .un, .un, .sh (eD x19), .un, .un])) (ei_list (EX.l (ex_var (i := 8) rfl))) hu21 (fun x19 _ => (egc_name (i := 11) (by decide))) (fun x19 _ => (eto_bind fun u20 hu20 => (eto_some (et_of (ex_notNO (e := (eP PyData.int (eL PyData.int))) (m := u20) (ex_call (ea_cons (ex_var (i := 2) rfl) (ea_cons (ex_var (i := 3) rfl) (ea_cons (ex_var (i := 11) rfl) ea_nil))) ⟨(v_pegs, v_pair, x19), u20, rfl, hu20, rfl⟩)))))) (fun x19 _ => (exo_some (e := eD) (ex_var (i := 11) rfl))))) (EGc.eg (egc_name (i := 8) (vs := [8]) (by decide))) (bx_bind fun c24 hc24 => (bx_ifRet ((eto_and (eto_some (et_of (ex_lt (ex_var (i := 4) rfl) ex_int))) (eto_bind fun g22 hg22 => (eto_bind fun g23 hg23 => (eto_some (et_of (ex_neDG (d := ((eL eD) u21)) (e := ((eL eD) ([] : (List PyData)))) (grd_ok hg22) (grd_ok hg23) (EX.q (ex_var (i := 8) rfl)) (EXl.q (EXw.l (exw_lst (ds := (([] : (List PyData)) : (List PyData)).map eD) ea_nil (Nat.le_of_ble_eq_true rfl)))))))))) c24 hc24) (fun _ => (bx_bind fun g25 hg25 => (bx_bind fun u26 hu26 => (bx_retS (ex_ixL (EX.l (ex_var (i := 8) rfl)) (ex_mod (ex_var (i := 7) rfl) (ex_lenL (EX.l (ex_var (i := 8) rfl))) (grd_ok hg25)) (atI_map hu26)) rfl)))) (fun _ _ _ h => nomatch h) (fun _ => (bx_ifRet (et_of (ex_eqI (ex_var (i := 4) rfl) ex_int)) (fun _ => (bx_bind fun u27 hu27 => (bx_retS (ex_tup (ea_cons (ex_str (Nat.le_of_ble_eq_true rfl)) (ea_cons (ex_var (i := 5) rfl) (ea_cons (ex_ixL (EXw.l (exw_lst (ds := ([(u6.2.2.1 - (1 : Int)), u6.2.2.2, ((0 : Int) - u6.2.2.2)] : (List Int)).map PyData.int) (ea_cons (ex_sub (ex_var (i := 6) rfl) ex_int) (ea_cons (ex_var (i := 7) rfl) (ea_cons (ex_sub ex_int (ex_var (i := 7) rfl)) ea_nil))) (Nat.le_of_ble_eq_true rfl))) (ex_mod (ex_var (i := 7) rfl) ex_int (by decide)) (atI_map hu27)) ea_nil))) (Nat.le_of_ble_eq_true rfl)) rfl))) (fun _ _ _ h => nomatch h) (fun _ => (bx_ifRet (et_of (ex_eqI (ex_var (i := 4) rfl) ex_int)) (fun _ => (bx_asgB (e := (eL eD)) (i := 10) (EXw.sh (exw_lst (ds := ([((eP PyData.str PyData.int) ((Str.ofString "grow"), v_at_7)), ((eP3 PyData.str PyData.int PyData.int) ((Str.ofString "swap"), v_at_7, (0 : Int))), ((eP PyData.str PyData.int) ((Str.ofString ""), v_at_7)), ((eP PyData.str PyData.int) ((Str.ofString "Swap"), v_at_7)), ((eP PyData.str PyData.int) ((Str.ofString "drop"), u6.2.2.2)), ((eP PyData.str PyData.int) ((Str.ofString "cut"), ((0 : Int) - u6.2.2.2)))] : (List PyData)).map eD) (ea_cons (ex_tup (ea_cons (ex_str (Nat.le_of_ble_eq_true rfl)) (ea_cons (ex_var (i := 5) rfl) ea_nil)) (Nat.le_of_ble_eq_true rfl)) (ea_cons (ex_tup (ea_cons (ex_str (Nat.le_of_ble_eq_true rfl)) (ea_cons (ex_var (i := 5) rfl) (ea_cons ex_int ea_nil))) (Nat.le_of_ble_eq_true rfl)) (ea_cons (ex_tup (ea_cons (ex_str (Nat.le_of_ble_eq_true rfl)) (ea_cons (ex_var (i := 5) rfl) ea_nil)) (Nat.le_of_ble_eq_true rfl)) (ea_cons (ex_tup (ea_cons (ex_str (Nat.le_of_ble_eq_true rfl)) (ea_cons (ex_var (i := 5) rfl) ea_nil)) (Nat.le_of_ble_eq_true rfl)) (ea_cons (ex_tup (ea_cons (ex_str (Nat.le_of_ble_eq_true rfl)) (ea_cons (ex_var (i := 7) rfl) ea_nil)) (Nat.le_of_ble_eq_true rfl)) (ea_cons (ex_tup (ea_cons (ex_str (Nat.le_of_ble_eq_true rfl)) (ea_cons (ex_sub ex_int (ex_var (i := 7) rfl)) ea_nil)) (Nat.le_of_ble_eq_true rfl)) ea_nil)))))) (Nat.le_of_ble_eq_true rfl))) (fun v_odd_28 => (bx_bind fun g29 hg29 => (bx_bind fun u30 hu30 => (bx_retS (ex_ixL (EXw.l (exw_catT (EX.l (ex_var (i := 10) rfl)) (EXw.l (exw_lst (ds := ([((eP3 PyData.str PyData.int PyData.int) ((Str.ofString "drop"), v_at_7, (0 : Int))), ((eP3 PyData.str PyData.int PyData.int) ((Str.ofString "double"), v_at_7, (0 : Int))), ((eP3 PyData.str PyData.int PyData.int) ((Str.ofString "cut"), v_at_7, (0 : Int)))] : (List PyData)).map eD) (ea_cons (ex_tup (ea_cons (ex_str (Nat.le_of_ble_eq_true rfl)) (ea_cons (ex_var (i := 5) rfl) (ea_cons ex_int ea_nil))) (Nat.le_of_ble_eq_true rfl)) (ea_cons (ex_tup (ea_cons (ex_str (Nat.le_of_ble_eq_true rfl)) (ea_cons (ex_var (i := 5) rfl) (ea_cons ex_int ea_nil))) (Nat.le_of_ble_eq_true rfl)) (ea_cons (ex_tup (ea_cons (ex_str (Nat.le_of_ble_eq_true rfl)) (ea_cons (ex_var (i := 5) rfl) (ea_cons ex_int ea_nil))) (Nat.le_of_ble_eq_true rfl)) ea_nil))) (Nat.le_of_ble_eq_true rfl))) (grd_ok hg29))) (ex_mod (ex_var (i := 7) rfl) ex_int (by decide)) (atI_map hu30)) rfl)))))) (fun _ _ _ h => nomatch h) (fun _ => (bx_bind fun u31 hu31 => (bx_retS (ex_tup (ea_cons (ex_ixL (EXw.l (exw_lst (ds := ([(Str.ofString "swap"), (Str.ofString "drop"), (Str.ofString "cut"), (Str.ofString "double")] : (List Str)).map PyData.str) (ea_cons (ex_str (Nat.le_of_ble_eq_true rfl)) (ea_cons (ex_str (Nat.le_of_ble_eq_true rfl)) (ea_cons (ex_str (Nat.le_of_ble_eq_true rfl)) (ea_cons (ex_str (Nat.le_of_ble_eq_true rfl)) ea_nil)))) (Nat.le_of_ble_eq_true rfl))) (ex_mod (ex_var (i := 7) rfl) ex_int (by decide)) (atI_map hu31)) (ea_cons (ex_var (i := 5) rfl) ea_nil)) (Nat.le_of_ble_eq_true rfl)) rfl)))))))))))))))))))))
abbrev encR_l_same (y : Bool) : Out := .rt (.sh (PyData.bool y))
abbrev st_l_same : Stmt := top 39
abbrev NN_l_same : List Str := ["_law_told", "_law_due", "_law_one", "_law_other"]
theorem sc_l_same : FnScope NN_l_same ["_law_told", "_law_due"] (defScope st_l_same) := ⟨rfl, rfl, rfl, by decide +kernel, rfl, by decide +kernel, by decide +kernel⟩
abbrev I_l_same (n : Nat) : List PyData → Rv → Prop := Im (fun (a : (PyData × PyData)) => [eD a.1, eD a.2]) (fun (y : Bool) => Rv.sh (PyData.bool y)) (fun a => l_same n a.1 a.2)
theorem mk_l_same {n : Nat} {a0 : PyData} {a1 : PyData} {y : Bool} (h : l_same n a0 a1 = some y) : I_l_same n [eD a0, eD a1] ((fun (y : Bool) => Rv.sh (PyData.bool y)) y) := ⟨(a0, a1), y, rfl, h, rfl⟩
theorem fnr_l_same {P : Program} {w : World} {K : PySem.W.Frag} {mg : Str → Option Value} {base : Heap} {f : Addr} {fd : FuncData} (F : FunD K "_law_same" "_law_same" (defArgs st_l_same) (defBody st_l_same) (defScope st_l_same) [] [] f fd) (hg : mg "_law_same" = some (.ref f)) (T : Tx K mg) : ∀ n : Nat, Fn P w K mg base "_law_same" (n + 1) (I_l_same n)
  | 0 => ⟨f, fd, ["_law_told", "_law_due"], fn_void (N := NN_l_same) F sc_l_same (fun ds r ⟨a, y, _, h, _⟩ => nomatch h), hg, F.kp, F.bindsN fun _ _ _ _ _ _ us hl => match us, hl with | [_, _], _ => rfl⟩
  | n + 1 => by
    have G__law_same := fnr_l_same (P := P) (w := w) (base := base) F hg T n
    refine ⟨f, fd, ["_law_told", "_law_due"], fn_ok (N := NN_l_same) (en := encR_l_same) F sc_l_same (fun _ => rfl) (fun _ => .inl rfl) (fun cdv A' outer s H E hr => ⟨_, (pss_cons (ps_if (pt_cmpR op_isN (pv 1) pe_non (nomark _)) (pss_cons (ps_ret (pe_cmpR op_isN (pv 0) pe_non (nomark _))) pss_never) pss_nil) (pss_cons (ps_if (PW.pt (pw_or (pt_cmpR op_ne (pe_callB (call_isiK' (K := K)) (by rfl) T.isinstance (by decide +kernel) (pa_cons (pv 0) (pa_cons (pe_bltn (u := .type "bool") (v := .ty "bool") (by rfl) T.bool (by decide +kernel) rfl) pa_nil))) (pe_callB (call_isiK' (K := K)) (by rfl) T.isinstance (by decide +kernel) (pa_cons (pv 1) (pa_cons (pe_bltn (u := .type "bool") (v := .ty "bool") (by rfl) T.bool (by decide +kernel) rfl) pa_nil))) (nomark _)) (pw_or1 (pt_cmpR op_ne (pe_callB (call_isiK' (K := K)) (by rfl) T.isinstance (by decide +kernel) (pa_cons (pv 0) (pa_cons (pe_bltn (u := .type "int") (v := .ty "int") (by rfl) T.int (by decide +kernel) rfl) pa_nil))) (pe_callB (call_isiK' (K := K)) (by rfl) T.isinstance (by decide +kernel) (pa_cons (pv 1) (pa_cons (pe_bltn (u := .type "int") (v := .ty "int") (by rfl) T.int (by decide +kernel) rfl) pa_nil))) (nomark _))))) (pss_cons (ps_ret pe_bl) pss_never) pss_nil) (pss_cons (ps_if (PW.pt (pw_or (pt_cmpR op_ne (pe_callB (call_isiK' (K := K)) (by rfl) T.isinstance (by decide +kernel) (pa_cons (pv 0) (pa_cons (pe_bltn (u := .type "list") (v := .ty "list") (by rfl) T.list (by decide +kernel) rfl) pa_nil))) (pe_callB (call_isiK' (K := K)) (by rfl) T.isinstance (by decide +kernel) (pa_cons (pv 1) (pa_cons (pe_bltn (u := .type "list") (v := .ty "list") (by rfl) T.list (by decide +kernel) rfl) pa_nil))) (nomark _)) (pw_or1 (pt_cmpR op_ne (pe_callB (call_isiK' (K := K)) (by rfl) T.isinstance (by decide +kernel) (pa_cons (pv 0) (pa_cons (pe_bltn (u := .type "tuple") (v := .ty "tuple") (by rfl) T.tuple (by decide +kernel) rfl) pa_nil))) (pe_callB (call_isiK' (K := K)) (by rfl) T.isinstance (by decide +kernel) (pa_cons (pv 1) (pa_cons (pe_bltn (u := .type "tuple") (v := .ty "tuple") (by rfl) T.tuple (by decide +kernel) rfl) pa_nil))) (nomark _))))) (pss_cons (ps_ret pe_bl) pss_never) pss_nil) (pss_cons (ps_if (PW.pt (pw_and (pt_not (pt_val (pe_callB (call_isiK' (K := K)) (by rfl) T.isinstance (by decide +kernel) (pa_cons (pv 1) (pa_cons (pe_bltn (u := .type "list") (v := .ty "list") (by rfl) T.list (by decide +kernel) rfl) pa_nil))))) (pw_and1 (pt_not (pt_val (pe_callB (call_isiK' (K := K)) (by rfl) T.isinstance (by decide +kernel) (pa_cons (pv 1) (pa_cons (pe_bltn (u := .type "tuple") (v := .ty "tuple") (by rfl) T.tuple (by decide +kernel) rfl) pa_nil)))))))) (pss_cons (ps_ret (pe_and (pe_cmpR op_eq (pe_callB (call_isiK' (K := K)) (by rfl) T.isinstance (by decide +kernel) (pa_cons (pv 0) (pa_cons (pe_bltn (u := .type "str") (v := .ty "str") (by rfl) T.str (by decide +kernel) rfl) pa_nil))) (pe_callB (call_isiK' (K := K)) (by rfl) T.isinstance (by decide +kernel) (pa_cons (pv 1) (pa_cons (pe_bltn (u := .type "str") (v := .ty "str") (by rfl) T.str (by decide +kernel) rfl) pa_nil))) (nomark _)) (pe_one (pe_cmpR op_eq (pv 0) (pv 1) (nomark _))))) pss_never) pss_nil) (pss_cons (ps_ret (pe_and (pe_cmpR op_eq (pe_callB (call_lenK (K := K)) (by rfl) T.len (by decide +kernel) (pa_cons (pv 0) pa_nil)) (pe_callB (call_lenK (K := K)) (by rfl) T.len (by decide +kernel) (pa_cons (pv 1) pa_nil)) (nomark _)) (pe_one (pe_callB (cr_allK (K := K) rfl) (by rfl) T.all (by decide +kernel) (pa_cons (pe_lc (own := [("_law_one", 2), ("_law_other", 3)]) (tt := tYes) rfl sc_l_same.nd (pi_zipK (K := K) (by rfl) T.zip (pa_cons (pv 0) (pa_cons (pv 1) pa_nil))) (blkOk_by (N := NN_l_same) (sc := defScope st_l_same) (by decide +kernel)) (fun _ _ _ _ _ => (pg_tupK (K := K) (n := 2) (by rfl) (pgs_cons (pg_name (i := 2) sc_l_same.nd rfl (by first | exact Or.inl rfl | exact Or.inr rfl)) (pgs_cons (pg_name (i := 3) sc_l_same.nd rfl (by first | exact Or.inl rfl | exact Or.inr rfl)) pgs_nil)))) (fun _ _ _ _ _ => pts_nil) (fun _ _ _ _ _ => (pe_fn G__law_same (hr.mono (by omega)) (by rfl) (pa_cons (pv 2) (pa_cons (pv 3) pa_nil))))) pa_nil))))) pss_never))))), fun a => ?_⟩), hg, F.kp, F.bindsN fun _ _ _ _ _ _ us hl => match us, hl with | [_, _], _ => rfl⟩
    obtain ⟨v_told, v_due⟩ := a
    exact (show BX K _ [.sh (eD v_told), .sh (eD v_due), .un, .un] encR_l_same (l_same (n + 1) v_told v_due) from
     (bx_ifRet (et_of (ex_isN (ex_var (i := 1) rfl))) (fun _ => (bx_retS (ex_isN (ex_var (i := 0) rfl)) rfl)) (fun _ _ _ h => nomatch h) (fun _ => (bx_ifRet (et_or (et_of (ex_neB (ex_isBD (ex_var (i := 0) rfl)) (ex_isBD (ex_var (i := 1) rfl)))) (et_of (ex_neB (ex_isID (ex_var (i := 0) rfl)) (ex_isID (ex_var (i := 1) rfl))))) (fun _ => (bx_retS ex_bl rfl)) (fun _ _ _ h => nomatch h) (fun _ => (bx_ifRet (et_or (et_of (ex_neB (ex_isLD (ex_var (i := 0) rfl)) (ex_isLD (ex_var (i := 1) rfl)))) (et_of (ex_neB (ex_isTD (ex_var (i := 0) rfl)) (ex_isTD (ex_var (i := 1) rfl))))) (fun _ => (bx_retS ex_bl rfl)) (fun _ _ _ h => nomatch h) (fun _ => (bx_ifRet (et_and (et_not (et_B (ex_isLD (ex_var (i := 1) rfl)))) (et_not (et_B (ex_isTD (ex_var (i := 1) rfl))))) (fun _ => (bx_bind fun c2 hc2 => (bx_retS ((exo_and (exo_some (e := PyData.bool) (ex_eqB (ex_isSD (ex_var (i := 0) rfl)) (ex_isSD (ex_var (i := 1) rfl)))) (exo_bind fun u1 hu1 => (exo_some (e := PyData.bool) (ex_eqLeaf (ex_var (i := 0) rfl) (ex_var (i := 1) rfl) hu1)))) c2 hc2) rfl))) (fun _ _ _ h => nomatch h) (fun _ => (bx_bind fun u3 hu3 => (bx_bind fun u4 hu4 => (bx_bind fun c9 hc9 => (bx_retS ((exo_and (exo_some (e := PyData.bool) (ex_eqI (ex_lenD (ex_var (i := 0) rfl) hu3) (ex_lenD (ex_var (i := 1) rfl) hu4))) (exo_bind fun u5 hu5 => (exo_bind fun u8 hu8 => (exo_some (e := PyData.bool) (ex_all (EXw.l (exw_lc (e := (eP eD eD)) (e' := PyData.bool) (envB := (fun x6 => [.sh (eD v_told), .sh (eD v_due), .sh (eD x6.1), .sh (eD x6.2)])) (EIs.i (ei_zipD (ex_var (i := 0) rfl) (ex_var (i := 1) rfl) hu5)) hu8 (fun x6 _ => (egc_tup (egs_cons (egc_name (i := 2) (by decide)) (egs_cons (egc_name (i := 3) (by decide)) egs_nil)) rfl)) (fun x6 _ => (eto_some et_yes)) (fun x6 _ => (exo_bind fun u7 hu7 => (exo_some (e := PyData.bool) (ex_call (ea_cons (ex_var (i := 2) rfl) (ea_cons (ex_var (i := 3) rfl) ea_nil)) ⟨(x6.1, x6.2), u7, rfl, hu7, rfl⟩))))))))))) c9 hc9) rfl)))))))))))))
theorem fn_l_same {P : Program} {w : World} {K : PySem.W.Frag} {mg : Str → Option Value} {base : Heap} {f : Addr} {fd : FuncData} (F : FunD K "_law_same" "_law_same" (defArgs st_l_same) (defBody st_l_same) (defScope st_l_same) [] [] f fd) (hg : mg "_law_same" = some (.ref f)) (T : Tx K mg) : Fn P w K mg base "_law_same" 7 (I_l_same 6) := fnr_l_same (P := P) (w := w) (base := base) F hg T 6
abbrev encE_l_word (K : PySem.W.Frag) (E : XK) (x : Exn) : Out := .ex [.un, .un, .un, .un, .un] x fun c d _ H => E c d H
abbrev encR_l_word (K : PySem.W.Frag) (y : PyData) : Out := .re [.un, .un, .un, .un, .un] (some (tY (eD y)))
abbrev encX_l_word (K : PySem.W.Frag) (E : XK) (z : Except Exn PyData) : Out := match z with
  | .ok y => .re [.un, .un, .un, .un, .un] (some (tY (eD y)))
  | .error x => .ex [.un, .un, .un, .un, .un] x fun c d _ H => E c d H
abbrev st_l_word : Stmt := top 40
abbrev NN_l_word : List Str := ["_law_pegs", "_law_pair", "_law_trades", "_law_found", "_law_e"]
theorem sc_l_word : FnScope NN_l_word ["_law_pegs", "_law_pair", "_law_trades"] (defScope st_l_word) := ⟨rfl, rfl, rfl, by decide +kernel, rfl, by decide +kernel, by decide +kernel⟩
abbrev I_l_word (K : PySem.W.Frag) : List Ag → (Rt × List OT) ⊕ Exn → Prop := ImE (fun (a : (Int × (Int × (List Int)) × (List PyData))) => [.d (PyData.int a.1), .d ((eP PyData.int (eL PyData.int)) a.2.1), .d ((eL eD) a.2.2)]) (fun y => .t (tY (eD y))) (fun _ => []) (fun a => (l_word a.1 a.2.1 a.2.2).map Except.ok)
theorem fn_l_word {P : Program} {w : World} {K : PySem.W.Frag} {mg : Str → Option Value} {base : Heap} {f : Addr} {fd : FuncData} (F : FunD K "_law_word" "_law_word" (defArgs st_l_word) (defBody st_l_word) (defScope st_l_word) [] [] f fd) (hg : mg "_law_word" = some (.ref f)) (T : Tx K mg) (G_x_walked : FnE P w K mg base "walked" 4 (I_x_walked K)) (G__law_kin : KinOk P w K mg "_law_kin" 0) : FnE P w K mg base "_law_word" 5 (I_l_word K) := by
  refine ⟨f, fd, ["_law_pegs", "_law_pair", "_law_trades"], fn_okTr (N := NN_l_word) (en := fun E z => encX_l_word K E z) (n := 2) F sc_l_word (fun _ => rfl) rfl (fun _ => rfl) (fun _ _ => rfl) (fun _ _ => rfl) (fun cdv A' outer s H E hr => ⟨_, (pss_cons (ps_set (i := 3) sc_l_word.nd rfl (by first | exact Or.inl rfl | exact Or.inr rfl) pe_non) (pss_cons (ps_tryCl (K := K) rfl rfl sc_l_word.nd takes_none (fun W pn xe tk po => (pss_cons (ps_set (i := 3) sc_l_word.nd rfl (by first | exact Or.inl rfl | exact Or.inr rfl) (pe_fnE (K := K) G_x_walked tk (hr.mono (by decide)) (by rfl) (pa_cons (pv 0) (pa_cons (pe_ix (ix_tupK (K := K)) (pv 1) pe_int (fun _ _ => rfl)) (pa_cons (pe_ix (ix_tupK (K := K)) (pv 1) pe_int (fun _ _ => rfl)) (pa_cons (pv 2) pa_nil)))))) pss_nil)) (ClOk.cons (i := 4) rfl rfl ⟨by rfl, by decide, .inl T.cls_BadTrade⟩ (fun a oe cls d pn hz hf => (pss_cons (ps_set (i := 3) sc_l_word.nd rfl (by first | exact Or.inl rfl | exact Or.inr rfl) (pe_tup (pa_cons (pe_kin (K := K) G__law_kin (hr.mono (by decide)) (by rfl) hz hf (pv 4)) (pa_cons (pe_xf T.oex_BadTrade.xf T.oex_BadTrade.no hz.zc hf (pv 4)) pa_nil)))) pss_nil)) ClOk.nil)) (pss_cons (ps_ret (pv 3)) pss_never))), fun a => ?_⟩), hg, F.kp, F.bindsN fun _ _ _ _ _ _ us hl => match us, hl with | [_, _, _], _ => rfl⟩
  obtain ⟨v_pegs, v_pair, v_trades⟩ := a
  refine bx_map (f := Except.ok) (enc := (encR_l_word K)) (m := (l_word v_pegs v_pair v_trades)) ?_ (fun _ => rfl)
  exact (show BX K _ [.sh (PyData.int v_pegs), .sh ((eP PyData.int (eL PyData.int)) v_pair), .sh ((eL eD) v_trades), .un, .un] (encR_l_word K) (l_word v_pegs v_pair v_trades) from
   (bx_asgT (j := 3) (EXt.e (EX.thingY rfl ex_non)) (bx_then (envS := (fun (s1 : PyData) => [.sh (PyData.int v_pegs), .sh ((eP PyData.int (eL PyData.int)) v_pair), .sh ((eL eD) v_trades), .tr (tY (eD s1)), .un])) (bx_tryCl (envS := (fun (s1 : PyData) => [.sh (PyData.int v_pegs), .sh ((eP PyData.int (eL PyData.int)) v_pair), .sh ((eL eD) v_trades), .tr (tY (eD s1)), .un])) (envX := [.sh (PyData.int v_pegs), .sh ((eP PyData.int (eL PyData.int)) v_pair), .sh ((eL eD) v_trades), .un, .un]) (fun W => (bx_bindX (fun e he => (bx_errAsg (err_call0 (ss := ([.d (PyData.int v_pegs), .d (PyData.int v_pair.1), .d ((eL PyData.int) v_pair.2), .d ((eL eD) v_trades)] : List Sr)) (eag_d (ex_var (i := 0) rfl) (eag_d (ex_ixT (ex_var (i := 1) rfl) ex_int rfl) (eag_d (ex_ixT (ex_var (i := 1) rfl) ex_int rfl) (eag_d (ex_var (i := 2) rfl) eag_nil)))) (OkAll.at (ss := ([.d (PyData.int v_pegs), .d (PyData.int v_pair.1), .d ((eL PyData.int) v_pair.2), .d ((eL eD) v_trades)] : List Sr)) ⟨trivial, ⟨trivial, ⟨trivial, ⟨trivial, trivial⟩⟩⟩⟩) (noMu_at (ss := ([.d (PyData.int v_pegs), .d (PyData.int v_pair.1), .d ((eL PyData.int) v_pair.2), .d ((eL eD) v_trades)] : List Sr)) rfl) ⟨(v_pegs, v_pair.1, v_pair.2, v_trades), .error e, rfl, he, rfl⟩) rfl (.same (.same (.same (.un (.un .nil))))))) (fun u2 hu2 => (bx_asgT (j := 3) (EXt.e (ext_call0 (ss := ([.d (PyData.int v_pegs), .d (PyData.int v_pair.1), .d ((eL PyData.int) v_pair.2), .d ((eL eD) v_trades)] : List Sr)) (eag_d (ex_var (i := 0) rfl) (eag_d (ex_ixT (ex_var (i := 1) rfl) ex_int rfl) (eag_d (ex_ixT (ex_var (i := 1) rfl) ex_int rfl) (eag_d (ex_var (i := 2) rfl) eag_nil)))) (OkAll.at (ss := ([.d (PyData.int v_pegs), .d (PyData.int v_pair.1), .d ((eL PyData.int) v_pair.2), .d ((eL eD) v_trades)] : List Sr)) ⟨trivial, ⟨trivial, ⟨trivial, ⟨trivial, trivial⟩⟩⟩⟩) (noMu_at (ss := ([.d (PyData.int v_pegs), .d (PyData.int v_pair.1), .d ((eL PyData.int) v_pair.2), .d ((eL eD) v_trades)] : List Sr)) rfl) ⟨(v_pegs, v_pair.1, v_pair.2, v_trades), .ok u2, rfl, hu2, rfl⟩)) (bx_nx (.same (.same (.same (.same (.un .nil))))) rfl))))) (fun s _ => bx_nx (.same (.same (.same (.same (.un .nil))))) rfl) (fun xE _ => (hc_sel (y := "BadTrade") T.exB (by decide +kernel) (Nat.le_of_ble_eq_true rfl) (fun o => .inr ⟨_, rfl, rfl⟩) (fun hn => (bh_of (Nat.le_of_ble_eq_true rfl) fun a dd => (bx_bind fun n3 hn3 => (bx_bind fun u4 hu4 => (bx_bind fun n5 hn5 => (bx_bind fun u6 hu6 => (bx_asgT (j := 3) (EXt.e (EX.thingY rfl (ex_tup (ea_cons (ex_kin (i := 4) rfl hn5) (ea_cons (ex_fld (i := 4) rfl (fldI hu6) (congrArg (He.ga K) hn)) ea_nil)) (Nat.le_of_ble_eq_true rfl)))) (bx_nx (.same (.same (.same (.same (.un .nil))))) rfl)))))))) hc_nil))) (fun s1 _ => (bx_retTr (exe_varY (i := 3) rfl) rfl (.un (.un (.un (.un (.un .nil))))))))))
abbrev encR_l_law (y : Bool) : Out := .rt (.sh (PyData.bool y))
abbrev st_l_law : Stmt := top 41
abbrev NN_l_law : List Str := ["_law_script", "_law_k", "_law_pegs", "_law_rings", "_law_size", "_law_steps", "_law_bad", "_law_pair", "_law_handed", "_law_trades", "_law_due", "_law_step", "_law_trade", "_law_later", "_law_kept", "_law_found", "_law_bare"]
theorem sc_l_law : FnScope NN_l_law ["_law_script"] (defScope st_l_law) := ⟨rfl, rfl, rfl, by decide +kernel, rfl, by decide +kernel, by decide +kernel⟩
theorem fn_law {P : Program} {w : World} {K : PySem.W.Frag} {mg : Str → Option Value} {base : Heap} {f : Addr} {fd : FuncData} (F : FunD K "law" "law" (defArgs st_l_law) (defBody st_l_law) (defScope st_l_law) [] [] f fd) (T : Tx K mg) (G__law_digits : Fn P w K mg base "_law_digits" 3 I_l_digits) (G__law_hooks : Fn P w K mg base "_law_hooks" 4 I_l_hooks) (G__law_some_trade : Fn P w K mg base "_law_some_trade" 4 I_l_some_trade) (G__law_after : Fn P w K mg base "_law_after" 1 I_l_after) (G__law_word : FnE P w K mg base "_law_word" 5 (I_l_word K)) (G__law_same : Fn P w K mg base "_law_same" 7 (I_l_same 6)) (ht : ∀ ns : List Int, ns.length ≤ 63 → l_law ns = some true) : FnOk P w K mg base CX0 8 f fd ["_law_script"] (spLaw K) := by
  refine law_ok (N := NN_l_law) F sc_l_law (fun cdv A' outer s H E hr => ⟨_, (pss_cons (ps_set (i := 0) sc_l_law.nd rfl (by first | exact Or.inl rfl | exact Or.inr rfl) (pe_slice (sl_listK (K := K)) (pv 0) po_none (po_some pe_int))) (pss_cons (ps_for PassesOwn.never rfl (pi_range1 (by rfl) T.range (pa_cons pe_int pa_nil)) (pg_name (i := 1) sc_l_law.nd rfl (by first | exact Or.inl rfl | exact Or.inr rfl)) (pss_cons (ps_asg (pe_fn G__law_digits (hr.mono (by decide)) (by rfl) (pa_cons (pv 0) (pa_cons (pe_op op_add pe_int (pv 1)) (pa_cons (pe_lst (pa_cons pe_int (pa_cons pe_int (pa_cons pe_int (pa_cons pe_int (pa_cons pe_int pa_nil)))))) pa_nil)))) (pg_lstK (K := K) (by rfl) (pgs_cons (pg_name (i := 2) sc_l_law.nd rfl (by first | exact Or.inl rfl | exact Or.inr rfl)) (pgs_cons (pg_name (i := 3) sc_l_law.nd rfl (by first | exact Or.inl rfl | exact Or.inr rfl)) (pgs_cons (pg_name (i := 4) sc_l_law.nd rfl (by first | exact Or.inl rfl | exact Or.inr rfl)) (pgs_cons (pg_name (i := 5) sc_l_law.nd rfl (by first | exact Or.inl rfl | exact Or.inr rfl)) (pgs_cons (pg_name (i := 6) sc_l_law.nd rfl (by first | exact Or.inl rfl | exact Or.inr rfl)) pgs_nil))))))) (pss_cons (ps_set (i := 2) sc_l_law.nd rfl (by first | exact Or.inl rfl | exact Or.inr rfl) (pe_op op_add pe_int (pv 2))) (pss_cons (ps_set (i := 7) sc_l_law.nd rfl (by first | exact Or.inl rfl | exact Or.inr rfl) (pe_tup (pa_cons (pv 3) (pa_cons (pe_fn G__law_hooks (hr.mono (by decide)) (by rfl) (pa_cons (pv 0) (pa_cons (pe_op op_mul pe_int (pv 1)) (pa_cons (pv 2) (pa_cons (pv 4) pa_nil))))) pa_nil)))) (pss_cons (ps_set (i := 8) sc_l_law.nd rfl (by first | exact Or.inl rfl | exact Or.inr rfl) (pe_tup (pa_cons (pv 3) (pa_cons (pe_callTy (call_listK (K := K)) (by rfl) T.list (by decide +kernel) (pa_cons (pe_ix (ix_tupK (K := K)) (pv 7) pe_int (fun _ _ => rfl)) pa_nil)) pa_nil)))) (pss_cons (ps_par (i := 9) (j := 10) (by rfl) sc_l_law.nd rfl rfl (by decide) rfl rfl (pa_cons (pe_lst pa_nil) (pa_cons pe_non pa_nil)) (by rfl)) (pss_cons (ps_for PassesOwn.never rfl (pi_range1 (by rfl) T.range (pa_cons (pv 5) pa_nil)) (pg_name (i := 11) sc_l_law.nd rfl (by first | exact Or.inl rfl | exact Or.inr rfl)) (pss_cons (ps_set (i := 12) sc_l_law.nd rfl (by first | exact Or.inl rfl | exact Or.inr rfl) (pe_fn G__law_some_trade (hr.mono (by decide)) (by rfl) (pa_cons (pv 0) (pa_cons (pe_op op_add (pe_op op_add pe_int (pe_op op_mul pe_int (pv 1))) (pv 11)) (pa_cons (pv 2) (pa_cons (pv 7) pa_nil)))))) (pss_cons (ps_set (i := 13) sc_l_law.nd rfl (by first | exact Or.inl rfl | exact Or.inr rfl) (pe_fn G__law_after (hr.mono (by decide)) (by rfl) (pa_cons (pv 2) (pa_cons (pv 7) (pa_cons (pv 12) pa_nil))))) (pss_cons (ps_if (pt_cmpR op_eq (pv 11) (pv 6) (nomark _)) (pss_cons (ps_set (i := 10) sc_l_law.nd rfl (by first | exact Or.inl rfl | exact Or.inr rfl) (pe_tup (pa_cons pe_str (pa_cons (pe_callB (call_lenK (K := K)) (by rfl) T.len (by decide +kernel) (pa_cons (pv 9) pa_nil)) pa_nil)))) (pss_cons (ps_expr (pe_bm PySem.F.plainAttrs_list PySem.F.slot_list_append PySem.F.type_list_append mt_append (pv 9) (pa_cons (pe_ix (ix_listK (K := K)) (pe_lst (pa_cons (pv 12) (pa_cons (pe_tup (pa_cons pe_str (pa_cons (pe_callB (call_lenK (K := K)) (by rfl) T.len (by decide +kernel) (pa_cons (pe_ix (ix_tupK (K := K)) (pv 7) pe_int (fun _ _ => rfl)) pa_nil)) pa_nil))) pa_nil))) (pe_callTy call_int1 (by rfl) T.int (by decide +kernel) (pa_cons (pe_cmpR op_notN (pv 13) pe_non (nomark _)) pa_nil)) (fun _ _ => rfl)) pa_nil))) pss_nil)) (pss_cons (ps_if (pt_cmpR op_notN (pv 13) pe_non (nomark _)) (pss_cons (ps_expr (pe_bm PySem.F.plainAttrs_list PySem.F.slot_list_append PySem.F.type_list_append mt_append (pv 9) (pa_cons (pv 12) pa_nil))) (pss_cons (ps_set (i := 7) sc_l_law.nd rfl (by first | exact Or.inl rfl | exact Or.inr rfl) (pv 13)) pss_nil)) pss_nil) pss_nil)) pss_nil)))) (pss_cons (ps_if (pt_cmpR op_isN (pv 10) pe_non (nomark _)) (pss_cons (ps_set (i := 10) sc_l_law.nd rfl (by first | exact Or.inl rfl | exact Or.inr rfl) (pv 7)) pss_nil) pss_nil) (pss_cons (ps_set (i := 14) sc_l_law.nd rfl (by first | exact Or.inl rfl | exact Or.inr rfl) (pe_lst (pa_cons (pe_callTy (call_listK (K := K)) (by rfl) T.list (by decide +kernel) (pa_cons (pe_ix (ix_tupK (K := K)) (pv 8) pe_int (fun _ _ => rfl)) pa_nil)) (pa_cons (pe_callTy (call_listK (K := K)) (by rfl) T.list (by decide +kernel) (pa_cons (pv 9) pa_nil)) pa_nil)))) (pss_cons (ps_set (i := 15) sc_l_law.nd rfl (by first | exact Or.inl rfl | exact Or.inr rfl) (pe_fnES (K := K) G__law_word (hr.mono (by decide)) (by rfl) (pa_cons (pv 2) (pa_cons (pv 8) (pa_cons (pv 9) pa_nil))))) (pss_cons (ps_if (pt_not (pt_val (pe_fn G__law_same (hr.mono (by decide)) (by rfl) (pa_cons (pv 15) (pa_cons (pv 10) pa_nil))))) (pss_cons (ps_ret pe_bl) pss_never) pss_nil) (pss_cons (ps_if (pt_val (pe_callB (call_isiK' (K := K)) (by rfl) T.isinstance (by decide +kernel) (pa_cons (pe_ix (ix_tupK (K := K)) (pv 15) pe_int (fun _ _ => rfl)) (pa_cons (pe_bltn (u := .type "list") (v := .ty "list") (by rfl) T.list (by decide +kernel) rfl) pa_nil)))) (pss_cons (ps_expr (pe_bmK (K := K) PySem.F.plainAttrs_list PySem.F.slot_list_append PySem.F.type_list_append mt_append (pe_ix (ix_tupK (K := K)) (pv 15) pe_int (fun _ _ => rfl)) (pa_cons pe_int pa_nil))) pss_nil) pss_nil) (pss_cons (ps_set (i := 16) sc_l_law.nd rfl (by first | exact Or.inl rfl | exact Or.inr rfl) (pe_lst (pa_cons (pe_fnES (K := K) G__law_word (hr.mono (by decide)) (by rfl) (pa_cons pe_int (pa_cons (pe_tup (pa_cons (pv 3) (pa_cons (pe_lst pa_nil) pa_nil))) (pa_cons (pe_lst pa_nil) pa_nil)))) (pa_cons (pe_fnES (K := K) G__law_word (hr.mono (by decide)) (by rfl) (pa_cons pe_int (pa_cons (pe_tup (pa_cons (pv 3) (pa_cons (pe_lst pa_nil) pa_nil))) (pa_cons (pe_lst (pa_cons (pe_tup (pa_cons pe_str (pa_cons pe_int pa_nil))) pa_nil)) pa_nil)))) pa_nil)))) (pss_cons (ps_if (pt_not (pt_val (pe_fn G__law_same (hr.mono (by decide)) (by rfl) (pa_cons (pv 16) (pa_cons (pe_lst (pa_cons (pe_tup (pa_cons (pv 3) (pa_cons (pe_lst pa_nil) pa_nil))) (pa_cons (pe_tup (pa_cons pe_str (pa_cons pe_int pa_nil))) pa_nil))) pa_nil))))) (pss_cons (ps_ret pe_bl) pss_never) pss_nil) (pss_cons (ps_if (pt_cmpR (op_neDK (K := K) hr.units) (pe_lst (pa_cons (pe_ix (ix_tupK (K := K)) (pv 8) pe_int (fun _ _ => rfl)) (pa_cons (pv 9) pa_nil))) (pv 14) (nomark _)) (pss_cons (ps_ret pe_bl) pss_never) pss_nil) pss_nil))))))))))))))) (pss_cons (ps_ret pe_bl) pss_never))), fun ns => ?_⟩) ht
  exact (show BX K _ [.sc (ns.map PyData.int), .un, .un, .un, .un, .un, .un, .un, .un, .un, .un, .un, .un, .un, .un, .un, .un] encR_l_law (l_law ns) from
   (bx_asgB (e := (eL PyData.int)) (i := 0) (EXw.sh (exw_slSc (i := 0) rfl eo_none (eo_some ex_int))) (fun ns_1 => (bx_bindR (envS := (fun (s_1 : Unit) => [.sh ((eL PyData.int) ns_1), .un, .un, .un, .un, .un, .un, .un, .un, .un, .un, .un, .un, .un, .un, .un, .un])) (encR := encR_l_law) (bx_forR (encR := encR_l_law) (envS := (fun (s_1 : Unit) => [.sh ((eL PyData.int) ns_1), .un, .un, .un, .un, .un, .un, .un, .un, .un, .un, .un, .un, .un, .un, .un, .un])) (e := PyData.int) (envB := (fun (s_1 : Unit) (x2 : Int) => [.sh ((eL PyData.int) ns_1), .sh (PyData.int x2), .un, .un, .un, .un, .un, .un, .un, .un, .un, .un, .un, .un, .un, .un, .un])) (f := (l_law_for1 ns_1)) (eis_rng1 ex_int (by decide)) (.same (.un (.un (.un (.un (.un (.un (.un (.un (.un (.un (.un (.un (.un (.un (.un (.un .nil))))))))))))))))) (fun _ => trivial) (fun s_1 x2 _ => EGc.eg (vs := [1]) (egc_name (i := 1) (by decide))) (fun s_1 x2 _ => (bx_bind fun u3 hu3 => (bx_bind fun u9 hu9 => (bx_asg (d := (eL PyData.int) [u9.1, u9.2.1, u9.2.2.1, u9.2.2.2.1, u9.2.2.2.2]) (ex_is (EXw.sh (exw_call (ea_cons (ex_var (i := 0) rfl) (ea_cons (ex_add ex_int (ex_var (i := 1) rfl)) (ea_cons (EXw.sh (exw_lst (ds := ([(9 : Int), (6 : Int), (13 : Int), (16 : Int), (32 : Int)] : (List Int)).map PyData.int) (ea_cons ex_int (ea_cons ex_int (ea_cons ex_int (ea_cons ex_int (ea_cons ex_int ea_nil))))) (Nat.le_of_ble_eq_true rfl))) ea_nil))) ⟨(ns_1, ((60 : Int) + x2), ([(9 : Int), (6 : Int), (13 : Int), (16 : Int), (32 : Int)])), u3, rfl, hu3, rfl⟩)) (congrArg (eL PyData.int) (unp5_ok hu9))) (EGc.eg (vs := [2, 3, 4, 5, 6]) (egc_lst (egs_cons (egc_name (i := 2) (by decide)) (egs_cons (egc_name (i := 3) (by decide)) (egs_cons (egc_name (i := 4) (by decide)) (egs_cons (egc_name (i := 5) (by decide)) (egs_cons (egc_name (i := 6) (by decide)) egs_nil))))) rfl)) (bx_asgB (e := PyData.int) (i := 2) (ex_add ex_int (ex_var (i := 2) rfl)) (fun v_pegs_10 => (bx_bind fun u11 hu11 => (bx_asgB (e := (eP PyData.int (eL PyData.int))) (i := 7) (ex_tup (ea_cons (ex_var (i := 3) rfl) (ea_cons (EXw.sh (exw_call (ea_cons (ex_var (i := 0) rfl) (ea_cons (ex_mul ex_int (ex_var (i := 1) rfl) (.inl ⟨by decide, by decide⟩)) (ea_cons (ex_var (i := 2) rfl) (ea_cons (ex_var (i := 4) rfl) ea_nil)))) ⟨(ns_1, ((2 : Int) * x2), v_pegs_10, u9.2.2.1), u11, rfl, hu11, rfl⟩)) ea_nil)) (Nat.le_of_ble_eq_true rfl)) (fun v_pair_12 => (bx_asgB (e := (eP PyData.int (eL PyData.int))) (i := 8) (ex_tup (ea_cons (ex_var (i := 3) rfl) (ea_cons (EXw.sh (exw_listL (EX.l (ex_ixT (ex_var (i := 7) rfl) ex_int rfl)))) ea_nil)) (Nat.le_of_ble_eq_true rfl)) (fun v_handed_13 => (bx_parWS (i := 9) (j := 10) (exw_lst (ds := (([] : (List PyData)) : (List PyData)).map eD) ea_nil (Nat.le_of_ble_eq_true rfl)) ex_non (bx_bind fun g14 hg14 => (bx_then (envS := (fun (s_2 : (Int × (List Int)) × (List PyData) × PyData) => [.sh ((eL PyData.int) ns_1), .sh (PyData.int x2), .sh (PyData.int v_pegs_10), .sh (PyData.int u9.2.1), .sh (PyData.int u9.2.2.1), .sh (PyData.int u9.2.2.2.1), .sh (PyData.int u9.2.2.2.2), .sh ((eP PyData.int (eL PyData.int)) s_2.1), .sh ((eP PyData.int (eL PyData.int)) v_handed_13), .ow (s_2.2.1.map eD), .sh (eD s_2.2.2), .un, .un, .un, .un, .un, .un])) (bx_forS (envS := (fun (s_2 : (Int × (List Int)) × (List PyData) × PyData) => [.sh ((eL PyData.int) ns_1), .sh (PyData.int x2), .sh (PyData.int v_pegs_10), .sh (PyData.int u9.2.1), .sh (PyData.int u9.2.2.1), .sh (PyData.int u9.2.2.2.1), .sh (PyData.int u9.2.2.2.2), .sh ((eP PyData.int (eL PyData.int)) s_2.1), .sh ((eP PyData.int (eL PyData.int)) v_handed_13), .ow (s_2.2.1.map eD), .sh (eD s_2.2.2), .un, .un, .un, .un, .un, .un])) (e := PyData.int) (envB := (fun (s_2 : (Int × (List Int)) × (List PyData) × PyData) (x15 : Int) => [.sh ((eL PyData.int) ns_1), .sh (PyData.int x2), .sh (PyData.int v_pegs_10), .sh (PyData.int u9.2.1), .sh (PyData.int u9.2.2.1), .sh (PyData.int u9.2.2.2.1), .sh (PyData.int u9.2.2.2.2), .sh ((eP PyData.int (eL PyData.int)) s_2.1), .sh ((eP PyData.int (eL PyData.int)) v_handed_13), .ow (s_2.2.1.map eD), .sh (eD s_2.2.2), .sh (PyData.int x15), .un, .un, .un, .un, .un])) (f := (l_law_for2 ns_1 x2 v_pegs_10 u9.2.2.2.2)) (eis_rng1 (ex_var (i := 5) rfl) (grd_ok hg14)) (.same (.same (.same (.same (.same (.same (.same (.same (.same (.same (.same (.un (.un (.un (.un (.un (.un .nil))))))))))))))))) (fun s_2 x15 _ => EGc.eg (vs := [11]) (egc_name (i := 11) (by decide))) (fun s_2 x15 _ => (bx_bind fun u16 hu16 => (bx_asg (d := eD u16) (ex_call (ea_cons (ex_var (i := 0) rfl) (ea_cons (ex_add (ex_add ex_int (ex_mul ex_int (ex_var (i := 1) rfl) (.inl ⟨by decide, by decide⟩))) (ex_var (i := 11) rfl)) (ea_cons (ex_var (i := 2) rfl) (ea_cons (ex_var (i := 7) rfl) ea_nil)))) ⟨(ns_1, (((5 : Int) + ((20 : Int) * x2)) + x15), v_pegs_10, s_2.1), u16, rfl, hu16, rfl⟩) (EGc.eg (egc_name (i := 12) (vs := [12]) (by decide))) (bx_bind fun u17 hu17 => (bx_asg (d := (eO (eP PyData.int (eL PyData.int))) u17) (ex_call (ea_cons (ex_var (i := 2) rfl) (ea_cons (ex_var (i := 7) rfl) (ea_cons (ex_var (i := 12) rfl) ea_nil))) ⟨(v_pegs_10, s_2.1, u16), u17, rfl, hu17, rfl⟩) (EGc.eg (egc_name (i := 13) (vs := [13]) (by decide))) (bx_last (bx_if (et_of (ex_eqI (ex_var (i := 11) rfl) (ex_var (i := 6) rfl))) (fun _ => (bx_asg (d := eD ((eP PyData.str PyData.int) ((Str.ofString "BadTrade"), (s_2.2.1.length : Int)))) (ex_tup (ea_cons (ex_str (Nat.le_of_ble_eq_true rfl)) (ea_cons (ex_lenL (exl_var (i := 9) rfl)) ea_nil)) (Nat.le_of_ble_eq_true rfl)) (EGc.eg (egc_name (i := 10) (vs := [10]) (by decide))) (bx_bind fun u18 hu18 => (bx_bind fun u19 hu19 => (bx_app (e := eD) (x := u18) rfl (ex_ixL (EXw.l (exw_lst (ds := ([u16, ((eP PyData.str PyData.int) ((Str.ofString "swap"), (s_2.1.2.length : Int)))] : (List PyData)).map eD) (ea_cons (ex_var (i := 12) rfl) (ea_cons (ex_tup (ea_cons (ex_str (Nat.le_of_ble_eq_true rfl)) (ea_cons (ex_lenL (EX.l (ex_ixT (ex_var (i := 7) rfl) ex_int rfl))) ea_nil)) (Nat.le_of_ble_eq_true rfl)) ea_nil)) (Nat.le_of_ble_eq_true rfl))) (ex_intB (ex_notNO (e := (eP PyData.int (eL PyData.int))) (m := u17) (ex_var (i := 13) rfl))) (atI_map hu18)) hu19 (bx_nx (.same (.same (.same (.same (.same (.same (.same (.same (.same (.same (.same (.un (.un (.un (.un (.un (.un .nil))))))))))))))))) rfl)))))) (fun _ => (bx_last (bx_if (et_of (ex_notNO (e := (eP PyData.int (eL PyData.int))) (m := u17) (ex_var (i := 13) rfl))) (fun _ => (bx_bind fun u20 hu20 => (bx_app (e := eD) (x := u16) rfl (ex_var (i := 12) rfl) hu20 (bx_bind fun u21 hu21 => (bx_asg (d := (eP PyData.int (eL PyData.int)) u21) (ex_is (ex_var (i := 13) rfl) (congrArg (eO (eP PyData.int (eL PyData.int))) hu21)) (EGc.eg (egc_name (i := 7) (vs := [7]) (by decide))) (bx_nx (.same (.same (.same (.same (.same (.same (.same (.same (.same (.same (.same (.un (.un (.un (.un (.un (.un .nil))))))))))))))))) rfl)))))) (fun _ => (bx_nx (.same (.same (.same (.same (.same (.same (.same (.same (.same (.same (.same (.un (.un (.un (.un (.un (.un .nil))))))))))))))))) rfl))))))))))))) (fun s22 _ => (bx_then (envS := fun (s23 : PyData) => [.sh ((eL PyData.int) ns_1), .sh (PyData.int x2), .sh (PyData.int v_pegs_10), .sh (PyData.int u9.2.1), .sh (PyData.int u9.2.2.1), .sh (PyData.int u9.2.2.2.1), .sh (PyData.int u9.2.2.2.2), .sh ((eP PyData.int (eL PyData.int)) s22.1), .sh ((eP PyData.int (eL PyData.int)) v_handed_13), .ow (s22.2.1.map eD), .sh (eD s23), .un, .un, .un, .un, .un, .un]) (bx_if (et_of (ex_isN (ex_var (i := 10) rfl))) (fun _ => (bx_asg (d := eD ((eP PyData.int (eL PyData.int)) s22.1)) (ex_var (i := 7) rfl) (EGc.eg (egc_name (i := 10) (vs := [10]) (by decide))) (bx_nx (.same (.same (.same (.same (.same (.same (.same (.same (.same (.same (.same (.un (.un (.un (.un (.un (.un .nil))))))))))))))))) rfl))) (fun _ => (bx_nx (.same (.same (.same (.same (.same (.same (.same (.same (.same (.same (.same (.un (.un (.un (.un (.un (.un .nil))))))))))))))))) rfl))) (fun s23 _ => (bx_asgB (e := (eL eD)) (i := 14) (EXw.sh (exw_lst (ds := ([((eL PyData.int) v_handed_13.2), ((eL eD) s22.2.1)] : (List PyData)).map eD) (ea_cons (EXw.sh (exw_listL (EX.l (ex_ixT (ex_var (i := 8) rfl) ex_int rfl)))) (ea_cons (EXw.sh (exw_listL (exl_var (i := 9) rfl))) ea_nil)) (Nat.le_of_ble_eq_true rfl))) (fun v_kept_24 => (bx_freeze 9 rfl (bx_bind fun u25 hu25 => (bx_asgT (j := 15) (EXt.e (ext_call0 (ss := ([.d (PyData.int v_pegs_10), .d ((eP PyData.int (eL PyData.int)) v_handed_13), .d ((eL eD) s22.2.1)] : List Sr)) (eag_d (ex_var (i := 2) rfl) (eag_d (ex_var (i := 8) rfl) (eag_d (ex_var (i := 9) rfl) eag_nil))) (OkAll.at (ss := ([.d (PyData.int v_pegs_10), .d ((eP PyData.int (eL PyData.int)) v_handed_13), .d ((eL eD) s22.2.1)] : List Sr)) ⟨trivial, ⟨trivial, ⟨trivial, trivial⟩⟩⟩) (noMu_at (ss := ([.d (PyData.int v_pegs_10), .d ((eP PyData.int (eL PyData.int)) v_handed_13), .d ((eL eD) s22.2.1)] : List Sr)) rfl) ⟨(v_pegs_10, v_handed_13, s22.2.1), .ok u25, rfl, ok_of hu25, rfl⟩)) (bx_bind fun u26 hu26 => (bx_ifRetM (encR := encR_l_law) (et_not (et_tmpY (i := 15) rfl (et_B (ex_call (ea_cons (ex_var (i := 15) rfl) (ea_cons (ex_var (i := 10) rfl) ea_nil)) (by exact mk_l_same hu26))))) (fun _ => (bx_retS ex_bl rfl)) (fun _ _ h => nomatch h) (fun _ => rfl) (fun _ => (bx_bind fun u27 hu27 => (bx_then (envS := fun (s28 : Unit) => [.sh ((eL PyData.int) ns_1), .sh (PyData.int x2), .sh (PyData.int v_pegs_10), .sh (PyData.int u9.2.1), .sh (PyData.int u9.2.2.1), .sh (PyData.int u9.2.2.2.1), .sh (PyData.int u9.2.2.2.2), .sh ((eP PyData.int (eL PyData.int)) s22.1), .sh ((eP PyData.int (eL PyData.int)) v_handed_13), .sh ((eL eD) s22.2.1), .sh (eD s23), .un, .un, .un, .sh ((eL eD) v_kept_24), .un, .un]) (bx_if (et_tmpY (i := 15) rfl (et_B (ex_isLD (ex_ixD (ex_var (i := 15) rfl) ex_int hu27)))) (fun _ => (bx_bind fun u29 hu29 => (bx_appYq (i := 15) rfl hu29 ex_int ex_int (bx_nx (.same (.same (.same (.same (.same (.same (.same (.same (.same (.same (.same (.un (.un (.un (.same (.un (.un .nil))))))))))))))))) rfl)))) (fun _ => (bx_nx (.same (.same (.same (.same (.same (.same (.same (.same (.same (.same (.same (.un (.un (.un (.same (.un (.un .nil))))))))))))))))) rfl))) (fun s28 _ => (bx_bind fun u30 hu30 => (bx_bind fun u31 hu31 => (bx_asgB (e := (eL eD)) (i := 16) (EXw.sh (exw_lst (ds := ([u30, u31] : (List PyData)).map eD) (ea_cons (EXt.shY (ext_call0 (ss := ([.d (PyData.int (1 : Int)), .d ((eP PyData.int (eL PyData.int)) (u9.2.1, ([] : (List Int)))), .d ((eL eD) ([] : (List PyData)))] : List Sr)) (eag_d ex_int (eag_d (ex_tup (ea_cons (ex_var (i := 3) rfl) (ea_cons (EXw.sh (exw_lst (ds := (([] : (List Int)) : (List Int)).map PyData.int) ea_nil (Nat.le_of_ble_eq_true rfl))) ea_nil)) (Nat.le_of_ble_eq_true rfl)) (eag_d (EXw.sh (exw_lst (ds := (([] : (List PyData)) : (List PyData)).map eD) ea_nil (Nat.le_of_ble_eq_true rfl))) eag_nil))) (OkAll.at (ss := ([.d (PyData.int (1 : Int)), .d ((eP PyData.int (eL PyData.int)) (u9.2.1, ([] : (List Int)))), .d ((eL eD) ([] : (List PyData)))] : List Sr)) ⟨trivial, ⟨trivial, ⟨trivial, trivial⟩⟩⟩) (noMu_at (ss := ([.d (PyData.int (1 : Int)), .d ((eP PyData.int (eL PyData.int)) (u9.2.1, ([] : (List Int)))), .d ((eL eD) ([] : (List PyData)))] : List Sr)) rfl) ⟨((1 : Int), (u9.2.1, ([] : (List Int))), ([] : (List PyData))), .ok u30, rfl, ok_of hu30, rfl⟩)) (ea_cons (EXt.shY (ext_call0 (ss := ([.d (PyData.int (1 : Int)), .d ((eP PyData.int (eL PyData.int)) (u9.2.1, ([] : (List Int)))), .d ((eL eD) ([((eP PyData.str PyData.int) ((Str.ofString "double"), (0 : Int)))]))] : List Sr)) (eag_d ex_int (eag_d (ex_tup (ea_cons (ex_var (i := 3) rfl) (ea_cons (EXw.sh (exw_lst (ds := (([] : (List Int)) : (List Int)).map PyData.int) ea_nil (Nat.le_of_ble_eq_true rfl))) ea_nil)) (Nat.le_of_ble_eq_true rfl)) (eag_d (EXw.sh (exw_lst (ds := ([((eP PyData.str PyData.int) ((Str.ofString "double"), (0 : Int)))] : (List PyData)).map eD) (ea_cons (ex_tup (ea_cons (ex_str (Nat.le_of_ble_eq_true rfl)) (ea_cons ex_int ea_nil)) (Nat.le_of_ble_eq_true rfl)) ea_nil) (Nat.le_of_ble_eq_true rfl))) eag_nil))) (OkAll.at (ss := ([.d (PyData.int (1 : Int)), .d ((eP PyData.int (eL PyData.int)) (u9.2.1, ([] : (List Int)))), .d ((eL eD) ([((eP PyData.str PyData.int) ((Str.ofString "double"), (0 : Int)))]))] : List Sr)) ⟨trivial, ⟨trivial, ⟨trivial, trivial⟩⟩⟩) (noMu_at (ss := ([.d (PyData.int (1 : Int)), .d ((eP PyData.int (eL PyData.int)) (u9.2.1, ([] : (List Int)))), .d ((eL eD) ([((eP PyData.str PyData.int) ((Str.ofString "double"), (0 : Int)))]))] : List Sr)) rfl) ⟨((1 : Int), (u9.2.1, ([] : (List Int))), ([((eP PyData.str PyData.int) ((Str.ofString "double"), (0 : Int)))])), .ok u31, rfl, ok_of hu31, rfl⟩)) ea_nil)) (Nat.le_of_ble_eq_true rfl))) (fun v_bare_32 => (bx_bind fun u33 hu33 => (bx_ifRetM (encR := encR_l_law) (et_not (et_B (ex_call (ea_cons (ex_var (i := 16) rfl) (ea_cons (EXw.sh (exw_lst (ds := ([((eP PyData.int (eL eD)) (u9.2.1, ([] : (List PyData)))), ((eP PyData.str PyData.int) ((Str.ofString "BadTrade"), (0 : Int)))] : (List PyData)).map eD) (ea_cons (ex_tup (ea_cons (ex_var (i := 3) rfl) (ea_cons (EXw.sh (exw_lst (ds := (([] : (List PyData)) : (List PyData)).map eD) ea_nil (Nat.le_of_ble_eq_true rfl))) ea_nil)) (Nat.le_of_ble_eq_true rfl)) (ea_cons (ex_tup (ea_cons (ex_str (Nat.le_of_ble_eq_true rfl)) (ea_cons ex_int ea_nil)) (Nat.le_of_ble_eq_true rfl)) ea_nil)) (Nat.le_of_ble_eq_true rfl))) ea_nil)) (by exact mk_l_same hu33)))) (fun _ => (bx_retS ex_bl rfl)) (fun _ _ h => nomatch h) (fun _ => rfl) (fun _ => (bx_bind fun g34 hg34 => (bx_bind fun g35 hg35 => (bx_ifRetM (encR := encR_l_law) (et_of (ex_neDG (d := ((eL eD) ([((eL PyData.int) v_handed_13.2), ((eL eD) s22.2.1)]))) (e := ((eL eD) v_kept_24)) (grd_ok hg34) (grd_ok hg35) (EXl.q (EXw.l (exw_lst (ds := ([((eL PyData.int) v_handed_13.2), ((eL eD) s22.2.1)] : (List PyData)).map eD) (ea_cons (ex_ixT (ex_var (i := 8) rfl) ex_int rfl) (ea_cons (ex_var (i := 9) rfl) ea_nil)) (Nat.le_of_ble_eq_true rfl)))) (EX.q (ex_var (i := 14) rfl)))) (fun _ => (bx_retS ex_bl rfl)) (fun _ _ h => nomatch h) (fun _ => rfl) (fun _ => (bx_nx (.same (.un (.un (.un (.un (.un (.un (.un (.un (.un (.un (.un (.un (.un (.un (.un (.un .nil))))))))))))))))) rfl))))))))))))))))))))))))))))))))))))))))) (fun _ => rfl) (fun _ _ h => nomatch h) (fun s36 _ => (bx_retS ex_bl rfl))))))
end Rb.M_k31

set_option Elab.async false
set_option linter.all false
set_option maxRecDepth 100000
set_option maxHeartbeats 0
namespace Rb.M_k31
open PySem PySem.Spec PyProof.Rows L2 Rb
theorem t_x {P : Program} {w : World} {K : PySem.W.Frag} {h : Heap} {mg : Str → Option Value} (X : K.In h) (G : h.Ns mainGlobals mg) (c : He.SaysD fa fn K) (hE : exA K = true) : Tx K mg := ⟨trivial, He.glo_ok X G (c.fact 35 (f := .glo "BadFrame") rfl), He.glo_ok X G (c.fact 36 (f := .glo "BadHalf") rfl), He.glo_ok X G (c.fact 37 (f := .glo "BadHook") rfl), He.glo_ok X G (c.fact 38 (f := .glo "BadName") rfl), He.glo_ok X G (c.fact 39 (f := .glo "BadPage") rfl), He.glo_ok X G (c.fact 40 (f := .glo "BadPegs") rfl), He.glo_ok X G (c.fact 41 (f := .glo "BadTrade") rfl), He.glo_ok X G (c.fact 42 (f := .glo "Full") rfl), He.glo_ok X G (c.fact 43 (f := .glo "Hangs") rfl), He.glo_ok X G (c.fact 44 (f := .glo "NoFrame") rfl), He.glo_ok X G (c.fact 45 (f := .glo "NoNumber") rfl), He.glo_ok X G (c.fact 46 (f := .glo "NoPlace") rfl), He.glo_ok X G (c.fact 47 (f := .glo "NoStack") rfl), He.glo_ok X G (c.fact 48 (f := .glo "NothingThere") rfl), He.glo_ok X G (c.fact 49 (f := .glo "Taken") rfl), (Bool.and_eq_true_iff.mp hE).1, oexB_ok (List.all_eq_true.mp (Bool.and_eq_true_iff.mp hE).2 ("at", "BadTrade") (by simp)), He.free_ok X G (c.fact 20 (f := .free "ValueError") rfl), He.free_ok X G (c.fact 21 (f := .free "abs") rfl), He.free_ok X G (c.fact 22 (f := .free "all") rfl), He.free_ok X G (c.fact 23 (f := .free "bool") rfl), He.free_ok X G (c.fact 24 (f := .free "enumerate") rfl), He.free_ok X G (c.fact 25 (f := .free "int") rfl), He.free_ok X G (c.fact 26 (f := .free "isinstance") rfl), He.free_ok X G (c.fact 27 (f := .free "len") rfl), He.free_ok X G (c.fact 28 (f := .free "list") rfl), He.free_ok X G (c.fact 29 (f := .free "max") rfl), He.free_ok X G (c.fact 30 (f := .free "min") rfl), He.free_ok X G (c.fact 31 (f := .free "range") rfl), He.free_ok X G (c.fact 32 (f := .free "str") rfl), He.free_ok X G (c.fact 33 (f := .free "tuple") rfl), He.free_ok X G (c.fact 34 (f := .free "zip") rfl), He.int_ok X G (c.fact 50 (f := .int "MOST_PEGS" 10) rfl)⟩
theorem hX_BadTrade {P : Program} {w : World} {K : PySem.W.Frag} {h : Heap} {mg : Str → Option Value} (X : K.In h) (G : h.Ns mainGlobals mg) (c : He.SaysD fa fn K) (T : Tx K mg) (base : Heap) : ExI P w K mg base "at" "BadTrade" := by
  obtain ⟨fd, F⟩ := c.def_ 20 (d := dI_BadTrade) rfl
  exact ⟨T.cls_BadTrade, T.oex_BadTrade, _, ini_ok F ⟨rfl, rfl, rfl, by decide +kernel, rfl, by decide +kernel, by decide +kernel⟩ (fun _ _ _ _ _ _ => pss_cons (ps_ost (pv 0) (pv 1)) pss_nil), F.bindsN (fun _ _ _ _ _ _ us hl => match us, hl with | [_, _], _ => rfl)⟩
theorem hG_ask_pegs {P : Program} {w : World} {K : PySem.W.Frag} {h : Heap} {mg : Str → Option Value} (X : K.In h) (G : h.Ns mainGlobals mg) (c : He.SaysD fa fn K) (T : Tx K mg) (base : Heap) : Fn P w K mg base "ask_pegs" 1 I_p_ask_pegs := by
  obtain ⟨fd, F⟩ := c.def_ 0 (d := dD 19 "ask_pegs") rfl
  exact fn_p_ask_pegs (P := P) (w := w) (base := base) F (He.glo_ok X G (c.fact 0 (f := .glo "ask_pegs") rfl)) T 
theorem hG_ask_hook {P : Program} {w : World} {K : PySem.W.Frag} {h : Heap} {mg : Str → Option Value} (X : K.In h) (G : h.Ns mainGlobals mg) (c : He.SaysD fa fn K) (T : Tx K mg) (base : Heap) : Fn P w K mg base "ask_hook" 1 I_p_ask_hook := by
  obtain ⟨fd, F⟩ := c.def_ 1 (d := dD 21 "ask_hook") rfl
  exact fn_p_ask_hook (P := P) (w := w) (base := base) F (He.glo_ok X G (c.fact 1 (f := .glo "ask_hook") rfl)) T 
theorem hG_ask_row {P : Program} {w : World} {K : PySem.W.Frag} {h : Heap} {mg : Str → Option Value} (X : K.In h) (G : h.Ns mainGlobals mg) (c : He.SaysD fa fn K) (T : Tx K mg) (base : Heap) : Fn P w K mg base "ask_row" 2 I_p_ask_row := by
  obtain ⟨fd, F⟩ := c.def_ 2 (d := dD 22 "ask_row") rfl
  exact fn_p_ask_row (P := P) (w := w) (base := base) F (He.glo_ok X G (c.fact 2 (f := .glo "ask_row") rfl)) T (hG_ask_pegs X G c T base) (hG_ask_hook X G c T base)
theorem hG_beside {P : Program} {w : World} {K : PySem.W.Frag} {h : Heap} {mg : Str → Option Value} (X : K.In h) (G : h.Ns mainGlobals mg) (c : He.SaysD fa fn K) (T : Tx K mg) (base : Heap) : Fn P w K mg base "beside" 1 I_p_beside := by
  obtain ⟨fd, F⟩ := c.def_ 3 (d := dD 24 "beside") rfl
  exact fn_p_beside (P := P) (w := w) (base := base) F (He.glo_ok X G (c.fact 3 (f := .glo "beside") rfl)) T 
theorem hG_swapped {P : Program} {w : World} {K : PySem.W.Frag} {h : Heap} {mg : Str → Option Value} (X : K.In h) (G : h.Ns mainGlobals mg) (c : He.SaysD fa fn K) (T : Tx K mg) (base : Heap) : Fn P w K mg base "swapped" 1 I_p_swapped := by
  obtain ⟨fd, F⟩ := c.def_ 4 (d := dD 25 "swapped") rfl
  exact fn_p_swapped (P := P) (w := w) (base := base) F (He.glo_ok X G (c.fact 4 (f := .glo "swapped") rfl)) T 
theorem hG_dropped {P : Program} {w : World} {K : PySem.W.Frag} {h : Heap} {mg : Str → Option Value} (X : K.In h) (G : h.Ns mainGlobals mg) (c : He.SaysD fa fn K) (T : Tx K mg) (base : Heap) : Fn P w K mg base "dropped" 1 I_p_dropped := by
  obtain ⟨fd, F⟩ := c.def_ 5 (d := dD 26 "dropped") rfl
  exact fn_p_dropped (P := P) (w := w) (base := base) F (He.glo_ok X G (c.fact 5 (f := .glo "dropped") rfl)) T 
theorem hG_cut {P : Program} {w : World} {K : PySem.W.Frag} {h : Heap} {mg : Str → Option Value} (X : K.In h) (G : h.Ns mainGlobals mg) (c : He.SaysD fa fn K) (T : Tx K mg) (base : Heap) : Fn P w K mg base "cut" 2 I_p_cut := by
  obtain ⟨fd, F⟩ := c.def_ 6 (d := dD 27 "cut") rfl
  exact fn_p_cut (P := P) (w := w) (base := base) F (He.glo_ok X G (c.fact 6 (f := .glo "cut") rfl)) T (hG_beside X G c T base)
theorem hG_grown {P : Program} {w : World} {K : PySem.W.Frag} {h : Heap} {mg : Str → Option Value} (X : K.In h) (G : h.Ns mainGlobals mg) (c : He.SaysD fa fn K) (T : Tx K mg) (base : Heap) : Fn P w K mg base "grown" 2 I_p_grown := by
  obtain ⟨fd, F⟩ := c.def_ 7 (d := dD 28 "grown") rfl
  exact fn_p_grown (P := P) (w := w) (base := base) F (He.glo_ok X G (c.fact 7 (f := .glo "grown") rfl)) T (hG_beside X G c T base)
theorem hG_behind {P : Program} {w : World} {K : PySem.W.Frag} {h : Heap} {mg : Str → Option Value} (X : K.In h) (G : h.Ns mainGlobals mg) (c : He.SaysD fa fn K) (T : Tx K mg) (base : Heap) : FnE P w K mg base "behind" 3 (I_p_behind K) := by
  obtain ⟨fd, F⟩ := c.def_ 8 (d := dD 29 "behind") rfl
  exact fn_p_behind (P := P) (w := w) (base := base) F (He.glo_ok X G (c.fact 8 (f := .glo "behind") rfl)) T (hG_grown X G c T base) (hG_swapped X G c T base) (hG_dropped X G c T base) (hG_cut X G c T base)
theorem hG_x_walked {P : Program} {w : World} {K : PySem.W.Frag} {h : Heap} {mg : Str → Option Value} (X : K.In h) (G : h.Ns mainGlobals mg) (c : He.SaysD fa fn K) (T : Tx K mg) (base : Heap) : FnE P w K mg base "walked" 4 (I_x_walked K) := by
  obtain ⟨fd, F⟩ := c.def_ 9 (d := dD 30 "walked") rfl
  exact fn_x_walked (P := P) (w := w) (base := base) F (He.glo_ok X G (c.fact 9 (f := .glo "walked") rfl)) T (hG_ask_row X G c T base) (hG_behind X G c T base) (hX_BadTrade X G c T base)
theorem hG__law_kin {P : Program} {w : World} {K : PySem.W.Frag} {h : Heap} {mg : Str → Option Value} (X : K.In h) (G : h.Ns mainGlobals mg) (c : He.SaysD fa fn K) (T : Tx K mg) (base : Heap) : KinOk P w K mg "_law_kin" 0 := by
  obtain ⟨fd, F⟩ := c.def_ 10 (d := dD 32 "_law_kin") rfl
  exact fn_l_kin (P := P) (w := w) F (He.glo_ok X G (c.fact 10 (f := .glo "_law_kin") rfl)) T 
theorem hG__law_mix {P : Program} {w : World} {K : PySem.W.Frag} {h : Heap} {mg : Str → Option Value} (X : K.In h) (G : h.Ns mainGlobals mg) (c : He.SaysD fa fn K) (T : Tx K mg) (base : Heap) : Fn P w K mg base "_law_mix" 1 I_l_mix := by
  obtain ⟨fd, F⟩ := c.def_ 11 (d := dD 33 "_law_mix") rfl
  exact fn_l_mix (P := P) (w := w) (base := base) F (He.glo_ok X G (c.fact 11 (f := .glo "_law_mix") rfl)) T 
theorem hG__law_raw {P : Program} {w : World} {K : PySem.W.Frag} {h : Heap} {mg : Str → Option Value} (X : K.In h) (G : h.Ns mainGlobals mg) (c : He.SaysD fa fn K) (T : Tx K mg) (base : Heap) : Fn P w K mg base "_law_raw" 2 I_l_raw := by
  obtain ⟨fd, F⟩ := c.def_ 12 (d := dD 34 "_law_raw") rfl
  exact fn_l_raw (P := P) (w := w) (base := base) F (He.glo_ok X G (c.fact 12 (f := .glo "_law_raw") rfl)) T (hG__law_mix X G c T base)
theorem hG__law_digits {P : Program} {w : World} {K : PySem.W.Frag} {h : Heap} {mg : Str → Option Value} (X : K.In h) (G : h.Ns mainGlobals mg) (c : He.SaysD fa fn K) (T : Tx K mg) (base : Heap) : Fn P w K mg base "_law_digits" 3 I_l_digits := by
  obtain ⟨fd, F⟩ := c.def_ 13 (d := dD 35 "_law_digits") rfl
  exact fn_l_digits (P := P) (w := w) (base := base) F (He.glo_ok X G (c.fact 13 (f := .glo "_law_digits") rfl)) T (hG__law_raw X G c T base)
theorem hG__law_hooks {P : Program} {w : World} {K : PySem.W.Frag} {h : Heap} {mg : Str → Option Value} (X : K.In h) (G : h.Ns mainGlobals mg) (c : He.SaysD fa fn K) (T : Tx K mg) (base : Heap) : Fn P w K mg base "_law_hooks" 4 I_l_hooks := by
  obtain ⟨fd, F⟩ := c.def_ 14 (d := dD 36 "_law_hooks") rfl
  exact fn_l_hooks (P := P) (w := w) (base := base) F (He.glo_ok X G (c.fact 14 (f := .glo "_law_hooks") rfl)) T (hG__law_digits X G c T base)
theorem hG__law_after {P : Program} {w : World} {K : PySem.W.Frag} {h : Heap} {mg : Str → Option Value} (X : K.In h) (G : h.Ns mainGlobals mg) (c : He.SaysD fa fn K) (T : Tx K mg) (base : Heap) : Fn P w K mg base "_law_after" 1 I_l_after := by
  obtain ⟨fd, F⟩ := c.def_ 15 (d := dD 37 "_law_after") rfl
  exact fn_l_after (P := P) (w := w) (base := base) F (He.glo_ok X G (c.fact 15 (f := .glo "_law_after") rfl)) T 
theorem hG__law_some_trade {P : Program} {w : World} {K : PySem.W.Frag} {h : Heap} {mg : Str → Option Value} (X : K.In h) (G : h.Ns mainGlobals mg) (c : He.SaysD fa fn K) (T : Tx K mg) (base : Heap) : Fn P w K mg base "_law_some_trade" 4 I_l_some_trade := by
  obtain ⟨fd, F⟩ := c.def_ 16 (d := dD 38 "_law_some_trade") rfl
  exact fn_l_some_trade (P := P) (w := w) (base := base) F (He.glo_ok X G (c.fact 16 (f := .glo "_law_some_trade") rfl)) T (hG__law_digits X G c T base) (hG__law_after X G c T base)
theorem hG__law_same {P : Program} {w : World} {K : PySem.W.Frag} {h : Heap} {mg : Str → Option Value} (X : K.In h) (G : h.Ns mainGlobals mg) (c : He.SaysD fa fn K) (T : Tx K mg) (base : Heap) : Fn P w K mg base "_law_same" 7 (I_l_same 6) := by
  obtain ⟨fd, F⟩ := c.def_ 17 (d := dD 39 "_law_same") rfl
  exact fn_l_same (P := P) (w := w) (base := base) F (He.glo_ok X G (c.fact 17 (f := .glo "_law_same") rfl)) T 
theorem hG__law_word {P : Program} {w : World} {K : PySem.W.Frag} {h : Heap} {mg : Str → Option Value} (X : K.In h) (G : h.Ns mainGlobals mg) (c : He.SaysD fa fn K) (T : Tx K mg) (base : Heap) : FnE P w K mg base "_law_word" 5 (I_l_word K) := by
  obtain ⟨fd, F⟩ := c.def_ 18 (d := dD 40 "_law_word") rfl
  exact fn_l_word (P := P) (w := w) (base := base) F (He.glo_ok X G (c.fact 18 (f := .glo "_law_word") rfl)) T (hG_x_walked X G c T base) (hG__law_kin X G c T base)
theorem facts (ht : ∀ ns : List Int, ns.length ≤ 63 → l_law ns = some true) {P : Program} {w : World} {K : PySem.W.Frag} {h : Heap} {mg : Str → Option Value} {f : Addr} (X : K.In h) (G : h.Ns mainGlobals mg) (hfa : mg ("law" : Str) = some (.ref f)) (c : He.SaysD fa fn K) (hE : exA K = true) :
    ∃ fd : FuncData, (∀ (s : Shared) (v : Value), BindsTo s fd ⟨[v], []⟩ [("_law_script", v)]) ∧ ∀ base : Heap, K.In base → base.Ns mainGlobals mg → FnOk P w K mg base CX0 8 f fd ["_law_script"] (spLaw K) := by
  obtain ⟨fd, F⟩ := c.def_ 19 (d := dD 41 "law") rfl
  have e := hfa.symm.trans (He.glo_ok X G (c.fact 19 (f := .glo "law") rfl))
  cases e
  have T : Tx K mg := t_x (P := P) (w := w) X G c hE
  refine ⟨fd, fun s v => FunD.bindsA (ps := ["_law_script"]) F (fun _ _ _ _ _ _ us hl => match us, hl with | [_], _ => rfl) s [v] rfl, fun base _ _ => ?_⟩
  exact fn_law F T (hG__law_digits X G c T base) (hG__law_hooks X G c T base) (hG__law_some_trade X G c T base) (hG__law_after X G c T base) (hG__law_word X G c T base) (hG__law_same X G c T base) ht
end Rb.M_k31
open PySem PySem.W PySem.Calls PyProof.Rows
set_option maxHeartbeats 0 in
theorem PySem.Challenge.cw_ribbonloft_k31_trades_one_behind_the_oth_holds : PySem.Challenge.rw_ribbonloft_k31_trades_one_behind_the_oth.Holds := by
  refine Rb.M_k31.z_law fun said => ?_
  refine HandSHeadRun.head_any (r := OpenLaw.row PySem.Challenge.rw_ribbonloft_k31_trades_one_behind_the_oth) (q := view (OpenLaw.row PySem.Challenge.rw_ribbonloft_k31_trades_one_behind_the_oth).prog [41]) (H := Rb.M_k31.hk) (ob := Rb.M_k31.ob) (M := 6000) (loose := Rb.M_k31.loose) (d := HandSHeadRun.topDef (OpenLaw.row PySem.Challenge.rw_ribbonloft_k31_trades_one_behind_the_oth).prog 41) (kwd := []) Rb.M_k31.ob_eq
    Rb.M_k31.z_e Rb.M_k31.z_f Rb.M_k31.run Rb.M_k31.z_def Rb.M_k31.z_p Rb.M_k31.z_k Rb.M_k31.z_wr said Rb.M_k31.z_ok Rb.M_k31.z_b ?hw ?hc
  case hw => w_witness2
  case hc =>
    refine L2.walk_ofE (l := PySem.Challenge.rw_ribbonloft_k31_trades_one_behind_the_oth) (n := 63) (k := 8) (x := "_law_script") (CX := L2.CX0) rfl (by decide) (by kernel_rfl) ⟨rfl, by decide, by decide⟩ ?F (fun _ _ _ _ z => z)
    intro w mg fa h Y G hmg0
    obtain ⟨K, KX, c⟩ := Y
    have hmg : mg ("law" : PySem.Str) = some (.ref fa) := by
      have e : (HandSHeadRun.topDef (OpenLaw.row PySem.Challenge.rw_ribbonloft_k31_trades_one_behind_the_oth).prog 41).name = ("law" : PySem.Str) := by kernel_rfl
      rw [← e]
      exact hmg0
    obtain ⟨fd, hb, hF⟩ := Rb.M_k31.facts Rb.M_k31.law_true (P := (PySem.Challenge.rw_ribbonloft_k31_trades_one_behind_the_oth).prog) (w := w) KX G hmg c.1.d c.2
    exact ⟨K, fd, Rb.spLaw K, KX, hb, fun H a ns hl _ hS => ⟨a, ns, rfl, hS, hl, fun _ => rfl⟩, hF⟩

