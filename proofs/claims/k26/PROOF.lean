import PyProof.Rows.All
import Wide.All
import OpenK.AllK
import Wide.FinOn
import HandS.ForMost
import HandS.Exc
import HandS.TryOnly
import HandS.ExcOwn
import HandS.WordsExc
import HandS.Defaults
import HandS.Evl
import HandS.Wide
import HandS.SetFor
import HandS.Walk
import HandS.Conv
import HandS.Zip
import HandS.HeadHook2
import KE.GoesEnum
import HandS.Style
import HandS.IsInst
import HandS.Dict
import HandS.SortInts
import HandS.HeadHook4
import HandS.ExcIs
import HandS.Text
import HandS.TryMany
import HandS.ExcCtx
import HandS.HotCalls
import KE.KExcIs
import HandS.ExcField
import HandS.ExcInit
import HandS.WordsDict
import HandS.TupLen
import HandS.Set
import HandS.Strs
import PyProof.Rows.SetFrom
import KE.KSortTup
import HandS.TupSets
import HandS.SortOrd
import PyProof.Rows.SortShellAny
import HandS.Deep
import HandS.More
import HandS.TupAny
import KE.KRevSl
import HandS.Small
import HandS.Steps
import KE.LtData
import KE.LtSeq
import KE.KDictDisplayH
import PySem.Challenge.RW_ribbonloft_k26_whole_no_row_is_shorter
import KE.KStateDown
import Lean
import HandS.Head0
import HandS.Head1
import HandS.Head2
import HandS.HeadEnd
set_option Elab.async false
set_option linter.all false
set_option maxRecDepth 100000
set_option maxHeartbeats 4000000
namespace Rb
open PySem PySem.Spec PyProof.Rows L2
def exNames : List Str := ["BadPegs", "BadFrame", "BadHalf", "BadHook", "BadName", "NoNumber", "NoFrame", "NoStack", "NoPlace", "Taken", "Full", "NothingThere", "BadTrade", "Hangs", "BadPage"]
def exB (K : PySem.W.Frag) : Bool :=
  exNames.all (fun x => decide (PySem.W.exmOne K (.ref (He.ga K x)) (.ref (He.ga K "RibbonError")) = some true) &&
    exNames.all (fun y => decide (PySem.W.exmOne K (.ref (He.ga K x)) (.ref (He.ga K y)) = some (decide (x = y)) ∧ PySem.W.kitOne K (.ref (He.ga K x)) (.ref (He.ga K y)) = some (decide (x = y)))) &&
    decide (PySem.W.kitOne K (.ref (He.ga K x)) (.type "ValueError") = some true) &&
    decide (PySem.W.findIn K (.ref (He.ga K x)) "__getattribute__" = some (some (.builtin "BaseException.__getattribute__"))) &&
    decide (PySem.W.findIn K (.ref (He.ga K x)) "__getattr__" = some none) &&
    decide (PySem.W.subIn K (.ref (He.ga K x)) (.type "BaseException") = some true) &&
    PySem.W.hasDictIn K (He.ga K x) &&
    decide (PySem.W.findIn K (.ref (He.ga K x)) "__class__" = some (some (.builtin "object.__class__"))) &&
    decide (PySem.W.specialIn K (.builtin "object.__class__") "__get__" = some (some (.builtin "getset_descriptor.__get__"))) &&
    decide (PySem.W.takesIn K (.builtin "object.__class__") = some true) &&
    decide (PySem.W.mroIn K (He.ga K x) (.type "object") = some true))
def oexB (K : PySem.W.Frag) (f x : Str) : Bool :=
  (match K.lookup (He.ga K x) with
    | some ⟨.type "type", _, .cls q, s⟩ => (match q.mro, s.toList with
      | .ref z :: l, [_, _, _, _, some (.builtin g), _] => decide (z = He.ga K x) && (decide (g = "ValueError.__new__") && (!q.hasDel && (q.hasDict && PySem.HandSPX.refsVE l)))
      | _, _ => false)
    | _ => false) &&
  (decide (PySem.W.findIn K (.ref (He.ga K x)) "__setattr__" = some (some (.builtin "object.__setattr__"))) &&
  (decide (PySem.W.subIn K (.ref (He.ga K x)) (.type "BaseException") = some true) &&
  (decide (PySem.W.typeIn K (.ref (He.ga K x)) = some (.type "type")) &&
  (PySem.W.keepIn K (.ref (He.ga K x)) &&
  (decide (PySem.W.findIn K (.ref (He.ga K x)) "__init__" = some (some (.ref (He.ma K (He.ga K x) "__init__")))) &&
  (decide (PySem.W.typeIn K (.ref (He.ma K (He.ga K x) "__init__")) = some (.type "function")) &&
  (decide (PySem.W.findIn K (.ref (He.ga K x)) f = some none) && xfB K (He.ga K x))))))))
def clsStmt (s : Stmt) (j : Nat) : Stmt := match s with
  | .ClassDef _ _ _ b .. => b.getD j (.Pass ⟨0, 0, 0, 0⟩)
  | _ => .Pass ⟨0, 0, 0, 0⟩
def exBN (N : List Str) (K : PySem.W.Frag) : Bool :=
  N.all fun x => decide (PySem.W.exmOne K (.ref (He.ga K x)) (.ref (He.ga K "RibbonError")) = some true) && N.all fun y => decide (PySem.W.exmOne K (.ref (He.ga K x)) (.ref (He.ga K y)) = some (decide (x = y)))
end Rb

set_option Elab.async false
set_option linter.all false
set_option maxRecDepth 100000
set_option maxHeartbeats 0
namespace Rb.M_k26
open PySem PySem.Spec PyProof.Rows L2 Rb
def top (i : Nat) : Stmt := PySem.Challenge.pw_ribbonloft_k26_whole_no_row_is_shorter.main.body.getD i (.Pass ⟨0, 0, 0, 0⟩)
def exN : List Str := ["BadFrame"]
def dD (i : Nat) (x : Str) : He.DefD := ⟨(x, none), x, x, defArgs (top i), defBody (top i), defScope (top i), [], []⟩
def fn : List He.DefD := [dD 5 "turned_round", dD 6 "in_round", dD 7 "are_ties", dD 8 "nested", dD 9 "is_frame", dD 10 "ask_frame", dD 12 "column", dD 13 "seams_of", dD 14 "length_of", dD 15 "length", dD 16 "tied_beside", dD 17 "firsts", dD 18 "lasts", dD 19 "tied_anew", dD 20 "without_first", dD 21 "shortest_row", dD 23 "_law_plain", dD 24 "_law_rings_by", dD 25 "_law_hung", dD 26 "_law_hook", dD 27 "_law_mix", dD 28 "_law_raw", dD 29 "_law_digits", dD 30 "_law_same", dD 31 "_law_shortest", dD 32 "law"]
def fa : List He.Fa := [.glo "turned_round", .glo "in_round", .glo "are_ties", .glo "nested", .glo "is_frame", .glo "ask_frame", .glo "column", .glo "seams_of", .glo "length_of", .glo "length", .glo "tied_beside", .glo "firsts", .glo "lasts", .glo "tied_anew", .glo "without_first", .glo "shortest_row", .glo "_law_plain", .glo "_law_rings_by", .glo "_law_hung", .glo "_law_hook", .glo "_law_mix", .glo "_law_raw", .glo "_law_digits", .glo "_law_same", .glo "_law_shortest", .glo "law", .free "all", .free "bool", .free "enumerate", .free "int", .free "isinstance", .free "len", .free "list", .free "max", .free "min", .free "range", .free "set", .free "sorted", .free "str", .free "sum", .free "tuple", .free "zip", .int "MOST_PEGS" 10]
def loose0 : List Str := ["RibbonError", "BadFrame", "MOST_PEGS", "turned_round", "in_round", "are_ties", "nested", "is_frame", "ask_frame", "column", "seams_of", "length_of", "length", "tied_beside", "firsts", "lasts", "tied_anew", "without_first", "shortest_row", "_law_plain", "_law_rings_by", "_law_hung", "_law_hook", "_law_mix", "_law_raw", "_law_digits", "_law_same", "_law_shortest"]
def loose : List Str := loose0
abbrev R0 : PySem.W.OpenRow := PySem.W.OpenLaw.row PySem.Challenge.rw_ribbonloft_k26_whole_no_row_is_shorter
abbrev hk : PySem.W.Hook := He.hookD 4 fa fn
def ob (s : PySem.W.SharedT) : He.AlD := He.obsDG 4 fa fn (HandSHeadRun.getT s)
theorem ob_eq (s : PySem.W.SharedT) : ob s = hk.obs s.abs := He.obsDG_eq (HandSHeadRun.getT_eq s)
theorem run_a (w : World) : HandSHeadRun.RunEq R0 (PySem.W.view R0.prog [32]) hk ob 6000 loose w := by
  intro os
  kernel_rfl
theorem run (w : World) : HandSHeadRun.RunEq R0 (PySem.W.view R0.prog [32]) hk ob 6000 loose w := by
  exact run_a w
open PySem.W PySem.Calls in
theorem z_law (h : PySem.Challenge.rw_ribbonloft_k26_whole_no_row_is_shorter.row.wellSaid = true → PySem.Challenge.rw_ribbonloft_k26_whole_no_row_is_shorter.row.Holds) : PySem.Challenge.rw_ribbonloft_k26_whole_no_row_is_shorter.Holds := by
  w_on; o_law
  exact h (by assumption)
open PySem.W PySem.Calls in
theorem z_e : opening R0.prog = plainProg R0.prog.main.scope.names := by kernel_rfl
open PySem.W PySem.Calls in
theorem z_f : ∀ s, fenceModules? R0.prog s = some s := fun s => by kernel_rfl
open PySem.W PySem.Calls in
theorem z_def : defOf (PySem.W.view R0.prog [32]) R0.name = some ((HandSHeadRun.topDef R0.prog 32), []) := by kernel_rfl
open PySem.W PySem.Calls in
theorem z_p : R0.prog.theDef R0.name = some ((HandSHeadRun.topDef R0.prog 32).params, (HandSHeadRun.topDef R0.prog 32).body, (HandSHeadRun.topDef R0.prog 32).scope) := by kernel_rfl
open PySem.W PySem.Calls in
theorem z_k : kwWritten? (HandSHeadRun.topDef R0.prog 32).params.kwonlyargs (HandSHeadRun.topDef R0.prog 32).params.kw_defaults = some [] := by kernel_rfl
open PySem.W PySem.Calls in
theorem z_ok : (chainsOk (PySem.W.view R0.prog [32]) && opensWell R0.prog && (frees R0.toRowW && R0.within.isEmpty)) = true := by kernel_rfl
open PySem.W PySem.Calls in
theorem z_b : R0.prog.bare := ⟨rfl, rfl, rfl, rfl, rfl, by decide +kernel⟩
open PySem.W PySem.Calls in
theorem z_wr : (!R0.writes || R0.records.isEmpty) = true := by rfl
end Rb.M_k26
set_option maxHeartbeats 4000000

set_option Elab.async false
set_option linter.all false
set_option maxRecDepth 100000
set_option maxHeartbeats 2000000
namespace Rb
open PySem PySem.Spec PyProof.Rows L2
abbrev Ex := Evl.Ex
abbrev Frag := PySem.W.Frag
def lim : Nat := 100000
theorem lim_le {n : Nat} (h : n ≤ lim) : n ≤ sizeLine := Nat.le_trans h (by decide)
theorem lim_lt {n : Nat} (h : n < lim) : n < sizeLine := Nat.lt_of_lt_of_le h (by decide)

def kD : Key → PyData
  | .inl i => .int i
  | .inr s => .str s
def kvD (p : Key × PyData) : PyData × PyData := (kD p.1, p.2)
def kOk : Key → Prop
  | .inl _ => True
  | .inr s => s.length ≤ lim
def DtL (kvs : List (List Key × PyData)) : Prop := kvs.length ≤ lim ∧ ∀ p, p ∈ kvs → p.1.length ≤ lim
def DkL (kvs : List (Key × PyData)) : Prop := kvs.length ≤ lim ∧ ∀ p, p ∈ kvs → kOk p.1
mutual
inductive Dq (H : Hp) : V → PyData → Prop
  | non : Dq H .non .none
  | bl (b : Bool) : Dq H (.bl b) (.bool b)
  | int (i : Int) : Dq H (.int i) (.int i)
  | str (x : Str) : x.length ≤ lim → Dq H (.str x) (.str x)
  | lst {a : Addr} {xs : List V} {ds : List PyData} : H a = some (.lst xs) → DqAll H xs ds → ds.length ≤ lim → Dq H (.ref a) (.list ds)
  | tup {a : Addr} {xs : List V} {ds : List PyData} : H a = some (.tup xs) → DqAll H xs ds → ds.length ≤ lim → Dq H (.ref a) (.tuple ds)
  /-- a dict that never changes again -/
  | dct {a : Addr} {o : Obj} {xs : List (Key × V)} {kvs : List (Key × PyData)} {ps : List (PyData × PyData)} : H a = some (.frz o (.dK xs)) → xs.map (·.1) = kvs.map (·.1) → DqAll H (xs.map (·.2)) (kvs.map (·.2)) → DkL kvs → ps = kvs.map kvD → Dq H (.ref a) (.dict ps)
inductive DqAll (H : Hp) : List V → List PyData → Prop
  | nil : DqAll H [] []
  | cons {v : V} {vs : List V} {d : PyData} {ds : List PyData} : Dq H v d → DqAll H vs ds → DqAll H (v :: vs) (d :: ds)
end
mutual
theorem Dq.mono' {H H' : Hp} (e : Ex H H') : ∀ {d : PyData} {v : V}, Dq H v d → Dq H' v d
  | _, _, .non => .non
  | _, _, .bl b => .bl b
  | _, _, .int i => .int i
  | _, _, .str x z => .str x z
  | _, _, .lst h1 h2 h3 => .lst (e _ _ h1) (DqAll.mono' e h2) h3
  | _, _, .tup h1 h2 h3 => .tup (e _ _ h1) (DqAll.mono' e h2) h3
  | _, _, .dct h1 h2 h3 h4 h5 => .dct (e _ _ h1) h2 (DqAll.mono' e h3) h4 h5
theorem DqAll.mono' {H H' : Hp} (e : Ex H H') : ∀ {ds : List PyData} {vs : List V}, DqAll H vs ds → DqAll H' vs ds
  | _, _, .nil => .nil
  | _, _, .cons h1 h2 => .cons (Dq.mono' e h1) (DqAll.mono' e h2)
end
theorem Dq.mono {H H' : Hp} (e : Ex H H') (d : PyData) (v : V) (h : Dq H v d) : Dq H' v d := h.mono' e
theorem DqAll.mono {H H' : Hp} (e : Ex H H') (ds : List PyData) (vs : List V) (h : DqAll H vs ds) : DqAll H' vs ds := h.mono' e
theorem DqAll.len {H : Hp} : ∀ {ds : List PyData} {vs : List V}, DqAll H vs ds → vs.length = ds.length
  | [], _, h => by cases h; rfl
  | d :: ds, _, h => by cases h with | cons h1 h2 => rw [List.length_cons, List.length_cons, h2.len]
theorem DqAll.get {H : Hp} : ∀ {ds : List PyData} {vs : List V} {i : Nat} {d : PyData}, DqAll H vs ds → ds[i]? = some d → ∃ v, vs[i]? = some v ∧ Dq H v d
  | [], _, _, _, _, e => by simp at e
  | d :: ds, _, 0, _, .cons h1 h2, e => by simp at e; subst e; exact ⟨_, rfl, h1⟩
  | d :: ds, _, i + 1, _, .cons h1 h2, e => by
    obtain ⟨v, e1, e2⟩ := DqAll.get h2 (by simpa using e)
    exact ⟨v, by simpa using e1, e2⟩
theorem DqAll.app {H : Hp} : ∀ {ds es : List PyData} {vs ws : List V}, DqAll H vs ds → DqAll H ws es → DqAll H (vs ++ ws) (ds ++ es)
  | [], _, _, _, .nil, h => h
  | _ :: _, _, _, _, .cons h1 h2, h => .cons h1 (h2.app h)
theorem DqAll.take {H : Hp} : ∀ {ds : List PyData} {vs : List V} (n : Nat), DqAll H vs ds → DqAll H (vs.take n) (ds.take n)
  | _, _, 0, _ => .nil
  | [], _, _ + 1, .nil => .nil
  | _ :: _, _, n + 1, .cons h1 h2 => .cons h1 (h2.take n)
theorem DqAll.drop {H : Hp} : ∀ {ds : List PyData} {vs : List V} (n : Nat), DqAll H vs ds → DqAll H (vs.drop n) (ds.drop n)
  | _, _, 0, h => h
  | [], _, _ + 1, .nil => .nil
  | _ :: _, _, n + 1, .cons h1 h2 => h2.drop n
theorem DqAll.set {H : Hp} {v : V} {d : PyData} (h : Dq H v d) : ∀ {ds : List PyData} {vs : List V} (i : Nat), DqAll H vs ds → DqAll H (vs.set i v) (ds.set i d)
  | [], _, _, .nil => .nil
  | _ :: _, _, 0, .cons h1 h2 => .cons h h2
  | _ :: _, _, n + 1, .cons h1 h2 => .cons h1 (h2.set h n)
theorem DqAll.rev {H : Hp} : ∀ {ds : List PyData} {vs : List V}, DqAll H vs ds → DqAll H vs.reverse ds.reverse
  | [], _, .nil => .nil
  | _ :: _, _, .cons h1 h2 => by
    rw [List.reverse_cons, List.reverse_cons]
    exact h2.rev.app (.cons h1 .nil)
theorem DqAll.dropLast {H : Hp} {ds : List PyData} {vs : List V} (h : DqAll H vs ds) : DqAll H vs.dropLast ds.dropLast := by
  rw [List.dropLast_eq_take, List.dropLast_eq_take, h.len]
  exact h.take _
theorem DqAll.ints {H : Hp} : ∀ {ns : List Int} {vs : List V}, DqAll H vs (ns.map PyData.int) → vs = ns.map V.int
  | [], _, h => by cases h; rfl
  | n :: ns, _, h => by
    cases h with
    | cons h1 h2 =>
      cases h1
      rw [List.map_cons, h2.ints]
theorem DqAll.ints' {H : Hp} : ∀ (ns : List Int), DqAll H (ns.map V.int) (ns.map PyData.int)
  | [] => .nil
  | n :: ns => .cons (.int n) (DqAll.ints' ns)
theorem DqAll.bls {H : Hp} : ∀ {ns : List Bool} {vs : List V}, DqAll H vs (ns.map PyData.bool) → vs = ns.map V.bl
  | [], _, h => by cases h; rfl
  | n :: ns, _, h => by
    cases h with
    | cons h1 h2 =>
      cases h1
      rw [List.map_cons, h2.bls]
def NoTup (o : HO) : Prop := ∀ xs, o ≠ .tup xs
structure Fz (F H F' H' : Hp) : Prop where
  f : Ex F F'
  fh : Ex F' H'
  own' : ∀ p o, H p = some o → F p = none → (NoTup o → F' p = none) ∧ H' p = some o
theorem Fz.own {F H F' H' : Hp} (z : Fz F H F' H') (p : Addr) (o : HO) (h : H p = some o) (n : F p = none) (nt : NoTup o := by exact fun _ z => nomatch z) : F' p = none ∧ H' p = some o := ⟨(z.own' p o h n).1 nt, (z.own' p o h n).2⟩
theorem Fz.refl {F H : Hp} (e : Ex F H) : Fz F H F H := ⟨Evl.Ex.refl F, e, fun _ _ h n => ⟨fun _ => n, h⟩⟩
theorem Fz.trans {F H F1 H1 F2 H2 : Hp} (a : Fz F H F1 H1) (b : Fz F1 H1 F2 H2) : Fz F H F2 H2 :=
  ⟨a.f.trans b.f, b.fh, fun p o h n => by
    obtain ⟨x, y⟩ := a.own' p o h n
    cases r : F1 p with
    | none => exact b.own' p o y r
    | some u =>
      have e := a.fh p u r
      rw [y] at e
      cases e
      exact ⟨fun z => (by rw [x z] at r; cases r), b.fh p _ (b.f p _ r)⟩⟩
theorem Fz.hh {F H F' H' : Hp} (e : Ex F H) (a : Fz F H F' H') : Ex H H' := fun p o h => by
  cases q : F p with
  | none => exact (a.own' p o h q).2
  | some u =>
    have e1 := e p u q
    rw [h] at e1
    cases e1
    exact a.fh p o (a.f p o q)
theorem Fz.hn {F H F' H' : Hp} (z : Fz F H F' H') {p : Addr} (h : H' p = none) : H p = none := by
  cases q : H p with
  | none => rfl
  | some o =>
    cases r : F p with
    | none => rw [(z.own' p o q r).2] at h; cases h
    | some u => rw [z.fh p u (z.f p u r)] at h; cases h
theorem Fz.tup {F H : Hp} {p : Addr} {xs : List V} (e : Ex F H) (h : H p = some (.tup xs)) : ∃ F', Fz F H F' H ∧ F' p = some (.tup xs) := by
  cases r : F p with
  | some u =>
    have e1 := e p u r
    rw [h] at e1
    cases e1
    exact ⟨F, Fz.refl e, r⟩
  | none =>
    refine ⟨upd F p (.tup xs), ⟨Evl.Ex.new r, fun a u q => ?_, fun a u q n => ⟨fun nt => ?_, q⟩⟩, upd_same⟩
    · by_cases z : a = p
      · subst z; rw [upd_same] at q; rw [h]; exact q
      · rw [upd_ne z] at q; exact e a u q
    · by_cases z : a = p
      · subst z; rw [h] at q; cases q; exact absurd rfl (nt xs)
      · rw [upd_ne z]; exact n
theorem Fz.new {F H : Hp} {p : Addr} {o : HO} (e : Ex F H) (h : H p = none) : Fz F H (upd F p o) (upd H p o) := by
  have hF : F p = none := Evl.fresh_back e h
  refine ⟨Evl.Ex.new hF, fun a u q => ?_, fun a u q n => ?_⟩
  · by_cases z : a = p
    · subst z; rw [upd_same] at q ⊢; exact q
    · rw [upd_ne z] at q ⊢; exact e a u q
  · have z := ne_of_none q h
    rw [upd_ne z, upd_ne z]
    exact ⟨fun _ => n, q⟩
theorem Fz.add {F H : Hp} {p : Addr} {o : HO} (e : Ex F H) (h : H p = none) : Fz F H F (upd H p o) := by
  refine ⟨Evl.Ex.refl F, fun a u q => ?_, fun a u q n => ?_⟩
  · rw [upd_ne (ne_of_none (e a u q) h)]; exact e a u q
  · rw [upd_ne (ne_of_none q h)]; exact ⟨fun _ => n, q⟩
theorem Fz.settle {F H F1 H1 : Hp} {p : Addr} {o : HO} (a : Fz F H F1 H1) (h : H p = none) (h1 : H1 p = some o) (f1 : F1 p = none) : Fz F H (upd F1 p o) H1 := by
  refine ⟨a.f.trans (Evl.Ex.new f1), fun b u q => ?_, fun b u q n => ?_⟩
  · by_cases z : b = p
    · subst z; rw [upd_same] at q; rw [h1]; exact q
    · rw [upd_ne z] at q; exact a.fh b u q
  · rw [upd_ne (ne_of_none q h)]; exact a.own' b u q n

def KvOk {κ : Type} (F : Hp) (xs : List (κ × V)) (ys : List (κ × PyData)) : Prop := xs.map (·.1) = ys.map (·.1) ∧ DqAll F (xs.map (·.2)) (ys.map (·.2))
theorem KvOk.mono {κ : Type} {F F' : Hp} {xs : List (κ × V)} {ys : List (κ × PyData)} (e : Ex F F') (h : KvOk F xs ys) : KvOk F' xs ys := ⟨h.1, DqAll.mono e _ _ h.2⟩
inductive OT where
  /-- settled data -/
  | d (d : PyData)
  /-- a list of settled data -/
  | lst (ds : List PyData)
  /-- a dict of settled data -/
  | dk (kvs : List (Key × PyData))
  /-- an instance of the class at C -/
  | obj (C : Addr) (ns : List Str) (ts : List OT)
  /-- a dict whose values are such things -/
  | rc (ns : List Key) (ts : List OT)
  /-- a list of such things -/
  | arr (ts : List OT)
  /-- this very value, of which nothing is owned -/
  | val (v : V)
  /-- a tuple of such things -/
  | tup (ts : List OT)
  /-- the thing, which stands at this very address -/
  | pin (p : Addr) (t : OT)
  /-- a dict of settled data with tuples for keys -/
  | dtt (kvs : List (List Key × PyData))
mutual
inductive Tr (F H : Hp) : V → OT → List Addr → Prop
  | d {v : V} {d : PyData} : Dq F v d → Tr F H v (.d d) []
  | lst {p : Addr} {vs : List V} {ds : List PyData} : H p = some (.lst vs) → DqAll F vs ds → ds.length ≤ lim → Tr F H (.ref p) (.lst ds) [p]
  | dk {p : Addr} {xs : List (Key × V)} {kvs : List (Key × PyData)} : H p = some (.dK xs) → KvOk F xs kvs → DkL kvs → Tr F H (.ref p) (.dk kvs) [p]
  | obj {p C dx : Addr} {fs : List (Str × V)} {ns : List Str} {ts : List OT} {A : List Addr} : H p = some (.ins C dx fs) → H dx = some (.own p) → fs.map (·.1) = ns → TrAll F H (fs.map (·.2)) ts A → Tr F H (.ref p) (.obj C ns ts) (p :: dx :: A)
  | rc {p : Addr} {xs : List (Key × V)} {ns : List Key} {ts : List OT} {A : List Addr} : H p = some (.dK xs) → xs.map (·.1) = ns → TrAll F H (xs.map (·.2)) ts A → Tr F H (.ref p) (.rc ns ts) (p :: A)
  | arr {p : Addr} {vs : List V} {ts : List OT} {A : List Addr} : H p = some (.lst vs) → TrAll F H vs ts A → ts.length ≤ lim → Tr F H (.ref p) (.arr ts) (p :: A)
  | val {v : V} : Tr F H v (.val v) []
  | tup {p : Addr} {vs : List V} {ts : List OT} {A : List Addr} : F p = some (.tup vs) → TrAll F H vs ts A → ts.length ≤ lim → Tr F H (.ref p) (.tup ts) A
  | pin {p : Addr} {t : OT} {A : List Addr} : Tr F H (.ref p) t A → Tr F H (.ref p) (.pin p t) A
  | dtt {p : Addr} {xs : List (List Key × V)} {kvs : List (List Key × PyData)} : H p = some (.dT xs) → KvOk F xs kvs → DtL kvs → Tr F H (.ref p) (.dtt kvs) [p]
inductive TrAll (F H : Hp) : List V → List OT → List Addr → Prop
  | nil : TrAll F H [] [] []
  | cons {v : V} {vs : List V} {t : OT} {ts : List OT} {A B : List Addr} : Tr F H v t A → TrAll F H vs ts B → TrAll F H (v :: vs) (t :: ts) (A ++ B)
end
mutual
theorem Tr.keep {F H F' H' : Hp} (e : Ex F F') : ∀ {v : V} {t : OT} {A : List Addr}, Tr F H v t A → (∀ a, a ∈ A → ∀ u, H a = some u → H' a = some u) → Tr F' H' v t A
  | _, _, _, .d h, _ => .d (h.mono' e)
  | _, _, _, .lst h1 h2 h3, k => .lst (k _ List.mem_cons_self _ h1) (h2.mono' e) h3
  | _, _, _, .dk h1 h2 h3, k => .dk (k _ List.mem_cons_self _ h1) (h2.mono e) h3
  | _, _, _, .obj h1 h2 h3 h4, k => .obj (k _ List.mem_cons_self _ h1) (k _ (List.mem_cons_of_mem _ List.mem_cons_self) _ h2) h3 (h4.keep e fun a ha => k a (List.mem_cons_of_mem _ (List.mem_cons_of_mem _ ha)))
  | _, _, _, .rc h1 h2 h3, k => .rc (k _ List.mem_cons_self _ h1) h2 (h3.keep e fun a ha => k a (List.mem_cons_of_mem _ ha))
  | _, _, _, .arr h1 h2 h3, k => .arr (k _ List.mem_cons_self _ h1) (h2.keep e fun a ha => k a (List.mem_cons_of_mem _ ha)) h3
  | _, _, _, .val, _ => .val
  | _, _, _, .tup h1 h2 h3, k => .tup (e _ _ h1) (h2.keep e k) h3
  | _, _, _, .pin h, k => .pin (h.keep e k)
  | _, _, _, .dtt h1 h2 h3, k => .dtt (k _ List.mem_cons_self _ h1) (h2.mono e) h3
theorem TrAll.keep {F H F' H' : Hp} (e : Ex F F') : ∀ {vs : List V} {ts : List OT} {A : List Addr}, TrAll F H vs ts A → (∀ a, a ∈ A → ∀ u, H a = some u → H' a = some u) → TrAll F' H' vs ts A
  | _, _, _, .nil, _ => .nil
  | _, _, _, .cons h1 h2, k => .cons (h1.keep e fun a ha => k a (List.mem_append_left _ ha)) (h2.keep e fun a ha => k a (List.mem_append_right _ ha))
end
def NoXd (o : HO) : Prop := (∀ fs, o ≠ .xd fs) ∧ NoTup o
mutual
theorem Tr.at {F H : Hp} : ∀ {v : V} {t : OT} {A : List Addr}, Tr F H v t A → ∀ a, a ∈ A → ∃ u, H a = some u ∧ NoXd u
  | _, _, _, .d _, a, h => by cases h
  | _, _, _, .lst h1 _ _, a, h => by
    rcases List.mem_cons.mp h with rfl | h
    · exact ⟨_, h1, ⟨fun _ z => (nomatch z), fun _ z => (nomatch z)⟩⟩
    · cases h
  | _, _, _, .dk h1 _ _, a, h => by
    rcases List.mem_cons.mp h with rfl | h
    · exact ⟨_, h1, ⟨fun _ z => (nomatch z), fun _ z => (nomatch z)⟩⟩
    · cases h
  | _, _, _, .obj h1 h2 _ h4, a, h => by
    rcases List.mem_cons.mp h with rfl | h
    · exact ⟨_, h1, ⟨fun _ z => (nomatch z), fun _ z => (nomatch z)⟩⟩
    · rcases List.mem_cons.mp h with rfl | h
      · exact ⟨_, h2, ⟨fun _ z => (nomatch z), fun _ z => (nomatch z)⟩⟩
      · exact h4.at a h
  | _, _, _, .rc h1 _ h3, a, h => by
    rcases List.mem_cons.mp h with rfl | h
    · exact ⟨_, h1, ⟨fun _ z => (nomatch z), fun _ z => (nomatch z)⟩⟩
    · exact h3.at a h
  | _, _, _, .arr h1 h2 _, a, h => by
    rcases List.mem_cons.mp h with rfl | h
    · exact ⟨_, h1, ⟨fun _ z => (nomatch z), fun _ z => (nomatch z)⟩⟩
    · exact h2.at a h
  | _, _, _, .val, a, h => by cases h
  | _, _, _, .tup _ h2 _, a, h => h2.at a h
  | _, _, _, .pin h2, a, h => h2.at a h
  | _, _, _, .dtt h1 _ _, a, h => by
    rcases List.mem_cons.mp h with rfl | h
    · exact ⟨_, h1, ⟨fun _ z => (nomatch z), fun _ z => (nomatch z)⟩⟩
    · cases h
theorem TrAll.at {F H : Hp} : ∀ {vs : List V} {ts : List OT} {A : List Addr}, TrAll F H vs ts A → ∀ a, a ∈ A → ∃ u, H a = some u ∧ NoXd u
  | _, _, _, .nil, a, h => by cases h
  | _, _, _, .cons h1 h2, a, h => by
    rcases List.mem_append.mp h with h | h
    · exact h1.at a h
    · exact h2.at a h
end
inductive Sl where
  /-- nothing is known -/
  | un
  /-- settled data -/
  | sh (d : PyData)
  /-- a list of this frame's own, which it may change -/
  | ow (ds : List PyData)
  /-- a list that is only read -/
  | sc (ds : List PyData)
  /-- a dict of this frame's own: keys ints and texts; keys tuples of these -/
  | dk (kvs : List (Key × PyData))
  | dt (kvs : List (List Key × PyData))
  /-- a dict with such keys that never changes again -/
  | ft (kvs : List (List Key × PyData))
  /-- this very address (a caught exception's), with its dict of one field -/
  | xo (a : Addr) (d : Option (Addr × Str × PyData))
  /-- a thing of this frame's own; one that is lent, at p; one that is only looked at -/
  | tr (t : OT)
  | tb (p : Addr) (t : OT)
  | ro (t : OT)
def Sl.owned : Sl → Bool
  | .ow _ => true
  | .dk _ => true
  | .dt _ => true
  | _ => false
def XdOk (F H : Hp) : Option (Addr × Str × PyData) → Prop
  | none => True
  | some (dd, f, q) => ∃ v, Dq F v q ∧ ((F dd = some (.xd [(f, v)])) ∨ (F dd = none ∧ H dd = some (.xd [(f, v)])))
theorem XdOk.at {F H : Hp} {dd : Addr} {f : Str} {q : PyData} (e : Ex F H) : XdOk F H (some (dd, f, q)) → ∃ v, Dq F v q ∧ H dd = some (.xd [(f, v)])
  | ⟨v, a, b⟩ => ⟨v, a, by
    rcases b with b | b
    · exact e _ _ b
    · exact b.2⟩
theorem XdOk.of {F H : Hp} {dd : Addr} {f : Str} {q : PyData} {v : V} (e : Ex F H) (a : Dq F v q) (h : H dd = some (.xd [(f, v)])) : XdOk F H (some (dd, f, q)) := ⟨v, a, by
  cases r : F dd with
  | none => exact .inr ⟨rfl, h⟩
  | some u =>
    rw [e _ _ r] at h
    exact .inl h⟩
def SlOk (K : Frag) (H0 F H : Hp) (o : Option V) : Sl → Prop
  | .un => True
  | .sh d => ∃ v, o = some v ∧ Dq F v d
  | .ow ds => ∃ p vs, o = some (.ref p) ∧ H0 p = none ∧ F p = none ∧ H p = some (.lst vs) ∧ DqAll F vs ds ∧ ds.length ≤ lim
  | .sc ds => ∃ p vs, o = some (.ref p) ∧ SqL K F p vs ∧ DqAll F vs ds ∧ ds.length ≤ lim
  | .dk kvs => ∃ p xs, o = some (.ref p) ∧ H0 p = none ∧ F p = none ∧ H p = some (.dK xs) ∧ KvOk F xs kvs ∧ DkL kvs
  | .dt kvs => ∃ p xs, o = some (.ref p) ∧ H0 p = none ∧ F p = none ∧ H p = some (.dT xs) ∧ KvOk F xs kvs ∧ DtL kvs
  | .ft kvs => ∃ p ob xs, o = some (.ref p) ∧ F p = some (.frz ob (.dT xs)) ∧ KvOk F xs kvs ∧ DtL kvs
  | .xo a d => o = some (.ref a) ∧ XdOk F H d
  | .tr t => ∃ v A, o = some v ∧ Tr F H v t A ∧ A.Nodup ∧ ∀ a, a ∈ A → F a = none ∧ H0 a = none
  | .tb p t => ∃ A, o = some (.ref p) ∧ Tr F H (.ref p) t A ∧ A.Nodup ∧ ∀ a, a ∈ A → F a = none ∧ H0 a = none
  | .ro t => ∃ v A, o = some v ∧ Tr F H v t A ∧ ∀ a, a ∈ A → F a = none ∧ ∃ u, H0 a = some u
def SlA (K : Frag) (H0 F H : Hp) (o : Option V) (A : List Addr) : Sl → Prop
  | .ow ds => ∃ p vs, o = some (.ref p) ∧ H0 p = none ∧ F p = none ∧ H p = some (.lst vs) ∧ DqAll F vs ds ∧ ds.length ≤ lim ∧ A = [p]
  | .dk kvs => ∃ p xs, o = some (.ref p) ∧ H0 p = none ∧ F p = none ∧ H p = some (.dK xs) ∧ KvOk F xs kvs ∧ DkL kvs ∧ A = [p]
  | .dt kvs => ∃ p xs, o = some (.ref p) ∧ H0 p = none ∧ F p = none ∧ H p = some (.dT xs) ∧ KvOk F xs kvs ∧ DtL kvs ∧ A = [p]
  | .tr t => ∃ v, o = some v ∧ Tr F H v t A ∧ A.Nodup ∧ ∀ a, a ∈ A → F a = none ∧ H0 a = none
  | .tb p t => o = some (.ref p) ∧ Tr F H (.ref p) t A ∧ A.Nodup ∧ ∀ a, a ∈ A → F a = none ∧ H0 a = none
  | s => SlOk K H0 F H o s ∧ A = []
theorem SlA.ok {K : Frag} {H0 F H : Hp} {o : Option V} {A : List Addr} : ∀ {s : Sl}, SlA K H0 F H o A s → SlOk K H0 F H o s
  | .un, h => h.1
  | .sh _, h => h.1
  | .sc _, h => h.1
  | .ft _, h => h.1
  | .xo _ _, h => h.1
  | .ro _, h => h.1
  | .ow _, ⟨p, vs, a, b, c, d, e, f, _⟩ => ⟨p, vs, a, b, c, d, e, f⟩
  | .dk _, ⟨p, vs, a, b, c, d, e, f, _⟩ => ⟨p, vs, a, b, c, d, e, f⟩
  | .dt _, ⟨p, vs, a, b, c, d, e, f, _⟩ => ⟨p, vs, a, b, c, d, e, f⟩
  | .tr _, ⟨v, a, b, c⟩ => ⟨v, A, a, b, c⟩
  | .tb _ _, ⟨a, b, c⟩ => ⟨A, a, b, c⟩
theorem SlOk.a {K : Frag} {H0 F H : Hp} {o : Option V} : ∀ {s : Sl}, SlOk K H0 F H o s → ∃ A, SlA K H0 F H o A s
  | .un, h => ⟨[], h, rfl⟩
  | .sh _, h => ⟨[], h, rfl⟩
  | .sc _, h => ⟨[], h, rfl⟩
  | .ft _, h => ⟨[], h, rfl⟩
  | .xo _ _, h => ⟨[], h, rfl⟩
  | .ro _, h => ⟨[], h, rfl⟩
  | .ow _, ⟨p, vs, a, b, c, d, e, f⟩ => ⟨[p], p, vs, a, b, c, d, e, f, rfl⟩
  | .dk _, ⟨p, vs, a, b, c, d, e, f⟩ => ⟨[p], p, vs, a, b, c, d, e, f, rfl⟩
  | .dt _, ⟨p, vs, a, b, c, d, e, f⟩ => ⟨[p], p, vs, a, b, c, d, e, f, rfl⟩
  | .tr _, ⟨v, A, a, b, c⟩ => ⟨A, v, a, b, c⟩
  | .tb _ _, ⟨A, a, b, c⟩ => ⟨A, a, b, c⟩
theorem SlA.free {K : Frag} {H0 F H : Hp} {o : Option V} {A : List Addr} : ∀ {s : Sl}, SlA K H0 F H o A s → ∀ a, a ∈ A → F a = none ∧ H0 a = none ∧ ∃ u, H a = some u ∧ NoXd u
  | .un, h, a, m => by rw [h.2] at m; cases m
  | .sh _, h, a, m => by rw [h.2] at m; cases m
  | .sc _, h, a, m => by rw [h.2] at m; cases m
  | .ft _, h, a, m => by rw [h.2] at m; cases m
  | .xo _ _, h, a, m => by rw [h.2] at m; cases m
  | .ro _, h, a, m => by rw [h.2] at m; cases m
  | .ow _, ⟨p, vs, _, b, c, d, _, _, e⟩, a, m => by
    rw [e] at m
    obtain rfl := List.mem_singleton.mp m
    exact ⟨c, b, _, d, ⟨fun _ z => (nomatch z), fun _ z => (nomatch z)⟩⟩
  | .dk _, ⟨p, vs, _, b, c, d, _, _, e⟩, a, m => by
    rw [e] at m
    obtain rfl := List.mem_singleton.mp m
    exact ⟨c, b, _, d, ⟨fun _ z => (nomatch z), fun _ z => (nomatch z)⟩⟩
  | .dt _, ⟨p, vs, _, b, c, d, _, _, e⟩, a, m => by
    rw [e] at m
    obtain rfl := List.mem_singleton.mp m
    exact ⟨c, b, _, d, ⟨fun _ z => (nomatch z), fun _ z => (nomatch z)⟩⟩
  | .tr _, ⟨v, _, b, _, c⟩, a, m => ⟨(c a m).1, (c a m).2, b.at a m⟩
  | .tb _ _, ⟨_, b, _, c⟩, a, m => ⟨(c a m).1, (c a m).2, b.at a m⟩
theorem sq_mono {K : Frag} {F F' : Hp} {p : Addr} {vs : List V} (e : Ex F F') (h : SqL K F p vs) : SqL K F' p vs := Evl.ex_l e h
theorem both {p q r : Prop} (h : (p → q) ∧ r) (x : p) : q ∧ r := ⟨h.1 x, h.2⟩
theorem SlA.keep {K : Frag} {H0 F H F' H' : Hp} {o : Option V} {A C : List Addr} (e : Ex F F') (k : ∀ a u, H a = some u → F a = none → a ∉ C → (NoTup u → F' a = none) ∧ H' a = some u) (cz : ∀ a, a ∈ C → H0 a = none ∧ ∀ u, H a = some u → NoXd u) :
    ∀ {s : Sl}, SlA K H0 F H o A s → (∀ a, a ∈ A → a ∉ C) → SlA K H0 F' H' o A s
  | .un, h, _ => h
  | .sh d, ⟨⟨v, h1, h2⟩, h3⟩, _ => ⟨⟨v, h1, h2.mono' e⟩, h3⟩
  | .sc ds, ⟨⟨p, vs, h1, h2, h3, h4⟩, h5⟩, _ => ⟨⟨p, vs, h1, sq_mono e h2, h3.mono' e, h4⟩, h5⟩
  | .ft kvs, ⟨⟨p, ob, xs, h1, h2, h3, h4⟩, h5⟩, _ => ⟨⟨p, ob, xs, h1, e _ _ h2, h3.mono e, h4⟩, h5⟩
  | .xo a none, ⟨⟨h1, _⟩, h3⟩, _ => ⟨⟨h1, trivial⟩, h3⟩
  | .xo a (some (dd, f, q)), ⟨⟨h1, v, h4, h5⟩, h3⟩, _ => ⟨⟨h1, v, h4.mono' e, by
    rcases h5 with b | ⟨b1, b2⟩
    · exact .inl (e _ _ b)
    · exact .inr (both (k _ _ b2 b1 fun z => ((cz _ z).2 _ b2).1 _ rfl) fun _ z => nomatch z)⟩, h3⟩
  | .ro t, ⟨⟨v, B, h1, h2, h3⟩, h4⟩, _ => by
    have kk : ∀ a, a ∈ B → F' a = none ∧ ∀ u, H a = some u → H' a = some u := fun a ha => by
      obtain ⟨f0, u0, hu0⟩ := h3 a ha
      obtain ⟨u, hu, nx⟩ := h2.at a ha
      have nc : a ∉ C := fun z => by rw [(cz a z).1] at hu0; cases hu0
      exact ⟨(k a u hu f0 nc).1 nx.2, fun u' hu' => (k a u' hu' f0 nc).2⟩
    exact ⟨⟨v, B, h1, h2.keep e fun a ha => (kk a ha).2, fun a ha => ⟨(kk a ha).1, (h3 a ha).2⟩⟩, h4⟩
  | .ow ds, ⟨p, vs, a, b, c, d, f, g, h⟩, n => by
    have nc := n p (by rw [h]; exact List.mem_singleton.mpr rfl)
    exact ⟨p, vs, a, b, (k _ _ d c nc).1 (fun _ z => nomatch z), (k _ _ d c nc).2, f.mono' e, g, h⟩
  | .dk ds, ⟨p, vs, a, b, c, d, f, g, h⟩, n => by
    have nc := n p (by rw [h]; exact List.mem_singleton.mpr rfl)
    exact ⟨p, vs, a, b, (k _ _ d c nc).1 (fun _ z => nomatch z), (k _ _ d c nc).2, f.mono e, g, h⟩
  | .dt ds, ⟨p, vs, a, b, c, d, f, g, h⟩, n => by
    have nc := n p (by rw [h]; exact List.mem_singleton.mpr rfl)
    exact ⟨p, vs, a, b, (k _ _ d c nc).1 (fun _ z => nomatch z), (k _ _ d c nc).2, f.mono e, g, h⟩
  | .tr t, ⟨v, a, b, c, d⟩, n => by
    have kk : ∀ a, a ∈ A → F' a = none ∧ ∀ u, H a = some u → H' a = some u := fun a ha => by
      obtain ⟨u, hu, nx⟩ := b.at a ha
      exact ⟨(k a u hu (d a ha).1 (n a ha)).1 nx.2, fun u' hu' => (k a u' hu' (d a ha).1 (n a ha)).2⟩
    exact ⟨v, a, b.keep e fun a ha => (kk a ha).2, c, fun a ha => ⟨(kk a ha).1, (d a ha).2⟩⟩
  | .tb p t, ⟨a, b, c, d⟩, n => by
    have kk : ∀ a, a ∈ A → F' a = none ∧ ∀ u, H a = some u → H' a = some u := fun a ha => by
      obtain ⟨u, hu, nx⟩ := b.at a ha
      exact ⟨(k a u hu (d a ha).1 (n a ha)).1 nx.2, fun u' hu' => (k a u' hu' (d a ha).1 (n a ha)).2⟩
    exact ⟨a, b.keep e fun a ha => (kk a ha).2, c, fun a ha => ⟨(kk a ha).1, (d a ha).2⟩⟩
structure EnvOk (K : Frag) (F0 H0 F H : Hp) (σ : List (Option V)) (env : List Sl) : Prop where
  z : Fz F0 H0 F H
  len : σ.length = env.length
  as : ∃ As : Nat → List Addr, (∀ (i : Nat) (s : Sl), env[i]? = some s → ∃ o : Option V, σ[i]? = some o ∧ SlA K H0 F H o (As i) s) ∧ ∀ (i j : Nat) (s t : Sl) (a : Addr), env[i]? = some s → env[j]? = some t → a ∈ As i → a ∈ As j → i = j
section
variable {K : Frag} {F0 H0 F H F' H' : Hp} {σ : List (Option V)} {env env' : List Sl}
theorem EnvOk.fh (E : EnvOk K F0 H0 F H σ env) : Ex F H := E.z.fh
theorem EnvOk.sl (E : EnvOk K F0 H0 F H σ env) (i : Nat) (s : Sl) (h : env[i]? = some s) : ∃ o : Option V, σ[i]? = some o ∧ SlOk K H0 F H o s := by
  obtain ⟨As, a, _⟩ := E.as
  obtain ⟨o, h1, h2⟩ := a i s h
  exact ⟨o, h1, h2.ok⟩
theorem EnvOk.lt (E : EnvOk K F0 H0 F H σ env) {i : Nat} {s : Sl} (h : env[i]? = some s) : i < σ.length := by
  rw [E.len]; exact (List.getElem?_eq_some_iff.mp h).1
theorem EnvOk.flat (z : Fz F0 H0 F H) (l : σ.length = env.length) (h : ∀ (i : Nat) (s : Sl), env[i]? = some s → ∃ o : Option V, σ[i]? = some o ∧ SlA K H0 F H o [] s) : EnvOk K F0 H0 F H σ env :=
  ⟨z, l, fun _ => [], h, fun i j s t a _ _ m _ => by cases m⟩
theorem EnvOk.step (E : EnvOk K F0 H0 F H σ env) (z : Fz F H F' H') : EnvOk K F0 H0 F' H' σ env := by
  obtain ⟨As, a, b⟩ := E.as
  refine ⟨E.z.trans z, E.len, As, fun i s h => ?_, b⟩
  obtain ⟨o, h1, h2⟩ := a i s h
  exact ⟨o, h1, h2.keep (C := []) z.f (fun p u hp hf _ => z.own' p u hp hf) (fun _ m => by cases m) fun _ _ m => by cases m⟩
theorem set_env {i j : Nat} {s t : Sl} (h : (env.set i s)[j]? = some t) : (j = i ∧ t = s ∧ i < env.length) ∨ (j ≠ i ∧ env[j]? = some t) := by
  rw [List.getElem?_set] at h
  by_cases e : i = j
  · subst e
    rw [if_pos rfl] at h
    by_cases l : i < env.length
    · rw [if_pos l] at h; cases h; exact .inl ⟨rfl, rfl, l⟩
    · rw [if_neg l] at h; cases h
  · rw [if_neg e] at h
    exact .inr ⟨fun z => e z.symm, h⟩
theorem EnvOk.put (E : EnvOk K F0 H0 F H σ env) (i : Nat) (v : Option V) {t : Sl} {B C : List Addr} (e : Ex F F') (fh : Ex F' H') (k : ∀ a u, H a = some u → F a = none → a ∉ C → (NoTup u → F' a = none) ∧ H' a = some u)
    (hc : C = [] ∨ ∃ s o, env[i]? = some s ∧ σ[i]? = some o ∧ ∀ A, SlA K H0 F H o A s → ∀ c, c ∈ C → c ∈ A)
    (hb : ∀ b, b ∈ B → H b = none ∨ b ∈ C) (ht : SlA K H0 F' H' v B t) : EnvOk K F0 H0 F' H' (σ.set i v) (env.set i t) := by
  obtain ⟨As, a, d⟩ := E.as
  have cA : ∀ c, c ∈ C → i < env.length ∧ c ∈ As i ∧ F c = none ∧ H0 c = none ∧ ∃ u, H c = some u ∧ NoXd u := fun c m => by
    rcases hc with rfl | ⟨s, o, e1, e2, h⟩
    · cases m
    · obtain ⟨o', h1, h2⟩ := a i s e1
      rw [e2] at h1
      cases h1
      have := h _ h2 c m
      exact ⟨(List.getElem?_eq_some_iff.mp e1).1, this, h2.free c this⟩
  refine ⟨⟨E.z.f.trans e, fh, fun p u q n => ?_⟩, by rw [List.length_set, List.length_set, E.len], fun j => if j = i then B else As j, fun j s h => ?_, fun j l s u p hj hl mj ml => ?_⟩
  · obtain ⟨x, y⟩ := E.z.own' p u q n
    cases r : F p with
    | none => exact k p u y r fun m => by rw [(cA p m).2.2.2.1] at q; cases q
    | some w =>
      have e1 := E.z.fh p w r
      rw [y] at e1
      cases e1
      exact ⟨fun nt => (by rw [x nt] at r; cases r), fh p _ (e p _ r)⟩
  · rcases set_env h with ⟨rfl, rfl, l⟩ | ⟨n, h⟩
    · refine ⟨v, ?_, ?_⟩
      · rw [List.getElem?_set, if_pos rfl, if_pos (by rw [E.len]; exact l)]
      · dsimp only; rw [if_pos rfl]; exact ht
    · obtain ⟨o, h1, h2⟩ := a j s h
      refine ⟨o, ?_, ?_⟩
      · rw [List.getElem?_set, if_neg fun z => n z.symm]; exact h1
      · dsimp only; rw [if_neg n]
        refine h2.keep e k (fun c m => ⟨(cA c m).2.2.2.1, fun u hu => ?_⟩) fun c m mc => ?_
        · obtain ⟨_, _, _, _, u', hu', nx⟩ := cA c m
          rw [hu] at hu'; cases hu'
          exact nx
        · obtain ⟨l, mi, _⟩ := cA c mc
          exact n (d j i s env[i] c h (List.getElem?_eq_getElem l) m mi)
  · have ne : ∀ {j : Nat} {s : Sl}, j ≠ i → env[j]? = some s → p ∈ B → p ∈ As j → False := fun {j s} n h mb mj => by
      obtain ⟨o, h1, h2⟩ := a j s h
      rcases hb p mb with z | z
      · obtain ⟨_, _, u, hu, _⟩ := h2.free p mj
        rw [z] at hu; cases hu
      · obtain ⟨l, mi, _⟩ := cA p z
        exact n (d j i s env[i] p h (List.getElem?_eq_getElem l) mj mi)
    dsimp only at mj ml
    rcases set_env hj with ⟨ej, _, lj⟩ | ⟨nj, hj'⟩
    · rcases set_env hl with ⟨el, _, ll⟩ | ⟨nl, hl'⟩
      · rw [ej, el]
      · rw [if_pos ej] at mj
        rw [if_neg nl] at ml
        exact (ne nl hl' mj ml).elim
    · rw [if_neg nj] at mj
      rcases set_env hl with ⟨el, _, ll⟩ | ⟨nl, hl'⟩
      · rw [if_pos el] at ml
        exact (ne nj hj' ml mj).elim
      · rw [if_neg nl] at ml
        exact d j l s u p hj' hl' mj ml
theorem set_self {α : Type} {xs : List α} {i : Nat} {x : α} (h : xs[i]? = some x) : xs.set i x = xs := by
  refine List.ext_getElem? fun j => ?_
  rw [List.getElem?_set]
  by_cases e : i = j
  · subst e
    rw [if_pos rfl, if_pos (List.getElem?_eq_some_iff.mp h).1, h]
  · rw [if_neg e]
theorem EnvOk.set0 (E : EnvOk K F0 H0 F H σ env) (i : Nat) (v : Option V) {s : Sl} (hs : SlA K H0 F H v [] s) : EnvOk K F0 H0 F H (σ.set i v) (env.set i s) :=
  E.put i v (B := []) (C := []) (Evl.Ex.refl F) E.fh (fun _ _ h f _ => ⟨fun _ => f, h⟩) (.inl rfl) (fun _ m => by cases m) hs
theorem EnvOk.setS (E : EnvOk K F0 H0 F H σ env) (i : Nat) {v : V} {d : PyData} (h : Dq F v d) : EnvOk K F0 H0 F H (σ.set i (some v)) (env.set i (.sh d)) :=
  E.set0 i _ ⟨⟨v, rfl, h⟩, rfl⟩
theorem EnvOk.forget (E : EnvOk K F0 H0 F H σ env) (i : Nat) (o : Option V) : EnvOk K F0 H0 F H (σ.set i o) (env.set i .un) := E.set0 i _ ⟨trivial, rfl⟩
theorem EnvOk.setN (E : EnvOk K F0 H0 F H σ env) {F' H' : Hp} (z : Fz F H F' H') (i : Nat) {v : V} {s : Sl} {B : List Addr} (hn : ∀ b, b ∈ B → H b = none) (hs : SlA K H0 F' H' (some v) B s) : EnvOk K F0 H0 F' H' (σ.set i (some v)) (env.set i s) :=
  E.put i _ (B := B) (C := []) z.f z.fh (fun a u h f _ => z.own' a u h f) (.inl rfl) (fun b m => .inl (hn b m)) hs
theorem EnvOk.setO (E : EnvOk K F0 H0 F H σ env) {F' H' : Hp} (z : Fz F H F' H') (i : Nat) {p : Addr} {s : Sl} (hn : H p = none) (hs : SlOk K H0 F' H' (Option.some (.ref p)) s) (os : s.owned = true := by rfl) : EnvOk K F0 H0 F' H' (σ.set i (Option.some (.ref p))) (env.set i s) := by
  obtain ⟨B, hB⟩ := hs.a
  refine E.setN z i (fun b m => ?_) hB
  have : B = [p] := by
    cases s with
    | ow ds => obtain ⟨_, _, e, _, _, _, _, _, h⟩ := hB; cases e; exact h
    | dk ds => obtain ⟨_, _, e, _, _, _, _, _, h⟩ := hB; cases e; exact h
    | dt ds => obtain ⟨_, _, e, _, _, _, _, _, h⟩ := hB; cases e; exact h
    | _ => cases os
  rw [this] at m
  obtain rfl := List.mem_singleton.mp m
  exact hn
theorem EnvOk.mutT (E : EnvOk K F0 H0 F H σ env) {i : Nat} {s t : Sl} {o : Option V} {A B : List Addr} (fh : Ex F' H') (e : Ex F F') (hs : env[i]? = some s) (hi : σ[i]? = some o) (hA : ∀ A', SlA K H0 F H o A' s → ∀ c, c ∈ A → c ∈ A') (k : ∀ a u, H a = some u → F a = none → a ∉ A → (NoTup u → F' a = none) ∧ H' a = some u)
    (hb : ∀ b, b ∈ B → H b = none ∨ b ∈ A) (ht : SlA K H0 F' H' o B t) : EnvOk K F0 H0 F' H' σ (env.set i t) := by
  have := E.put i o (B := B) (C := A) e fh k (.inr ⟨s, o, hs, hi, hA⟩) hb ht
  rw [set_self hi] at this
  exact this
theorem owned_at {s : Sl} {p : Addr} (os : s.owned = true) {A : List Addr} (h : SlA K H0 F H (some (.ref p)) A s) : A = [p] := by
  cases s with
  | ow ds => obtain ⟨_, _, e, _, _, _, _, _, h⟩ := h; cases e; exact h
  | dk ds => obtain ⟨_, _, e, _, _, _, _, _, h⟩ := h; cases e; exact h
  | dt ds => obtain ⟨_, _, e, _, _, _, _, _, h⟩ := h; cases e; exact h
  | _ => cases os
theorem EnvOk.mut (E : EnvOk K F0 H0 F H σ env) {i : Nat} {p : Addr} {s t : Sl} {o : HO} (hs : env[i]? = some s) (os : s.owned = true) (hi : σ[i]? = Option.some (Option.some (.ref p))) (ht : SlOk K H0 F (upd H p o) (Option.some (.ref p)) t) (ot : t.owned = true) :
    EnvOk K F0 H0 F (upd H p o) σ (env.set i t) := by
  obtain ⟨B, hB⟩ := ht.a
  have eB := owned_at ot hB
  subst eB
  have hF : F p = none := (hB.free p (List.mem_singleton.mpr rfl)).1
  refine E.mutT (A := [p]) (B := [p]) (fun a u q => ?_) (Evl.Ex.refl F) hs hi (fun A' h c m => by rw [owned_at os h]; exact m) (fun a u h f n => ⟨fun _ => f, ?_⟩) (fun b m => .inr m) hB
  · rw [upd_ne (ne_of_none q hF)]; exact E.fh a u q
  · rw [upd_ne fun z => n (by rw [z]; exact List.mem_singleton.mpr rfl)]; exact h
theorem EnvOk.freeze {ds : List PyData} (E : EnvOk K F0 H0 F H σ env) {i : Nat} (hs : env[i]? = some (.ow ds)) : ∃ F', EnvOk K F0 H0 F' H σ (env.set i (.sh (.list ds))) := by
  obtain ⟨o, e1, p, vs, e, h0, f, h, a, l⟩ := E.sl i _ hs
  subst e
  have m := Evl.Ex.new (o := HO.lst vs) f
  refine ⟨upd F p (.lst vs), E.mutT (s := .ow ds) (A := [p]) (B := []) (fun a u q => ?_) m hs e1 (fun A' h c m => by rw [owned_at rfl h]; exact m) (fun a u h f n => ⟨fun _ => ?_, h⟩) (fun b m => by cases m) ⟨⟨_, rfl, .lst upd_same (a.mono' m) l⟩, rfl⟩⟩
  · by_cases z : a = p
    · subst z; rw [upd_same] at q; rw [h]; exact q
    · rw [upd_ne z] at q; exact E.fh a u q
  · rw [upd_ne fun z => n (by rw [z]; exact List.mem_singleton.mpr rfl)]; exact f
inductive Wk : List Sl → List Sl → Prop
  | nil : Wk [] []
  | same {s : Sl} {e e' : List Sl} : Wk e e' → Wk (s :: e) (s :: e')
  | un {s : Sl} {e e' : List Sl} : Wk e e' → Wk (s :: e) (.un :: e')
  | tb {p : Addr} {t : OT} {e e' : List Sl} : Wk e e' → Wk (.tb p t :: e) (.tr t :: e')
theorem Wk.get : ∀ {e e' : List Sl} {i : Nat} {s : Sl}, Wk e e' → e'[i]? = some s → s = .un ∧ i < e.length ∨ e[i]? = some s ∨ ∃ p t, s = .tr t ∧ e[i]? = some (.tb p t)
  | _, _, _, _, .nil, h => by simp at h
  | _, _, 0, _, .same _, h => .inr (.inl (by simpa using h))
  | _, _, i + 1, _, .same w, h => by
    rcases w.get (i := i) (by simpa using h) with ⟨a, b⟩ | a | ⟨p, t, a, b⟩
    · exact .inl ⟨a, by rw [List.length_cons]; omega⟩
    · exact .inr (.inl (by simpa using a))
    · exact .inr (.inr ⟨p, t, a, by simpa using b⟩)
  | _, _, 0, _, .un _, h => .inl ⟨by simp at h; exact h.symm, by simp⟩
  | _, _, i + 1, _, .un w, h => by
    rcases w.get (i := i) (by simpa using h) with ⟨a, b⟩ | a | ⟨p, t, a, b⟩
    · exact .inl ⟨a, by rw [List.length_cons]; omega⟩
    · exact .inr (.inl (by simpa using a))
    · exact .inr (.inr ⟨p, t, a, by simpa using b⟩)
  | _, _, 0, _, .tb (p := p) (t := t) _, h => .inr (.inr ⟨p, t, by simp at h; exact h.symm, by simp⟩)
  | _, _, i + 1, _, .tb w, h => by
    rcases w.get (i := i) (by simpa using h) with ⟨a, b⟩ | a | ⟨p, t, a, b⟩
    · exact .inl ⟨a, by rw [List.length_cons]; omega⟩
    · exact .inr (.inl (by simpa using a))
    · exact .inr (.inr ⟨p, t, a, by simpa using b⟩)
theorem Wk.len : ∀ {e e' : List Sl}, Wk e e' → e.length = e'.length
  | _, _, .nil => rfl
  | _, _, .same w => by rw [List.length_cons, List.length_cons, w.len]
  | _, _, .un w => by rw [List.length_cons, List.length_cons, w.len]
  | _, _, .tb w => by rw [List.length_cons, List.length_cons, w.len]
theorem EnvOk.weak (E : EnvOk K F0 H0 F H σ env) (w : Wk env env') : EnvOk K F0 H0 F H σ env' := by
  obtain ⟨As, a, b⟩ := E.as
  have key : ∀ i s, env'[i]? = some s → ∃ s', env[i]? = some s' ∧ ∀ o, SlA K H0 F H o (As i) s' → ∃ A, SlA K H0 F H o A s ∧ (A = [] ∨ A = As i) := fun i s h => by
    rcases w.get h with ⟨rfl, l⟩ | h' | ⟨p, t, rfl, h'⟩
    · exact ⟨_, List.getElem?_eq_getElem l, fun o _ => ⟨[], ⟨trivial, rfl⟩, .inl rfl⟩⟩
    · exact ⟨s, h', fun o x => ⟨_, x, .inr rfl⟩⟩
    · refine ⟨_, h', fun o x => ?_⟩
      have x : o = some (.ref p) ∧ Tr F H (.ref p) t (As i) ∧ (As i).Nodup ∧ ∀ a, a ∈ As i → F a = none ∧ H0 a = none := x
      exact ⟨As i, ⟨_, x.1, x.2⟩, .inr rfl⟩
  have : ∀ i, ∃ A, (A = [] ∨ A = As i) ∧ ∀ s, env'[i]? = some s → ∃ o, σ[i]? = some o ∧ SlA K H0 F H o A s := fun i => by
    by_cases l : i < env'.length
    · obtain ⟨s', h1, h2⟩ := key i _ (List.getElem?_eq_getElem l)
      obtain ⟨o, h3, h4⟩ := a i s' h1
      obtain ⟨A, h5, h6⟩ := h2 o h4
      refine ⟨A, h6, fun s hs => ⟨o, h3, ?_⟩⟩
      rw [List.getElem?_eq_getElem l] at hs
      cases hs
      exact h5
    · exact ⟨[], .inl rfl, fun s hs => absurd (List.getElem?_eq_some_iff.mp hs).1 l⟩
  refine ⟨E.z, by rw [E.len, w.len], fun i => (this i).choose, fun i s h => (this i).choose_spec.2 s h, fun i j s t p hi hj mi mj => ?_⟩
  obtain ⟨s', h1, _⟩ := key i s hi
  obtain ⟨t', h2, _⟩ := key j t hj
  have sub : ∀ i, p ∈ (this i).choose → p ∈ As i := fun i m => by
    rcases (this i).choose_spec.1 with z | z
    · rw [z] at m; cases m
    · rw [z] at m; exact m
  exact b i j s' t' p h1 h2 (sub i mi) (sub j mj)
end
theorem Fz.base {F H F1 H1 F2 H2 : Hp} (z : Fz F H F1 H1) (f : Ex F1 F2) (z2 : Fz F H F2 H2) : Fz F1 H F2 H2 := ⟨f, z2.fh, fun p o h n => z2.own' p o h (by
  cases r : F p with
  | none => rfl
  | some u => rw [z.f p u r] at n; cases n)⟩
theorem Fz.back {F H F1 H1 F2 H2 : Hp} (z : Fz F H F1 H1) (z2 : Fz F1 H F2 H2) : Fz F H F2 H2 := ⟨z.f.trans z2.f, z2.fh, fun p o h n => by
  obtain ⟨x, y⟩ := z.own' p o h n
  cases r : F1 p with
  | none => exact z2.own' p o h r
  | some u =>
    have e := z.fh p u r
    rw [y] at e
    cases e
    exact ⟨fun nt => (by rw [x nt] at r; cases r), z2.fh p _ (z2.f p _ r)⟩⟩
theorem EnvOk.base {K : Frag} {F0 H0 F H : Hp} {σ : List (Option V)} {env : List Sl} (E : EnvOk K F0 H0 F H σ env) : EnvOk K F H0 F H σ env := ⟨E.z.base (Evl.Ex.refl F) E.z, E.len, E.as⟩
theorem EnvOk.back {K : Frag} {F0 H0 F H F1 H1 : Hp} {σ : List (Option V)} {env : List Sl} (z : Fz F0 H0 F1 H1) (E : EnvOk K F1 H0 F H σ env) : EnvOk K F0 H0 F H σ env := ⟨z.back E.z, E.len, E.as⟩
end Rb

set_option Elab.async false
set_option linter.all false
set_option maxRecDepth 100000
set_option maxHeartbeats 2000000
namespace Rb
open PySem PySem.Spec PyProof.Rows L2
def EX (K : Frag) (te : TE) (env : List Sl) (d : PyData) : Prop := ∀ ⦃F0 H0 F H : Hp⦄ ⦃σ : List (Option V)⦄, EnvOk K F0 H0 F H σ env → ∀ Q : VK, (∀ v F' H', Fz F H F' H' → Dq F' v d → Q v H') → te σ H Q
def EXl (K : Frag) (te : TE) (env : List Sl) (ds : List PyData) : Prop := ∀ ⦃F0 H0 F H : Hp⦄ ⦃σ : List (Option V)⦄, EnvOk K F0 H0 F H σ env → ∀ Q : VK, (∀ p vs F' H', Fz F H F' H' → H' p = some (.lst vs) → DqAll F' vs ds → ds.length ≤ lim → Q (.ref p) H') → te σ H Q
def EXw (K : Frag) (te : TE) (env : List Sl) (ds : List PyData) : Prop := ∀ ⦃F0 H0 F H : Hp⦄ ⦃σ : List (Option V)⦄, EnvOk K F0 H0 F H σ env → ∀ Q : VK, (∀ p vs F' H', Fz F H F' H' → H p = none → F' p = none → H' p = some (.lst vs) → DqAll F' vs ds → ds.length ≤ lim → Q (.ref p) H') → te σ H Q
def EXq (K : Frag) (te : TE) (env : List Sl) (d : PyData) : Prop := ∀ ⦃F0 H0 F H : Hp⦄ ⦃σ : List (Option V)⦄, EnvOk K F0 H0 F H σ env → ∀ Q : VK, (∀ v F' H', Fz F H F' H' → Dq H' v d → Q v H') → te σ H Q
def ET (K : Frag) (tt : TT) (env : List Sl) (b : Bool) : Prop := ∀ ⦃F0 H0 F H : Hp⦄ ⦃σ : List (Option V)⦄, EnvOk K F0 H0 F H σ env → ∀ Q : Bool → Hp → Prop, (∀ F' H', Fz F H F' H' → Q b H') → tt σ H Q
def EA (K : Frag) (ta : TA) (env : List Sl) (ds : List PyData) : Prop := ∀ ⦃F0 H0 F H : Hp⦄ ⦃σ : List (Option V)⦄, EnvOk K F0 H0 F H σ env → ∀ Q : List V → Hp → Prop, (∀ vs F' H', Fz F H F' H' → DqAll F' vs ds → Q vs H') → ta σ H Q
def EO (K : Frag) (to : TO) (env : List Sl) (o : Option Int) : Prop := ∀ ⦃F0 H0 F H : Hp⦄ ⦃σ : List (Option V)⦄, EnvOk K F0 H0 F H σ env → ∀ Q : Option Int → Hp → Prop, (∀ F' H', Fz F H F' H' → Q o H') → to σ H Q
def EXo (K : Frag) (te : TE) (env : List Sl) {α : Type} (e : α → PyData) (m : Option α) : Prop := ∀ x, m = some x → EX K te env (e x)
def ETo (K : Frag) (tt : TT) (env : List Sl) (m : Option Bool) : Prop := ∀ x, m = some x → ET K tt env x

section
variable {K : Frag} {env : List Sl} {ta tb tc te : TE} {t u : TT} {d e : PyData} {ds es : List PyData} {α β : Type}
theorem EX.l (h : EX K te env (.list ds)) : EXl K te env ds := fun F0 H0 F H σ E Q q => h E Q fun v F' H' z hv => by
  cases hv with
  | lst h1 h2 h3 => exact q _ _ F' H' z (z.fh _ _ h1) h2 h3
theorem EXw.l (h : EXw K te env ds) : EXl K te env ds := fun F0 H0 F H σ E Q q => h E Q fun p vs F' H' z _ _ h1 h2 h3 => q p vs F' H' z h1 h2 h3
theorem EXw.sh (h : EXw K te env ds) : EX K te env (.list ds) := fun F0 H0 F H σ E Q q => h E Q fun p vs F' H' z hn hf h1 h2 h3 =>
  q _ _ H' (z.settle hn h1 hf) (.lst upd_same (DqAll.mono (Evl.Ex.new hf) _ _ h2) h3)
theorem EX.q (h : EX K te env d) : EXq K te env d := fun F0 H0 F H σ E Q q => h E Q fun v F' H' z hv => q v F' H' z (Dq.mono z.fh _ _ hv)
theorem EXl.q (h : EXl K te env ds) : EXq K te env (.list ds) := fun F0 H0 F H σ E Q q => h E Q fun p vs F' H' z h1 h2 h3 => q _ F' H' z (.lst h1 (DqAll.mono z.fh _ _ h2) h3)
theorem exo_bind {e : β → PyData} {m : Option α} {k : α → Option β} (h : ∀ x, m = some x → EXo K te env e (k x)) : EXo K te env e (m.bind k) := fun y hy => by
  obtain ⟨x, h1, h2⟩ := Option.bind_eq_some_iff.mp hy
  exact h x h1 y h2
theorem exo_some {e : α → PyData} {x : α} (h : EX K te env (e x)) : EXo K te env e (some x) := fun y hy => by cases hy; exact h
theorem eto_bind {m : Option α} {k : α → Option Bool} (h : ∀ x, m = some x → ETo K t env (k x)) : ETo K t env (m.bind k) := fun y hy => by
  obtain ⟨x, h1, h2⟩ := Option.bind_eq_some_iff.mp hy
  exact h x h1 y h2
theorem eto_some {b : Bool} (h : ET K t env b) : ETo K t env (some b) := fun y hy => by cases hy; exact h

theorem ex_var {i : Nat} (h : env[i]? = some (.sh d)) : EX K (tVar i) env d := fun F0 H0 F H σ E Q q => by
  obtain ⟨o, h1, v, h2, h3⟩ := E.sl i _ h
  subst h2
  exact ⟨v, h1, q v F H (Fz.refl E.fh) h3⟩
theorem exl_var {i : Nat} (h : env[i]? = some (.ow ds)) : EXl K (tVar i) env ds := fun F0 H0 F H σ E Q q => by
  obtain ⟨o, h1, p, vs, h2, h3, h4, h5, h6, h7⟩ := E.sl i _ h
  subst h2
  exact ⟨_, h1, q p vs F H (Fz.refl E.fh) h5 h6 h7⟩
theorem ex_int {i : Int} : EX K (tC (.int i)) env (.int i) := fun F0 H0 F H σ E Q q => q _ F H (Fz.refl E.fh) (.int i)
theorem ex_bl {b : Bool} : EX K (tC (.bl b)) env (.bool b) := fun F0 H0 F H σ E Q q => q _ F H (Fz.refl E.fh) (.bl b)
theorem ex_non : EX K (tC .non) env .none := fun F0 H0 F H σ E Q q => q _ F H (Fz.refl E.fh) .non
theorem ex_str {x : Str} (h : x.length ≤ lim) : EX K (tC (.str x)) env (.str x) := fun F0 H0 F H σ E Q q => q _ F H (Fz.refl E.fh) (.str x h)

theorem ex_i0 {g : Int → Int → V} {i j : Int} (ha : EX K ta env (.int i)) (hb : EX K tb env (.int j)) (hd : ∀ F, Dq F (g i j) d) : EX K (tOp (rI0 g) ta tb) env d := fun F0 H0 F H σ E Q q =>
  ha E _ fun v F1 H1 z1 h1 => hb (E.step z1) _ fun w F2 H2 z2 h2 => by
    cases h1; cases h2
    exact ⟨i, j, rfl, rfl, q _ F2 H2 (z1.trans z2) (hd F2)⟩
theorem ex_iC {C : Int → Int → Prop} {g : Int → Int → V} {i j : Int} (ha : EX K ta env (.int i)) (hb : EX K tb env (.int j)) (hc : C i j) (hd : ∀ F, Dq F (g i j) d) : EX K (tOp (rI C g) ta tb) env d := fun F0 H0 F H σ E Q q =>
  ha E _ fun v F1 H1 z1 h1 => hb (E.step z1) _ fun w F2 H2 z2 h2 => by
    cases h1; cases h2
    exact ⟨i, j, rfl, rfl, hc, q _ F2 H2 (z1.trans z2) (hd F2)⟩
theorem ex_add {i j : Int} (ha : EX K ta env (.int i)) (hb : EX K tb env (.int j)) : EX K (tOp (rI0 fun i j => .int (i + j)) ta tb) env (.int (i + j)) := ex_i0 ha hb fun _ => .int _
theorem ex_sub {i j : Int} (ha : EX K ta env (.int i)) (hb : EX K tb env (.int j)) : EX K (tOp (rI0 fun i j => .int (i - j)) ta tb) env (.int (i - j)) := ex_i0 ha hb fun _ => .int _
theorem ex_mul {i j : Int} (ha : EX K ta env (.int i)) (hb : EX K tb env (.int j)) (hc : CMul i j) : EX K (tOp (rI CMul fun i j => .int (i * j)) ta tb) env (.int (i * j)) := ex_iC ha hb hc fun _ => .int _
theorem ex_mod {i j : Int} (ha : EX K ta env (.int i)) (hb : EX K tb env (.int j)) (hc : 0 < j) : EX K (tOp (rI (fun _ j => 0 < j) fun i j => .int (i % j)) ta tb) env (.int (i % j)) := ex_iC ha hb hc fun _ => .int _
theorem ex_fdiv {i j : Int} (ha : EX K ta env (.int i)) (hb : EX K tb env (.int j)) (hc : CDivW i j) : EX K (tOp (rI CDivW fun i j => .int (i / j)) ta tb) env (.int (i / j)) := ex_iC ha hb hc fun _ => .int _
theorem ex_pow {i j : Int} (ha : EX K ta env (.int i)) (hb : EX K tb env (.int j)) (hc : CPow i j) : EX K (tOp (rI CPow fun i j => .int (i ^ j.toNat)) ta tb) env (.int (i ^ j.toNat)) := ex_iC ha hb hc fun _ => .int _
theorem ex_lt {i j : Int} (ha : EX K ta env (.int i)) (hb : EX K tb env (.int j)) : EX K (tOp (rI0 fun i j => .bl (decide (i < j))) ta tb) env (.bool (decide (i < j))) := ex_i0 ha hb fun _ => .bl _
theorem ex_gt {i j : Int} (ha : EX K ta env (.int i)) (hb : EX K tb env (.int j)) : EX K (tOp (rI0 fun i j => .bl (decide (j < i))) ta tb) env (.bool (decide (j < i))) := ex_i0 ha hb fun _ => .bl _
theorem ex_ge {i j : Int} (ha : EX K ta env (.int i)) (hb : EX K tb env (.int j)) : EX K (tOp (rI0 fun i j => .bl (decide (j ≤ i))) ta tb) env (.bool (decide (j ≤ i))) := ex_i0 ha hb fun _ => .bl _
theorem ex_neg {i : Int} (ha : EX K ta env (.int i)) : EX K (tUn (rU fun i => .int (-i)) ta) env (.int (-i)) := fun F0 H0 F H σ E Q q =>
  ha E _ fun v F1 H1 z1 h1 => by
    cases h1
    exact ⟨i, rfl, q _ F1 H1 z1 (.int _)⟩
theorem ex_eqI {i j : Int} (ha : EX K ta env (.int i)) (hb : EX K tb env (.int j)) : EX K (tOp rEq ta tb) env (.bool (decide (i = j))) := fun F0 H0 F H σ E Q q =>
  ha E _ fun v F1 H1 z1 h1 => hb (E.step z1) _ fun w F2 H2 z2 h2 => by
    cases h1; cases h2
    have e : decide (V.int i = V.int j) = decide (i = j) := by
      by_cases c : i = j
      · rw [decide_eq_true c, c, decide_eq_true rfl]
      · rw [decide_eq_false c, decide_eq_false fun z => c (V.int.inj z)]
    refine ⟨rfl, ?_⟩
    rw [e]
    exact q _ F2 H2 (z1.trans z2) (.bl _)
theorem ex_neI {i j : Int} (ha : EX K ta env (.int i)) (hb : EX K tb env (.int j)) : EX K (tOp rNe ta tb) env (.bool (!decide (i = j))) := fun F0 H0 F H σ E Q q =>
  ha E _ fun v F1 H1 z1 h1 => hb (E.step z1) _ fun w F2 H2 z2 h2 => by
    cases h1; cases h2
    have e : decide (V.int i = V.int j) = decide (i = j) := by
      by_cases c : i = j
      · rw [decide_eq_true c, c, decide_eq_true rfl]
      · rw [decide_eq_false c, decide_eq_false fun z => c (V.int.inj z)]
    refine ⟨rfl, ?_⟩
    rw [e]
    exact q _ F2 H2 (z1.trans z2) (.bl _)
theorem ex_eqS {x y : Str} (ha : EX K ta env (.str x)) (hb : EX K tb env (.str y)) : EX K (tOp rEq ta tb) env (.bool (decide (x = y))) := fun F0 H0 F H σ E Q q =>
  ha E _ fun v F1 H1 z1 h1 => hb (E.step z1) _ fun w F2 H2 z2 h2 => by
    cases h1; cases h2
    have e : decide (V.str x = V.str y) = decide (x = y) := by
      by_cases c : x = y
      · rw [decide_eq_true c, c, decide_eq_true rfl]
      · rw [decide_eq_false c, decide_eq_false fun z => c (V.str.inj z)]
    refine ⟨rfl, ?_⟩
    rw [e]
    exact q _ F2 H2 (z1.trans z2) (.bl _)
theorem ex_eqB {x y : Bool} (ha : EX K ta env (.bool x)) (hb : EX K tb env (.bool y)) : EX K (tOp rEq ta tb) env (.bool (x == y)) := fun F0 H0 F H σ E Q q =>
  ha E _ fun v F1 H1 z1 h1 => hb (E.step z1) _ fun w F2 H2 z2 h2 => by
    cases h1; cases h2
    refine ⟨rfl, ?_⟩
    have e : decide (V.bl x = V.bl y) = (x == y) := by cases x <;> cases y <;> rfl
    rw [e]
    exact q _ F2 H2 (z1.trans z2) (.bl _)
theorem ex_neB {x y : Bool} (ha : EX K ta env (.bool x)) (hb : EX K tb env (.bool y)) : EX K (tOp rNe ta tb) env (.bool (!(x == y))) := fun F0 H0 F H σ E Q q =>
  ha E _ fun v F1 H1 z1 h1 => hb (E.step z1) _ fun w F2 H2 z2 h2 => by
    cases h1; cases h2
    refine ⟨rfl, ?_⟩
    have e : decide (V.bl x = V.bl y) = (x == y) := by cases x <;> cases y <;> rfl
    rw [e]
    exact q _ F2 H2 (z1.trans z2) (.bl _)
def isNone : PyData → Bool
  | .none => true
  | _ => false
theorem ex_isN (ha : EX K ta env d) : EX K (tOp (fun x y H Q => y = .non ∧ Q (.bl (decide (x = .non))) H) ta (tC .non)) env (.bool (isNone d)) := fun F0 H0 F H σ E Q q =>
  ha E _ fun v F1 H1 z1 h1 => by
    refine ⟨rfl, ?_⟩
    have e : decide (v = V.non) = isNone d := by cases h1 <;> rfl
    rw [e]
    exact q _ F1 H1 z1 (.bl _)
theorem ex_notN (ha : EX K ta env d) : EX K (tOp (fun x y H Q => y = .non ∧ Q (.bl (!decide (x = .non))) H) ta (tC .non)) env (.bool (!isNone d)) := fun F0 H0 F H σ E Q q =>
  ha E _ fun v F1 H1 z1 h1 => by
    refine ⟨rfl, ?_⟩
    have e : decide (v = V.non) = isNone d := by cases h1 <;> rfl
    rw [e]
    exact q _ F1 H1 z1 (.bl _)
theorem atI_map {f : α → β} {xs : List α} {i : Int} {x : α} (h : atI xs i = some x) : atI (xs.map f) i = some (f x) := by
  unfold atI at h ⊢
  obtain ⟨j, h1, h2⟩ := Option.bind_eq_some_iff.mp h
  rw [List.length_map, h1]
  show (xs.map f)[j]? = _
  rw [List.getElem?_map, h2]
  rfl
theorem DqAll.atI {H : Hp} {ds : List PyData} {vs : List V} {i : Int} (a : DqAll H vs ds) (h : L2.atI ds i = some d) : ∃ v, L2.atI vs i = some v ∧ Dq H v d := by
  unfold L2.atI at h ⊢
  obtain ⟨j, h1, h2⟩ := Option.bind_eq_some_iff.mp h
  rw [a.len, h1]
  exact a.get h2
theorem ex_ixL {i : Int} (ha : EXl K ta env ds) (hb : EX K tb env (.int i)) (h : atI ds i = some d) : EX K (tOp (rIxL K) ta tb) env d := fun F0 H0 F H σ E Q q =>
  ha E _ fun p vs F1 H1 z1 h1 a1 l1 => hb (E.step z1) _ fun w F2 H2 z2 h2 => by
    cases h2
    obtain ⟨v, e1, e2⟩ := a1.atI h
    exact ⟨p, vs, i, v, rfl, rfl, SqL.of (z2.hh (E.step z1).fh _ _ h1), e1, q _ F2 H2 (z1.trans z2) (Dq.mono z2.f _ _ e2)⟩
theorem ex_ixT {i : Int} (ha : EX K ta env (.tuple ds)) (hb : EX K tb env (.int i)) (h : atI ds i = some d) : EX K (tOp (rIxT K) ta tb) env d := fun F0 H0 F H σ E Q q =>
  ha E _ fun p F1 H1 z1 h1 => hb (E.step z1) _ fun w F2 H2 z2 h2 => by
    cases h2
    cases h1 with
    | tup h1 a1 l1 =>
    obtain ⟨v, e1, e2⟩ := a1.atI h
    exact ⟨_, _, i, v, rfl, rfl, SqT.of (z2.fh _ _ (z2.f _ _ h1)), e1, q _ F2 H2 (z1.trans z2) (Dq.mono z2.f _ _ e2)⟩
theorem ea_nil : EA K tNil env [] := fun F0 H0 F H σ E Q q => q [] F H (Fz.refl E.fh) .nil
theorem ea_cons {tr : TA} (ha : EX K ta env d) (hr : EA K tr env ds) : EA K (tCons ta tr) env (d :: ds) := fun F0 H0 F H σ E Q q =>
  ha E _ fun v F1 H1 z1 h1 => hr (E.step z1) _ fun vs F2 H2 z2 h2 => q _ F2 H2 (z1.trans z2) (.cons (Dq.mono z2.f _ _ h1) h2)
theorem ex_tup {tr : TA} (ha : EA K tr env ds) (hl : ds.length ≤ lim) : EX K (tTup tr) env (.tuple ds) := fun F0 H0 F H σ E Q q =>
  ha E _ fun vs F1 H1 z1 h1 => ⟨by rw [h1.len]; exact lim_le hl, fun p hp => q _ (upd F1 p (.tup vs)) _ (z1.trans (Fz.new (E.step z1).fh hp)) (.tup upd_same (DqAll.mono (Evl.Ex.new (Evl.fresh_back (E.step z1).fh hp)) _ _ h1) hl)⟩
theorem fresh0 {F H F1 H1 : Hp} {p : Addr} (e : Ex F H) (z : Fz F H F1 H1) (h : H1 p = none) : H p = none := Evl.fresh_back (z.hh e) h
theorem exw_lst {tr : TA} (ha : EA K tr env ds) (hl : ds.length ≤ lim) : EXw K (tLst tr) env ds := fun F0 H0 F H σ E Q q =>
  ha E _ fun vs F1 H1 z1 h1 => ⟨by rw [h1.len]; exact lim_le hl, fun p hp => q p vs F1 _ (z1.trans (Fz.add (E.step z1).fh hp)) (fresh0 E.fh z1 hp) (Evl.fresh_back (E.step z1).fh hp) upd_same h1 hl⟩
theorem exw_cat (ha : EXl K ta env ds) (hb : EXl K tb env es) (hl : (ds ++ es).length ≤ lim) : EXw K (tOp rCat ta tb) env (ds ++ es) := fun F0 H0 F H σ E Q q =>
  ha E _ fun p vs F1 H1 z1 h1 a1 l1 => hb (E.step z1) _ fun r ws F2 H2 z2 h2 a2 l2 => by
    have E2 := (E.step z1).step z2
    refine ⟨p, r, vs, ws, rfl, rfl, z2.hh (E.step z1).fh _ _ h1, h2, ?_, fun o ho => ?_⟩
    · rw [a1.len, a2.len, ← List.length_append]; exact lim_le hl
    · exact q o _ F2 _ ((z1.trans z2).trans (Fz.add E2.fh ho)) (fresh0 E.fh (z1.trans z2) ho) (Evl.fresh_back E2.fh ho) upd_same ((DqAll.mono z2.f _ _ a1).app a2) hl
theorem et_of (h : EX K te env (.bool b)) : ET K (tTest te) env b := fun F0 H0 F H σ E Q q => h E _ fun v F1 H1 z1 h1 => by
  cases h1
  exact ⟨b, rfl, q F1 H1 z1⟩
theorem et_B {b : Bool} (h : EX K te env (.bool b)) : ET K (tB te) env b := fun F0 H0 F H σ E Q q => h E _ fun v F1 H1 z1 h1 => by
  cases h1
  exact ⟨b, rfl, q F1 H1 z1⟩
theorem et_not {b : Bool} (h : ET K t env b) : ET K (tNot t) env (!b) := fun F0 H0 F H σ E Q q => h E _ fun F1 H1 z1 => q F1 H1 z1
theorem eto_and {m n : Option Bool} (h1 : ETo K t env m) (h2 : ETo K u env n) : ETo K (tAnd t u) env (m.bind fun a => if a = true then n else some false) := fun x e => by
  obtain ⟨a, e1, e2⟩ := Option.bind_eq_some_iff.mp e
  intro F0 H0 F H σ E Q q
  refine h1 a e1 E _ fun F1 H1 z1 => ?_
  cases a with
  | true =>
    show u σ H1 Q
    exact h2 x e2 (E.step z1) _ fun F2 H2 z2 => q F2 H2 (z1.trans z2)
  | false =>
    cases e2
    exact q F1 H1 z1
theorem eto_or {m n : Option Bool} (h1 : ETo K t env m) (h2 : ETo K u env n) : ETo K (tOr t u) env (m.bind fun a => if a = true then some true else n) := fun x e => by
  obtain ⟨a, e1, e2⟩ := Option.bind_eq_some_iff.mp e
  intro F0 H0 F H σ E Q q
  refine h1 a e1 E _ fun F1 H1 z1 => ?_
  cases a with
  | true =>
    cases e2
    exact q F1 H1 z1
  | false =>
    show u σ H1 Q
    exact h2 x e2 (E.step z1) _ fun F2 H2 z2 => q F2 H2 (z1.trans z2)
theorem et_and {a b : Bool} (h1 : ET K t env a) (h2 : ET K u env b) : ET K (tAnd t u) env (a && b) := fun F0 H0 F H σ E Q q => h1 E _ fun F1 H1 z1 => by
  cases a with
  | true => exact h2 (E.step z1) _ fun F2 H2 z2 => q F2 H2 (z1.trans z2)
  | false => exact q F1 H1 z1
theorem et_or {a b : Bool} (h1 : ET K t env a) (h2 : ET K u env b) : ET K (tOr t u) env (a || b) := fun F0 H0 F H σ E Q q => h1 E _ fun F1 H1 z1 => by
  cases a with
  | true => exact q F1 H1 z1
  | false => exact h2 (E.step z1) _ fun F2 H2 z2 => q F2 H2 (z1.trans z2)
theorem exo_and {m n : Option Bool} (h1 : EXo K ta env .bool m) (h2 : EXo K tb env .bool n) : EXo K (tAndV ta tb) env .bool (m.bind fun a => if a = true then n else some false) := fun x e => by
  obtain ⟨a, e1, e2⟩ := Option.bind_eq_some_iff.mp e
  intro F0 H0 F H σ E Q q
  refine h1 a e1 E _ fun v F1 H1 z1 hv => ?_
  cases hv
  refine ⟨a, rfl, ?_⟩
  cases a with
  | true =>
    show tb σ H1 Q
    exact h2 x e2 (E.step z1) _ fun v F2 H2 z2 hv => q v F2 H2 (z1.trans z2) hv
  | false =>
    cases e2
    exact q _ F1 H1 z1 (.bl false)
theorem exo_chain {g g' : Int → Int → V} {p p' : Int → Int → Bool} {i j : Int} {m : Option Int} (hg : ∀ i j, g i j = .bl (p i j)) (hg' : ∀ i j, g' i j = .bl (p' i j)) (ha : EX K ta env (.int i)) (hb : EX K tb env (.int j)) (hc : EXo K tc env .int m) :
    EXo K (tChain (rI0 g) (rI0 g') ta tb tc) env .bool (if p i j = true then m.map (p' j) else some false) := fun x ex => by
  intro F0 H0 F H σ E Q q
  refine ha E _ fun v F1 H1 z1 h1 => hb (E.step z1) _ fun w F2 H2 z2 h2 => ?_
  cases h1; cases h2
  refine ⟨i, j, rfl, rfl, p i j, hg i j, ?_⟩
  cases hp : p i j with
  | true =>
    rw [hp, if_pos rfl] at ex
    obtain ⟨k, e1, e2⟩ := Option.map_eq_some_iff.mp ex
    rw [if_pos rfl]
    refine hc k e1 ((E.step z1).step z2) _ fun u F3 H3 z3 h3 => ?_
    cases h3
    refine ⟨j, k, rfl, rfl, ?_⟩
    rw [hg', e2]
    exact q _ F3 H3 ((z1.trans z2).trans z3) (.bl _)
  | false =>
    rw [hp, if_neg Bool.false_ne_true] at ex
    cases ex
    rw [if_neg Bool.false_ne_true]
    exact q _ F2 H2 (z1.trans z2) (.bl _)
theorem ex_chain {g g' : Int → Int → V} {p p' : Int → Int → Bool} {i j k : Int} (hg : ∀ i j, g i j = .bl (p i j)) (hg' : ∀ i j, g' i j = .bl (p' i j)) (ha : EX K ta env (.int i)) (hb : EX K tb env (.int j)) (hc : EX K tc env (.int k)) :
    EX K (tChain (rI0 g) (rI0 g') ta tb tc) env (.bool (p i j && p' j k)) :=
  exo_chain hg hg' ha hb (exo_some (e := PyData.int) hc) (p i j && p' j k) (by cases p i j <;> rfl)
end
end Rb

set_option Elab.async false
set_option linter.all false
set_option maxRecDepth 100000
set_option maxHeartbeats 2000000
namespace Rb
open PySem PySem.Spec PyProof.Rows L2
structure IterP (J : It) (P : Hp → Hp → Prop) (ds : List PyData) : Prop where
  go : ∀ F H i d, P F H → Ex F H → ds[i]? = some d → J.go i H ∧ ∀ x H', J.yld i H x H' → ∃ F', Fz F H F' H' ∧ Dq F' x d
  stop : ∀ F H, P F H → Ex F H → J.stop ds.length H
def EIs (K : Frag) (wi : TI) (env : List Sl) (ds : List PyData) : Prop := ∀ ⦃F0 H0 F H : Hp⦄ ⦃σ : List (Option V)⦄, EnvOk K F0 H0 F H σ env → ∀ R : It → Hp → Prop, (∀ J F' H', Fz F H F' H' → ds.length ≤ lim → IterP J (fun F1 H1 => Ex F' F1) ds → R J H') → wi σ H R
def EI (K : Frag) (wi : TI) (env : List Sl) (ds : List PyData) : Prop := ∀ ⦃F0 H0 F H : Hp⦄ ⦃σ : List (Option V)⦄, EnvOk K F0 H0 F H σ env → ∀ R : It → Hp → Prop, (∀ J F' H', Fz F H F' H' → ds.length ≤ lim → IterP J (fun F1 H1 => Fz F' H' F1 H1) ds → R J H') → wi σ H R
section
variable {K : Frag} {env : List Sl} {ta tb tc te tl : TE} {d e : PyData} {ds es : List PyData} {α β : Type} {wi : TI}
theorem EIs.i (h : EIs K wi env ds) : EI K wi env ds := fun F0 H0 F H σ E R r => h E R fun J F' H' z l p => r J F' H' z l ⟨fun F1 H1 i d p1 => p.go F1 H1 i d p1.f, fun F1 H1 p1 => p.stop F1 H1 p1.f⟩
theorem itl {a : Addr} {vs : List V} {P : Hp → Hp → Prop} (hP : ∀ F H, P F H → Ex F H → H a = some (.lst vs) ∧ DqAll F vs ds) : IterP (Itl K a) P ds := by
  refine ⟨fun F H i d p e hd => ?_, fun F H p e => ?_⟩
  · obtain ⟨h1, h2⟩ := hP F H p e
    obtain ⟨v, hv, dv⟩ := h2.get hd
    refine ⟨⟨vs, v, SqL.of h1, hv⟩, fun x H' y => ?_⟩
    obtain ⟨rfl, y⟩ := y
    have e1 := (y vs (SqL.of h1)).symm.trans hv
    cases e1
    exact ⟨F, Fz.refl e, dv⟩
  · obtain ⟨h1, h2⟩ := hP F H p e
    exact ⟨vs, SqL.of h1, Nat.le_of_eq h2.len⟩
theorem itt {a : Addr} {vs : List V} {P : Hp → Hp → Prop} (hP : ∀ F H, P F H → Ex F H → H a = some (.tup vs) ∧ DqAll F vs ds) : IterP (Itt K a) P ds := by
  refine ⟨fun F H i d p e hd => ?_, fun F H p e => ?_⟩
  · obtain ⟨h1, h2⟩ := hP F H p e
    obtain ⟨v, hv, dv⟩ := h2.get hd
    refine ⟨⟨vs, v, SqT.of h1, hv⟩, fun x H' y => ?_⟩
    obtain ⟨rfl, y⟩ := y
    have e1 := (y vs (SqT.of h1)).symm.trans hv
    cases e1
    exact ⟨F, Fz.refl e, dv⟩
  · obtain ⟨h1, h2⟩ := hP F H p e
    exact ⟨vs, SqT.of h1, Nat.le_of_eq h2.len⟩
theorem eis_list (h : EX K tl env (.list ds)) : EIs K (iList K tl) env ds := fun F0 H0 F H σ E R r => h E _ fun v F' H' z hv => by
  cases hv with
  | lst h1 h2 h3 => exact ⟨_, rfl, ⟨_, SqL.of (z.fh _ _ h1)⟩, r _ F' H' z h3 (itl fun F1 H1 p e => ⟨e _ _ (p _ _ h1), DqAll.mono p _ _ h2⟩)⟩
theorem ei_list (h : EXl K tl env ds) : EI K (iList K tl) env ds := fun F0 H0 F H σ E R r => h E _ fun p vs F' H' z h1 h2 h3 =>
  ⟨p, rfl, ⟨vs, SqL.of h1⟩, r _ F' H' z h3 (itl fun F1 H1 q e => ⟨q.hh z.fh _ _ h1, DqAll.mono q.f _ _ h2⟩)⟩
theorem eis_tup (h : EX K tl env (.tuple ds)) : EIs K (iTup K tl) env ds := fun F0 H0 F H σ E R r => h E _ fun v F' H' z hv => by
  cases hv with
  | tup h1 h2 h3 => exact ⟨_, rfl, ⟨_, SqT.of (z.fh _ _ h1)⟩, r _ F' H' z h3 (itt fun F1 H1 p e => ⟨e _ _ (p _ _ h1), DqAll.mono p _ _ h2⟩)⟩
def rng (lo hi : Int) : List Int := (List.range (hi - lo).toNat).map fun (i : Nat) => lo + (i : Int)
theorem rng_len (lo hi : Int) : (rng lo hi).length = (hi - lo).toNat := by unfold rng; rw [List.length_map, List.length_range]
theorem itr {lo : Int} {n : Nat} {P : Hp → Hp → Prop} : IterP (Itr lo n) P (((List.range n).map fun (i : Nat) => lo + (i : Int)).map PyData.int) := by
  refine ⟨fun F H i d p e hd => ?_, fun F H p e => ?_⟩
  · rw [List.map_map, List.getElem?_map] at hd
    obtain ⟨j, h1, h2⟩ := Option.map_eq_some_iff.mp hd
    obtain ⟨h3, h4⟩ := List.getElem?_eq_some_iff.mp h1
    rw [List.getElem_range] at h4
    rw [List.length_range] at h3
    subst h4; subst h2
    refine ⟨h3, fun x H' y => ?_⟩
    obtain ⟨rfl, rfl⟩ := y
    exact ⟨F, Fz.refl e, .int _⟩
  · show n ≤ _
    rw [List.length_map, List.length_map, List.length_range]
    exact Nat.le_refl _
def rngOk (n : Int) : Prop := -50000 ≤ n ∧ n ≤ 50000
instance (n : Int) : Decidable (rngOk n) := inferInstanceAs (Decidable (_ ∧ _))
theorem rng_lim {m n : Int} (hm : rngOk m) (hn : rngOk n) : ((rng m n).map PyData.int).length ≤ lim := by
  unfold rngOk at hm hn
  unfold lim
  rw [List.length_map, rng_len]
  omega
theorem eis_rng1 {n : Int} (h : EX K ta env (.int n)) (hn : rngOk n) : EIs K (iRng1 (tCons ta tNil)) env ((rng 0 n).map PyData.int) := fun F0 H0 F H σ E R r => h E _ fun v F' H' z hv => by
  cases hv
  have l := rng_lim (m := 0) (by decide) hn
  unfold rngOk at hn
  refine ⟨n, rfl, by omega, by omega, r _ F' H' z l ?_⟩
  have e : (n - 0).toNat = n.toNat := by rw [Int.sub_zero]
  unfold rng
  rw [e]
  exact itr
end
end Rb

set_option Elab.async false
set_option linter.all false
set_option maxRecDepth 100000
set_option maxHeartbeats 2000000
namespace Rb
open PySem PySem.Spec PyProof.Rows L2
def EG (K : Frag) (g : TG) (env : List Sl) (d : PyData) (env' : List Sl) : Prop := ∀ ⦃F0 H0 F H : Hp⦄ ⦃σ : List (Option V)⦄ ⦃v : V⦄, EnvOk K F0 H0 F H σ env → Dq F v d → ∀ Q : L2.St → Hp → Prop, (∀ σ' F' H', EnvOk K F0 H0 F' H' σ' env' → Q σ' H') → g v σ H Q
def EGc (K : Frag) (g : TG) (env : List Sl) (d : PyData) (env' : List Sl) (vs : List Nat) : Prop := ∀ ⦃F0 H0 F H : Hp⦄ ⦃σ : List (Option V)⦄ ⦃v : V⦄, EnvOk K F0 H0 F H σ env → Dq F v d → ∀ Q : L2.St → Hp → Prop, (∀ σ', EnvOk K F0 H0 F H σ' env' → wipe σ' vs = wipe σ vs → Q σ' H) → g v σ H Q
def EGs (K : Frag) (g : TGs) (env : List Sl) (ds : List PyData) (env' : List Sl) (vs : List Nat) : Prop := ∀ ⦃F0 H0 F H : Hp⦄ ⦃σ : List (Option V)⦄ ⦃ws : List V⦄, EnvOk K F0 H0 F H σ env → DqAll F ws ds → ∀ Q : L2.St → Hp → Prop, (∀ σ', EnvOk K F0 H0 F H σ' env' → wipe σ' vs = wipe σ vs → Q σ' H) → g ws σ H Q
theorem wipe_set {σ : List (Option V)} {i : Nat} {x : Option V} : ∀ {vs : List Nat}, i ∈ vs → wipe (σ.set i x) vs = wipe σ vs
  | [], h => by cases h
  | v :: vs, h => by
    unfold wipe
    by_cases m : i ∈ vs
    · rw [wipe_set m]
    · have e : i = v := by
        rcases List.mem_cons.mp h with z | z
        · exact z
        · exact absurd z m
      subst e
      have : ∀ vs : List Nat, i ∉ vs → wipe (σ.set i x) vs = (wipe σ vs).set i x := fun vs => by
        induction vs with
        | nil => intro _; rfl
        | cons w ws ih =>
          intro hm
          unfold wipe
          rw [ih fun z => hm (List.mem_cons_of_mem _ z), List.set_comm]
          exact fun z => hm (z ▸ List.mem_cons_self)
      rw [this vs m, List.set_set]
section
variable {K : Frag} {env env' env1 : List Sl} {d : PyData} {ds : List PyData} {g : TG} {gs : TGs} {vs : List Nat} {te ti : TE} {α β S R O : Type}
theorem EGc.eg (h : EGc K g env d env' vs) : EG K g env d env' := fun F0 H0 F H σ v E hv Q q => h E hv Q fun σ' E' _ => q σ' F H E'
theorem egc_name {i : Nat} (hi : i ∈ vs) : EGc K (gName i) env d (env.set i (.sh d)) vs := fun F0 H0 F H σ v E hv Q q => q _ (E.setS i hv) (wipe_set hi)
theorem egs_nil : EGs K gNil env [] env vs := fun F0 H0 F H σ v E hv Q q => by
  cases hv
  exact ⟨rfl, q σ E rfl⟩
theorem egs_cons (h1 : EGc K g env d env1 vs) (h2 : EGs K gs env1 ds env' vs) : EGs K (gCons g gs) env (d :: ds) env' vs := fun F0 H0 F H σ v E hv Q q => by
  cases hv with
  | cons a b => exact ⟨_, _, rfl, h1 E a _ fun σ1 E1 w1 => h2 E1 b _ fun σ2 E2 w2 => q σ2 E2 (w2.trans w1)⟩
theorem egc_tup {n : Nat} (h : EGs K gs env ds env' vs) (hn : ds.length = n) : EGc K (gTup K n gs) env (.tuple ds) env' vs := fun F0 H0 F H σ v E hv Q q => by
  cases hv with
  | tup h1 h2 h3 => exact ⟨_, _, rfl, SqT.of (E.fh _ _ h1), by rw [h2.len, hn], h E h2 _ q⟩
theorem eg_sub {k : Nat} {i : Int} {j : Nat} {ds' : List PyData} (hk : env[k]? = some (.ow ds)) (hi : EX K ti env (.int i)) (hj : ixN ds.length i = some j) (hd : ds' = ds.set j d) : EG K (gSub (tVar k) ti rSetL) env d (env.set k (.ow ds')) := fun F0 H0 F H σ v E hv Q q => by
  obtain ⟨o, h1, p, vs, h2, h3, h4, h5, h6, h7⟩ := E.sl k _ hk
  subst h2
  refine ⟨_, h1, hi E _ fun w F1 H1 z1 hw => ?_⟩
  cases hw
  have E1 := E.step z1
  obtain ⟨f1, hh1⟩ := z1.own p _ h5 h4
  have a1 := DqAll.mono z1.f _ _ h6
  subst hd
  refine ⟨p, vs, i, j, rfl, rfl, hh1, by rw [a1.len]; exact hj, q _ F1 _ (E1.mut hk rfl h1 ⟨p, _, rfl, h3, f1, upd_same, a1.set (Dq.mono z1.f _ _ hv) j, by rw [List.length_set]; exact h7⟩ rfl)⟩
structure Exn where
  name : Str
  arg : Option (Str × PyData)
def exW (K : Frag) (x : Exn) (F H : Hp) (C : Value → Option Addr → Prop) : Prop := match x.arg with
  | none => C (.ref (He.ga K x.name)) none
  | some q => ∀ dd v, H dd = some (.xd [(q.1, v)]) → Dq F v q.2 → C (.ref (He.ga K x.name)) (some dd)
theorem exW.imp {K : Frag} {x : Exn} {F H : Hp} {C C' : Value → Option Addr → Prop} (h : exW K x F H C) (i : ∀ c d, C c d → C' c d) : exW K x F H C' := by
  unfold exW at h ⊢
  split
  · rename_i e; rw [e] at h; exact i _ _ h
  · rename_i q e; rw [e] at h; exact fun dd v a b => i _ _ (h dd v a b)
inductive Rv where
  | sh (d : PyData)
  | fr (ds : List PyData)
  /-- what nobody looks at -/
  | un
inductive Out where
  | nx (env : List Sl)
  | bk (env : List Sl)
  | ct (env : List Sl)
  | rt (r : Rv)
  | ex (env : List Sl) (x : Exn) (W : WX)
  /-- handed back while things are lent: they stand as env says -/
  | re (env : List Sl) (t : Option OT)
def Out.fin : Out → Prop
  | .rt _ => True
  | .re _ _ => True
  | .ex _ _ _ => True
  | _ => False
def RetOk (F0 H0 : Hp) (Q : VK) : Rv → Prop
  | .sh d => ∀ F H v, Fz F0 H0 F H → Dq F v d → Q v H
  | .fr ds => ∀ F H p vs, Fz F0 H0 F H → H0 p = none → F p = none → H p = some (.lst vs) → DqAll F vs ds → ds.length ≤ lim → Q (.ref p) H
  | .un => ∀ F H v, Fz F0 H0 F H → Q v H
def ReOk (K : Frag) (F0 H0 : Hp) (Q : VK) (env : List Sl) : Option OT → Prop
  | none => ∀ F H σ v, EnvOk K F0 H0 F H σ env → Q v H
  | some t => ∀ F H σ v, EnvOk K F0 H0 F H (σ ++ [some v]) (env ++ [.tr t]) → Q v H
theorem ReOk.base {K : Frag} {F0 H0 F1 H1 : Hp} {Q : VK} {env : List Sl} (z : Fz F0 H0 F1 H1) : ∀ {t : Option OT}, ReOk K F0 H0 Q env t → ReOk K F1 H0 Q env t
  | none, h => fun F H σ v E => h F H σ v (E.back z)
  | some t, h => fun F H σ v E => h F H σ v (E.back z)
def Cont (K : Frag) (F0 H0 : Hp) (D : Ends) : Out → Prop
  | .nx env => ∀ F H σ, EnvOk K F0 H0 F H σ env → D.nx σ H
  | .bk env => ∀ F H σ, EnvOk K F0 H0 F H σ env → D.bk σ H
  | .ct env => ∀ F H σ, EnvOk K F0 H0 F H σ env → D.ct σ H
  | .rt r => RetOk F0 H0 D.rt r
  | .ex env x W => ∀ F H σ, EnvOk K F0 H0 F H σ env → exW K x F H fun c d => W c d σ H
  | .re env t => ReOk K F0 H0 D.rt env t
theorem RetOk.base {F0 H0 F1 H1 : Hp} {Q : VK} (z : Fz F0 H0 F1 H1) : ∀ {r : Rv}, RetOk F0 H0 Q r → RetOk F1 H0 Q r
  | .sh d, h => fun F H v z2 hv => h F H v (z.back z2) hv
  | .fr ds, h => fun F H p vs z2 a b c d l => h F H p vs (z.back z2) a b c d l
  | .un, h => fun F H v z2 => h F H v (z.back z2)
theorem Cont.base {K : Frag} {F0 H0 F1 H1 : Hp} {D : Ends} (z : Fz F0 H0 F1 H1) : ∀ {o : Out}, Cont K F0 H0 D o → Cont K F1 H0 D o
  | .nx env, h => fun F H σ E => h F H σ (E.back z)
  | .bk env, h => fun F H σ E => h F H σ (E.back z)
  | .ct env, h => fun F H σ E => h F H σ (E.back z)
  | .rt r, h => RetOk.base z h
  | .ex env x W, h => fun F H σ E => h F H σ (E.back z)
  | .re env t, h => ReOk.base z h
theorem Cont.fin {K : Frag} {F0 H0 : Hp} {D D' : Ends} (e : D'.rt = D.rt) : ∀ {o : Out}, o.fin → Cont K F0 H0 D o → Cont K F0 H0 D' o
  | .rt r, _, h => by show RetOk F0 H0 D'.rt r; rw [e]; exact h
  | .ex env x W, _, h => h
  | .re env t, _, h => by show ReOk K F0 H0 D'.rt env t; rw [e]; exact h
def BX (K : Frag) (ts : TS) (env : List Sl) {O : Type} (enc : O → Out) (m : Option O) : Prop := ∀ o, m = some o → ∀ ⦃F0 H0 F H : Hp⦄ ⦃σ : List (Option V)⦄ (D : Ends), EnvOk K F0 H0 F H σ env → Cont K F0 H0 D (enc o) → ts D σ H
variable {ts tu tw : TS} {tt : TT} {enc : O → Out} {m n : Option O}
theorem bx_bind {k : α → Option O} {m : Option α} (h : ∀ x, m = some x → BX K ts env enc (k x)) : BX K ts env enc (m.bind k) := fun o ho => by
  obtain ⟨x, h1, h2⟩ := Option.bind_eq_some_iff.mp ho
  exact h x h1 o h2
theorem bx_map {O' : Type} {enc' : O' → Out} {f : O → O'} (h : BX K ts env enc m) (he : ∀ o, enc' (f o) = enc o) : BX K ts env enc' (m.map f) := fun o ho => by
  obtain ⟨x, h1, h2⟩ := Option.map_eq_some_iff.mp ho
  subst h2
  rw [he]
  exact h x h1
theorem bx_freeze (i : Nat) (hs : env[i]? = some (.ow ds)) (h : BX K ts (env.set i (.sh (.list ds))) enc m) : BX K ts env enc m := fun o ho F0 H0 F H σ D E c => by
  obtain ⟨F', E'⟩ := E.freeze hs
  exact h o ho D E' c
theorem bx_ret {o : O} {d : PyData} (h : EX K te env d) (he : enc o = .rt (.sh d)) : BX K (tRet te) env enc (some o) := fun o' ho F0 H0 F H σ D E c => by
  cases ho
  rw [he] at c
  exact h E _ fun v F' H' z hv => c F' H' v (E.z.trans z) hv
theorem bx_retW {o : O} {ds : List PyData} (h : EXw K te env ds) (he : enc o = .rt (.fr ds)) : BX K (tRet te) env enc (some o) := fun o' ho F0 H0 F H σ D E c => by
  cases ho
  rw [he] at c
  exact h E _ fun p vs F' H' z hn hf h1 h2 h3 => c F' H' p vs (E.z.trans z) (E.z.hn hn) hf h1 h2 h3
end
end Rb

set_option Elab.async false
set_option linter.all false
set_option maxRecDepth 100000
set_option maxHeartbeats 2000000
namespace Rb
open PySem PySem.Spec PyProof.Rows L2
inductive Lp (S R : Type) where
  | nx (s : S)
  | bk (s : S)
  | rt (r : R)
section
variable {K : Frag} {env env' env1 env2 : List Sl} {d : PyData} {ds : List PyData} {g : TG} {gs : TGs} {vs : List Nat} {te ti ta tb : TE} {wi : TI} {α β S R O O1 : Type}
variable {ts tu tw : TS} {tt : TT} {enc : O → Out} {enc1 : O1 → Out} {m n : Option O} {m1 : Option O1}
theorem bx_asg (he : EX K te env d) (hg : EG K g env d env1) (h : BX K tu env1 enc m) : BX K (tSeq (tAsg te g) tu) env enc m := fun o ho F0 H0 F H σ D E c =>
  he E _ fun v F1 H1 z1 hv => hg (E.step z1) hv _ fun σ2 F2 H2 E2 => h o ho D E2 c
theorem bx_asgW {i : Nat} (he : EXw K te env ds) (h : BX K tu (env.set i (.ow ds)) enc m) : BX K (tSeq (tAsg te (gName i)) tu) env enc m := fun o ho F0 H0 F H σ D E c =>
  he E _ fun p vs F1 H1 z1 hn hf h1 h2 h3 => h o ho D (E.setO z1 i hn (s := .ow ds) ⟨p, vs, rfl, E.z.hn hn, hf, h1, h2, h3⟩) c
theorem bx_par {i j : Nat} {d e : PyData} (ha : EX K ta env d) (hb : EX K tb env e) (h : BX K tu ((env.set i (.sh d)).set j (.sh e)) enc m) : BX K (tSeq (tPar i j (tCons ta (tCons tb tNil))) tu) env enc m := fun o ho F0 H0 F H σ D E c =>
  ha E _ fun v F1 H1 z1 hv => hb (E.step z1) _ fun w F2 H2 z2 hw => ⟨v, w, rfl, h o ho D ((((E.step z1).step z2).setS i (Dq.mono z2.f _ _ hv)).setS j hw) c⟩
theorem bx_drop (he : EX K te env d) (h : BX K tu env enc m) : BX K (tSeq (tDrop te) tu) env enc m := fun o ho F0 H0 F H σ D E c =>
  he E _ fun v F1 H1 z1 hv => h o ho D (E.step z1) c
def app? (xs : List α) (x : α) : Option (List α) := if xs.length < lim then some (xs ++ [x]) else none
theorem app_some {xs ys : List α} {x : α} (h : app? xs x = some ys) : xs.length < lim ∧ ys = xs ++ [x] := by
  unfold app? at h
  by_cases c : xs.length < lim
  · rw [if_pos c] at h; cases h; exact ⟨c, rfl⟩
  · rw [if_neg c] at h; cases h
theorem s_app {e : α → PyData} {i : Nat} {xs ys : List α} {x : α} (hi : env[i]? = some (.ow (xs.map e))) (hx : EX K te env (e x)) (hy : app? xs x = some ys) {F0 H0 F H : Hp} {σ : List (Option V)} {D : Ends} (E : EnvOk K F0 H0 F H σ env)
    (k : ∀ F' H', EnvOk K F0 H0 F' H' σ (env.set i (.ow (ys.map e))) → D.nx σ H') : tDrop (tBM K "list" rAppend (tVar i) (tCons te tNil)) D σ H := by
  obtain ⟨hl, rfl⟩ := app_some hy
  obtain ⟨o, h1, p, vs, h2, h3, h4, h5, h6, h7⟩ := E.sl i _ hi
  subst h2
  refine ⟨_, h1, .inl ⟨rfl, vs, SqL.of h5⟩, hx E _ fun w F1 H1 z1 hw => ?_⟩
  obtain ⟨f1, hh1⟩ := z1.own p _ h5 h4
  have a1 := DqAll.mono z1.f _ _ h6
  have hlen := a1.len
  rw [List.length_map] at hlen
  refine ⟨p, vs, w, rfl, rfl, hh1, by rw [hlen]; exact lim_lt hl, k F1 _ ((E.step z1).mut hi rfl h1 ⟨p, _, rfl, h3, f1, upd_same, ?_, ?_⟩ rfl)⟩
  · rw [List.map_append]
    exact a1.app (.cons hw .nil)
  · rw [List.length_map, List.length_append]
    exact hl
theorem bx_app {e : α → PyData} {i : Nat} {xs ys : List α} {x : α} (hi : env[i]? = some (.ow (xs.map e))) (hx : EX K te env (e x)) (hy : app? xs x = some ys) (h : BX K tu (env.set i (.ow (ys.map e))) enc m) :
    BX K (tSeq (tDrop (tBM K "list" rAppend (tVar i) (tCons te tNil))) tu) env enc m := fun o ho F0 H0 F H σ D E c => s_app (D := { D with nx := tu D }) hi hx hy E fun F' H' E' => h o ho D E' c
def pop? (xs : List α) : Option (α × List α) := xs.getLast?.map fun x => (x, xs.dropLast)
theorem s_pop {e : α → PyData} {i : Nat} {xs ys : List α} {x : α} (hi : env[i]? = some (.ow (xs.map e))) (hy : pop? xs = some (x, ys)) {F0 H0 F H : Hp} {σ : List (Option V)} (E : EnvOk K F0 H0 F H σ env) {Q : VK}
    (k : ∀ v H', EnvOk K F0 H0 F H' σ (env.set i (.ow (ys.map e))) → Dq F v (e x) → Q v H') : tBM0 K "list" rPop (tVar i) σ H Q := by
  unfold pop? at hy
  obtain ⟨x', e1, e2⟩ := Option.map_eq_some_iff.mp hy
  cases e2
  obtain ⟨o, h1, p, vs, h2, h3, h4, h5, h6, h7⟩ := E.sl i _ hi
  subst h2
  have hlast : (xs.map e)[vs.length - 1]? = some (e x) := by
    rw [h6.len, List.length_map, List.getElem?_map, ← List.getLast?_eq_getElem?, e1]
    rfl
  obtain ⟨v, e3, e4⟩ := h6.get hlast
  refine ⟨_, h1, .inl ⟨rfl, vs, SqL.of h5⟩, p, vs, v, rfl, rfl, h5, e3, k v _ (E.mut hi rfl h1 ⟨p, _, rfl, h3, h4, upd_same, ?_, ?_⟩ rfl) e4⟩
  · have k2 : (xs.map e).dropLast = xs.dropLast.map e := by rw [List.dropLast_eq_take, List.dropLast_eq_take, List.length_map, List.map_take]
    rw [← k2]
    exact h6.dropLast
  · rw [List.length_map, List.length_dropLast]
    rw [List.length_map] at h7
    omega
theorem bx_nx {o : O} (hw : Wk env env') (hn : enc o = .nx env') : BX K tNext env enc (some o) := fun o' ho F0 H0 F H σ D E c => by
  cases ho
  rw [hn] at c
  exact c F H σ (E.weak hw)
theorem bx_seq {k : O1 → Option O} (h1 : BX K ts env enc1 m1) (h2 : ∀ o1, m1 = some o1 → (∃ env', enc1 o1 = .nx env' ∧ BX K tu env' enc (k o1)) ∨ (∃ o, k o1 = some o ∧ enc o = enc1 o1 ∧ ∀ e, enc1 o1 ≠ .nx e)) : BX K (tSeq ts tu) env enc (m1.bind k) := fun o ho F0 H0 F H σ D E c => by
  obtain ⟨o1, e1, e2⟩ := Option.bind_eq_some_iff.mp ho
  refine h1 o1 e1 { D with nx := tu D } E ?_
  rcases h2 o1 e1 with ⟨env', a, b⟩ | ⟨o', a, b, nn⟩
  · rw [a]
    exact fun F1 H1 σ1 E1 => b o e2 D E1 c
  · rw [a] at e2; cases e2
    rw [b] at c
    cases q : enc1 o1 with
    | nx e => exact absurd q (nn e)
    | bk e => rw [q] at c; exact c
    | ct e => rw [q] at c; exact c
    | rt r => rw [q] at c; exact c
    | ex e x W => rw [q] at c; exact c
    | re e t => rw [q] at c; exact c
theorem bx_then {envS : O1 → List Sl} {k : O1 → Option O} (h1 : BX K ts env (fun s => .nx (envS s)) m1) (h2 : ∀ s, m1 = some s → BX K tu (envS s) enc (k s)) : BX K (tSeq ts tu) env enc (m1.bind k) :=
  bx_seq h1 fun s e => .inl ⟨envS s, rfl, h2 s e⟩
theorem bx_if {b : Bool} (ht : ET K tt env b) (h1 : b = true → BX K ts env enc m) (h2 : b = false → BX K tu env enc n) : BX K (tIfS tt ts tu) env enc (if b = true then m else n) := fun o ho F0 H0 F H σ D E c =>
  ht E _ fun F1 H1 z1 => by
    cases b with
    | true => exact h1 rfl o ho D (E.step z1) c
    | false => exact h2 rfl o ho D (E.step z1) c
theorem bx_ifRet {b : Bool} (ht : ET K tt env b) (h1 : b = true → BX K ts env enc m) (hn : ∀ o e, m = some o → enc o ≠ .nx e) (h2 : b = false → BX K tu env enc n) : BX K (tSeq (tIfS tt ts tNext) tu) env enc (if b = true then m else n) := fun o ho F0 H0 F H σ D E c =>
  ht E _ fun F1 H1 z1 => by
    cases b with
    | true =>
      refine h1 rfl o ho { D with nx := tu D } (E.step z1) ?_
      cases q : enc o with
      | nx e => exact absurd q (hn o e ho)
      | bk e => rw [q] at c; exact c
      | ct e => rw [q] at c; exact c
      | rt r => rw [q] at c; exact c
      | ex e x W => rw [q] at c; exact c
      | re e t => rw [q] at c; exact c
    | false => exact h2 rfl o ho D (E.step z1) c
theorem bx_ifNo {b : Bool} (ht : ET K tt env b) (h2 : b = false → BX K tu env enc n) : BX K (tSeq (tIfS tt ts tNext) tu) env enc (if b = true then none else n) := fun o ho F0 H0 F H σ D E c =>
  ht E _ fun F1 H1 z1 => by
    cases b with
    | true => cases ho
    | false => exact h2 rfl o ho D (E.step z1) c
def forL (f : S → α → Option (Lp S R)) : S → List α → Option (S ⊕ R)
  | s, [] => some (.inl s)
  | s, x :: xs => (f s x).bind fun o => match o with
    | .nx s' => forL f s' xs
    | .bk s' => some (.inl s')
    | .rt r => some (.inr r)
def encL (envS : S → List Sl) (encR : R → Out) : Lp S R → Out
  | .nx s => .nx (envS s)
  | .bk s => .bk (envS s)
  | .rt r => encR r
def encE (envS : S → List Sl) (encR : R → Out) : S ⊕ R → Out
  | .inl s => .nx (envS s)
  | .inr r => encR r
theorem bx_forL {envS : S → List Sl} {encR : R → Out} {e : α → PyData} {envB : S → α → List Sl} {f : S → α → Option (Lp S R)} {s0 : S} {xs : List α} (hi : EIs K wi env (xs.map e)) (hw : Wk env (envS s0)) (hr : ∀ r, (encR r).fin)
    (hg : ∀ s x, x ∈ xs → EG K g (envS s) (e x) (envB s x)) (hb : ∀ s x, x ∈ xs → BX K ts (envB s x) (encL envS encR) (f s x)) : BX K (tFor wi g ts) env (encE envS encR) (forL f s0 xs) := fun o ho F0 H0 F H σ D E c =>
  hi E _ fun J F1 H1 z1 hl it => by
    have z01 := E.z.trans z1
    refine ⟨fun i m σ' H' => ∃ s F', EnvOk K F1 H0 F' H' σ' (envS s) ∧ m = xs.length - i ∧ i ≤ xs.length ∧ forL f s (xs.drop i) = some o, ⟨xs.length, s0, F1, (E.step z1).base.weak hw, rfl, Nat.zero_le _, ho⟩, ?_⟩
    rintro i m σ' H' ⟨s, F', E', rfl, hi', hf⟩
    by_cases hlt : i < xs.length
    · refine .inr ?_
      have hd : (xs.map e)[i]? = some (e xs[i]) := by rw [List.getElem?_map, List.getElem?_eq_getElem hlt]; rfl
      obtain ⟨g1, g2⟩ := it.go F' H' i _ E'.z.f E'.fh hd
      rw [List.drop_eq_getElem_cons hlt] at hf
      obtain ⟨o1, f1, f2⟩ := Option.bind_eq_some_iff.mp hf
      refine ⟨g1, fun σ2 H2 => ∃ s2 F2, EnvOk K F1 H0 F2 H2 σ2 (envS s2) ∧ o1 = .nx s2, ?_, fun x H2 y => ?_⟩
      · rintro σ2 H2 ⟨s2, F2, E2, rfl⟩
        exact ⟨xs.length - (i + 1), by omega, s2, F2, E2, rfl, hlt, f2⟩
      · obtain ⟨F2, z2, hx⟩ := g2 x H2 y
        refine hg s xs[i] (List.getElem_mem hlt) (E'.step z2) hx _ fun σ3 F3 H3 E3 => ?_
        refine hb s xs[i] (List.getElem_mem hlt) o1 f1 _ E3 ?_
        cases o1 with
        | nx s2 => exact fun F4 H4 σ4 E4 => ⟨s2, F4, E4, rfl⟩
        | bk s2 =>
          cases f2
          exact fun F4 H4 σ4 E4 => c F4 H4 σ4 (E4.back z01)
        | rt r =>
          cases f2
          show Cont K F1 H0 _ (encR r)
          have c' : Cont K F0 H0 D (encR r) := c
          exact Cont.fin (D := D) (by rfl) (hr r) (Cont.base z01 c')
    · have hi2 : i = xs.length := by omega
      subst hi2
      rw [List.drop_length] at hf
      cases hf
      refine .inl ⟨?_, c F' H' σ' (E'.back z01)⟩
      have := it.stop F' H' E'.z.f E'.fh
      rw [List.length_map] at this
      exact this
def forS (f : S → α → Option S) : S → List α → Option S
  | s, [] => some s
  | s, x :: xs => (f s x).bind fun s' => forS f s' xs
theorem forS_L {f : S → α → Option S} : ∀ {xs : List α} {s : S}, forL (R := Empty) (fun s x => (f s x).map Lp.nx) s xs = (forS f s xs).map Sum.inl
  | [], s => rfl
  | x :: xs, s => by
    unfold forL forS
    cases q : f s x with
    | none => rfl
    | some s' => exact forS_L (xs := xs) (s := s')
theorem bx_forS {envS : S → List Sl} {e : α → PyData} {envB : S → α → List Sl} {f : S → α → Option S} {s0 : S} {xs : List α} (hi : EIs K wi env (xs.map e)) (hw : Wk env (envS s0))
    (hg : ∀ s x, x ∈ xs → EG K g (envS s) (e x) (envB s x)) (hb : ∀ s x, x ∈ xs → BX K ts (envB s x) (fun s' => .nx (envS s')) (f s x)) : BX K (tFor wi g ts) env (fun s => .nx (envS s)) (forS f s0 xs) := fun o ho => by
  have h := bx_forL (R := Empty) (encR := fun r => nomatch r) (f := fun s x => (f s x).map Lp.nx) hi hw (fun r => nomatch r) hg (fun s x hx => bx_map (hb s x hx) fun o => rfl)
  rw [forS_L] at h
  exact h (.inl o) (by rw [ho]; rfl)
def forR (f : S → α → Option (S ⊕ R)) : S → List α → Option (S ⊕ R)
  | s, [] => some (.inl s)
  | s, x :: xs => (f s x).bind fun o => match o with
    | .inl s' => forR f s' xs
    | .inr r => some (.inr r)
def toLp : S ⊕ R → Lp S R
  | .inl s => .nx s
  | .inr r => .rt r
theorem forR_L {f : S → α → Option (S ⊕ R)} : ∀ {xs : List α} {s : S}, forL (fun s x => (f s x).map toLp) s xs = forR f s xs
  | [], s => rfl
  | x :: xs, s => by
    unfold forL forR
    cases q : f s x with
    | none => rfl
    | some s' =>
      cases s' with
      | inl s' => exact forR_L (xs := xs) (s := s')
      | inr r => rfl
theorem bx_forR {envS : S → List Sl} {encR : R → Out} {e : α → PyData} {envB : S → α → List Sl} {f : S → α → Option (S ⊕ R)} {s0 : S} {xs : List α} (hi : EIs K wi env (xs.map e)) (hw : Wk env (envS s0)) (hr : ∀ r, (encR r).fin)
    (hg : ∀ s x, x ∈ xs → EG K g (envS s) (e x) (envB s x)) (hb : ∀ s x, x ∈ xs → BX K ts (envB s x) (encE envS encR) (f s x)) : BX K (tFor wi g ts) env (encE envS encR) (forR f s0 xs) := by
  have h := bx_forL (encR := encR) (f := fun s x => (f s x).map toLp) hi hw hr hg (fun s x hx => bx_map (hb s x hx) fun o => by cases o <;> rfl)
  rw [forR_L] at h
  exact h
end
end Rb

set_option Elab.async false
set_option linter.all false
set_option maxRecDepth 100000
set_option maxHeartbeats 2000000
namespace Rb
open PySem PySem.Spec PyProof.Rows L2
def wipeE (env : List Sl) : List Nat → List Sl
  | [] => env
  | v :: vs => (wipeE env vs).set v .un
theorem EnvOk.wipe {K : Frag} {F0 H0 F H : Hp} {σ : List (Option V)} {env : List Sl} (E : EnvOk K F0 H0 F H σ env) : ∀ vs : List Nat, EnvOk K F0 H0 F H (L2.wipe σ vs) (wipeE env vs)
  | [] => E
  | v :: vs => (E.wipe vs).forget v none
theorem wipe_sub {σ : List (Option V)} {vs : List Nat} : ∀ {ws : List Nat}, (∀ w ∈ ws, w ∈ vs) → wipe (wipe σ ws) vs = wipe σ vs
  | [], _ => rfl
  | w :: ws, h => by
    show wipe ((wipe σ ws).set w none) vs = wipe σ vs
    rw [wipe_set (h w List.mem_cons_self), wipe_sub fun x hx => h x (List.mem_cons_of_mem _ hx)]
theorem Fz.mutNew {F H F' H' : Hp} {p : Addr} {o : HO} (z : Fz F H F' H') (hn : H p = none) (hf : F' p = none) : Fz F H F' (upd H' p o) := by
  refine ⟨z.f, fun a u q => ?_, fun a u q n => ?_⟩
  · rw [upd_ne (ne_of_none q hf)]; exact z.fh a u q
  · rw [upd_ne (ne_of_none q hn)]; exact z.own' a u q n
section
variable {K : Frag} {env env' env1 env2 : List Sl} {d : PyData} {ds es : List PyData} {g : TG} {gs : TGs} {vs : List Nat} {te ti ta tb tl : TE} {wi : TI} {α β S R O O1 : Type} {tt : TT}
def compM (t : α → Option Bool) (f : α → Option β) : List α → Option (List β)
  | [] => some []
  | x :: xs => (t x).bind fun b => if b = true then (f x).bind fun y => (compM t f xs).bind fun ys => some (y :: ys) else compM t f xs
theorem exw_lc {e : α → PyData} {e' : β → PyData} {t : α → Option Bool} {f : α → Option β} {xs : List α} {ys : List β} {envB : α → List Sl} (hi : EI K wi env (xs.map e)) (hm : compM t f xs = some ys) (hg : ∀ x, x ∈ xs → EGc K g (wipeE env vs) (e x) (envB x) vs)
    (ht : ∀ x, x ∈ xs → ETo K tt (envB x) (t x)) (he : ∀ x, x ∈ xs → EXo K te (envB x) e' (f x)) : EXw K (tLc wi g tt te vs) env (ys.map e') := fun F0 H0 F H σ E Q q =>
  hi E _ fun J F1 H1 z1 hl it D hD => by
    have hFD : F1 D = none := Evl.fresh_back z1.fh hD
    refine ⟨fun i m H' => ∃ F' done rest acc, Fz F1 H1 F' H' ∧ F' D = none ∧ H' D = some (.lst acc) ∧ DqAll F' acc (done.map e') ∧ compM t f (xs.drop i) = some rest ∧ ys = done ++ rest ∧ done.length ≤ i ∧ m = xs.length - i ∧ i ≤ xs.length,
      ⟨xs.length, F1, [], ys, [], Fz.add z1.fh hD, hFD, upd_same, .nil, hm, rfl, Nat.le_refl _, rfl, Nat.zero_le _⟩, ?_⟩
    rintro i m H' ⟨F', done, rest, acc, zz, fD, hD', ha, hc, hy, hdl, rfl, hi'⟩
    by_cases hlt : i < xs.length
    · refine .inr ?_
      have hd : (xs.map e)[i]? = some (e xs[i]) := by rw [List.getElem?_map, List.getElem?_eq_getElem hlt]; rfl
      obtain ⟨g1, g2⟩ := it.go F' H' i _ zz zz.fh hd
      rw [List.drop_eq_getElem_cons hlt] at hc
      obtain ⟨b, c1, c2⟩ := Option.bind_eq_some_iff.mp hc
      refine ⟨g1, fun H2 => ∃ F' done rest acc, Fz F1 H1 F' H2 ∧ F' D = none ∧ H2 D = some (.lst acc) ∧ DqAll F' acc (done.map e') ∧ compM t f (xs.drop (i + 1)) = some rest ∧ ys = done ++ rest ∧ done.length ≤ i + 1, ?_, fun x H2 y => ?_⟩
      · rintro H2 ⟨F2, done2, rest2, acc2, z2, f2, h2, a2, k2, y2, l2⟩
        exact ⟨xs.length - (i + 1), by omega, F2, done2, rest2, acc2, z2, f2, h2, a2, k2, y2, l2, rfl, hlt⟩
      · obtain ⟨F2, z2, hx⟩ := g2 x H2 y
        have mem := List.getElem_mem hlt
        have E2 := ((E.step (z1.trans (zz.trans z2))).wipe vs)
        refine hg xs[i] mem E2 hx _ fun σ3 E3 w3 => ⟨w3.trans (wipe_sub fun _ h => h), ?_⟩
        refine ht xs[i] mem b c1 E3 _ fun F4 H4 z4 => ?_
        obtain ⟨d1, d2⟩ := (z2.trans z4).own D _ hD' fD
        cases b with
        | true =>
          rw [if_pos rfl] at c2 ⊢
          obtain ⟨yv, c3, c4⟩ := Option.bind_eq_some_iff.mp c2
          obtain ⟨rest', c5, c6⟩ := Option.bind_eq_some_iff.mp c4
          cases c6
          refine he xs[i] mem yv c3 (E3.step z4) _ fun v F5 H5 z5 hv => ?_
          obtain ⟨d3, d4⟩ := z5.own D _ d2 d1
          have hlen := ha.len
          rw [List.length_map] at hlen
          rw [List.length_map] at hl
          refine ⟨acc, d4, lim_lt (by omega), F5, done ++ [yv], rest', acc ++ [v], (((zz.trans z2).trans z4).trans z5).mutNew hD d3, d3, upd_same, ?_, c5, by rw [hy]; simp, by rw [List.length_append]; exact Nat.succ_le_succ hdl⟩
          rw [List.map_append]
          exact (DqAll.mono ((z2.f.trans z4.f).trans z5.f) _ _ ha).app (.cons hv .nil)
        | false =>
          rw [if_neg Bool.false_ne_true] at c2 ⊢
          exact ⟨F4, done, rest, acc, (zz.trans z2).trans z4, d1, d2, DqAll.mono (z2.f.trans z4.f) _ _ ha, c2, hy, Nat.le_succ_of_le hdl⟩
    · have hi2 : i = xs.length := by omega
      subst hi2
      rw [List.drop_length] at hc
      cases hc
      refine .inl ⟨?_, ?_⟩
      · have := it.stop F' H' zz zz.fh
        rw [List.length_map] at this
        exact this
      · rw [List.append_nil] at hy
        subst hy
        refine q D acc F' H' (z1.trans zz) (z1.hn hD) fD hD' ha ?_
        rw [List.length_map] at hl ⊢
        exact Nat.le_trans hdl hl
def Prom (I : List PyData → Rv → Prop) : Sp := fun vs H Q _ => ∃ F ds r, Ex F H ∧ DqAll F vs ds ∧ I ds r ∧ RetOk F H Q r
def Im {A R : Type} (ea : A → List PyData) (er : R → Rv) (f : A → Option R) : List PyData → Rv → Prop := fun ds r => ∃ a y, ds = ea a ∧ f a = some y ∧ r = er y
theorem ex_call {I : List PyData → Rv → Prop} {tr : TA} {E : XK} (ha : EA K tr env ds) (hI : I ds (.sh d)) : EX K (tCall (Prom I) [] E tr) env d := fun F0 H0 F H σ E Q q =>
  ha E _ fun vs F1 H1 z1 a1 => by
    rw [List.append_nil]
    exact ⟨F1, ds, _, (E.step z1).fh, a1, hI, fun F2 H2 v z2 hv => q v F2 H2 (z1.trans z2) hv⟩
theorem exw_call {I : List PyData → Rv → Prop} {tr : TA} {E : XK} (ha : EA K tr env ds) (hI : I ds (.fr es)) : EXw K (tCall (Prom I) [] E tr) env es := fun F0 H0 F H σ E Q q =>
  ha E _ fun vs F1 H1 z1 a1 => by
    rw [List.append_nil]
    exact ⟨F1, ds, _, (E.step z1).fh, a1, hI, fun F2 H2 p vs z2 hn hf h1 h2 h3 => q p vs F2 H2 (z1.trans z2) (z1.hn hn) hf h1 h2 h3⟩
def startE (N : List Str) (ds : List PyData) : List Sl := ds.map .sh ++ List.replicate (N.length - ds.length) .un
theorem start_ok {K : Frag} {N : List Str} {ws : List V} {F H : Hp} (e : Ex F H) (a : DqAll F ws ds) : EnvOk K F H F H (L2.start N ws) (startE N ds) := by
  have hl := a.len
  refine EnvOk.flat (Fz.refl e) ?_ fun i s h => ?_
  · unfold L2.start startE
    simp only [List.length_append, List.length_map, List.length_replicate, hl]
  · unfold L2.start
    unfold startE at h
    by_cases c : i < ds.length
    · rw [List.getElem?_append_left (by rw [List.length_map]; exact c), List.getElem?_map] at h
      rw [List.getElem?_append_left (by rw [List.length_map, hl]; exact c), List.getElem?_map]
      obtain ⟨d, h1, h2⟩ := Option.map_eq_some_iff.mp h
      subst h2
      obtain ⟨v, h3, h4⟩ := a.get h1
      rw [h3]
      exact ⟨_, rfl, ⟨v, rfl, h4⟩, rfl⟩
    · rw [List.getElem?_append_right (by rw [List.length_map]; omega), List.length_map] at h
      rw [List.getElem?_append_right (by rw [List.length_map, hl]; omega), List.length_map, hl]
      obtain ⟨h1, h2⟩ := List.getElem?_eq_some_iff.mp h
      rw [List.getElem_replicate] at h2
      subst h2
      rw [List.length_replicate] at h1
      refine ⟨none, ?_, trivial, rfl⟩
      rw [List.getElem?_replicate, if_pos h1]
theorem fn_ok {A R : Type} {P : Program} {w : World} {mg : Str → Option Value} {base : Heap} {x qual : Str} {params : Arguments} {body : List Stmt} {scope : Scope} {f : Addr} {fd : FuncData} {N ps : List Str} {k : Nat} {ea : A → List PyData} {er : R → Rv} {fm : A → Option R} {en : R → Out}
    (F : FunD K x qual params body scope [] [] f fd) (S : FnScope N ps scope) (hl : ∀ a, (ea a).length = ps.length) (hn : ∀ y, en y = .rt (er y) ∨ (er y = .sh .none ∧ ∃ e, en y = .nx e))
    (hb : ∀ (cdv : Value) (A' : Around) (outer : List Env) (s : Shared) (H : Hp) (E : XK), Room k (A'.deeper (envOfC qual scope s.heap.objs.size f cdv)) →
      ∃ t, PSs (cxOf CX0 P w K mg base N qual scope f cdv A' outer s H E).nox body t ∧ ∀ a, BX K t (startE N (ea a)) en (fm a)) : FnOk P w K mg base CX0 (k + 1) f fd ps (Prom (Im ea er fm)) := by
  refine F.ok S (fun vs H Q E h => ?_) (fun cdv A' outer s H vs Q E hr h => ?_)
  · obtain ⟨F, ds, r, e, a, ⟨a', y, rfl, _, _⟩, _⟩ := h
    rw [a.len, hl]
  · obtain ⟨F, ds, r, e, a, ⟨a', y, rfl, hy, rfl⟩, q⟩ := h
    obtain ⟨t, p, b⟩ := hb cdv A' outer s H E hr
    refine ⟨t, PSs.nox p, b a' y hy _ (start_ok e a) ?_⟩
    rcases hn y with hn | ⟨hn, e', he⟩
    · rw [hn]; exact q
    · rw [he]
      rw [hn] at q
      exact fun F1 H1 σ1 E1 => q F1 H1 .non E1.z .non
theorem ex_lenL {e : α → PyData} {xs : List α} (ha : EXl K ta env (xs.map e)) : EX K (tCB (fun ws H Q => ∃ x n, ws = [x] ∧ LenV K x H n ∧ Q (.int n) H) (tCons ta tNil)) env (.int (xs.length : Int)) := fun F0 H0 F H σ E Q q =>
  ha E _ fun p vs F1 H1 z1 h1 a1 l1 => by
    have := a1.len
    rw [List.length_map] at this
    exact ⟨_, xs.length, rfl, .inl ⟨vs, SqL.of h1, this.symm⟩, q _ F1 H1 z1 (.int _)⟩
theorem ex_lenT {e : α → PyData} {xs : List α} (ha : EX K ta env (.tuple (xs.map e))) : EX K (tCB (fun ws H Q => ∃ x n, ws = [x] ∧ LenV K x H n ∧ Q (.int n) H) (tCons ta tNil)) env (.int (xs.length : Int)) := fun F0 H0 F H σ E Q q =>
  ha E _ fun v F1 H1 z1 hv => by
    cases hv with
    | tup h1 a1 l1 =>
    have := a1.len
    rw [List.length_map] at this
    exact ⟨_, xs.length, rfl, .inr ⟨_, SqT.of (z1.fh _ _ h1), this.symm⟩, q _ F1 H1 z1 (.int _)⟩
theorem exw_listT (ha : EX K ta env (.tuple ds)) : EXw K (tCB (fun xs H Q => ∃ p ys, xs = [.ref p] ∧ (SqL K H p ys ∨ SqT K H p ys) ∧ ∀ l, H l = none → Q (.ref l) (upd H l (.lst ys))) (tCons ta tNil)) env ds := fun F0 H0 F H σ E Q q =>
  ha E _ fun v F1 H1 z1 hv => by
    cases hv with
    | tup h1 a1 l1 => exact ⟨_, _, rfl, .inr (SqT.of (z1.fh _ _ h1)), fun l hl => q l _ F1 _ (z1.trans (Fz.add z1.fh hl)) (z1.hn hl) (Evl.fresh_back z1.fh hl) upd_same a1 l1⟩
theorem ex_tupL (ha : EXl K ta env ds) : EX K (tCB (fun xs H Q => ∃ p ys, xs = [.ref p] ∧ ((SqL K H p ys ∧ ∀ l, H l = none → Q (.ref l) (upd H l (.tup ys))) ∨ (SqT K H p ys ∧ Q (.ref p) H))) (tCons ta tNil)) env (.tuple ds) := fun F0 H0 F H σ E Q q =>
  ha E _ fun p vs F1 H1 z1 h1 a1 l1 => ⟨p, vs, rfl, .inl ⟨SqL.of h1, fun l hl => q _ (upd F1 l (.tup vs)) _ (z1.trans (Fz.new z1.fh hl)) (.tup upd_same (DqAll.mono (Evl.Ex.new (Evl.fresh_back z1.fh hl)) _ _ a1) l1)⟩⟩
theorem ex_sum {ns : List Int} (ha : EXl K ta env (ns.map PyData.int)) : EX K (tCB (rSum K) (tCons ta tNil)) env (.int ns.sum) := fun F0 H0 F H σ E Q q =>
  ha E _ fun p vs F1 H1 z1 h1 a1 l1 => by
    have := a1.ints
    subst this
    exact ⟨p, ns, rfl, SqL.of h1, q _ F1 H1 z1 (.int _)⟩
theorem ex_all {bs : List Bool} (ha : EXl K ta env (bs.map PyData.bool)) : EX K (tCB (rAll K) (tCons ta tNil)) env (.bool (bs.all id)) := fun F0 H0 F H σ E Q q =>
  ha E _ fun p vs F1 H1 z1 h1 a1 l1 => by
    have := a1.bls
    subst this
    exact ⟨p, bs, rfl, SqL.of h1, q _ F1 H1 z1 (.bl _)⟩
theorem ex_max {i j : Int} (ha : EX K ta env (.int i)) (hb : EX K tb env (.int j)) : EX K (tCB (fun xs H Q => ∃ i j, xs = [.int i, .int j] ∧ Q (.int (if j > i then j else i)) H) (tCons ta (tCons tb tNil))) env (.int (if j > i then j else i)) := fun F0 H0 F H σ E Q q =>
  ha E _ fun v F1 H1 z1 hv => hb (E.step z1) _ fun w F2 H2 z2 hw => by
    cases hv; cases hw
    exact ⟨i, j, rfl, q _ F2 H2 (z1.trans z2) (.int _)⟩
theorem ex_min {i j : Int} (ha : EX K ta env (.int i)) (hb : EX K tb env (.int j)) : EX K (tCB (fun xs H Q => ∃ i j, xs = [.int i, .int j] ∧ Q (.int (if j < i then j else i)) H) (tCons ta (tCons tb tNil))) env (.int (if j < i then j else i)) := fun F0 H0 F H σ E Q q =>
  ha E _ fun v F1 H1 z1 hv => hb (E.step z1) _ fun w F2 H2 z2 hw => by
    cases hv; cases hw
    exact ⟨i, j, rfl, q _ F2 H2 (z1.trans z2) (.int _)⟩
theorem ex_intB {b : Bool} (ha : EX K ta env (.bool b)) : EX K (tCB (fun xs H Q => (∃ i, xs = [.int i] ∧ Q (.int i) H) ∨ ∃ k, xs = [.bl k] ∧ Q (.int (if k then 1 else 0)) H) (tCons ta tNil)) env (.int (if b then 1 else 0)) := fun F0 H0 F H σ E Q q =>
  ha E _ fun v F1 H1 z1 hv => by
    cases hv
    exact .inr ⟨b, rfl, q _ F1 H1 z1 (.int _)⟩
def cutA (xs : List α) (lo hi : Option Int) : List α := (xs.drop (HT.sIx xs.length 0 lo)).take (HT.sIx xs.length xs.length hi - HT.sIx xs.length 0 lo)
theorem cutA_map {f : α → β} {xs : List α} {lo hi : Option Int} : cutA (xs.map f) lo hi = (cutA xs lo hi).map f := by
  unfold cutA
  rw [List.length_map, List.map_take, List.map_drop]
theorem cutA_len {xs : List α} {lo hi : Option Int} : (cutA xs lo hi).length ≤ xs.length := by
  unfold cutA
  rw [List.length_take, List.length_drop]
  omega
theorem DqAll.cut {H : Hp} {ws : List V} {lo hi : Option Int} (a : DqAll H ws ds) : DqAll H (cutV ws lo hi) (cutA ds lo hi) := by
  unfold cutV cutA
  rw [a.len]
  exact (a.drop _).take _
theorem eo_none : EO K tNoPart env none := fun F0 H0 F H σ E Q q => q F H (Fz.refl E.fh)
theorem eo_some {i : Int} (h : EX K te env (.int i)) : EO K (tPart te) env (some i) := fun F0 H0 F H σ E Q q => h E _ fun v F1 H1 z1 hv => by
  cases hv
  exact ⟨i, rfl, q F1 H1 z1⟩
theorem exw_slSc {tl th : TO} {lo hi : Option Int} {e : α → PyData} {xs : List α} {i : Nat} (h : env[i]? = some (.sc (xs.map e))) (hl : EO K tl env lo) (hh : EO K th env hi) : EXw K (tSl (rSlL K) (tVar i) tl th) env ((cutA xs lo hi).map e) := fun F0 H0 F H σ E Q q => by
  obtain ⟨o, h1, p, vs, h2, h3, h4, h5⟩ := E.sl i _ h
  subst h2
  refine ⟨_, h1, hl E _ fun F2 H2 z2 => hh (E.step z2) _ fun F3 H3 z3 => ?_⟩
  have z := z2.trans z3
  refine ⟨p, vs, rfl, sq_mono z.fh (sq_mono z.f h3), fun r hr => q r _ F3 _ (z.trans (Fz.add z.fh hr)) (z.hn hr) (Evl.fresh_back z.fh hr) upd_same ?_ ?_⟩
  · rw [← cutA_map]; exact (DqAll.mono z.f _ _ h4).cut
  · rw [← cutA_map]; exact Nat.le_trans cutA_len h5
theorem exw_listRg1 {n : Int} (h : EX K ta env (.int n)) (hn : rngOk n) : EXw K (tLstRg (tRg1 ta)) env ((rng 0 n).map PyData.int) := fun F0 H0 F H σ E Q q => h E _ fun v F1 H1 z1 hv => by
  cases hv
  have l := rng_lim (m := 0) (by decide) hn
  have e : rgV 0 n = (rng 0 n).map V.int := by unfold rgV rng; rw [List.map_map]; rfl
  unfold rngOk at hn
  refine ⟨n, rfl, ⟨by omega, by omega, by omega, by omega, by omega⟩, fun r hr => q r _ F1 _ (z1.trans (Fz.add z1.fh hr)) (z1.hn hr) (Evl.fresh_back z1.fh hr) upd_same ?_ l⟩
  rw [e]
  exact DqAll.ints' _
end
end Rb

set_option Elab.async false
set_option linter.all false
set_option maxRecDepth 100000
set_option maxHeartbeats 2000000
namespace Rb
open PySem PySem.Spec PyProof.Rows L2
abbrev eL {α : Type} (e : α → PyData) (xs : List α) : PyData := .list (xs.map e)
abbrev eT {α : Type} (e : α → PyData) (xs : List α) : PyData := .tuple (xs.map e)
abbrev eN (_ : Unit) : PyData := .none
abbrev eP {α β : Type} (e : α → PyData) (f : β → PyData) (x : α × β) : PyData := .tuple [e x.1, f x.2]
def eO {α : Type} (e : α → PyData) : Option α → PyData
  | none => .none
  | some x => e x
def grd (p : Prop) [Decidable p] : Option Unit := if p then some () else none
theorem grd_ok {p : Prop} [Decidable p] {u : Unit} (h : grd p = some u) : p := by
  unfold grd at h
  by_cases c : p
  · exact c
  · rw [if_neg c] at h; cases h
theorem grd_true {p : Prop} [Decidable p] (h : p) : grd p = some () := by unfold grd; rw [if_pos h]
instance (i j : Int) : Decidable (CMul i j) := inferInstanceAs (Decidable (_ ∨ _))
instance (i j : Int) : Decidable (CDivW i j) := inferInstanceAs (Decidable (_ ∧ _))
instance (i j : Int) : Decidable (CPow i j) := inferInstanceAs (Decidable (_ ∧ _))
section
variable {K : Frag} {env env' env1 env2 : List Sl} {d : PyData} {ds es : List PyData} {g : TG} {gs : TGs} {vs : List Nat} {te ti ta tb tl : TE} {wi : TI} {α β S R O O1 : Type} {tt : TT} {ts tu tw : TS} {enc : O → Out} {enc1 : O1 → Out} {m n : Option O} {m1 : Option O1}
theorem compM_pure {t : α → Bool} {f : α → β} : ∀ xs : List α, compM (fun x => some (t x)) (fun x => some (f x)) xs = some ((xs.filter t).map f)
  | [] => rfl
  | x :: xs => by
    unfold compM
    rw [compM_pure xs]
    show (if t x = true then _ else _) = _
    cases h : t x
    · rw [if_neg Bool.false_ne_true, List.filter_cons_of_neg (by rw [h]; exact Bool.false_ne_true)]
    · rw [if_pos rfl, List.filter_cons_of_pos h]; rfl
theorem compM_map {f : α → β} : ∀ xs : List α, compM (fun _ => some true) (fun x => some (f x)) xs = some (xs.map f)
  | [] => rfl
  | x :: xs => by
    unfold compM
    rw [compM_map xs]
    rfl
theorem exw_lcp {e : α → PyData} {e' : β → PyData} {t : α → Bool} {f : α → β} {xs : List α} {envB : α → List Sl} (hi : EI K wi env (xs.map e)) (hg : ∀ x, x ∈ xs → EGc K g (wipeE env vs) (e x) (envB x) vs)
    (ht : ∀ x, x ∈ xs → ET K tt (envB x) (t x)) (he : ∀ x, x ∈ xs → EX K te (envB x) (e' (f x))) : EXw K (tLc wi g tt te vs) env (((xs.filter t).map f).map e') :=
  exw_lc (t := fun x => some (t x)) (f := fun x => some (f x)) hi (compM_pure xs) hg (fun x h => eto_some (ht x h)) (fun x h => exo_some (e := e') (he x h))
theorem et_yes : ET K tYes env true := fun F0 H0 F H σ E Q q => q F H (Fz.refl E.fh)
theorem exw_lcm {e : α → PyData} {e' : β → PyData} {f : α → β} {xs : List α} {envB : α → List Sl} (hi : EI K wi env (xs.map e)) (hg : ∀ x, x ∈ xs → EGc K g (wipeE env vs) (e x) (envB x) vs)
    (he : ∀ x, x ∈ xs → EX K te (envB x) (e' (f x))) : EXw K (tLc wi g tYes te vs) env ((xs.map f).map e') :=
  exw_lc (t := fun x => some true) (f := fun x => some (f x)) hi (compM_map xs) hg (fun x h => eto_some et_yes) (fun x h => exo_some (e := e') (he x h))
def bindR (mm : Option (S ⊕ R)) (k : S → Option O) (g : R → O) : Option O := mm.bind fun x => match x with
  | .inl s => k s
  | .inr r => some (g r)
theorem bx_bindR {envS : S → List Sl} {encR : R → Out} {g : R → O} {mm : Option (S ⊕ R)} {k : S → Option O} (h1 : BX K ts env (encE envS encR) mm) (hg : ∀ r, enc (g r) = encR r) (hf : ∀ r e, encR r ≠ .nx e) (h2 : ∀ s, mm = some (.inl s) → BX K tu (envS s) enc (k s)) :
    BX K (tSeq ts tu) env enc (bindR mm k g) :=
  bx_seq h1 fun x e => by
    cases x with
    | inl s => exact .inl ⟨envS s, rfl, h2 s e⟩
    | inr r => exact .inr ⟨g r, rfl, hg r, hf r⟩
theorem bx_retS {o : O} {d : PyData} (h : EX K te env d) (he : enc o = .rt (.sh d)) : BX K (tSeq (tRet te) tu) env enc (some o) := fun o' ho F0 H0 F H σ D E c => bx_ret h he o' ho { D with nx := tu D } E (by
  cases ho
  rw [he] at c ⊢
  exact c)
theorem bx_retSW {o : O} {ds : List PyData} (h : EXw K te env ds) (he : enc o = .rt (.fr ds)) : BX K (tSeq (tRet te) tu) env enc (some o) := fun o' ho F0 H0 F H σ D E c => bx_retW h he o' ho { D with nx := tu D } E (by
  cases ho
  rw [he] at c ⊢
  exact c)
theorem bx_retO {o : O} {i : Nat} {ds : List PyData} (h : env[i]? = some (.ow ds)) (he : enc o = .rt (.fr ds)) : BX K (tSeq (tRet (tVar i)) tu) env enc (some o) := fun o' ho F0 H0 F H σ D E c => by
  cases ho
  rw [he] at c
  obtain ⟨o1, h1, p, vs, h2, h3, h4, h5, h6, h7⟩ := E.sl i _ h
  subst h2
  exact ⟨_, h1, c F H p vs E.z h3 h4 h5 h6 h7⟩
theorem bx_last (h : BX K ts env enc m) : BX K (tSeq ts tNext) env enc m := h
theorem bx_ifPopNe {e : α → PyData} {i : Nat} {xs ys : List α} {x : Int} {y : Int} {xs' : List Int} (hi : env[i]? = some (.ow (xs'.map PyData.int))) {ys' : List Int} (hy : pop? xs' = some (x, ys')) (he : EX K te (env.set i (.ow (ys'.map PyData.int))) (.int y))
    (h1 : BX K ts (env.set i (.ow (ys'.map PyData.int))) enc m) (h2 : BX K tu (env.set i (.ow (ys'.map PyData.int))) enc n) : BX K (tIfS (tTest (tOp rNe (tBM0 K "list" rPop (tVar i)) te)) ts tu) env enc (if (!decide (x = y)) = true then m else n) := fun o ho F0 H0 F H σ D E c =>
  s_pop hi hy E fun v H' E' hv => he E' _ fun w F2 H2 z2 hw => by
    cases hv; cases hw
    have e : decide (V.int x = V.int y) = decide (x = y) := by
      by_cases c : x = y
      · rw [decide_eq_true c, c, decide_eq_true rfl]
      · rw [decide_eq_false c, decide_eq_false fun z => c (V.int.inj z)]
    refine ⟨rfl, _, rfl, ?_⟩
    rw [e]
    cases q : (!decide (x = y)) with
    | true => rw [q] at ho; exact h1 o ho D (E'.step z2) c
    | false => rw [q] at ho; exact h2 o ho D (E'.step z2) c
end
structure Fn (P : Program) (w : World) (K : Frag) (mg : Str → Option Value) (base : Heap) (x : Str) (k : Nat) (I : List PyData → Rv → Prop) : Prop where
  ex : ∃ f fd ps, FnOk P w K mg base CX0 k f fd ps (Prom I) ∧ mg x = some (.ref f) ∧ PySem.W.keepIn K (.ref f) = true ∧ Binds K fd ps []
theorem pe_fn {X : Cx} {x : Str} {k : Nat} {I : List PyData → Rv → Prop} {e : Expr} {es : List Expr} {t : TA} {p pos : Pos} (G : Fn X.prog X.w X.K X.mg X.base x k I) (hr : Room k X.A) (hg : Gl X x) (ha : PA X (e :: es) t)
    (hs : starEach (e :: es) X.env = (false, eval e X.env) :: starEach es X.env := by rfl) (hpl : (backTo pos (starEach es X.env)).any (·.1) = false := by rfl) (hd : (x == ("__debug__" : Str)) = false := by decide) : PE X (.Call (.Name x p) (e :: es) [] pos) (tCall (Prom I) [] E0 t) := by
  obtain ⟨f, fd, ps, F, hm, hk, hb⟩ := G.ex
  exact pe_call F hr hg hm hk hb .nil pass0 ha hd hs hpl
theorem pe_const {X : Cx} {x : Str} {i : Int} {pos : Pos} (hg : Gl X x) (h : ∃ t, X.mg x = some (.int i t)) (hd : (x == ("__debug__" : Str)) = false := by decide) : PE X (.Name x pos) (tC (.int i)) := by
  obtain ⟨t, h⟩ := h
  exact pe_glob hg h ⟨t, rfl⟩ hd
section
variable {X : Cx} {K : Frag} {tg e e2 l : Expr} {ta tl te : TE} {tA : TA}
theorem ix_listK (h : X.K = K := by rfl) : IxR X (rIxL K) := by subst h; exact ix_list
theorem ix_tupK (h : X.K = K := by rfl) : IxR X (rIxT K) := by subst h; exact ix_tup
theorem call_lenK (h : X.K = K := by rfl) : CallR X (.builtin "len") (fun xs H Q => ∃ x n, xs = [x] ∧ LenV K x H n ∧ Q (.int n) H) := by subst h; exact call_len
theorem call_listK (h : X.K = K := by rfl) : CallR X (.type "list") (fun xs H Q => ∃ p ys, xs = [.ref p] ∧ (SqL K H p ys ∨ SqT K H p ys) ∧ ∀ l, H l = none → Q (.ref l) (upd H l (.lst ys))) := by subst h; exact call_list_of
theorem call_tupleK (h : X.K = K := by rfl) : CallR X (.type "tuple") (fun xs H Q => ∃ p ys, xs = [.ref p] ∧ ((SqL K H p ys ∧ ∀ l, H l = none → Q (.ref l) (upd H l (.tup ys))) ∨ (SqT K H p ys ∧ Q (.ref p) H))) := by subst h; exact call_tuple_of
theorem cr_sumK (hc : X.calm = true) (h : X.K = K := by rfl) : CallR X (.builtin "sum") (rSum K) := by subst h; exact cr_sum hc
theorem cr_allK (hc : X.calm = true) (h : X.K = K := by rfl) : CallR X (.builtin "all") (rAll K) := by subst h; exact cr_all hc
theorem sl_listK (h : X.K = K := by rfl) : SlR X (rSlL K) := by subst h; exact sl_list
theorem pi_listK (hl : PE X l tl) (h : X.K = K := by rfl) : PI X tg l (iList K tl) := by subst h; exact pi_list hl
theorem pi_tupK (hl : PE X l tl) (h : X.K = K := by rfl) : PI X tg l (iTup K tl) := by subst h; exact pi_tup hl
theorem pg_tupK {pos : Pos} {es : List Expr} {k : Nat} {t : TGs} {n : Nat} (hc : X.calm = true) (hh : PGs X es t) (hn : (assignEach es X.env).length = n := by rfl) (hst : (assignEach es X.env).findIdx? (·.1) = none := by rfl) (h : X.K = K := by rfl) : PG X (.Tuple es k pos) (gTup K n t) := by
  subst h; exact pg_tup hc hh hn hst
theorem pi_enumK {p pos tpos : Pos} {elts : List Expr} {kk : Nat} (hg : Gl X "enumerate") (hm : X.mg "enumerate" = none) (ha : PA X [e] tA) (hs : starEach [e] X.env = [(false, eval e X.env)] := by rfl) (h : X.K = K := by rfl) :
    PI X (.Tuple elts kk tpos) (.Call (.Name "enumerate" p) [e] [] pos) (iEnum K tA) := by subst h; exact pi_enum hg hm ha hs
end
end Rb

set_option Elab.async false
set_option linter.all false
set_option maxRecDepth 100000
set_option maxHeartbeats 2000000
namespace Rb
open PySem PySem.Spec PyProof.Rows L2
structure EnOk {α : Type} [DecidableEq α] (e : α → PyData) (n : Nat) : Prop where
  lay : ∀ x, (e x).canLay0 = true
  dep : ∀ x, (e x).depth ≤ n
  eq : ∀ x y, PyData.eqv (e x) (e y) = decide (x = y)
theorem beq_dec {α : Type} [BEq α] [LawfulBEq α] [DecidableEq α] (x y : α) : (x == y) = decide (x = y) := by
  by_cases c : x = y
  · subst c; simp
  · rw [decide_eq_false c]; simpa using c
theorem EnOk.int : EnOk PyData.int 0 := ⟨fun x => rfl, fun x => Nat.le_refl _, fun x y => by
  show (x == y) = _
  exact beq_dec x y⟩
theorem EnOk.bool : EnOk PyData.bool 0 := ⟨fun x => rfl, fun x => Nat.le_refl _, fun x y => by
  show (x == y) = _
  exact beq_dec x y⟩
section
variable {α β γ δ : Type} [DecidableEq α] [DecidableEq β] [DecidableEq γ] [DecidableEq δ] {e : α → PyData} {f : β → PyData} {g : γ → PyData} {k : δ → PyData} {n m l j : Nat}
theorem EnOk.layAll (h : EnOk e n) : ∀ xs : List α, PyData.canLayAll0 (xs.map e) = true
  | [] => rfl
  | x :: xs => by
    rw [List.map_cons]
    show (PyData.canLay0 (e x) && PyData.canLayAll0 (xs.map e)) = true
    rw [h.lay, h.layAll xs]; rfl
theorem EnOk.depAll (h : EnOk e n) : ∀ xs : List α, PyData.depthAll (xs.map e) ≤ n
  | [] => Nat.zero_le _
  | x :: xs => by
    rw [List.map_cons]
    show max (PyData.depth (e x)) (PyData.depthAll (xs.map e)) ≤ n
    exact Nat.max_le.mpr ⟨h.dep x, h.depAll xs⟩
theorem EnOk.eqAll (h : EnOk e n) : ∀ xs ys : List α, PyData.eqvAll (xs.map e) (ys.map e) = decide (xs = ys)
  | [], [] => rfl
  | [], y :: ys => rfl
  | x :: xs, [] => rfl
  | x :: xs, y :: ys => by
    rw [List.map_cons, List.map_cons]
    show (PyData.eqv (e x) (e y) && PyData.eqvAll (xs.map e) (ys.map e)) = _
    rw [h.eq, h.eqAll xs ys]
    by_cases c : x = y
    · by_cases c2 : xs = ys
      · subst c; subst c2; simp
      · simp [c, c2]
    · simp [c]
theorem EnOk.list (h : EnOk e n) : EnOk (eL e) (n + 1) := ⟨fun x => h.layAll x, fun x => Nat.succ_le_succ (h.depAll x), fun x y => h.eqAll x y⟩
theorem EnOk.tup (h : EnOk e n) : EnOk (eT e) (n + 1) := ⟨fun x => h.layAll x, fun x => Nat.succ_le_succ (h.depAll x), fun x y => h.eqAll x y⟩
end
section
variable {K : Frag} {env env' env1 env2 : List Sl} {d d' : PyData} {ds es : List PyData} {g : TG} {gs : TGs} {vs : List Nat} {te ti ta tb tl tc : TE} {wi : TI} {α β S R O O1 : Type} {tt : TT} {ts tu tw : TS} {enc : O → Out} {enc1 : O1 → Out} {m n : Option O} {m1 : Option O1}
theorem ex_is (h : EX K te env d) (e : d = d') : EX K te env d' := by rw [← e]; exact h
theorem exw_catT {e : α → PyData} {xs ys : List α} (ha : EXl K ta env (xs.map e)) (hb : EXl K tb env (ys.map e)) (hl : (xs ++ ys).length ≤ lim) : EXw K (tOp rCat ta tb) env ((xs ++ ys).map e) := by
  rw [List.map_append]
  exact exw_cat ha hb (by rw [← List.map_append, List.length_map]; exact hl)
def set? (xs : List α) (i : Int) (x : α) : Option (List α) := (ixN xs.length i).map fun j => xs.set j x
theorem eg_setI {e : α → PyData} {k : Nat} {xs ys : List α} {x : α} {i : Int} (hk : env[k]? = some (.ow (xs.map e))) (hi : EX K ti env (.int i)) (h : set? xs i x = some ys) : EG K (gSub (tVar k) ti rSetL) env (e x) (env.set k (.ow (ys.map e))) := by
  unfold set? at h
  obtain ⟨j, h1, h2⟩ := Option.map_eq_some_iff.mp h
  subst h2
  refine eg_sub (j := j) hk hi (by rw [List.length_map]; exact h1) ?_
  rw [List.map_set]
theorem bx_asgB {e : α → PyData} {i : Nat} {x : α} {k : α → Option O} (he : EX K te env (e x)) (h : ∀ v, BX K tu (env.set i (.sh (e v))) enc (k v)) : BX K (tSeq (tAsg te (gName i)) tu) env enc (Option.bind (some x) k) :=
  bx_asg he (EGc.eg (egc_name (i := i) (vs := [i]) List.mem_cons_self)) (h x)
theorem bx_asgWB {e : α → PyData} {i : Nat} {x : List α} {k : List α → Option O} (he : EXw K te env (x.map e)) (h : ∀ v, BX K tu (env.set i (.ow (v.map e))) enc (k v)) : BX K (tSeq (tAsg te (gName i)) tu) env enc (Option.bind (some x) k) := bx_asgW he (h x)
theorem bx_ifRetM {encR : R → Out} {g : R → O} {mr : Option R} {b : Bool} (ht : ET K tt env b) (h1 : b = true → BX K ts env encR mr) (hf : ∀ r e, encR r ≠ .nx e) (hg : ∀ r, enc (g r) = encR r) (h2 : b = false → BX K tu env enc n) : BX K (tSeq (tIfS tt ts tNext) tu) env enc (if b = true then mr.map g else n) := fun o ho F0 H0 F H σ D E c =>
  ht E _ fun F1 H1 z1 => by
    cases b with
    | true =>
      obtain ⟨r, e1, e2⟩ := Option.map_eq_some_iff.mp ho
      subst e2
      rw [hg] at c
      refine h1 rfl r e1 { D with nx := tu D } (E.step z1) ?_
      cases q : encR r with
      | nx e => exact absurd q (hf r e)
      | bk e => rw [q] at c; exact c
      | ct e => rw [q] at c; exact c
      | rt r => rw [q] at c; exact c
      | ex e x W => rw [q] at c; exact c
      | re e t => rw [q] at c; exact c
    | false => exact h2 rfl o ho D (E.step z1) c
def spLaw (K : Frag) : Sp := fun vs H Q _ => ∃ (a : Addr) (ns : List Int), vs = [.ref a] ∧ SqL K H a (ns.map V.int) ∧ ns.length ≤ 63 ∧ ∀ H', Q (.bl true) H'
theorem law_ok {P : Program} {w : World} {mg : Str → Option Value} {base : Heap} {x qual : Str} {params : Arguments} {body : List Stmt} {scope : Scope} {f : Addr} {fd : FuncData} {N : List Str} {x0 : Str} {k : Nat} {fm : List Int → Option Bool}
    (F : FunD K x qual params body scope [] [] f fd) (S : FnScope N [x0] scope)
    (hb : ∀ (cdv : Value) (A' : Around) (outer : List Env) (s : Shared) (H : Hp) (E : XK), Room k (A'.deeper (envOfC qual scope s.heap.objs.size f cdv)) →
      ∃ t, PSs (cxOf CX0 P w K mg base N qual scope f cdv A' outer s H E).nox body t ∧ ∀ ns, BX K t (.sc (ns.map PyData.int) :: List.replicate (N.length - 1) .un) (fun b : Bool => .rt (.sh (.bool b))) (fm ns))
    (ht : ∀ ns : List Int, ns.length ≤ 63 → fm ns = some true) : FnOk P w K mg base CX0 (k + 1) f fd [x0] (spLaw K) := by
  refine F.ok S (fun vs H Q E h => ?_) (fun cdv A' outer s H vs Q E hr h => ?_)
  · obtain ⟨a, ns, rfl, _⟩ := h
    rfl
  · obtain ⟨a, ns, rfl, hS, hl, q⟩ := h
    obtain ⟨t, p, b⟩ := hb cdv A' outer s H E hr
    refine ⟨t, PSs.nox p, b ns true (ht ns hl) (F0 := H) (H0 := H) (F := H) (H := H) _ (EnvOk.flat (Fz.refl (Evl.Ex.refl H)) ?_ fun i sl h => ?_) ?_⟩
    · show _ = _
      unfold L2.start
      simp only [List.length_append, List.length_map, List.length_cons, List.length_nil, List.length_replicate]
      omega
    · unfold L2.start
      cases i with
      | zero =>
        simp at h
        subst h
        refine ⟨_, rfl, ⟨a, _, rfl, hS, DqAll.ints' ns, ?_⟩, rfl⟩
        rw [List.length_map]
        exact Nat.le_trans hl (by decide)
      | succ i =>
        rw [List.getElem?_cons_succ] at h
        obtain ⟨h1, h2⟩ := List.getElem?_eq_some_iff.mp h
        rw [List.getElem_replicate] at h2
        subst h2
        rw [List.length_replicate] at h1
        refine ⟨none, ?_, trivial, rfl⟩
        show (some (V.ref a) :: List.replicate (N.length - 1) none)[i + 1]? = _
        rw [List.getElem?_cons_succ, List.getElem?_replicate, if_pos h1]
    · exact fun F1 H1 v z hv => by
        cases hv
        exact q H1
end
end Rb

set_option Elab.async false
set_option linter.all false
set_option maxRecDepth 100000
set_option maxHeartbeats 2000000
namespace Rb
open PySem PySem.Spec PyProof.Rows L2
section
variable {κ β γ : Type} [DecidableEq κ]
def lookA (kvs : List (κ × β)) (k : κ) : Option β := (kvs.find? fun kv => decide (kv.1 = k)).map (·.2)
def putA (kvs : List (κ × β)) (k : κ) (v : β) : List (κ × β) := if (kvs.any fun kv => decide (kv.1 = k)) = true then kvs.map (fun kv => if kv.1 = k then (kv.1, v) else kv) else kvs ++ [(k, v)]
theorem lookA_cons {p : κ × β} {r : List (κ × β)} {k : κ} : lookA (p :: r) k = if p.1 = k then some p.2 else lookA r k := by
  unfold lookA
  rw [List.find?_cons]
  by_cases c : p.1 = k
  · simp [c]
  · simp [c]
theorem putA_len {kvs : List (κ × β)} {k : κ} {v : β} : (putA kvs k v).length ≤ kvs.length + 1 := by
  unfold putA
  split
  · rw [List.length_map]; omega
  · rw [List.length_append]; simp
theorem KvOk.look {F : Hp} : ∀ {ws : List (κ × V)} {kvs : List (κ × PyData)} {k : κ} {d : PyData}, KvOk F ws kvs → lookA kvs k = some d → ∃ v, valV ws k = some v ∧ Dq F v d
  | [], [], k, d, _, h => by cases h
  | [], _ :: _, _, _, h, _ => by have := h.1; simp at this
  | _ :: _, [], _, _, h, _ => by have := h.1; simp at this
  | p :: ws, q :: kvs, k, d, h, hl => by
    obtain ⟨h1, h2⟩ := h
    rw [List.map_cons, List.map_cons] at h1 h2
    injection h1 with e1 e2
    cases h2 with
    | cons a b =>
      rw [lookA_cons] at hl
      by_cases c : q.1 = k
      · rw [if_pos c] at hl; cases hl
        exact ⟨p.2, valV_pos (e1.trans c), a⟩
      · rw [if_neg c] at hl
        obtain ⟨v, h3, h4⟩ := KvOk.look (ws := ws) (kvs := kvs) ⟨e2, b⟩ hl
        exact ⟨v, by rw [valV_neg (by rw [e1]; exact c)]; exact h3, h4⟩
theorem KvOk.none {F : Hp} : ∀ {ws : List (κ × V)} {kvs : List (κ × PyData)} {k : κ}, KvOk F ws kvs → lookA kvs k = none → valV ws k = none
  | [], [], k, _, h => rfl
  | [], _ :: _, _, h, _ => by have := h.1; simp at this
  | _ :: _, [], _, h, _ => by have := h.1; simp at this
  | p :: ws, q :: kvs, k, h, hl => by
    obtain ⟨h1, h2⟩ := h
    rw [List.map_cons, List.map_cons] at h1 h2
    injection h1 with e1 e2
    cases h2 with
    | cons a b =>
      rw [lookA_cons] at hl
      by_cases c : q.1 = k
      · rw [if_pos c] at hl; cases hl
      · rw [if_neg c] at hl
        rw [valV_neg (by rw [e1]; exact c)]
        exact KvOk.none (ws := ws) (kvs := kvs) ⟨e2, b⟩ hl
theorem any_keys : ∀ {ws : List (κ × V)} {kvs : List (κ × PyData)} {k : κ}, ws.map (·.1) = kvs.map (·.1) → (ws.any fun kv => decide (kv.1 = k)) = (kvs.any fun kv => decide (kv.1 = k))
  | [], [], k, _ => rfl
  | [], _ :: _, _, h => by simp at h
  | _ :: _, [], _, h => by simp at h
  | p :: ws, q :: kvs, k, h => by
    rw [List.map_cons, List.map_cons] at h
    injection h with e1 e2
    rw [List.any_cons, List.any_cons, any_keys e2, e1]
theorem map_put {F : Hp} {v : V} {d : PyData} (hv : Dq F v d) (k : κ) : ∀ {ws : List (κ × V)} {kvs : List (κ × PyData)}, KvOk F ws kvs → KvOk F (ws.map fun kv => if kv.1 = k then (kv.1, v) else kv) (kvs.map fun kv => if kv.1 = k then (kv.1, d) else kv)
  | [], [], h => h
  | [], _ :: _, h => by have := h.1; simp at this
  | _ :: _, [], h => by have := h.1; simp at this
  | p :: ws, q :: kvs, h => by
    obtain ⟨h1, h2⟩ := h
    rw [List.map_cons, List.map_cons] at h1 h2
    injection h1 with e1 e2
    cases h2 with
    | cons a b =>
      obtain ⟨i1, i2⟩ := map_put hv k (ws := ws) (kvs := kvs) ⟨e2, b⟩
      refine ⟨?_, ?_⟩
      · simp only [List.map_cons]
        rw [i1]
        congr 1
        by_cases c : q.1 = k
        · rw [if_pos c, if_pos (by rw [e1]; exact c)]; exact e1
        · rw [if_neg c, if_neg (by rw [e1]; exact c)]; exact e1
      · simp only [List.map_cons]
        refine .cons ?_ i2
        by_cases c : q.1 = k
        · rw [if_pos c, if_pos (by rw [e1]; exact c)]; exact hv
        · rw [if_neg c, if_neg (by rw [e1]; exact c)]; exact a
theorem KvOk.put {F : Hp} {ws : List (κ × V)} {kvs : List (κ × PyData)} {k : κ} {v : V} {d : PyData} (h : KvOk F ws kvs) (hv : Dq F v d) : KvOk F (putK ws k v) (putA kvs k d) := by
  unfold putK putA
  rw [any_keys h.1]
  split
  · exact map_put hv k h
  · refine ⟨?_, ?_⟩
    · rw [List.map_append, List.map_append, h.1]; rfl
    · rw [List.map_append, List.map_append]; exact h.2.app (.cons hv .nil)
theorem KvOk.len {F : Hp} {ws : List (κ × V)} {kvs : List (κ × PyData)} (h : KvOk F ws kvs) : ws.length = kvs.length := by
  have := congrArg List.length h.1
  rw [List.length_map, List.length_map] at this
  exact this
def kvE {α : Type} (kf : α → κ) (e : β → γ) (p : α × β) : κ × γ := (kf p.1, e p.2)
theorem lookA_map {α : Type} [DecidableEq α] {kf : α → κ} (inj : ∀ a b, kf a = kf b → a = b) {e : β → γ} {k : α} : ∀ {xs : List (α × β)}, lookA (xs.map (kvE kf e)) (kf k) = (lookA xs k).map e
  | [] => rfl
  | p :: xs => by
    rw [List.map_cons, lookA_cons, lookA_cons]
    show (if kf p.1 = kf k then some (e p.2) else _) = _
    by_cases c : p.1 = k
    · rw [if_pos c, if_pos (by rw [c])]; rfl
    · rw [if_neg c, if_neg fun z => c (inj _ _ z), lookA_map inj]
theorem any_map {α : Type} [DecidableEq α] {kf : α → κ} (inj : ∀ a b, kf a = kf b → a = b) {e : β → γ} {k : α} : ∀ {xs : List (α × β)}, ((xs.map (kvE kf e)).any fun kv => decide (kv.1 = kf k)) = (xs.any fun kv => decide (kv.1 = k))
  | [] => rfl
  | p :: xs => by
    rw [List.map_cons, List.any_cons, List.any_cons, any_map inj]
    congr 1
    show decide (kf p.1 = kf k) = _
    by_cases c : p.1 = k
    · simp [c]
    · have : ¬ kf p.1 = kf k := fun z => c (inj _ _ z)
      simp [c, this]
theorem putA_map {α : Type} [DecidableEq α] {kf : α → κ} (inj : ∀ a b, kf a = kf b → a = b) {e : β → γ} {k : α} {x : β} {xs : List (α × β)} : putA (xs.map (kvE kf e)) (kf k) (e x) = (putA xs k x).map (kvE kf e) := by
  unfold putA
  rw [any_map inj]
  split
  · rw [List.map_map, List.map_map]
    apply List.map_congr_left
    intro p hp
    show (if kf p.1 = kf k then (kf p.1, e x) else (kf p.1, e p.2)) = kvE kf e (if p.1 = k then (p.1, x) else p)
    by_cases c : p.1 = k
    · rw [if_pos c, if_pos (by rw [c])]; rfl
    · rw [if_neg c, if_neg fun z => c (inj _ _ z)]; rfl
  · rw [List.map_append]; rfl
end
theorem kD_V {F : Hp} {k : Key} {v : V} (h : Dq F v (kD k)) : v = kV k := by
  cases k with
  | inl i => cases h; rfl
  | inr s => cases h; rfl
theorem kD_all {F : Hp} : ∀ {ks : List Key} {vs : List V}, DqAll F vs (ks.map kD) → vs = ks.map kV
  | [], _, h => by cases h; rfl
  | k :: ks, _, h => by
    cases h with
    | cons a b => rw [List.map_cons, kD_V a, kD_all b]
abbrev kI (i : Int) : Key := .inl i
abbrev kT (xs : List Int) : List Key := xs.map Sum.inl
abbrev kP (p : Str × Int) : List Key := [.inr p.1, .inl p.2]
theorem kI_inj (a b : Int) (h : kI a = kI b) : a = b := Sum.inl.inj h
theorem kT_inj : ∀ (a b : List Int) (h : kT a = kT b), a = b
  | [], [], _ => rfl
  | [], _ :: _, h => by cases h
  | _ :: _, [], h => by cases h
  | x :: a, y :: b, h => by
    have h' : Sum.inl x :: kT a = (Sum.inl y :: kT b : List Key) := h
    injection h' with h1 h2
    rw [Sum.inl.inj h1, kT_inj a b h2]
theorem kP_inj (a b : Str × Int) (h : kP a = kP b) : a = b := by
  obtain ⟨a1, a2⟩ := a
  obtain ⟨b1, b2⟩ := b
  have h' : [Sum.inr a1, Sum.inl a2] = ([Sum.inr b1, Sum.inl b2] : List Key) := h
  injection h' with h1 h2
  injection h2 with h3 _
  rw [Sum.inr.inj h1, Sum.inl.inj h3]
def put? {κ β : Type} [DecidableEq κ] (d : List (κ × β)) (k : κ) (v : β) : Option (List (κ × β)) := if d.length < lim then some (putA d k v) else none
theorem put_some {κ β : Type} [DecidableEq κ] {d d' : List (κ × β)} {k : κ} {v : β} (h : put? d k v = some d') : d.length < lim ∧ d' = putA d k v := by
  unfold put? at h
  by_cases c : d.length < lim
  · rw [if_pos c] at h; cases h; exact ⟨c, rfl⟩
  · rw [if_neg c] at h; cases h
section
variable {K : Frag} {env env' : List Sl} {d : PyData} {te ty ta tb tv : TE} {α β O : Type} [DecidableEq α] {tu : TS} {enc : O → Out} {m : Option O} {i : Nat} {e : β → PyData}
theorem bx_newK {kf : α → Key} (h : BX K tu (env.set i (.dk (([] : List (α × β)).map (kvE kf e)))) enc m) : BX K (tSeq (tAsg tDNewK (gName i)) tu) env enc m := fun o ho F0 H0 F H σ D E c p hp =>
  h o ho D (E.setO (Fz.add E.fh hp) i hp (s := .dk _) ⟨p, [], rfl, E.z.hn hp, Evl.fresh_back E.fh hp, upd_same, ⟨rfl, .nil⟩, Nat.zero_le _, fun p m => by cases m⟩) c
theorem bx_newT {kf : α → List Key} (h : BX K tu (env.set i (.dt (([] : List (α × β)).map (kvE kf e)))) enc m) : BX K (tSeq (tAsg tDNewT (gName i)) tu) env enc m := fun o ho F0 H0 F H σ D E c p hp =>
  h o ho D (E.setO (Fz.add E.fh hp) i hp (s := .dt _) ⟨p, [], rfl, E.z.hn hp, Evl.fresh_back E.fh hp, upd_same, ⟨rfl, .nil⟩, Nat.zero_le _, fun p m => by cases m⟩) c
theorem ex_dgetK {kf : α → Key} (inj : ∀ a b, kf a = kf b → a = b) {xs : List (α × β)} {k : α} {x : β} (hi : env[i]? = some (.dk (xs.map (kvE kf e)))) (hk : EX K ty env (kD (kf k))) (hx : lookA xs k = some x) : EX K (tDGet (tVar i) ty) env (e x) := fun F0 H0 F H σ E Q q => by
  obtain ⟨o, h1, p, ws, h2, h3, h4, h5, h6, h7⟩ := E.sl i _ hi
  subst h2
  refine ⟨_, h1, hk E _ fun w F1 H1 z1 hw => ?_⟩
  obtain ⟨f1, hh1⟩ := z1.own p _ h5 h4
  have hl : lookA (xs.map (kvE kf e)) (kf k) = some (e x) := by rw [lookA_map inj, hx]; rfl
  obtain ⟨v, hv1, hv2⟩ := (h6.mono z1.f).look hl
  rw [kD_V hw]
  refine ⟨p, v, rfl, ?_, q v F1 H1 z1 hv2⟩
  rw [← hv1]
  exact DGet.k hh1
theorem ex_dgetT {kf : α → List Key} (inj : ∀ a b, kf a = kf b → a = b) {xs : List (α × β)} {k : α} {x : β} (hi : env[i]? = some (.dt (xs.map (kvE kf e)))) (hk : EX K ty env (.tuple ((kf k).map kD))) (hx : lookA xs k = some x) : EX K (tDGet (tVar i) ty) env (e x) := fun F0 H0 F H σ E Q q => by
  obtain ⟨o, h1, p, ws, h2, h3, h4, h5, h6, h7⟩ := E.sl i _ hi
  subst h2
  refine ⟨_, h1, hk E _ fun w F1 H1 z1 hw => ?_⟩
  obtain ⟨f1, hh1⟩ := z1.own p _ h5 h4
  have hl : lookA (xs.map (kvE kf e)) (kf k) = some (e x) := by rw [lookA_map inj, hx]; rfl
  obtain ⟨v, hv1, hv2⟩ := (h6.mono z1.f).look hl
  cases hw with
  | tup t1 t2 t3 =>
    rw [kD_all t2] at t1
    refine ⟨p, v, rfl, ?_, q v F1 H1 z1 hv2⟩
    rw [← hv1]
    exact DGet.t hh1 (z1.fh _ _ t1)
theorem look_isSome {κ : Type} [DecidableEq κ] {F : Hp} {ws : List (κ × V)} {kvs : List (κ × PyData)} {k : κ} (h : KvOk F ws kvs) : (valV ws k).isSome = (lookA kvs k).isSome := by
  cases q : lookA kvs k with
  | none => rw [h.none q]; rfl
  | some d =>
    obtain ⟨v, h1, _⟩ := h.look q
    rw [h1]; rfl
theorem ex_dninK {kf : α → Key} (inj : ∀ a b, kf a = kf b → a = b) {xs : List (α × β)} {k : α} (hi : env[i]? = some (.dk (xs.map (kvE kf e)))) (hk : EX K ty env (kD (kf k))) : EX K (tDNotIn ty (tVar i)) env (.bool (!(lookA xs k).isSome)) := fun F0 H0 F H σ E Q q => by
  refine hk E _ fun w F1 H1 z1 hw => ?_
  obtain ⟨o, h1, p, ws, h2, h3, h4, h5, h6, h7⟩ := (E.step z1).sl i _ hi
  subst h2
  refine ⟨_, h1, p, _, rfl, by rw [kD_V hw]; exact DGet.k h5, ?_⟩
  have e1 : (valV ws (kf k)).isSome = (lookA xs k).isSome := by rw [look_isSome h6, lookA_map inj]; simp
  rw [e1]
  exact q _ F1 H1 z1 (.bl _)
theorem kOk_of {F : Hp} {k : Key} {v : V} (h : Dq F v (kD k)) : kOk k := by
  cases k with
  | inl i => trivial
  | inr s => cases h with | str _ l => exact l
theorem putA_ok {κ β : Type} [DecidableEq κ] {P : κ → Prop} {kvs : List (κ × β)} {k : κ} {v : β} (h : ∀ p, p ∈ kvs → P p.1) (hk : P k) : ∀ p, p ∈ putA kvs k v → P p.1 := fun p hp => by
  unfold putA at hp
  split at hp
  · obtain ⟨q, hq, e⟩ := List.mem_map.mp hp
    subst e
    split
    · exact h q hq
    · exact h q hq
  · rcases List.mem_append.mp hp with z | z
    · exact h p z
    · rw [List.mem_singleton.mp z]; exact hk
theorem bx_dputK {kf : α → Key} (inj : ∀ a b, kf a = kf b → a = b) {xs ys : List (α × β)} {k : α} {x : β} (hi : env[i]? = some (.dk (xs.map (kvE kf e)))) (hv : EX K tv env (e x)) (hk : EX K ty env (kD (kf k))) (hy : put? xs k x = some ys)
    (h : BX K tu (env.set i (.dk (ys.map (kvE kf e)))) enc m) : BX K (tSeq (sDPut (tVar i) ty tv) tu) env enc m := fun o ho F0 H0 F H σ D E c => by
  refine hv E _ fun v F1 H1 z1 hv1 => ?_
  have E1 := E.step z1
  obtain ⟨o1, h1, p, ws, h2, h3, h4, h5, h6, h7⟩ := E1.sl i _ hi
  subst h2
  refine ⟨_, h1, hk E1 _ fun w F2 H2 z2 hw => ?_⟩
  obtain ⟨f2, hh2⟩ := z2.own p _ h5 h4
  obtain ⟨hl, rfl⟩ := put_some hy
  have h6' := (h6.mono z2.f).put (k := kf k) (Dq.mono z2.f _ _ hv1)
  have ln : ws.length < lim := by rw [h6.len, List.length_map]; exact hl
  have ok := kOk_of hw
  rw [kD_V hw]
  refine ⟨p, _, rfl, DPut.k hh2 (lim_lt ln), h o ho D ((E1.step z2).mut hi rfl h1 (t := .dk _) ⟨p, _, rfl, h3, f2, upd_same, ?_, ?_⟩ rfl) c⟩
  · rw [← putA_map inj]; exact h6'
  · refine ⟨by rw [List.length_map]; exact Nat.le_trans putA_len hl, fun q hq => ?_⟩
    rw [← putA_map inj] at hq
    exact putA_ok h7.2 ok q hq
theorem bx_dputT {kf : α → List Key} (inj : ∀ a b, kf a = kf b → a = b) {xs ys : List (α × β)} {k : α} {x : β} (hi : env[i]? = some (.dt (xs.map (kvE kf e)))) (hv : EX K tv env (e x)) (hk : EX K ty env (.tuple ((kf k).map kD))) (hy : put? xs k x = some ys)
    (h : BX K tu (env.set i (.dt (ys.map (kvE kf e)))) enc m) : BX K (tSeq (sDPut (tVar i) ty tv) tu) env enc m := fun o ho F0 H0 F H σ D E c => by
  refine hv E _ fun v F1 H1 z1 hv1 => ?_
  have E1 := E.step z1
  obtain ⟨o1, h1, p, ws, h2, h3, h4, h5, h6, h7⟩ := E1.sl i _ hi
  subst h2
  refine ⟨_, h1, hk E1 _ fun w F2 H2 z2 hw => ?_⟩
  obtain ⟨f2, hh2⟩ := z2.own p _ h5 h4
  obtain ⟨hl, rfl⟩ := put_some hy
  have h6' := (h6.mono z2.f).put (k := kf k) (Dq.mono z2.f _ _ hv1)
  have ln : ws.length < lim := by rw [h6.len, List.length_map]; exact hl
  cases hw with
  | tup t1 t2 t3 =>
    rw [kD_all t2] at t1
    refine ⟨p, _, rfl, DPut.t hh2 (z2.fh _ _ t1) (lim_lt ln), h o ho D ((E1.step z2).mut hi rfl h1 (t := .dt _) ⟨p, _, rfl, h3, f2, upd_same, ?_, ?_⟩ rfl) c⟩
    · rw [← putA_map inj]; exact h6'
    · refine ⟨by rw [List.length_map]; exact Nat.le_trans putA_len hl, fun q hq => ?_⟩
      rw [← putA_map inj] at hq
      exact putA_ok (P := fun k => k.length ≤ lim) h7.2 (by rw [List.length_map] at t3; exact t3) q hq
end
end Rb

set_option Elab.async false
set_option linter.all false
set_option maxRecDepth 100000
set_option maxHeartbeats 2000000
namespace Rb
open PySem PySem.Spec PyProof.Rows L2
def IteT (K : Frag) (a : Addr) : It :=
  ⟨fun i H => ∃ (xs : List V) (x : V), SqT K H a xs ∧ xs[i]? = some x, fun i H v H' => ∃ T x, v = .ref T ∧ H T = none ∧ H' = upd H T (.tup [.int (i : Nat), x]) ∧ ∀ xs, SqT K H a xs → xs[i]? = some x, fun i H => ∃ xs : List V, SqT K H a xs ∧ xs.length = i⟩
theorem turn_enumT {P : Program} {w : World} {K : Frag} {elts : List Expr} {kk : Nat} {tpos : Pos} (a e it : Addr) :
    Turn P w K (.Tuple elts kk tpos) (IteT K a) [e, it] e (fun i h => (∃ old, IsEnum h e it ((i : Nat) : Int) old) ∧ h.IsTupleIter it a i ∧ e ≠ it ∧ a ≠ it ∧ a ≠ e) where
  mem := by simp
  obj := fun i h st b hb => by
    obtain ⟨⟨old, he⟩, ⟨o, ho, hc, hd⟩, _⟩ := st
    have e' : b = e ∨ b = it := by simpa using hb
    rcases e' with z | z
    · rw [z]; exact ⟨_, he, fun v q => nomatch q⟩
    · rw [z]; exact ⟨o, ho, fun v q => by rw [hd] at q; cases q⟩
  keep := fun i h h' st k => let ⟨⟨old, he⟩, hi, hne⟩ := st; ⟨⟨old, k e (by simp) _ he⟩, hi.at fun o q => k it (by simp) o q, hne⟩
  item := by
    intro X hP hw hK hc i pins s σ H E I hf st hg
    subst hP hw hK
    obtain ⟨⟨old, he⟩, hit, hne, na, nb⟩ := st
    obtain ⟨xs, x, hq, hx⟩ := hg
    obtain ⟨its, rv, p, hz⟩ := I.tuple hq
    obtain ⟨u, hu, ru⟩ := rv.get hx
    have p' : s.heap.IsTuple a its.toArray := p
    have hel : e < s.heap.objs.size := Heap.lt_size he
    have hil : it < s.heap.objs.size := by obtain ⟨_, q, _⟩ := hit; exact Heap.lt_size q
    have D := Draws.tuple (prog := X.prog) (w := X.w) (A := X.A.in1) (I.ok.hd hc) it a na its.toArray
    refine wpAny_pyNext_enum_itemD (n := its.toArray.size) D he (i := i) ⟨hit, p'⟩ (by have := (List.getElem?_eq_some_iff.mp hu).1; simpa using this) hne (by simp; exact ⟨hne, fun z => nb z.symm⟩) fun y h' tk hy ho hit' hT hsz hk => ?_
    have hyu : y = u := by
      have h1 : its.toArray[i]? = some y := hy
      have h2 : its.toArray[i]? = some u := by simpa using hu
      rw [h1] at h2; exact Option.some.inj h2
    subst hyu
    refine ⟨_, rfl, wpAny_letOwnedTupleGo_enum (s := { s with heap := h', toks := tk + 1 }) ho fun h'' he' sb => ?_⟩
    have hT2 : h''.get? s.heap.objs.size = some { cls := .type "tuple", data := .seq #[.int i tk, y] } := (sb.2 _ (Nat.ne_of_gt hel)).trans hT
    have new : ObjOk X.prog X.w (upd H s.heap.objs.size (.tup [.int (i : Nat), x])) h'' s.heap.objs.size (.tup [.int (i : Nat), x]) :=
      ⟨by show 2 ≤ sizeLine; decide, [.int i tk, y], .cons ⟨_, rfl⟩ (.cons ru .nil), ⟨_, hT2, rfl, _, rfl⟩⟩
    have I1 : Inv X pins σ (upd H s.heap.objs.size (.tup [.int (i : Nat), x])) { s with heap := h'', toks := tk + 1 } :=
      I.turnedNew (ch := [e, it]) (fun b ob hb q => (sb.2 b (fun z => hb (by simp [z]))).trans (hk b ob (fun z => hb (by simp [z])) (fun z => hb (by simp [z])) q)) hf (Nat.le_refl _) new
    refine ⟨.ref s.heap.objs.size, _, I1, rfl, ⟨_, x, rfl, I.hok.fresh (Nat.le_refl _), rfl, fun ys hy => by rw [I.tuple_inj hy hq]; exact hx⟩, ⟨⟨y, ?_⟩, hit'.1.at fun o q => (sb.2 it (Ne.symm hne)).trans q, hne, na, nb⟩, fun b hb => ?_⟩
    · have e1 : ((i + 1 : Nat) : Int) = (i : Int) + 1 := by omega
      rw [e1]; exact he'
    · have hb' : b < s.heap.objs.size := by
        have e' : b = e ∨ b = it := by simpa using hb
        rcases e' with z | z
        · rw [z]; exact hel
        · rw [z]; exact hil
      rw [upd_ne (Nat.ne_of_lt hb')]
      exact (hf b hb).1
  done := by
    intro X hP hw hK hc i pins s σ H E I hf st hg
    subst hP hw hK
    obtain ⟨⟨old, he⟩, hit, hne, na, nb⟩ := st
    obtain ⟨xs, hq, hx⟩ := hg
    obtain ⟨its, rv, p, hz⟩ := I.tuple hq
    have p' : s.heap.IsTuple a its.toArray := p
    obtain ⟨f0, f1, f2, f3, f4, f5⟩ := hf it (by simp)
    have hl := rv.length
    have D := Draws.tuple (prog := X.prog) (w := X.w) (A := X.A.in1) (I.ok.hd hc) it a na its.toArray
    have hi : its.toArray.size = i := by simp; omega
    exact wpAny_pyNext_enum_endD (n := its.toArray.size) D he ⟨by rw [hi]; exact hit, p'⟩ fun h' eb => ⟨rfl, I.turned (t' := s.toks) (fun b o hb q => eb b o hb q) f0 f1 f3 f4 f5⟩
  self := fun A i s Q E st h => let ⟨⟨_, he⟩, _⟩ := st; wpAny_pyIter_enum he h
set_option maxHeartbeats 1000000 in
theorem meets_enumerate_newB1 {v : Value} {o : Obj} {H : Heap → Prop} (B : Begins v o H) :
    Meets (Builtin.«enumerate.__new__» ⟨[.type "enumerate", v], []⟩) (fun _ R s => H s.heap ∧
      R (.ok (.ret (.ref (s.heap.push o).objs.size))) { s with heap := (s.heap.push o).push { cls := .type "enumerate", data := .fields #[.none, .bool false, .ref s.heap.objs.size, rawInt 0, .none, .none] } }) :=
  .of_wp fun prog w A R s h => by
    obtain ⟨hp, g, d, tk, os⟩ := s; obtain ⟨h1, h⟩ := h
    have hsub := sub_enumerate
    have q1 : ∀ {A' : Around} {E : Value → Shared → Prop} {Q : Value → Shared → Prop}, Q (.ref hp.objs.size) ⟨hp.push o, g, d, tk, os⟩ → wpAny (model prog w) A' (pyIter v) Q E ⟨hp, g, d, tk, os⟩ :=
      fun q => B.iter prog w _ _ ⟨hp, g, d, tk, os⟩ _ h1 q
    wp_walk using q1
    refine wpAny_stack_any fun st => wpAny_pure ?_
    split
    · rename_i c _ _ _ _ _
      cases (c == Value.type "enumerate")
      · wp_walk using q1
        exact ⟨_, rfl, h⟩
      · wp_walk using q1
        exact ⟨_, rfl, h⟩
    · wp_walk using q1
      exact ⟨_, rfl, h⟩
theorem enum_begins1 {prog : Program} {w : World} {A : Around} {E : Value → Shared → Prop} {s : Shared} {v : Value} {o : Obj} {H : Heap → Prop} {Q : Value → Shared → Prop} (B : Begins v o H) (h1 : H s.heap)
    (h : ∀ h', IsEnum h' (s.heap.objs.size + 1) s.heap.objs.size 0 .none → h'.get? s.heap.objs.size = some o → h'.objs.size = s.heap.objs.size + 2 →
      (∀ b o, s.heap.get? b = some o → h'.get? b = some o) → Q (.ref (s.heap.objs.size + 1)) { s with heap := h' }) :
    wpAny (model prog w) A (call (.type "enumerate") [v]) Q E s := by
  refine callType_new F.called_enumerate (by decide) (F.typeCall_enumerate_1 _) (F.newCall_enumerate_1 _) (fun obj => F.args_object_init_2 obj _) F.entry_enumerate_new
    (meets_enumerate_newB1 B) ⟨h1, ?_⟩
  have hz : (s.heap.push o).objs.size = s.heap.objs.size + 1 := Heap.size_push ..
  show _ ∧ _
  rw [hz]
  have he : IsEnum ((s.heap.push o).push { cls := .type "enumerate", data := .fields #[.none, .bool false, .ref s.heap.objs.size, rawInt 0, .none, .none] }) (s.heap.objs.size + 1) s.heap.objs.size 0 .none := by
    have := Heap.get?_push_size (s.heap.push o) (o := { cls := .type "enumerate", data := .fields #[.none, .bool false, .ref s.heap.objs.size, rawInt 0, .none, .none] }) rfl
    rw [hz] at this; exact this
  refine ⟨⟨_, he, rfl⟩, h _ he (Heap.get?_push_of_some _ (Heap.get?_push_size _ B.free)) (by rw [Heap.size_push, hz]) fun b o x => Heap.get?_push_of_some _ (Heap.get?_push_of_some _ x)⟩
def iEnumT (K : Frag) (ta : TA) : TI := fun σ H R => ta σ H fun vs H1 => ∃ a xs, vs = [.ref a] ∧ SqT K H1 a xs ∧ R (IteT K a) H1
section
variable {X : Cx} {K : Frag} {e : Expr} {ta : TA} {p pos tpos : Pos} {elts : List Expr} {kk : Nat}
theorem pi_enumT' (hg : Gl X "enumerate") (hm : X.mg "enumerate" = none) (ha : PA X [e] ta) (hs : starEach [e] X.env = [(false, eval e X.env)] := by rfl) :
    PI X (.Tuple elts kk tpos) (.Call (.Name "enumerate" p) [e] [] pos) (iEnumT X.K ta) := by
  refine ⟨fun pins s σ H R I h => ?_⟩
  refine Call_ (ld_blt I hg hm boot_enumerate (PyProof.Rows.callWith_type1 (thn (ha.run pos pins s σ H _ I h) fun us s1 ⟨vs, H1, I1, r1, q1⟩ => ?_) hs rfl))
  obtain ⟨a, xs, ex, hq, q⟩ := q1
  subst ex
  cases r1 with
  | cons r rr =>
    cases rr
    cases r
    obtain ⟨its, rv, p', hz⟩ := I1.tuple hq
    have p2 : s1.heap.IsTuple a its.toArray := p'
    refine enum_begins1 (begins_tuple a its.toArray) p2 fun h' he hit hsz hk => wpAny_pyIter_enum he ?_
    have I2 : Inv X pins σ H1 { s1 with heap := h' } := I1.kept (t' := s1.toks) hk
    have hal : a < s1.heap.objs.size := p'.lt
    refine ⟨s1.heap.objs.size + 1, [s1.heap.objs.size + 1, s1.heap.objs.size], _, _, H1, rfl, I2, turn_enumT a (s1.heap.objs.size + 1) s1.heap.objs.size, ⟨⟨.none, he⟩, ⟨_, hit, rfl, rfl⟩, Nat.succ_ne_self _, Nat.ne_of_lt hal, Nat.ne_of_lt (Nat.lt_succ_of_lt hal)⟩, fun b hb => ?_, q⟩
    have e' : b = s1.heap.objs.size + 1 ∨ b = s1.heap.objs.size := by simpa using hb
    have hle : s1.heap.objs.size ≤ b := by
      rcases e' with z | z
      · rw [z]; exact Nat.le_add_right _ _
      · rw [z]; exact Nat.le_refl _
    exact I1.fpOk hle (I1.hok.fresh hle)
theorem pi_enumT (hg : Gl X "enumerate") (hm : X.mg "enumerate" = none) (ha : PA X [e] ta) (hs : starEach [e] X.env = [(false, eval e X.env)] := by rfl) (h : X.K = K := by rfl) :
    PI X (.Tuple elts kk tpos) (.Call (.Name "enumerate" p) [e] [] pos) (iEnumT K ta) := by subst h; exact pi_enumT' hg hm ha hs
end
section
variable {K : Frag} {env : List Sl} {ta tb tl te tc : TE} {α β : Type} {e : α → PyData} {f : β → PyData}
def enumF : Int → List α → List (Int × α)
  | _, [] => []
  | i, x :: xs => (i, x) :: enumF (i + 1) xs
def enumI (xs : List α) : List (Int × α) := enumF 0 xs
theorem enumF_len : ∀ (i : Int) (xs : List α), (enumF i xs).length = xs.length
  | _, [] => rfl
  | i, x :: xs => by unfold enumF; rw [List.length_cons, List.length_cons, enumF_len]
theorem enumF_get : ∀ (i : Int) (xs : List α) (j : Nat), (enumF i xs)[j]? = xs[j]?.map fun x => (i + j, x)
  | _, [], j => by simp [enumF]
  | i, x :: xs, 0 => by simp [enumF]
  | i, x :: xs, j + 1 => by
    unfold enumF
    rw [List.getElem?_cons_succ, List.getElem?_cons_succ, enumF_get]
    congr 1
    funext y
    have : i + 1 + (j : Int) = i + ((j + 1 : Nat) : Int) := by omega
    rw [this]
theorem enumI_get (xs : List α) (j : Nat) : (enumI xs)[j]? = xs[j]?.map fun x => ((j : Int), x) := by
  unfold enumI
  rw [enumF_get]
  congr 1
  funext y
  rw [Int.zero_add]
theorem pair_ok {F H : Hp} {T : Addr} {x : V} {d d1 : PyData} {y : V} (e : Ex F H) (hT : H T = none) (hx : Dq F x d) (hy : Dq F y d1) : Fz F H (upd F T (.tup [y, x])) (upd H T (.tup [y, x])) ∧ Dq (upd F T (.tup [y, x])) (.ref T) (.tuple [d1, d]) := by
  have hF : F T = none := Evl.fresh_back e hT
  refine ⟨Fz.new e hT, .tup upd_same (.cons (Dq.mono (Evl.Ex.new hF) _ _ hy) (.cons (Dq.mono (Evl.Ex.new hF) _ _ hx) .nil)) (by show 2 ≤ lim; decide)⟩
theorem iteL {a : Addr} {vs : List V} {ds : List α} {P : Hp → Hp → Prop} (hP : ∀ F H, P F H → Ex F H → H a = some (.lst vs) ∧ DqAll F vs (ds.map e)) : IterP (Ite K a) P ((enumI ds).map (eP PyData.int e)) := by
  refine ⟨fun F H i d p ex hd => ?_, fun F H p ex => ?_⟩
  · obtain ⟨h1, h2⟩ := hP F H p ex
    rw [List.getElem?_map, enumI_get] at hd
    obtain ⟨q, hq, rfl⟩ := Option.map_eq_some_iff.mp hd
    obtain ⟨x, hx, rfl⟩ := Option.map_eq_some_iff.mp hq
    obtain ⟨v, hv, dv⟩ := h2.get (i := i) (d := e x) (by rw [List.getElem?_map, hx]; rfl)
    refine ⟨⟨vs, v, SqL.of h1, hv⟩, fun y H' yy => ?_⟩
    obtain ⟨T, x', rfl, hT, rfl, hx'⟩ := yy
    have e1 := (hx' vs (SqL.of h1)).symm.trans hv
    cases e1
    exact ⟨_, (pair_ok ex hT dv (.int _)).1, (pair_ok ex hT dv (.int _)).2⟩
  · obtain ⟨h1, h2⟩ := hP F H p ex
    refine ⟨vs, SqL.of h1, ?_⟩
    rw [List.length_map]
    unfold enumI
    rw [enumF_len, h2.len, List.length_map]
    exact Nat.le_refl _
theorem iteT {a : Addr} {vs : List V} {ds : List α} {P : Hp → Hp → Prop} (hP : ∀ F H, P F H → Ex F H → H a = some (.tup vs) ∧ DqAll F vs (ds.map e)) : IterP (IteT K a) P ((enumI ds).map (eP PyData.int e)) := by
  refine ⟨fun F H i d p ex hd => ?_, fun F H p ex => ?_⟩
  · obtain ⟨h1, h2⟩ := hP F H p ex
    rw [List.getElem?_map, enumI_get] at hd
    obtain ⟨q, hq, rfl⟩ := Option.map_eq_some_iff.mp hd
    obtain ⟨x, hx, rfl⟩ := Option.map_eq_some_iff.mp hq
    obtain ⟨v, hv, dv⟩ := h2.get (i := i) (d := e x) (by rw [List.getElem?_map, hx]; rfl)
    refine ⟨⟨vs, v, SqT.of h1, hv⟩, fun y H' yy => ?_⟩
    obtain ⟨T, x', rfl, hT, rfl, hx'⟩ := yy
    have e1 := (hx' vs (SqT.of h1)).symm.trans hv
    cases e1
    exact ⟨_, (pair_ok ex hT dv (.int _)).1, (pair_ok ex hT dv (.int _)).2⟩
  · obtain ⟨h1, h2⟩ := hP F H p ex
    refine ⟨vs, SqT.of h1, ?_⟩
    rw [List.length_map]
    unfold enumI
    rw [enumF_len, h2.len, List.length_map]
theorem enum_lim {xs : List α} (h : (xs.map e).length ≤ lim) : ((enumI xs).map (eP PyData.int e)).length ≤ lim := by
  rw [List.length_map] at h ⊢
  unfold enumI
  rw [enumF_len]
  exact h
theorem eis_enumL {xs : List α} (h : EX K tl env (eL e xs)) : EIs K (iEnum K (tCons tl tNil)) env ((enumI xs).map (eP PyData.int e)) := fun F0 H0 F H σ E R r => h E _ fun v F' H' z hv => by
  cases hv with
  | lst h1 h2 h3 => exact ⟨_, _, rfl, SqL.of (z.fh _ _ h1), r _ F' H' z (enum_lim h3) (iteL fun F1 H1 p ex => ⟨ex _ _ (p _ _ h1), DqAll.mono p _ _ h2⟩)⟩
theorem eis_enumT {xs : List α} (h : EX K tl env (eT e xs)) : EIs K (iEnumT K (tCons tl tNil)) env ((enumI xs).map (eP PyData.int e)) := fun F0 H0 F H σ E R r => h E _ fun v F' H' z hv => by
  cases hv with
  | tup h1 h2 h3 => exact ⟨_, _, rfl, SqT.of (z.fh _ _ h1), r _ F' H' z (enum_lim h3) (iteT fun F1 H1 p ex => ⟨ex _ _ (p _ _ h1), DqAll.mono p _ _ h2⟩)⟩
theorem zip_get {xs : List α} {ys : List β} {i : Nat} {p : α × β} (h : (xs.zip ys)[i]? = some p) : xs[i]? = some p.1 ∧ ys[i]? = some p.2 := by
  rw [List.getElem?_zip_eq_some] at h
  exact h
theorem zip_lim {xs : List α} {ys : List β} (h : (xs.map e).length ≤ lim) : ((xs.zip ys).map (eP e f)).length ≤ lim := by
  rw [List.length_map] at h ⊢
  rw [List.length_zip]
  omega
theorem itzL {a b : Addr} {vs ws : List V} {xs : List α} {ys : List β} {P : Hp → Hp → Prop} (hP : ∀ F H, P F H → Ex F H → H a = some (.lst vs) ∧ DqAll F vs (xs.map e) ∧ H b = some (.lst ws) ∧ DqAll F ws (ys.map f)) : IterP (Itz K a b) P ((xs.zip ys).map (eP e f)) := by
  refine ⟨fun F H i d p ex hd => ?_, fun F H p ex => ?_⟩
  · obtain ⟨h1, h2, h3, h4⟩ := hP F H p ex
    rw [List.getElem?_map] at hd
    obtain ⟨q, hq, rfl⟩ := Option.map_eq_some_iff.mp hd
    obtain ⟨hx, hy⟩ := zip_get hq
    obtain ⟨v, hv, dv⟩ := h2.get (i := i) (d := e q.1) (by rw [List.getElem?_map, hx]; rfl)
    obtain ⟨w, hw, dw⟩ := h4.get (i := i) (d := f q.2) (by rw [List.getElem?_map, hy]; rfl)
    refine ⟨⟨vs, ws, v, w, SqL.of h1, SqL.of h3, hv, hw⟩, fun y H' yy => ?_⟩
    obtain ⟨T, x', y', rfl, hT, rfl, hx', hy'⟩ := yy
    have e1 := (hx' vs (SqL.of h1)).symm.trans hv
    have e2 := (hy' ws (SqL.of h3)).symm.trans hw
    cases e1; cases e2
    exact ⟨_, (pair_ok ex hT dw dv).1, (pair_ok ex hT dw dv).2⟩
  · obtain ⟨h1, h2, h3, h4⟩ := hP F H p ex
    refine ⟨vs, ws, SqL.of h1, SqL.of h3, ?_⟩
    have l1 := h2.len
    have l2 := h4.len
    rw [List.length_map] at l1 l2
    rw [List.length_map, List.length_zip]
    omega
theorem itzT {a b : Addr} {vs ws : List V} {xs : List α} {ys : List β} {P : Hp → Hp → Prop} (hP : ∀ F H, P F H → Ex F H → H a = some (.tup vs) ∧ DqAll F vs (xs.map e) ∧ H b = some (.tup ws) ∧ DqAll F ws (ys.map f)) : IterP (RZ.ItzT K a b) P ((xs.zip ys).map (eP e f)) := by
  refine ⟨fun F H i d p ex hd => ?_, fun F H p ex => ?_⟩
  · obtain ⟨h1, h2, h3, h4⟩ := hP F H p ex
    rw [List.getElem?_map] at hd
    obtain ⟨q, hq, rfl⟩ := Option.map_eq_some_iff.mp hd
    obtain ⟨hx, hy⟩ := zip_get hq
    obtain ⟨v, hv, dv⟩ := h2.get (i := i) (d := e q.1) (by rw [List.getElem?_map, hx]; rfl)
    obtain ⟨w, hw, dw⟩ := h4.get (i := i) (d := f q.2) (by rw [List.getElem?_map, hy]; rfl)
    refine ⟨⟨vs, ws, v, w, SqT.of h1, SqT.of h3, hv, hw⟩, fun y H' yy => ?_⟩
    obtain ⟨T, x', y', rfl, hT, rfl, hx', hy'⟩ := yy
    have e1 := (hx' vs (SqT.of h1)).symm.trans hv
    have e2 := (hy' ws (SqT.of h3)).symm.trans hw
    cases e1; cases e2
    exact ⟨_, (pair_ok ex hT dw dv).1, (pair_ok ex hT dw dv).2⟩
  · obtain ⟨h1, h2, h3, h4⟩ := hP F H p ex
    refine ⟨vs, ws, SqT.of h1, SqT.of h3, ?_⟩
    have l1 := h2.len
    have l2 := h4.len
    rw [List.length_map] at l1 l2
    rw [List.length_map, List.length_zip]
    omega
theorem eis_zipL {xs : List α} {ys : List β} (ha : EX K ta env (eL e xs)) (hb : EX K tb env (eL f ys)) : EIs K (RZ.iZipA K (tCons ta (tCons tb tNil))) env ((xs.zip ys).map (eP e f)) := fun F0 H0 F H σ E R r => ha E _ fun v F1 H1 z1 hv => hb (E.step z1) _ fun w F2 H2 z2 hw => by
  cases hv with
  | lst h1 h2 h3 =>
    cases hw with
    | lst h4 h5 h6 =>
      exact ⟨_, _, _, _, rfl, .inl ⟨SqL.of (z2.fh _ _ (z2.f _ _ h1)), SqL.of (z2.fh _ _ h4), r _ F2 H2 (z1.trans z2) (zip_lim h3) (itzL fun F3 H3 p ex => ⟨ex _ _ (p _ _ (z2.f _ _ h1)), DqAll.mono (z2.f.trans p) _ _ h2, ex _ _ (p _ _ h4), DqAll.mono p _ _ h5⟩)⟩⟩
theorem eis_zipT {xs : List α} {ys : List β} (ha : EX K ta env (eT e xs)) (hb : EX K tb env (eT f ys)) : EIs K (RZ.iZipA K (tCons ta (tCons tb tNil))) env ((xs.zip ys).map (eP e f)) := fun F0 H0 F H σ E R r => ha E _ fun v F1 H1 z1 hv => hb (E.step z1) _ fun w F2 H2 z2 hw => by
  cases hv with
  | tup h1 h2 h3 =>
    cases hw with
    | tup h4 h5 h6 =>
      exact ⟨_, _, _, _, rfl, .inr ⟨SqT.of (z2.fh _ _ (z2.f _ _ h1)), SqT.of (z2.fh _ _ h4), r _ F2 H2 (z1.trans z2) (zip_lim h3) (itzT fun F3 H3 p ex => ⟨ex _ _ (p _ _ (z2.f _ _ h1)), DqAll.mono (z2.f.trans p) _ _ h2, ex _ _ (p _ _ h4), DqAll.mono p _ _ h5⟩)⟩⟩
end
section
variable {K : Frag} {env : List Sl} {ta tb tl te tc : TE} {α β : Type} {e : α → PyData}
def distinct (ns : List Int) : List Int := PyProof.Rows.firstMet (fun i => ns.getD i 0) ns.length
def tLenSetN (K : Frag) (ta : TE) : TE := fun σ H Q => ta σ H fun x H1 => ∃ (l : Addr) (ns : List Int), x = V.ref l ∧ SqL K H1 l (ns.map V.int) ∧ ns.length < 60 ∧ Q (.int ((distinct ns).length : Int)) H1
theorem pe_lenSetN' {X : Cx} {a : Expr} {ta : TE} {p p2 q pos : Pos} (hc : X.calm = true) (hg : Gl X "len") (hm : X.mg "len" = none) (hg2 : Gl X "set") (hm2 : X.mg "set" = none) (ha : PE X a ta)
    (na : starEach [a] X.env = (false, eval a X.env) :: starEach [] X.env := by rfl) : PE X (.Call (.Name "len" p) [.Call (.Name "set" p2) [a] [] q] [] pos) (tLenSetN X.K ta) := by
  refine ⟨fun pins s σ H Q I h => ?_⟩
  refine Call_ (ld_blt I hg hm PySem.boot_len ?_)
  refine PyProof.Rows.callWith_builtin1 (PyProof.Rows.args_cons ?_ rfl) rfl rfl
  refine Call_ (ld_blt I hg2 hm2 PyProof.Rows.boot_set ?_)
  refine PyProof.Rows.callWith_type1 (PyProof.Rows.args_cons (thn (ha.run pins s σ H _ I h) fun v s1 ⟨x, H1, I1, r1, q1⟩ => PyProof.Rows.args_nil ?_) na) na rfl
  obtain ⟨l, ns, rfl, hq, h1, q1⟩ := q1
  cases r1
  obtain ⟨its, r, pl, hz⟩ := I1.list hq
  have hl : its.toArray.size = ns.length := by rw [List.size_toArray, ← r.length, List.length_map]
  refine call_set_list (I1.ok.hd hc) pl.isList (ns := ns) (by simpa using r.ints) (by rw [hl]; unfold scanBound; omega) fun h' tk hS hk => ?_
  rw [hl] at hS
  refine PyProof.Rows.args_nil ?_
  obtain ⟨o, es, ep, t, ho, hex, hd, _, _, _, hf, hn⟩ := hS
  have I2 : Inv X pins σ H1 { s1 with heap := h', toks := tk } := I1.kept fun b o e => hk b o (Heap.lt_size e) e
  have hle := PyProof.Rows.firstMet_length_le (fun i => ns.getD i 0) ns.length
  refine call_len_set ho hex hd hf (by rw [hn]; omega) ⟨.int (distinct ns).length, H1, I2.tok _, ⟨_, by rw [hn]; rfl⟩, q1⟩
theorem pe_lenSetN {X : Cx} {K : Frag} {a : Expr} {ta : TE} {p p2 q pos : Pos} (hc : X.calm = true) (hg : Gl X "len") (hm : X.mg "len" = none) (hg2 : Gl X "set") (hm2 : X.mg "set" = none) (ha : PE X a ta)
    (na : starEach [a] X.env = (false, eval a X.env) :: starEach [] X.env := by rfl) (h : X.K = K := by rfl) : PE X (.Call (.Name "len" p) [.Call (.Name "set" p2) [a] [] q] [] pos) (tLenSetN K ta) := by subst h; exact pe_lenSetN' hc hg hm hg2 hm2 ha na
theorem ex_lenSetN {ns : List Int} (ha : EXl K ta env (ns.map PyData.int)) (h : ns.length < 60) : EX K (tLenSetN K ta) env (.int ((distinct ns).length : Int)) := fun F0 H0 F H σ E Q q =>
  ha E _ fun p vs F1 H1 z1 h1 a1 l1 => by
    have := a1.ints
    subst this
    exact ⟨p, ns, rfl, SqL.of h1, h, q _ F1 H1 z1 (.int _)⟩
end
end Rb

set_option Elab.async false
set_option linter.all false
set_option maxRecDepth 100000
set_option maxHeartbeats 2000000
namespace Rb
open PySem PySem.Spec PyProof.Rows L2
theorem un1 {n : Nat} (h : n + 64 < cLine) : n + 1 < cLine := by omega
section
variable {X : Cx} {K : Frag} {tg e e2 l a b : Expr} {ta tb tl te td ty : TE} {tA : TA} {p pos tpos : Pos} {elts : List Expr} {kk : Nat}
theorem pi_zipK (hg : Gl X "zip") (hm : X.mg "zip" = none) (ha : PA X [e, e2] tA)
    (hs : starEach [e, e2] X.env = (false, eval e X.env) :: starEach [e2] X.env := by rfl) (hpl : (backTo pos (starEach [e2] X.env)).any (·.1) = false := by rfl) (h : X.K = K := by rfl) :
    PI X (.Tuple elts kk tpos) (.Call (.Name "zip" p) [e, e2] [] pos) (RZ.iZipA K tA) := by subst h; exact RZ.pi_zipA hg hm ha hs hpl
theorem call_isiK' (h : X.K = K := by rfl) : CallR X (.builtin "isinstance") (rIsi K) := by subst h; exact call_isi
end
def isBD : PyData → Bool | .bool _ => true | _ => false
def isID : PyData → Bool | .bool _ => true | .int _ => true | _ => false
def isLD : PyData → Bool | .list _ => true | _ => false
def isTD : PyData → Bool | .tuple _ => true | _ => false
def isSD : PyData → Bool | .str _ => true | _ => false
def itemsD : PyData → Option (List PyData) | .list xs => some xs | .tuple xs => some xs | _ => none
def lenD (d : PyData) : Option Int := (itemsD d).map fun xs => (xs.length : Int)
def zipD : PyData → PyData → Option (List (PyData × PyData))
  | .list xs, .list ys => some (xs.zip ys)
  | .tuple xs, .tuple ys => some (xs.zip ys)
  | _, _ => none
abbrev eD (d : PyData) : PyData := d
section
variable {K : Frag} {env : List Sl} {ta tb : TE} {d d' : PyData}
def tyD : PyData → String
  | .none => "NoneType" | .bool _ => "bool" | .int _ => "int" | .str _ => "str" | .list _ => "list" | .tuple _ => "tuple" | .dict _ => "dict"
theorem Dq.tyx {H : Hp} {v : V} (h : Dq H v d) : TyX K H v (.type (tyD d)) := by
  cases h with
  | non => exact .base .non
  | bl b => exact .base (.bl b)
  | int i => exact .base (.int i)
  | str x => exact .base (.str x)
  | lst h => exact .base (.lst h)
  | tup h => exact .base (.tup h)
  | dct h => exact .fDict h
theorem ex_isBD (ha : EX K ta env d) : EX K (tCB (rIsi K) (tCons ta (tCons (tC (.ty "bool")) tNil))) env (.bool (isBD d)) := fun F0 H0 F H σ E Q q =>
  ha E _ fun v F1 H1 z1 hv => by
    have t := (Dq.mono z1.fh _ _ hv).tyx (K := K)
    have k : kitB (tyD d) "bool" = some (isBD d) := by cases hv <;> first | exact (show kitB "NoneType" "bool" = some false by decide +kernel) | exact (show kitB "bool" "bool" = some true by decide +kernel) | exact (show kitB "int" "bool" = some false by decide +kernel) | exact (show kitB "str" "bool" = some false by decide +kernel) | exact (show kitB "list" "bool" = some false by decide +kernel) | exact (show kitB "tuple" "bool" = some false by decide +kernel) | exact (show kitB "dict" "bool" = some false by decide +kernel)
    exact ⟨_, _, _, _, _, rfl, .ty "bool", t, kit_ty k, q _ F1 H1 z1 (.bl _)⟩
theorem ex_isID (ha : EX K ta env d) : EX K (tCB (rIsi K) (tCons ta (tCons (tC (.ty "int")) tNil))) env (.bool (isID d)) := fun F0 H0 F H σ E Q q =>
  ha E _ fun v F1 H1 z1 hv => by
    have t := (Dq.mono z1.fh _ _ hv).tyx (K := K)
    have k : kitB (tyD d) "int" = some (isID d) := by cases hv <;> first | exact (show kitB "NoneType" "int" = some false by decide +kernel) | exact (show kitB "bool" "int" = some true by decide +kernel) | exact (show kitB "int" "int" = some true by decide +kernel) | exact (show kitB "str" "int" = some false by decide +kernel) | exact (show kitB "list" "int" = some false by decide +kernel) | exact (show kitB "tuple" "int" = some false by decide +kernel) | exact (show kitB "dict" "int" = some false by decide +kernel)
    exact ⟨_, _, _, _, _, rfl, .ty "int", t, kit_ty k, q _ F1 H1 z1 (.bl _)⟩
theorem ex_isLD (ha : EX K ta env d) : EX K (tCB (rIsi K) (tCons ta (tCons (tC (.ty "list")) tNil))) env (.bool (isLD d)) := fun F0 H0 F H σ E Q q =>
  ha E _ fun v F1 H1 z1 hv => by
    have t := (Dq.mono z1.fh _ _ hv).tyx (K := K)
    have k : kitB (tyD d) "list" = some (isLD d) := by cases hv <;> first | exact (show kitB "NoneType" "list" = some false by decide +kernel) | exact (show kitB "bool" "list" = some false by decide +kernel) | exact (show kitB "int" "list" = some false by decide +kernel) | exact (show kitB "str" "list" = some false by decide +kernel) | exact (show kitB "list" "list" = some true by decide +kernel) | exact (show kitB "tuple" "list" = some false by decide +kernel) | exact (show kitB "dict" "list" = some false by decide +kernel)
    exact ⟨_, _, _, _, _, rfl, .ty "list", t, kit_ty k, q _ F1 H1 z1 (.bl _)⟩
theorem ex_isTD (ha : EX K ta env d) : EX K (tCB (rIsi K) (tCons ta (tCons (tC (.ty "tuple")) tNil))) env (.bool (isTD d)) := fun F0 H0 F H σ E Q q =>
  ha E _ fun v F1 H1 z1 hv => by
    have t := (Dq.mono z1.fh _ _ hv).tyx (K := K)
    have k : kitB (tyD d) "tuple" = some (isTD d) := by cases hv <;> first | exact (show kitB "NoneType" "tuple" = some false by decide +kernel) | exact (show kitB "bool" "tuple" = some false by decide +kernel) | exact (show kitB "int" "tuple" = some false by decide +kernel) | exact (show kitB "str" "tuple" = some false by decide +kernel) | exact (show kitB "list" "tuple" = some false by decide +kernel) | exact (show kitB "tuple" "tuple" = some true by decide +kernel) | exact (show kitB "dict" "tuple" = some false by decide +kernel)
    exact ⟨_, _, _, _, _, rfl, .ty "tuple", t, kit_ty k, q _ F1 H1 z1 (.bl _)⟩
theorem ex_isSD (ha : EX K ta env d) : EX K (tCB (rIsi K) (tCons ta (tCons (tC (.ty "str")) tNil))) env (.bool (isSD d)) := fun F0 H0 F H σ E Q q =>
  ha E _ fun v F1 H1 z1 hv => by
    have t := (Dq.mono z1.fh _ _ hv).tyx (K := K)
    have k : kitB (tyD d) "str" = some (isSD d) := by cases hv <;> first | exact (show kitB "NoneType" "str" = some false by decide +kernel) | exact (show kitB "bool" "str" = some false by decide +kernel) | exact (show kitB "int" "str" = some false by decide +kernel) | exact (show kitB "str" "str" = some true by decide +kernel) | exact (show kitB "list" "str" = some false by decide +kernel) | exact (show kitB "tuple" "str" = some false by decide +kernel) | exact (show kitB "dict" "str" = some false by decide +kernel)
    exact ⟨_, _, _, _, _, rfl, .ty "str", t, kit_ty k, q _ F1 H1 z1 (.bl _)⟩
theorem ex_lenD {n : Int} (ha : EX K ta env d) (h : lenD d = some n) : EX K (tCB (fun ws H Q => ∃ x n, ws = [x] ∧ LenV K x H n ∧ Q (.int n) H) (tCons ta tNil)) env (.int n) := by
  cases d with
  | list xs =>
    cases h
    have := ex_lenL (e := id) (xs := xs) (EX.l (ds := xs.map id) (by rw [List.map_id]; exact ha))
    exact this
  | tuple xs =>
    cases h
    have := ex_lenT (e := id) (xs := xs) (ta := ta) (K := K) (env := env) (by rw [List.map_id]; exact ha)
    exact this
  | _ => cases h
theorem ei_zipD {ps : List (PyData × PyData)} (ha : EX K ta env d) (hb : EX K tb env d') (h : zipD d d' = some ps) : EIs K (RZ.iZipA K (tCons ta (tCons tb tNil))) env (ps.map (eP eD eD)) := by
  cases d with
  | list xs =>
    cases d' with
    | list ys =>
      cases h
      exact eis_zipL (e := eD) (f := eD) (by show EX K ta env (.list (xs.map id)); rw [List.map_id]; exact ha) (by show EX K tb env (.list (ys.map id)); rw [List.map_id]; exact hb)
    | _ => cases h
  | tuple xs =>
    cases d' with
    | tuple ys =>
      cases h
      exact eis_zipT (e := eD) (f := eD) (by show EX K ta env (.tuple (xs.map id)); rw [List.map_id]; exact ha) (by show EX K tb env (.tuple (ys.map id)); rw [List.map_id]; exact hb)
    | _ => cases h
  | _ => cases h
def eqLeaf : PyData → PyData → Option Bool
  | .none, .none => some (true)
  | .none, .int _ => some (false)
  | .int _, .none => some (false)
  | .none, .bool _ => some (false)
  | .bool _, .none => some (false)
  | .none, .str _ => some (false)
  | .str _, .none => some (false)
  | .int i, .int j => some (decide (i = j))
  | .bool i, .bool j => some ((i == j))
  | .str i, .str j => some (decide (i = j))
  | .int _, .str _ => some (false)
  | .str _, .int _ => some (false)
  | .bool _, .str _ => some (false)
  | .str _, .bool _ => some (false)
  | _, _ => none
theorem ex_eqLeaf {b : Bool} (ha : EX K ta env d) (hb : EX K tb env d') (h : eqLeaf d d' = some b) : EX K (tOp rEq ta tb) env (.bool b) := fun F0 H0 F H σ E Q q =>
  ha E _ fun v F1 H1 z1 h1 => hb (E.step z1) _ fun w F2 H2 z2 h2 => by
    have k : scal v w = true ∧ decide (v = w) = b := by
      cases h1 <;> cases h2 <;> first
        | (cases h; exact ⟨rfl, decide_eq_true rfl⟩)
        | (cases h; exact ⟨rfl, decide_eq_false fun z => nomatch z⟩)
        | (rename_i x y; cases h; refine ⟨rfl, ?_⟩; by_cases c : x = y
           · subst c; simp
           · have : ¬ (V.int x = V.int y) := fun z => c (V.int.inj z)
             simp [c])
        | (rename_i x _ y _; cases h; refine ⟨rfl, ?_⟩; by_cases c : x = y
           · subst c; simp
           · simp [c])
        | (rename_i x y; cases h; refine ⟨rfl, ?_⟩; cases x <;> cases y <;> rfl)
        | cases h
    refine ⟨k.1, ?_⟩
    rw [k.2]
    exact q _ F2 H2 (z1.trans z2) (.bl _)
end
def EAq (K : Frag) (ta : TA) (env : List Sl) (ds : List PyData) : Prop := ∀ ⦃F0 H0 F H : Hp⦄ ⦃σ : List (Option V)⦄, EnvOk K F0 H0 F H σ env → ∀ Q : List V → Hp → Prop, (∀ vs F' H', Fz F H F' H' → DqAll H' vs ds → Q vs H') → ta σ H Q
def FlatD (d : PyData) : Prop := ∀ F F' v, Dq F v d → Dq F' v d
theorem flat_bool (i : Bool) : FlatD (.bool i) := fun _ _ v h => by cases h; exact .bl i
section
variable {K : Frag} {env : List Sl} {te ta tb : TE} {tr : TA} {d : PyData} {ds : List PyData} {α : Type}
theorem eaq_nil : EAq K tNil env [] := fun F0 H0 F H σ E Q q => q [] F H (Fz.refl E.fh) .nil
theorem eaq_cons (ha : EXq K ta env d) (hr : EAq K tr env ds) : EAq K (tCons ta tr) env (d :: ds) := fun F0 H0 F H σ E Q q =>
  ha E _ fun v F1 H1 z1 h1 => hr (E.step z1) _ fun vs F2 H2 z2 h2 => q _ F2 H2 (z1.trans z2) (.cons (Dq.mono (z2.hh (E.step z1).fh) _ _ h1) h2)
theorem ex_callQ {I : List PyData → Rv → Prop} {E : XK} (ha : EAq K tr env ds) (hI : I ds (.sh d)) (hd : FlatD d) : EX K (tCall (Prom I) [] E tr) env d := fun F0 H0 F H σ E Q q =>
  ha E _ fun vs F1 H1 z1 a1 => by
    rw [List.append_nil]
    have E1 := E.step z1
    refine ⟨H1, ds, _, Evl.Ex.refl H1, a1, hI, fun F2 H2 v z2 hv => q v F1 H2 (z1.trans ⟨Evl.Ex.refl F1, E1.fh.trans (z2.f.trans z2.fh), fun p o h n => ⟨fun _ => n, (z2.f.trans z2.fh) p o h⟩⟩) (hd _ _ _ hv)⟩
def cutP (xs : List α) (lo hi : Option Int) : Prop := ¬ (HT.sIx xs.length 0 lo = 0 ∧ HT.sIx xs.length xs.length hi = xs.length)
instance (xs : List α) (lo hi : Option Int) : Decidable (cutP xs lo hi) := inferInstanceAs (Decidable (¬ _))
end
theorem fn_void {P : Program} {w : World} {K : Frag} {mg : Str → Option Value} {base : Heap} {x qual : Str} {params : Arguments} {body : List Stmt} {scope : Scope} {f : Addr} {fd : FuncData} {N ps : List Str} {k : Nat} {I : List PyData → Rv → Prop}
    (F : FunD K x qual params body scope [] [] f fd) (S : FnScope N ps scope) (hI : ∀ ds r, ¬ I ds r) : FnOk P w K mg base CX0 (k + 1) f fd ps (Prom I) := by
  refine F.ok S (fun vs H Q E h => ?_) (fun cdv A' outer s H vs Q E hr h => ?_)
  · obtain ⟨_, ds, r, _, _, h, _⟩ := h
    exact absurd h (hI ds r)
  · obtain ⟨_, ds, r, _, _, h, _⟩ := h
    exact absurd h (hI ds r)
end Rb

set_option Elab.async false
set_option linter.all false
set_option maxRecDepth 100000
set_option maxHeartbeats 4000000
namespace Rb
open PySem PySem.Spec PyProof.Rows L2
def RetX (K : Frag) (F H : Hp) (Q : VK) (E : XK) : Rv ⊕ Exn → Prop
  | .inl r => RetOk F H Q r
  | .inr x => ∀ F' H', Fz F H F' H' → exW K x F' H' fun c d => E c d H'
def PromX (K : Frag) (I : List PyData → Rv ⊕ Exn → Prop) : Sp := fun vs H Q E => ∃ F ds r, Ex F H ∧ DqAll F vs ds ∧ I ds r ∧ RetX K F H Q E r
abbrev exc (n : Str) : Exn := ⟨n, none⟩
section
variable {K : Frag} {env env' env1 : List Sl} {d : PyData} {ds es : List PyData} {ta tb te : TE} {tr : TA} {W : WX} {α β O S : Type} {ts tu : TS} {enc : O → Out} {m n : Option O} {x : Exn}
def ERR (K : Frag) (W : WX) (te : TE) (env : List Sl) (x : Exn) : Prop := ∀ ⦃F0 H0 F H : Hp⦄ ⦃σ : List (Option V)⦄, EnvOk K F0 H0 F H σ env → ∀ Q : VK, (∀ F' H', Fz F H F' H' → exW K x F' H' fun c d => W c d σ H') → te σ H Q
end
structure FnX (P : Program) (w : World) (K : Frag) (mg : Str → Option Value) (base : Heap) (x : Str) (k : Nat) (I : List PyData → Rv ⊕ Exn → Prop) : Prop where
  ex : ∃ f fd ps, FnOk P w K mg base (L2N.CX P w) k f fd ps (PromX K I) ∧ mg x = some (.ref f) ∧ PySem.W.keepIn K (.ref f) = true ∧ Binds K fd ps []
section
variable {X : Cx} {K : Frag} {x : Str} {k : Nat} {I : List PyData → Rv ⊕ Exn → Prop} {e : Expr} {es : List Expr} {t : TA} {p pos : Pos} {W : WX}
theorem pass_none (σ : L2.St) : PassesAt (L2N.CX X.prog X.w) X σ fun _ _ _ => False := fun _ _ _ _ _ _ c => by
  obtain ⟨_, _, _, _, _, _, _, _, _, _, _, _, z⟩ := c
  exact z.elim
end
structure ExcF (K : Frag) (mg : Str → Option Value) (x : Str) : Prop where
  g : mg x = some (.ref (He.ga K x))
  e : (He.Fa.exc x).ok K = true
structure ExF (K : Frag) (x : Str) : Prop where
  rib : PySem.W.exmOne K (.ref (He.ga K x)) (.ref (He.ga K "RibbonError")) = some true
  exm : ∀ y, y ∈ exNames → PySem.W.exmOne K (.ref (He.ga K x)) (.ref (He.ga K y)) = some (decide (x = y)) ∧ PySem.W.kitOne K (.ref (He.ga K x)) (.ref (He.ga K y)) = some (decide (x = y))
  ve : PySem.W.kitOne K (.ref (He.ga K x)) (.type "ValueError") = some true
  c : ExcC K (He.ga K x)
section
variable {K : Frag} {env : List Sl} {x : Str}
end
end Rb

set_option Elab.async false
set_option linter.all false
set_option maxRecDepth 100000
set_option maxHeartbeats 400000
namespace Rb
namespace Hot
open PySem PySem.Spec PyProof.Rows HotX
section
variable {prog : Program} {w : World} {A : Around} {E : Value → Shared → Prop} {s : Shared} {x1 : Addr}
theorem stop {α : Type} {Q : α → Shared → Prop} (hot : HotAt A x1 s.heap) (hE : ∀ h' e, (∀ b o, s.heap.get? b = some o → h'.get? b = some o) → (∃ o, h'.get? e = some o ∧ o.cls = .type "StopIteration") → E (.ref e) { s with heap := h' }) :
    wpAny (model prog w) A (newExc (.type "StopIteration") [] >>= fun e => (raiseNew e : Sem α)) Q E s := by
  obtain ⟨hh, o1, vs1, h1, d1, c1⟩ := hot
  refine wpAny_bind ?_
  simp only [newExc, newTuple]
  refine wpAny_bind (wpAny_newObj_type ?_ (by size_fits))
  refine wpAny_bind (m := firstArgMember _ _) (wpAny_of_eq (a := Value.none) (by first | rfl | (simp only [firstArgMember]; rfl)) ?_)
  refine wpAny_newObj_type ?_ (by size_fits)
  have g := Heap.get?_push_of_some (h := s.heap) { cls := .type "tuple", data := .seq (([] : List Value)).toArray } h1
  refine raiseNew_hot ⟨hh, o1, vs1, Heap.get?_push_of_some _ g, d1, c1⟩ (Nat.ne_of_lt (Heap.lt_size g)) (Heap.get?_push_size _ rfl) rfl (by first | (simp; done) | (simp; omega)) ?_
  refine hE _ _ (fun b o e => ?_) ⟨_, Heap.get?_update_self _ (Heap.get?_push_size _ rfl) rfl, rfl⟩
  have e1 := Heap.get?_push_of_some (h := s.heap) { cls := .type "tuple", data := .seq (([] : List Value)).toArray } e
  rw [Heap.get?_update_other _ _ (Nat.ne_of_gt (Heap.lt_size e1))]
  exact Heap.get?_push_of_some _ e1
theorem HotAt.in1 (hot : HotAt A x1 s.heap) : HotAt A.in1 x1 s.heap := hot
end
end Hot
open PySem PySem.Spec PyProof.Rows L2 HotX L2H
end Rb

set_option Elab.async false
set_option linter.all false
set_option maxRecDepth 100000
set_option maxHeartbeats 400000
namespace Rb
open PySem PySem.Spec PyProof.Rows L2 HotX L2H
structure XoOk (K : Frag) (n : Str) (d : Option Addr) (oe : Obj) : Prop where
  cls : oe.cls = .ref (He.ga K n)
  dct : oe.dict = d
  dat : ∃ vs, oe.data = .fields vs
def XdH (H : Hp) : Option Addr → Prop
  | none => True
  | some dd => ∃ fs, H dd = some (.xd fs)
theorem XdOk.h {F H : Hp} (e : Ex F H) : ∀ {d : Option (Addr × Str × PyData)}, XdOk F H d → XdH H (d.map (·.1))
  | none, _ => trivial
  | some (_, _, _), h => let ⟨_, _, k⟩ := h.at e; ⟨_, k⟩
section
variable {K : Frag} {env : List Sl} {x : Str} {p : Addr × Obj} {xd : Option (Addr × Str × PyData)}
end
structure KinOk (P : Program) (w : World) (K : Frag) (mg : Str → Option Value) (x : Str) (k : Nat) : Prop where
  ex : ∃ (f : Addr) (fd : FuncData) (x0 : Str) (qual : Str) (params : Arguments) (body : List Stmt) (scope : Scope) (N : List Str), mg x = some (.ref f) ∧ FunD K x qual params body scope [] [] f fd ∧ FnScope N [x0] scope ∧ Binds K fd [x0] [] ∧
    ∀ (base : Heap) (cdv : Value) (A : Around) (outer : List Env) (s : Shared) (H : Hp) (p : Addr × Obj) (xd : Option (Addr × Str × PyData)) (n : Str), RoomH k (A.deeper (envOfC qual scope s.heap.objs.size f cdv)) → Hot1 A p → XoOk K n (xd.map (·.1)) p.2 → n ∈ exNames →
      ∃ t, PSs (cxH CX0 P w K mg base N qual scope f cdv A outer s H E0 p) body t ∧ BX K t (.xo p.1 xd :: List.replicate (N.length - 1) .un) (fun z : Str => .rt (.sh (.str z))) (some n)
section
variable {K : Frag} {env env' envS envX : List Sl} {α β O S : Type} {ts tu : TS} {enc : O → Out} {m : Option O} {tb : WX → TS} {tx : Addr → Value → Option Addr → TS} {Wout : WX} {c : Value} {i : Nat}
end
section
variable {X : Cx} {K : Frag} {x n : Str} {i k : Nat} {a : Addr} {oe : Obj} {cls c : Value} {d : Option Addr} {pn : List (Addr × Obj)} {p pos np pos' : Pos} {body suite : List Stmt} {b₀ : Stmt} {tb : WX → TS} {tx : Addr → Value → Option Addr → TS} {Wout : WX}
end
section
variable {K : Frag} {env : List Sl} {ta tb : TE} {α β : Type} {e : α → PyData} {f : β → PyData}
end
section
variable {X : Cx} {K : Frag} {o e : Expr} {apos pos : Pos} {to te : TE} {env : List Sl}
end
end Rb

set_option Elab.async false
set_option linter.all false
set_option maxRecDepth 100000
set_option maxHeartbeats 400000
namespace Rb
open PySem PySem.Spec PyProof.Rows L2 HotX L2H
section
variable {K : Frag} {env : List Sl} {t u tt : TT} {te : TE} {ts tu : TS} {S O : Type} {enc : O → Out} {m n : S → Option O}
end
section
variable {K : Frag} {env : List Sl} {ta tb : TE}
end
structure EnQ {α : Type} [DecidableEq α] (e : α → PyData) (n : Nat) : Prop where
  dep : ∀ x, (e x).depth ≤ n
  eq : ∀ x y, PyData.eqv (e x) (e y) = decide (x = y)
section
variable {α β γ : Type} [DecidableEq α] [DecidableEq β] [DecidableEq γ] {e : α → PyData} {f : β → PyData} {g : γ → PyData} {n m l : Nat}
theorem EnQ.of (h : EnOk e n) : EnQ e n := ⟨h.dep, h.eq⟩
theorem EnQ.str : EnQ PyData.str 0 := ⟨fun x => Nat.le_refl _, fun x y => by
  show (x == y) = decide (x = y)
  by_cases c : x = y
  · rw [decide_eq_true c]; exact beq_iff_eq.mpr c
  · rw [decide_eq_false c]; exact beq_eq_false_iff_ne.mpr c⟩
theorem EnQ.depAll (h : EnQ e n) : ∀ xs : List α, PyData.depthAll (xs.map e) ≤ n
  | [] => Nat.zero_le _
  | x :: xs => by
    rw [List.map_cons]
    show max (PyData.depth (e x)) (PyData.depthAll (xs.map e)) ≤ n
    exact Nat.max_le.mpr ⟨h.dep x, h.depAll xs⟩
theorem EnQ.eqAll (h : EnQ e n) : ∀ xs ys : List α, PyData.eqvAll (xs.map e) (ys.map e) = decide (xs = ys)
  | [], [] => rfl
  | [], y :: ys => rfl
  | x :: xs, [] => rfl
  | x :: xs, y :: ys => by
    rw [List.map_cons, List.map_cons]
    show (PyData.eqv (e x) (e y) && PyData.eqvAll (xs.map e) (ys.map e)) = _
    rw [h.eq, h.eqAll xs ys]
    by_cases c : x = y
    · by_cases c2 : xs = ys
      · subst c; subst c2; simp
      · simp [c, c2]
    · simp [c]
theorem EnQ.list (h : EnQ e n) : EnQ (eL e) (n + 1) := ⟨fun x => Nat.succ_le_succ (h.depAll x), fun x y => h.eqAll x y⟩
theorem EnQ.tup (h : EnQ e n) : EnQ (eT e) (n + 1) := ⟨fun x => Nat.succ_le_succ (h.depAll x), fun x y => h.eqAll x y⟩
end
section
variable {K : Frag} {env : List Sl} {ta tb : TE} {α : Type}
end
end Rb

set_option Elab.async false
set_option linter.all false
set_option maxRecDepth 100000
set_option maxHeartbeats 400000
namespace Rb
open PySem PySem.Spec PyProof.Rows L2 HotX L2H
section
variable {K : Frag} {env : List Sl} {ta tb : TE} {d e : PyData}
end
end Rb

set_option Elab.async false
set_option linter.all false
set_option maxRecDepth 100000
set_option maxHeartbeats 400000
namespace Rb
open PySem PySem.Spec PyProof.Rows L2 HotX L2H
section
variable {K : Frag} {env env1 env2 env' : List Sl} {ta tb te tx ty : TE} {ts tu : TS} {d e : PyData} {ds es : List PyData} {g1 g2 : TG} {α β O : Type} {enc : O → Out} {m : Option O}
end
section
variable {K : Frag} {env : List Sl} {ds : List PyData}
end
section
variable {X : Cx} {a b c d : Expr} {ta tb tc td : TE} {pos : Pos}
end
section
variable {K : Frag} {env : List Sl} {ta tb tc td : TE}
end
section
variable {K : Frag} {env : List Sl} {ta tb te : TE} {d : PyData} {ds es : List PyData}
end
end Rb

set_option Elab.async false
set_option linter.all false
set_option maxRecDepth 100000
set_option maxHeartbeats 400000
namespace Rb
open PySem PySem.Spec PyProof.Rows L2 HotX L2H
section
variable {K : Frag} {env : List Sl} {ta tb : TE}
end
section
variable {K : Frag} {env : List Sl} {ta : TE} {α : Type} {e : α → PyData} {m : Option α}
theorem isNone_eO (hn : ∀ x, isNone (e x) = false) : isNone (eO e m) = m.isNone := by
  cases m with
  | none => rfl
  | some x => exact hn x
theorem ex_notNO (ha : EX K ta env (eO e m)) (hn : ∀ x, isNone (e x) = false := by intro _; rfl) : EX K (tOp (fun x y H Q => y = .non ∧ Q (.bl (!decide (x = .non))) H) ta (tC .non)) env (.bool (!m.isNone)) := by
  have := ex_notN ha
  rw [isNone_eO hn] at this
  exact this
end
end Rb

set_option Elab.async false
set_option linter.all false
set_option maxRecDepth 100000
set_option maxHeartbeats 4000000
namespace Rb
open PySem PySem.Spec PyProof.Rows L2
structure OexF (K : Frag) (f x : Str) : Prop where
  c : OexC K (He.ga K x)
  ini : PySem.W.findIn K (.ref (He.ga K x)) "__init__" = some (some (.ref (He.ma K (He.ga K x) "__init__")))
  ty : PySem.W.typeIn K (.ref (He.ma K (He.ga K x) "__init__")) = some (.type "function")
  no : PySem.W.findIn K (.ref (He.ga K x)) f = some none
  xf : XfC K (He.ga K x)
def spIni (f : Str) (K : Frag) : Sp := fun vs H Q _ => ∃ (a C : Addr) (v : V), vs = [.ref a, v] ∧ OexC K C ∧ PySem.W.findIn K (.ref C) f = some none ∧ H a = some (exo a C none) ∧ ∀ dx, H dx = none → dx ≠ a → Q .non (upd (upd H dx (exd dx [(f, v)])) a (exo a C (some dx)))
structure ExI (P : Program) (w : World) (K : Frag) (mg : Str → Option Value) (base : Heap) (f x : Str) : Prop where
  g : mg x = some (.ref (He.ga K x))
  o : OexF K f x
  fn : ∃ fd, FnOk P w K mg base CX0 1 (He.ma K (He.ga K x) "__init__") fd ["self", f] (spIni f K) ∧ Binds K fd ["self", f] []
section
variable {X : Cx} {K : Frag} {W : WX} {f x : Str} {e : Expr} {ta : TA} {p pos pos2 : Pos}
end
section
variable {K : Frag} {env env' envX : List Sl} {d : PyData} {ta : TA} {W : WX} {α β O S : Type} {ts tu : TS} {enc : O → Out} {m n : Option O} {f x : Str}
end
abbrev Cl : Type := Value × Nat × (Addr → Value → Option Addr → TS)
inductive ClOk (X : Cx) : List ExceptHandler → List Cl → Prop
  | nil : ClOk X [] []
  | cons {x n : Str} {c : Value} {i : Nat} {tx : Addr → Value → Option Addr → TS} {s0 : Stmt} {ss : List Stmt} {q q' : Pos} {hs : List ExceptHandler} {l : List Cl} (hi : X.N[i]? = some n) (hk : X.env.kindOf n = some .local) (hc : Names X x c)
      (hx : ∀ (a : Addr) (oe : Obj) (cls : Value) (d : Option Addr) (pn : List (Addr × Obj)), L2N.Zn cls d oe → (∃ vs, oe.data = .fields vs) → PSs (X.suite a ((a, oe) :: pn)) (s0 :: ss) (tx a cls d)) (r : ClOk X hs l) :
      ClOk X (.ExceptHandler (some (.Name x q)) (some n) (s0 :: ss) q' :: hs) ((c, i, tx) :: l)
section
variable {K : Frag} {env env' envS envX : List Sl} {α β O S : Type} {ts tu : TS} {enc : O → Out} {m n : Option O} {tx : Addr → Value → Option Addr → TS} {Wout : WX} {i : Nat} {x : Exn} {cl : List Cl}
end
end Rb

set_option Elab.async false
set_option linter.all false
set_option maxRecDepth 100000
set_option maxHeartbeats 4000000
namespace Rb
open PySem PySem.Spec PyProof.Rows L2
section
variable {K : Frag} {env : List Sl} {ta tb : TE}
end
section
variable {K : Frag} {env : List Sl} {α β : Type} {e : β → PyData} {i : Nat}
theorem ex_lenDT {kf : α → List Key} {xs : List (α × β)} (hi : env[i]? = some (.dt (xs.map (kvE kf e)))) : EX K (tCB rLenT (tCons (tVar i) tNil)) env (.int (xs.length : Int)) := fun F0 H0 F H σ E Q q => by
  obtain ⟨o, h1, p, ws, h2, h3, h4, h5, h6, h7⟩ := E.sl i _ hi
  subst h2
  have hl : ws.length = xs.length := by
    have := congrArg List.length h6.1
    simpa using this
  exact ⟨_, h1, p, ws, rfl, h5, by rw [hl]; exact q _ F H (Fz.refl E.fh) (.int _)⟩
end
section
variable {K : Frag} {env : List Sl} {O : Type} {ta tb tc : TE} {tu : TS} {enc : O → Out} {m : Option O}
end
theorem kT_tup : ∀ xs : List Int, eT PyData.int xs = .tuple ((kT xs).map kD) := fun xs => by
  show PyData.tuple (xs.map PyData.int) = PyData.tuple ((xs.map Sum.inl).map kD)
  rw [List.map_map]
  rfl
section
variable {K : Frag} {env : List Sl} {α O : Type} {e : α → PyData} {te : TE} {tr : TA} {tu : TS} {ds : List PyData} {enc : O → Out}
end
end Rb

set_option Elab.async false
set_option linter.all false
set_option maxRecDepth 100000
set_option maxHeartbeats 4000000
namespace Rb
open PySem PySem.Spec PyProof.Rows L2
section
variable {P : Program} {w : World} {A : Around} {E : Value → Shared → Prop} {s : Shared}
abbrev newSet (w : World) : Obj := { cls := .type "set", dict := none, data := .set #[] 0 (.fresh 0 0 (!w.params.followText "set-order")) }
def SetMade (w : World) (ns : List Int) (s s2 : Shared) : Prop := ∃ h' tk c, s2 = { s with heap := h', toks := tk } ∧ SetR w h' s.heap.objs.size (fun j => decide (j ∈ ns)) c ∧ c ≤ ns.length ∧ ∀ b o, s.heap.get? b = some o → h'.get? b = some o
theorem init_list {l : Addr} {items : Array Value} (ns : List Int) (hh : A.handled = none) (hl : s.heap.IsList l items) (hit : IntsAre items.toList ns) (hb : ns.length + 1 < scanBound) :
    codeAny (model P w) A (.call (.builtin "set.__init__") ⟨[.ref s.heap.objs.size, .ref l], []⟩) (wants (fun r s2 => r = .none ∧ SetMade w ns s s2) E) { s with heap := s.heap.push (newSet w) } := by
  have hsize : items.size = ns.length := by
    have q := IntsAre.length hit
    rwa [Array.length_toList] at q
  obtain ⟨⟨c0, d0, a0, sl0⟩, ho, hc, n0, hd⟩ := hl
  simp only at hc hd
  subst hc hd
  have lt : l < s.heap.objs.size := Heap.lt_size ho
  have hset : (s.heap.push (newSet w)).get? s.heap.objs.size = some (newSet w) := Heap.get?_push_size _ rfl
  have ho1 : (s.heap.push (newSet w)).get? l = some { cls := .type "list", dict := d0, data := .seq items n0, slots := sl0 } := Heap.get?_push_of_some _ ho
  have hl1 : (s.heap.push (newSet w)).IsList l items := ⟨_, ho1, rfl, n0, rfl⟩
  have k1 := F.sub_list_set
  have k2 := F.sub_list_frozenset
  have k3 : (Value.type "list" == Value.type "dict") = false := by decide
  have hsub := sub_set_self
  have hT : Shared.TypeIs { s with heap := s.heap.push (newSet w) } (.ref s.heap.objs.size) "set" := ⟨_, hset, rfl⟩
  have size1 : (s.heap.push (newSet w)).objs.size = s.heap.objs.size + 1 := Heap.size_push ..
  have ne1 : l ≠ (s.heap.push (newSet w)).objs.size := by rw [size1]; exact Nat.ne_of_lt (Nat.lt_succ_of_lt lt)
  have no1 : s.heap.objs.size ∉ [(s.heap.push (newSet w)).objs.size, l] := by
    rw [size1]
    simp only [List.mem_cons, List.not_mem_nil, or_false, not_or]
    exact ⟨Nat.ne_of_lt (Nat.lt_succ_self _), Nat.ne_of_gt lt⟩
  have each : ∀ (i : Nat) (v : Value), items[i]? = some v → ∃ k t, ns[i]? = some k ∧ v = .int k t := fun i v hv => by
    have hi : i < ns.length := by rw [← hsize]; exact (Array.getElem?_eq_some_iff.mp hv).1
    obtain ⟨t, e⟩ := PyProof.Rows.IntsAre.int_at hit i v (by rw [Array.getElem?_toList]; exact hv)
    refine ⟨ns[i], t, List.getElem?_eq_getElem hi, ?_⟩
    rw [e, List.getD_eq_getElem?_getD, List.getElem?_eq_getElem hi] <;> rfl
  refine codeAny_mono (codeAny_call_builtin (R := wants (fun r s2 => r = .none ∧ SetMade w ns s s2) E) F.called_set.init.plain F.entry_set_init (check_set_init_1 hT ?_)) fun r s2 h => h
  unfold Builtin.«set.__init__» noKeywords Builtin.Frozenset.updateFrom
  generalize hit' : pyIter = itr
  wp_walk
  subst hit'
  refine wpAny_pyIter_list hl1 (wpAny_bind (wpAny_runValue ?_))
  refine set_update_ints ((Walks.list (by simp [hh]) _ l ne1 items).toS) s.heap.objs.size no1 ns hsize hb each (items.size - 0) 0 _ (by omega) (Nat.zero_le _)
    ⟨⟨_, Heap.get?_push_size _ rfl, rfl, rfl⟩, hl1.push _⟩ ?h0 ?hR
  case h0 => exact ⟨0, Nat.le_refl 0, setR_new_at (Heap.get?_push_of_some _ hset)⟩
  case hR =>
  intro s2 c hm hc2 hS
  obtain ⟨h2, g2, d2, t2, o2⟩ := s2
  cases hm.gens
  cases hm.drawn
  cases hm.os
  refine wpAny_pure (wpAny_pure ⟨rfl, h2, t2, c, rfl, hS, by omega, fun b o e => ?_⟩)
  have b1 : b < s.heap.objs.size := Heap.lt_size e
  refine hm.heap b o ?_ (Heap.get?_push_of_some _ (Heap.get?_push_of_some _ e))
  simp only [List.mem_cons, List.not_mem_nil, or_false, not_or]
  rw [size1]
  exact ⟨Nat.ne_of_lt b1, Nat.ne_of_lt (Nat.lt_succ_of_lt b1)⟩
theorem call_set_ints {l : Addr} {items : Array Value} (ns : List Int) {Q : Value → Shared → Prop} (hh : A.handled = none) (hl : s.heap.IsList l items) (hit : IntsAre items.toList ns) (hb : ns.length + 1 < scanBound)
    (h : ∀ s2, SetMade w ns s s2 → Q (.ref s.heap.objs.size) s2) : wpAny (model P w) A (call (.type "set") [.ref l]) Q E s := by
  obtain ⟨c, tl, hmro⟩ := F.called_set.mro
  have hmade := F.called_set.made
  have hsub := F.called_set.sub
  have h1 := F.called_set.notType
  have h2 := F.called_set.canCreate
  have hct := F.typeCall_set_1 (.ref l)
  refine wpAny_call (codeAny_of_tree ?_)
  show wpAny _ _ (callAny (.type "set") _) _ _ _
  refine wpAny_pure ⟨Code.quiet_builtin _ (by decide +kernel), codeAny_builtin F.entry_type_call ?_⟩
  rw [Around.under_plain (weight_type_call_type "set" [.ref l] []) rfl]
  repeat (any_goals (first | assumption | wp_step))
  refine codeAny_mono (code_set_led1 (.ref l) (E := E) (Q₁ := fun o s1 => o = .ref s.heap.objs.size ∧ s1 = { s with heap := s.heap.push (newSet w) }) ⟨rfl, rfl⟩) fun r s1 hr => ?_
  cases r with
  | error e => exact hr
  | ok fl =>
    cases fl with
    | ret obj =>
      obtain ⟨rfl, rfl⟩ := hr
      have hT : Shared.TypeIs { s with heap := s.heap.push (newSet w) } (.ref s.heap.objs.size) "set" := ⟨_, Heap.get?_push_size _ rfl, rfl⟩
      have hli := F.called_set.init.lookup
      have hbi := F.called_set.init.bind (.ref s.heap.objs.size)
      repeat (any_goals (first | assumption | wp_step))
      refine codeAny_mono (init_list (E := E) ns (by simpa using hh) hl hit hb) fun r2 s2 hr2 => ?_
      cases r2 with
      | error e => exact hr2
      | ok fl2 =>
        cases fl2 with
        | ret r =>
          obtain ⟨rfl, hm⟩ := hr2
          repeat (any_goals (first | assumption | wp_step))
          exact h s2 hm
        | _ => exact hr2.elim
    | _ => exact hr.elim
end
def insU (x : Int) : List Int → List Int
  | [] => [x]
  | y :: ys => if x < y then x :: y :: ys else if x = y then y :: ys else y :: insU x ys
def sortU (xs : List Int) : List Int := xs.foldr insU []
theorem mem_insU {x k : Int} : ∀ {ys : List Int}, k ∈ insU x ys ↔ k = x ∨ k ∈ ys
  | [] => by simp [insU]
  | y :: ys => by
    unfold insU
    split
    · simp
    · split
      · rename_i h; subst h; simp
      · rw [List.mem_cons, mem_insU, List.mem_cons]; grind
theorem insU_up {x : Int} : ∀ {ys : List Int}, ys.Pairwise (· < ·) → (insU x ys).Pairwise (· < ·)
  | [], _ => by simp [insU]
  | y :: ys, h => by
    obtain ⟨h1, h2⟩ := List.pairwise_cons.mp h
    unfold insU
    split
    · rename_i c
      refine List.pairwise_cons.mpr ⟨fun z hz => ?_, h⟩
      rcases List.mem_cons.mp hz with e | e
      · rw [e]; exact c
      · have := h1 z e; omega
    · split
      · exact h
      · refine List.pairwise_cons.mpr ⟨fun z hz => ?_, insU_up h2⟩
        rcases mem_insU.mp hz with e | e
        · omega
        · exact h1 z e
theorem mem_sortU {k : Int} : ∀ {xs : List Int}, k ∈ sortU xs ↔ k ∈ xs
  | [] => by simp [sortU]
  | x :: xs => by
    show k ∈ insU x (sortU xs) ↔ _
    rw [mem_insU, mem_sortU, List.mem_cons]
theorem sortU_up : ∀ xs : List Int, (sortU xs).Pairwise (· < ·)
  | [] => List.Pairwise.nil
  | x :: xs => insU_up (sortU_up xs)
theorem up_uniq : ∀ {xs ys : List Int}, xs.Pairwise (· < ·) → ys.Pairwise (· < ·) → (∀ k, k ∈ xs ↔ k ∈ ys) → xs = ys
  | [], [], _, _, _ => rfl
  | [], y :: ys, _, _, h => absurd ((h y).mpr List.mem_cons_self) (by simp)
  | x :: xs, [], _, _, h => absurd ((h x).mp List.mem_cons_self) (by simp)
  | x :: xs, y :: ys, h1, h2, h => by
    obtain ⟨a1, a2⟩ := List.pairwise_cons.mp h1
    obtain ⟨b1, b2⟩ := List.pairwise_cons.mp h2
    have e : x = y := by
      rcases List.mem_cons.mp ((h x).mp List.mem_cons_self) with c | c
      · exact c
      · rcases List.mem_cons.mp ((h y).mpr List.mem_cons_self) with d | d
        · exact d.symm
        · have := a1 y d; have := b1 x c; omega
    subst e
    rw [up_uniq a2 b2 fun k => ⟨fun hk => ?_, fun hk => ?_⟩]
    · rcases List.mem_cons.mp ((h k).mp (List.mem_cons_of_mem _ hk)) with c | c
      · have := a1 k hk; omega
      · exact c
    · rcases List.mem_cons.mp ((h k).mpr (List.mem_cons_of_mem _ hk)) with c | c
      · have := b1 k hk; omega
      · exact c
theorem insU_len {x : Int} : ∀ {ys : List Int}, (insU x ys).length ≤ ys.length + 1
  | [] => by simp [insU]
  | y :: ys => by
    unfold insU
    split
    · simp
    · split
      · simp
      · rw [List.length_cons, List.length_cons]; have := insU_len (x := x) (ys := ys); omega
theorem sortU_len : ∀ {xs : List Int}, (sortU xs).length ≤ xs.length
  | [] => Nat.le_refl _
  | x :: xs => by
    have h := insU_len (x := x) (ys := sortU xs)
    have := sortU_len (xs := xs)
    show (insU x (sortU xs)).length ≤ _
    rw [List.length_cons]; omega
def tSortSet (K : Frag) (ta : TE) : TE := fun σ H Q => ta σ H fun x H1 => ∃ (l : Addr) (ns : List Int), x = V.ref l ∧ SqL K H1 l (ns.map V.int) ∧ ns.length < 60 ∧ ∀ p, H1 p = none → Q (.ref p) (upd H1 p (.lst ((sortU ns).map V.int)))
theorem pe_sortSet' {X : Cx} {a : Expr} {ta : TE} {p p2 q pos : Pos} (hc : X.calm = true) (hg : Gl X "sorted") (hm : X.mg "sorted" = none) (hg2 : Gl X "set") (hm2 : X.mg "set" = none) (ha : PE X a ta)
    (na : starEach [a] X.env = (false, eval a X.env) :: starEach [] X.env := by rfl) : PE X (.Call (.Name "sorted" p) [.Call (.Name "set" p2) [a] [] q] [] pos) (tSortSet X.K ta) := by
  refine ⟨fun pins s σ H Q I h => ?_⟩
  refine Call_ (ld_blt I hg hm PyProof.Rows.boot_sorted ?_)
  refine PyProof.Rows.callWith_builtin1 (PyProof.Rows.args_cons ?_ rfl) rfl rfl
  refine Call_ (ld_blt I hg2 hm2 PyProof.Rows.boot_set ?_)
  refine PyProof.Rows.callWith_type1 (PyProof.Rows.args_cons (thn (ha.run pins s σ H _ I h) fun v s1 ⟨x, H1, I1, r1, q1⟩ => PyProof.Rows.args_nil ?_) na) na rfl
  obtain ⟨l, ns, rfl, hq, h1, q1⟩ := q1
  cases r1
  obtain ⟨its, r, pl, hz⟩ := I1.list hq
  refine call_set_ints ns (I1.ok.hd hc) pl.isList (by simpa using r.ints) (by unfold scanBound; omega) fun s2 hm2 => ?_
  obtain ⟨h', tk, c, rfl, hS, hle, hk⟩ := hm2
  refine PyProof.Rows.args_nil ?_
  have I2 : Inv X pins σ H1 { s1 with heap := h', toks := tk } := I1.kept hk
  refine sorted_set hS (I2.ok.hd hc) (by omega) fun s' p out cc ks k g o hp hgp hi hs hm hl => ?_
  have e : ks = sortU ns := up_uniq hs (sortU_up ns) fun j => by rw [hm, mem_sortU, decide_eq_true_eq]
  subst e
  have hn : H1 p = none := I2.hok.fresh hp
  have hlen : ((sortU ns).map V.int).length ≤ sizeLine := by rw [List.length_map, hl, sizeLine_eq]; omega
  exact ⟨.ref p, upd H1 p (.lst ((sortU ns).map V.int)), I2.call' (ch := []) o (Un.laid k hp hn) (I2.hok.laid k hp ⟨hlen, out.toList, cc, vals_of_ints hi, hgp⟩) (by rw [g]; exact I2.bare) (fun _ z => nomatch z), rfl, q1 p hn⟩
theorem pe_sortSet {X : Cx} {K : Frag} {a : Expr} {ta : TE} {p p2 q pos : Pos} (hc : X.calm = true) (hg : Gl X "sorted") (hm : X.mg "sorted" = none) (hg2 : Gl X "set") (hm2 : X.mg "set" = none) (ha : PE X a ta)
    (na : starEach [a] X.env = (false, eval a X.env) :: starEach [] X.env := by rfl) (h : X.K = K := by rfl) : PE X (.Call (.Name "sorted" p) [.Call (.Name "set" p2) [a] [] q] [] pos) (tSortSet K ta) := by subst h; exact pe_sortSet' hc hg hm hg2 hm2 ha na
section
variable {K : Frag} {env : List Sl} {ta : TE}
theorem exw_sortSet {ns : List Int} (ha : EXl K ta env (ns.map PyData.int)) (h : ns.length < 60) : EXw K (tSortSet K ta) env ((sortU ns).map PyData.int) := fun F0 H0 F H σ E Q q =>
  ha E _ fun p vs F1 H1 z1 h1 a1 l1 => by
    have e := a1.ints
    subst e
    refine ⟨p, ns, rfl, SqL.of h1, h, fun l hl => ?_⟩
    have hF : F1 l = none := Evl.fresh_back ((E.step z1).fh) hl
    exact q l _ F1 _ (z1.trans (Fz.add (E.step z1).fh hl)) (z1.hn hl) hF upd_same (DqAll.ints' _) (by rw [List.length_map] at l1 ⊢; exact Nat.le_trans sortU_len l1)
end
end Rb

set_option Elab.async false
set_option linter.all false
set_option maxRecDepth 100000
set_option maxHeartbeats 4000000
namespace Rb
open PySem PySem.Spec PyProof.Rows L2
section
variable {prog : Program} {w : World} {A : Around} {E : Value → Shared → Prop} {s : Shared}
end
section
variable {α : Type} {le : α → α → Bool}
end
section
variable {K : Frag} {env : List Sl} {ta : TE}
end
def alike (xs : List (List Int)) : Bool := xs.all fun x => decide (1 ≤ x.length) && decide (x.length = (xs.headD []).length) && x.all fun i => decide (0 ≤ i) && decide (i < 64)
section
variable {K : Frag} {env : List Sl} {ta : TE}
end
section
variable {K : Frag} {env : List Sl} {α O : Type} {ds : List PyData} {tu : TS} {enc : O → Out} {m : Option O} {to te : TE}
end
end Rb

set_option Elab.async false
set_option linter.all false
set_option maxRecDepth 100000
set_option maxHeartbeats 2000000
namespace Rb
open PySem PySem.Spec PyProof.Rows L2
section
variable {K : Frag} {env env' env1 : List Sl} {ta tb te tx ty td : TE} {α β S R O : Type} {ts tu : TS} {tt : TT} {enc : O → Out} {m n : Option O} {i : Nat} {d : PyData} {ds es : List PyData} {wi : TI} {g : TG}
theorem ex_dget2T [DecidableEq α] {kf : α → List Key} {e : β → PyData} (inj : ∀ a b, kf a = kf b → a = b) {xs : List (α × β)} {k : α} {y : β} (hi : env[i]? = some (.dt (xs.map (kvE kf e)))) (hk : EX K ty env (.tuple ((kf k).map kD))) (hy : EX K tx env (e y)) : EX K (tDGet2 (tVar i) ty tx) env (e ((lookA xs k).getD y)) := fun F0 H0 F H σ E Q q => by
  obtain ⟨o, h1, p, ws, h2, h3, h4, h5, h6, h7⟩ := E.sl i _ hi
  subst h2
  refine ⟨_, h1, p, rfl, .inr ⟨_, Rd.of h5⟩, hk E _ fun w F1 H1 z1 hw => hy (E.step z1) _ fun u F2 H2 z2 hu => ?_⟩
  obtain ⟨f1, hh1⟩ := (z1.trans z2).own p _ h5 h4
  have h6' := h6.mono (z1.trans z2).f
  cases hw with
  | tup t1 t2 t3 =>
    rw [kD_all t2] at t1
    refine ⟨_, DGet.t hh1 (z2.fh _ _ (z2.f _ _ t1)), ?_⟩
    cases q2 : lookA xs k with
    | none =>
      rw [h6'.none (k := kf k) (by rw [lookA_map inj, q2]; rfl)]
      rw [q2] at q
      exact q u F2 H2 (z1.trans z2) hu
    | some v =>
      obtain ⟨v', hv1, hv2⟩ := h6'.look (k := kf k) (d := e v) (by rw [lookA_map inj, q2]; rfl)
      rw [hv1]
      rw [q2] at q
      exact q v' F2 H2 (z1.trans z2) hv2
def repOkL (xs : List α) (k : Int) : Prop := k < 2 ^ 62 ∧ -(2 ^ 62) ≤ k ∧ xs.length * k.toNat ≤ lim
instance (xs : List α) (k : Int) : Decidable (repOkL xs k) := inferInstanceAs (Decidable (_ ∧ _ ∧ _))
def tFz (t : TS) : TS := fun D σ H => ∃ d u, H d = some u ∧ Mut (some u) ∧ ∀ od, t D σ (upd H d (.frz od u))
theorem ps_fz {X : Cx} {st : Stmt} {t : TS} (h : PS X st t) : PS X st (tFz t) := ⟨fun pins s σ H D I hw => by
  obtain ⟨d, u, hd, mu, hw⟩ := hw
  obtain ⟨od, I1⟩ := I.lock hd mu
  exact h.run pins s σ _ D I1 (hw od)⟩
theorem EnvOk.fz {F0 H0 F H : Hp} {σ : List (Option V)} (E : EnvOk K F0 H0 F H σ env) {p : Addr} {u : HO} {s t : Sl} {ob : Obj} (hs : env[i]? = some s) (os : s.owned = true) (hi : σ[i]? = some (some (.ref p))) (hF : F p = none) (ht : ∀ F', Ex F F' → F' p = some (.frz ob u) → SlA K H0 F' (upd H p (.frz ob u)) (some (.ref p)) [] t) :
    ∃ F', EnvOk K F0 H0 F' (upd H p (.frz ob u)) σ (env.set i t) := by
  have m := Evl.Ex.new (o := HO.frz ob u) hF
  refine ⟨upd F p (.frz ob u), E.mutT (A := [p]) (B := []) (fun a w q => ?_) m hs hi (fun A' h c mc => by rw [owned_at os h]; exact mc) (fun a w h f n => ?_) (fun b mb => by cases mb) (ht _ m upd_same)⟩
  · by_cases z : a = p
    · subst z; rw [upd_same] at q ⊢; exact q
    · rw [upd_ne z] at q ⊢; exact E.fh a w q
  · have z : a ≠ p := fun z => n (by rw [z]; exact List.mem_singleton.mpr rfl)
    rw [upd_ne z, upd_ne z]
    exact ⟨fun _ => f, h⟩
theorem bx_fzT {kvs : List (List Key × PyData)} (i : Nat) (hs : env[i]? = some (.dt kvs)) (h : BX K (tSeq ts tu) (env.set i (.ft kvs)) enc m) : BX K (tSeq (tFz ts) tu) env enc m := fun o ho F0 H0 F H σ D E c => by
  obtain ⟨o1, h1, p, xs, h2, h3, h4, h5, h6, h7⟩ := E.sl i _ hs
  subst h2
  refine ⟨p, _, h5, trivial, fun od => ?_⟩
  obtain ⟨F', E'⟩ := E.fz (ob := od) (u := .dT xs) (t := .ft kvs) hs rfl h1 h4 fun F' e he => ⟨⟨p, od, xs, rfl, he, h6.mono e, h7⟩, rfl⟩
  exact h o ho D E' c
theorem ex_dgetFT [DecidableEq α] {kf : α → List Key} {e : β → PyData} (inj : ∀ a b, kf a = kf b → a = b) {xs : List (α × β)} {k : α} {x : β} (hi : env[i]? = some (.ft (xs.map (kvE kf e)))) (hk : EX K ty env (.tuple ((kf k).map kD))) (hx : lookA xs k = some x) : EX K (tDGet (tVar i) ty) env (e x) := fun F0 H0 F H σ E Q q => by
  obtain ⟨o, h1, p, ob, ws, h2, h4, h6, h7⟩ := E.sl i _ hi
  subst h2
  refine ⟨_, h1, hk E _ fun w F1 H1 z1 hw => ?_⟩
  have hl : lookA (xs.map (kvE kf e)) (kf k) = some (e x) := by rw [lookA_map inj, hx]; rfl
  obtain ⟨v, hv1, hv2⟩ := (h6.mono z1.f).look hl
  cases hw with
  | tup t1 t2 t3 =>
    rw [kD_all t2] at t1
    refine ⟨p, v, rfl, ?_, q v F1 H1 z1 hv2⟩
    rw [← hv1]
    exact .inr ⟨_, kf k, _, .inr ⟨ob, z1.fh _ _ (z1.f _ _ h4)⟩, rfl, z1.fh _ _ t1, rfl⟩
theorem ex_dninT [DecidableEq α] {kf : α → List Key} {e : β → PyData} (inj : ∀ a b, kf a = kf b → a = b) {xs : List (α × β)} {k : α} (hi : env[i]? = some (.dt (xs.map (kvE kf e)))) (hk : EX K ty env (.tuple ((kf k).map kD))) : EX K (tDNotIn ty (tVar i)) env (.bool (!(lookA xs k).isSome)) := fun F0 H0 F H σ E Q q => by
  refine hk E _ fun w F1 H1 z1 hw => ?_
  obtain ⟨o, h1, p, ws, h2, h3, h4, h5, h6, h7⟩ := (E.step z1).sl i _ hi
  subst h2
  cases hw with
  | tup t1 t2 t3 =>
    rw [kD_all t2] at t1
    refine ⟨_, h1, p, _, rfl, DGet.t h5 (z1.fh _ _ t1), ?_⟩
    have e1 : (valV ws (kf k)).isSome = (lookA xs k).isSome := by rw [look_isSome h6, lookA_map inj]; simp
    rw [e1]
    exact q _ F1 H1 z1 (.bl _)
theorem kT_dq (F : Hp) : ∀ k : List Int, DqAll F ((kT k).map kV) (k.map PyData.int)
  | [] => .nil
  | x :: xs => .cons (.int x) (kT_dq F xs)
theorem kv_get {κ : Type} {F : Hp} {ws : List (κ × V)} {kvs : List (κ × PyData)} (h : KvOk F ws kvs) {j : Nat} {p : κ × PyData} (hp : kvs[j]? = some p) : ∃ v, ws[j]? = some (p.1, v) := by
  have e : (ws.map (·.1))[j]? = (kvs.map (·.1))[j]? := by rw [h.1]
  rw [List.getElem?_map, List.getElem?_map, hp] at e
  cases q : ws[j]? with
  | none => rw [q] at e; cases e
  | some w =>
    rw [q] at e
    have e : w.1 = p.1 := Option.some.inj e
    exact ⟨w.2, by rw [← e]⟩
theorem eis_keysFT {e : β → PyData} {xs : List (List Int × β)} (hi : env[i]? = some (.ft (xs.map (kvE kT e)))) : EIs K (iKeys (tVar i)) env ((xs.map (·.1)).map (eT PyData.int)) := fun F0 H0 F H σ E R r => by
  obtain ⟨o, h1, p, ob, ws, h2, h4, h6, h7⟩ := E.sl i _ hi
  subst h2
  have hl := h6.len
  rw [List.length_map] at hl
  refine ⟨_, h1, p, ob, rfl, .inr ⟨ws, E.fh _ _ h4, r _ F H (Fz.refl E.fh) (by have := h7.1; rw [List.length_map] at this; rw [List.length_map, List.length_map]; exact this) ⟨fun F1 H1 j d p1 ex hd => ?_, fun F1 H1 p1 ex => ?_⟩⟩⟩
  · rw [List.getElem?_map, List.getElem?_map] at hd
    obtain ⟨k, hk, rfl⟩ := Option.map_eq_some_iff.mp hd
    obtain ⟨x, hx, rfl⟩ := Option.map_eq_some_iff.mp hk
    have jl := (List.getElem?_eq_some_iff.mp hx).1
    obtain ⟨w, hw⟩ := kv_get h6 (j := j) (p := kvE kT e x) (by rw [List.getElem?_map, hx]; rfl)
    refine ⟨⟨ex _ _ (p1 _ _ h4), by rw [hl]; exact jl⟩, fun y H' hy => ?_⟩
    obtain ⟨rfl, k', v', q, a1, rfl, a3⟩ := hy
    rw [hw] at a1
    cases a1
    obtain ⟨F2, z2, f2⟩ := Fz.tup ex a3
    refine ⟨F2, z2, .tup f2 (kT_dq _ _) ?_⟩
    have := h7.2 (kvE kT e x) (List.mem_map.mpr ⟨x, List.mem_of_getElem? hx, rfl⟩)
    have : (kT x.1).length ≤ lim := this
    rw [List.length_map] at this ⊢
    exact this
  · refine ⟨ex _ _ (p1 _ _ h4), ?_⟩
    rw [hl, List.length_map, List.length_map]
    exact Nat.le_refl _
end
end Rb

set_option Elab.async false
set_option linter.all false
set_option maxRecDepth 100000
set_option maxHeartbeats 2000000
namespace Rb
namespace HTx
open PySem PySem.Spec PyProof.Rows HT
section
variable {prog : Program} {w : World} {A : Around} {E : Value → Shared → Prop} {s : Shared}
end
end HTx
open PySem PySem.Spec PyProof.Rows L2
end Rb

set_option Elab.async false
set_option linter.all false
set_option maxRecDepth 100000
set_option maxHeartbeats 2000000
namespace Rb
open PySem PySem.Spec PyProof.Rows L2
def slT (v : V) (t : OT) : Sl := match v with
  | .ref p => .tb p t
  | _ => .tr t
theorem slT_ok {K : Frag} {H0 F H : Hp} {v : V} {t : OT} {A : List Addr} : SlA K H0 F H (some v) A (slT v t) ↔ Tr F H v t A ∧ A.Nodup ∧ ∀ a, a ∈ A → F a = none ∧ H0 a = none := by
  cases v with
  | ref p =>
    show (some (V.ref p) = some (V.ref p) ∧ Tr F H (.ref p) t A ∧ A.Nodup ∧ ∀ a, a ∈ A → F a = none ∧ H0 a = none) ↔ _
    exact ⟨fun h => h.2, fun h => ⟨rfl, h⟩⟩
  | _ =>
    show (∃ w, some _ = some w ∧ Tr F H w t A ∧ A.Nodup ∧ ∀ a, a ∈ A → F a = none ∧ H0 a = none) ↔ _
    constructor
    · rintro ⟨w, e, h⟩
      cases e
      exact h
    · intro h
      exact ⟨_, rfl, h⟩
theorem tr_ok {K : Frag} {H0 F H : Hp} {v : V} {t : OT} {A : List Addr} : SlA K H0 F H (some v) A (.tr t) ↔ Tr F H v t A ∧ A.Nodup ∧ ∀ a, a ∈ A → F a = none ∧ H0 a = none := by
  show (∃ w, some v = some w ∧ Tr F H w t A ∧ A.Nodup ∧ ∀ a, a ∈ A → F a = none ∧ H0 a = none) ↔ _
  constructor
  · rintro ⟨w, e, h⟩
    cases e
    exact h
  · intro h
    exact ⟨_, rfl, h⟩
def Sl.up : Sl → OT → Sl
  | .tb p _, u => .tb p u
  | _, u => .tr u
def Sl.isT : Sl → OT → Prop
  | .tb _ t, u => t = u
  | .tr t, u => t = u
  | _, _ => False
theorem isT_at {K : Frag} {H0 F H : Hp} {o : Option V} {A : List Addr} {s : Sl} {t : OT} (h : s.isT t) (a : SlA K H0 F H o A s) : ∃ v, o = some v ∧ Tr F H v t A ∧ A.Nodup ∧ ∀ a, a ∈ A → F a = none ∧ H0 a = none := by
  cases s with
  | tr u => cases h; exact a
  | tb p u => cases h; exact ⟨_, a.1, a.2⟩
  | _ => cases h
section
variable {K : Frag} {F0 H0 F H F' H' : Hp} {σ : List (Option V)} {env env' : List Sl}
theorem push_env {env : List Sl} {r : Sl} {j : Nat} {s : Sl} (h : (env ++ [r])[j]? = some s) : (j < env.length ∧ env[j]? = some s) ∨ (j = env.length ∧ s = r) := by
  by_cases c : j < env.length
  · rw [List.getElem?_append_left c] at h
    exact .inl ⟨c, h⟩
  · rw [List.getElem?_append_right (by omega)] at h
    obtain ⟨l, e⟩ := List.getElem?_eq_some_iff.mp h
    rw [List.length_singleton] at l
    have : j = env.length := by omega
    subst this
    refine .inr ⟨rfl, ?_⟩
    simp at e
    exact e.symm
theorem EnvOk.ret (E : EnvOk K F0 H0 F H σ env) {C : List Addr} (e : Ex F F') (fh : Ex F' H') (k : ∀ a u, H a = some u → F a = none → a ∉ C → (NoTup u → F' a = none) ∧ H' a = some u)
    {i : Nat} {s t : Sl} {o : Option V} (hi : env[i]? = some s) (ho : σ[i]? = some o) (hc : ∀ A, SlA K H0 F H o A s → ∀ c, c ∈ C → c ∈ A) {B : List Addr} (hb : ∀ b, b ∈ B → H b = none ∨ b ∈ C) (ht : SlA K H0 F' H' o B t)
    {v : V} {r : Sl} {D : List Addr} (hd : ∀ b, b ∈ D → H b = none ∨ b ∈ C) (hr : SlA K H0 F' H' (some v) D r) (dis : ∀ b, b ∈ B → b ∉ D) : EnvOk K F0 H0 F' H' (σ ++ [some v]) (env.set i t ++ [r]) := by
  have P := E.put i o (B := B) (C := C) e fh k (.inr ⟨s, o, hi, ho, hc⟩) hb ht
  rw [set_self ho] at P
  obtain ⟨As0, a0, d0⟩ := E.as
  have il : i < env.length := (List.getElem?_eq_some_iff.mp hi).1
  -- the same places as in put, with D behind
  have cA : ∀ c, c ∈ C → c ∈ As0 i := fun c m => by
    obtain ⟨o', h1, h2⟩ := a0 i s hi
    rw [ho] at h1
    cases h1
    exact hc _ h2 c m
  have keep : ∀ j s', j ≠ i → env[j]? = some s' → ∃ o', σ[j]? = some o' ∧ SlA K H0 F' H' o' (As0 j) s' := fun j s' n hj => by
    obtain ⟨o', h1, h2⟩ := a0 j s' hj
    refine ⟨o', h1, h2.keep e k (fun c m => ?_) fun c m mc => ?_⟩
    · obtain ⟨o2, h3, h4⟩ := a0 i s hi
      have := h4.free c (cA c m)
      exact ⟨this.2.1, fun u hu => by
        obtain ⟨_, _, u', hu', nx⟩ := this
        rw [hu] at hu'; cases hu'
        exact nx⟩
    · exact n (d0 j i s' s c hj hi m (cA c mc))
  have far : ∀ j s' p, j ≠ i → env[j]? = some s' → p ∈ As0 j → (H p = none ∨ p ∈ C) → False := fun j s' p n hj m z => by
    obtain ⟨o', h1, h2⟩ := a0 j s' hj
    rcases z with z | z
    · obtain ⟨_, _, u, hu, _⟩ := h2.free p m
      rw [z] at hu; cases hu
    · exact n (d0 j i s' s p hj hi m (cA p z))
  refine ⟨P.z, by simp [E.len], fun j => if j = env.length then D else if j = i then B else As0 j, fun j s' h => ?_, fun j l s' t' p hj hl mj ml => ?_⟩
  · rcases push_env h with ⟨c, h⟩ | ⟨c, rfl⟩
    · rw [List.length_set] at c
      have nj : j ≠ env.length := by omega
      rw [List.getElem?_append_left (by rw [E.len]; exact c)]
      dsimp only
      rw [if_neg nj]
      rcases set_env h with ⟨rfl, rfl, _⟩ | ⟨n, h⟩
      · exact ⟨o, ho, by rw [if_pos rfl]; exact ht⟩
      · rw [if_neg n]
        exact keep j s' n h
    · rw [List.length_set] at c
      refine ⟨some v, ?_, ?_⟩
      · rw [c, ← E.len, List.getElem?_append_right (Nat.le_refl _)]
        simp
      · dsimp only
        rw [if_pos c]
        exact hr
  · dsimp only at mj ml
    rcases push_env hj with ⟨cj, hj⟩ | ⟨cj, ej⟩
    · rw [List.length_set] at cj
      rw [if_neg (show j ≠ env.length by omega)] at mj
      rcases push_env hl with ⟨cl, hl⟩ | ⟨cl, el⟩
      · rw [List.length_set] at cl
        rw [if_neg (show l ≠ env.length by omega)] at ml
        rcases set_env hj with ⟨rfl, _, _⟩ | ⟨nj, hj2⟩
        · rw [if_pos rfl] at mj
          rcases set_env hl with ⟨rfl, _, _⟩ | ⟨nl, hl2⟩
          · rfl
          · rw [if_neg nl] at ml
            exact (far l t' p nl hl2 ml (hb p mj)).elim
        · rw [if_neg nj] at mj
          rcases set_env hl with ⟨rfl, _, _⟩ | ⟨nl, hl2⟩
          · rw [if_pos rfl] at ml
            exact (far j s' p nj hj2 mj (hb p ml)).elim
          · rw [if_neg nl] at ml
            exact d0 j l s' t' p hj2 hl2 mj ml
      · rw [List.length_set] at cl
        rw [if_pos cl] at ml
        rcases set_env hj with ⟨rfl, _, _⟩ | ⟨nj, hj2⟩
        · rw [if_pos rfl] at mj
          exact (dis p mj ml).elim
        · rw [if_neg nj] at mj
          exact (far j s' p nj hj2 mj (hd p ml)).elim
    · rw [List.length_set] at cj
      rw [if_pos cj] at mj
      rcases push_env hl with ⟨cl, hl⟩ | ⟨cl, el⟩
      · rw [List.length_set] at cl
        rw [if_neg (show l ≠ env.length by omega)] at ml
        rcases set_env hl with ⟨rfl, _, _⟩ | ⟨nl, hl2⟩
        · rw [if_pos rfl] at ml
          exact (dis p ml mj).elim
        · rw [if_neg nl] at ml
          exact (far l t' p nl hl2 ml (hd p mj)).elim
      · rw [List.length_set] at cl
        rw [cj, cl]
theorem EnvOk.push (E : EnvOk K F0 H0 F H σ env) (z : Fz F H F' H') {v : Option V} {r : Sl} {D : List Addr} (hd : ∀ b, b ∈ D → H b = none) (hr : SlA K H0 F' H' v D r) : EnvOk K F0 H0 F' H' (σ ++ [v]) (env ++ [r]) := by
  obtain ⟨As, a, d⟩ := (E.step z).as
  obtain ⟨As0, a0, d0⟩ := E.as
  have P := E.step z
  have keep : ∀ j s', env[j]? = some s' → ∃ o', σ[j]? = some o' ∧ SlA K H0 F' H' o' (As0 j) s' ∧ ∀ p, p ∈ As0 j → H p ≠ none := fun j s' hj => by
    obtain ⟨o', h1, h2⟩ := a0 j s' hj
    refine ⟨o', h1, h2.keep (C := []) z.f (fun p u hp hf _ => z.own' p u hp hf) (fun _ m => by cases m) (fun _ _ m => by cases m), fun p m y => ?_⟩
    obtain ⟨_, _, u, hu, _⟩ := h2.free p m
    rw [y] at hu; cases hu
  refine ⟨P.z, by simp [E.len], fun j => if j = env.length then D else As0 j, fun j s' h => ?_, fun j l s' t' p hj hl mj ml => ?_⟩
  · rcases push_env h with ⟨c, h⟩ | ⟨c, rfl⟩
    · rw [List.getElem?_append_left (by rw [E.len]; exact c)]
      dsimp only
      rw [if_neg (show j ≠ env.length by omega)]
      obtain ⟨o', h1, h2, _⟩ := keep j s' h
      exact ⟨o', h1, h2⟩
    · refine ⟨v, ?_, ?_⟩
      · rw [c, ← E.len, List.getElem?_append_right (Nat.le_refl _)]
        simp
      · dsimp only
        rw [if_pos c]
        exact hr
  · dsimp only at mj ml
    rcases push_env hj with ⟨cj, hj⟩ | ⟨cj, ej⟩
    · rw [if_neg (show j ≠ env.length by omega)] at mj
      rcases push_env hl with ⟨cl, hl⟩ | ⟨cl, el⟩
      · rw [if_neg (show l ≠ env.length by omega)] at ml
        exact d0 j l s' t' p hj hl mj ml
      · rw [if_pos cl] at ml
        exact ((keep j s' hj).choose_spec.2.2 p mj (hd p ml)).elim
    · rw [if_pos cj] at mj
      rcases push_env hl with ⟨cl, hl⟩ | ⟨cl, el⟩
      · rw [if_neg (show l ≠ env.length by omega)] at ml
        exact ((keep l t' hl).choose_spec.2.2 p ml (hd p mj)).elim
      · rw [cj, cl]
theorem EnvOk.pop {v : Option V} {r : Sl} (E : EnvOk K F0 H0 F H (σ ++ [v]) (env ++ [r])) : EnvOk K F0 H0 F H σ env := by
  obtain ⟨As, a, d⟩ := E.as
  have l : σ.length = env.length := by have := E.len; simp at this; exact this
  have up : ∀ {j : Nat} {s : Sl}, env[j]? = some s → (env ++ [r])[j]? = some s := fun {j s} h => by
    rw [List.getElem?_append_left (List.getElem?_eq_some_iff.mp h).1]; exact h
  refine ⟨E.z, l, As, fun j s h => ?_, fun i j s t p h1 h2 => d i j s t p (up h1) (up h2)⟩
  obtain ⟨o, h1, h2⟩ := a j s (up h)
  have jl : j < σ.length := by rw [l]; exact (List.getElem?_eq_some_iff.mp h).1
  rw [List.getElem?_append_left jl] at h1
  exact ⟨o, h1, h2⟩
theorem EnvOk.last {v : V} {r : Sl} (E : EnvOk K F0 H0 F H (σ ++ [some v]) (env ++ [r])) : ∃ D, SlA K H0 F H (some v) D r := by
  obtain ⟨As, a, d⟩ := E.as
  have l : σ.length = env.length := by have := E.len; simp at this; exact this
  obtain ⟨o, h1, h2⟩ := a env.length r (by rw [List.getElem?_append_right (Nat.le_refl _)]; simp)
  rw [← l, List.getElem?_append_right (Nat.le_refl _)] at h1
  simp at h1
  subst h1
  exact ⟨_, h2⟩
end
end Rb

set_option Elab.async false
set_option linter.all false
set_option maxRecDepth 100000
set_option maxHeartbeats 2000000
namespace Rb
open PySem PySem.Spec PyProof.Rows L2
inductive Ag where
  | d (d : PyData)
  | ro (t : OT)
  | mu (t : OT)
def Ag.isMu : Ag → Bool
  | .mu _ => true
  | _ => false
def Ag.pre (v : V) : Ag → Sl
  | .d q => .sh q
  | .ro t => .ro t
  | .mu t => slT v t
def pres : List V → List Ag → List Sl
  | v :: vs, a :: as => a.pre v :: pres vs as
  | _, _ => []
def posts : List V → List Ag → List OT → List Sl
  | v :: vs, .mu _ :: as, u :: us => slT v u :: posts vs as us
  | _ :: vs, _ :: as, us => .un :: posts vs as us
  | _, _, _ => []
def mus : List Ag → List OT
  | .mu t :: as => t :: mus as
  | _ :: as => mus as
  | [] => []
theorem pres_len : ∀ {vs : List V} {as : List Ag}, vs.length = as.length → (pres vs as).length = as.length
  | [], [], _ => rfl
  | v :: vs, a :: as, h => by
    show (pres vs as).length + 1 = as.length + 1
    rw [pres_len (by simpa using h)]
  | [], _ :: _, h => by cases h
  | _ :: _, [], h => by cases h
theorem pres_get : ∀ {vs : List V} {as : List Ag} {j : Nat} {v : V} {a : Ag}, vs[j]? = some v → as[j]? = some a → (pres vs as)[j]? = some (a.pre v)
  | v :: vs, a :: as, 0, _, _, h1, h2 => by cases h1; cases h2; rfl
  | v :: vs, a :: as, j + 1, _, _, h1, h2 => by
    show (pres vs as)[j]? = _
    exact pres_get (by simpa using h1) (by simpa using h2)
  | [], _, _, _, _, h1, _ => by simp at h1
  | _ :: _, [], _, _, _, _, h2 => by simp at h2
theorem posts_len : ∀ {vs : List V} {as : List Ag} {us : List OT}, vs.length = as.length → (posts vs as us).length = as.length
  | [], [], us, _ => by unfold posts; rfl
  | v :: vs, .mu t :: as, u :: us, h => by
    show (posts vs as us).length + 1 = as.length + 1
    rw [posts_len (by simpa using h)]
  | v :: vs, .mu t :: as, [], h => by
    show (posts vs as []).length + 1 = as.length + 1
    rw [posts_len (by simpa using h)]
  | v :: vs, .d t :: as, us, h => by
    show (posts vs as us).length + 1 = as.length + 1
    rw [posts_len (by simpa using h)]
  | v :: vs, .ro t :: as, us, h => by
    show (posts vs as us).length + 1 = as.length + 1
    rw [posts_len (by simpa using h)]
  | [], _ :: _, _, h => by cases h
  | _ :: _, [], _, h => by cases h
inductive Rt where
  | t (t : OT)
  | un
def RetE (K : Frag) (F H0 : Hp) (vs : List V) (as : List Ag) (Q : VK) (E : XK) : (Rt × List OT) ⊕ Exn → Prop
  | .inl (.t t, us) => ∀ F' H' v, EnvOk K F H0 F' H' (vs.map some ++ [some v]) (posts vs as us ++ [.tr t]) → Q v H'
  | .inl (.un, us) => ∀ F' H' v, EnvOk K F H0 F' H' (vs.map some) (posts vs as us) → Q v H'
  | .inr x => ∀ F' H', EnvOk K F H0 F' H' (vs.map some) (posts vs as (mus as)) → exW K x F' H' fun c d => E c d H'
def PromE (K : Frag) (I : List Ag → (Rt × List OT) ⊕ Exn → Prop) : Sp := fun vs H Q E => ∃ F H0 as r, vs.length = as.length ∧ EnvOk K F H0 F H (vs.map some) (pres vs as) ∧ I as r ∧ RetE K F H0 vs as Q E r
def ImE {A R : Type} (ea : A → List Ag) (er : R → Rt) (ou : R → List OT) (f : A → Option (Except Exn R)) : List Ag → (Rt × List OT) ⊕ Exn → Prop := fun as r => ∃ a y, as = ea a ∧ f a = some y ∧ r = (match y with
  | .ok y => .inl (er y, ou y)
  | .error x => .inr x)
inductive Sr where
  | d (d : PyData)
  | ro (i : Nat) (t : OT)
  | mu (i : Nat) (t : OT)
def Sr.ag : Sr → Ag
  | .d q => .d q
  | .ro _ t => .ro t
  | .mu _ t => .mu t
def SrV (F : Hp) (σ : List (Option V)) (v : V) : Sr → Prop
  | .d d => Dq F v d
  | .ro i _ => σ[i]? = some (some v)
  | .mu i _ => σ[i]? = some (some v)
def AllS (F : Hp) (σ : List (Option V)) : List V → List Sr → Prop
  | [], [] => True
  | v :: vs, s :: ss => SrV F σ v s ∧ AllS F σ vs ss
  | _, _ => False
theorem SrV.mono {F F' : Hp} {σ : List (Option V)} (e : Ex F F') {v : V} : ∀ {s : Sr}, SrV F σ v s → SrV F' σ v s
  | .d _, h => Dq.mono' e h
  | .ro _ _, h => h
  | .mu _ _, h => h
theorem AllS.len {F : Hp} {σ : List (Option V)} : ∀ {vs : List V} {ss : List Sr}, AllS F σ vs ss → vs.length = ss.length
  | [], [], _ => rfl
  | v :: vs, s :: ss, h => by rw [List.length_cons, List.length_cons, AllS.len h.2]
  | [], _ :: _, h => h.elim
  | _ :: _, [], h => h.elim
theorem AllS.get {F : Hp} {σ : List (Option V)} : ∀ {vs : List V} {ss : List Sr} {j : Nat} {s : Sr}, AllS F σ vs ss → ss[j]? = some s → ∃ v, vs[j]? = some v ∧ SrV F σ v s
  | v :: vs, s :: ss, 0, _, h, e => by cases e; exact ⟨v, rfl, h.1⟩
  | v :: vs, s :: ss, j + 1, _, h, e => by
    obtain ⟨w, e1, e2⟩ := AllS.get h.2 (by simpa using e)
    exact ⟨w, by simpa using e1, e2⟩
  | [], [], _, _, _, e => by simp at e
  | [], _ :: _, _, _, h, _ => h.elim
  | _ :: _, [], _, _, h, _ => h.elim
def EAg (K : Frag) (ta : TA) (env : List Sl) (ss : List Sr) : Prop := ∀ ⦃F0 H0 F H : Hp⦄ ⦃σ : List (Option V)⦄, EnvOk K F0 H0 F H σ env → ∀ Q : List V → Hp → Prop, (∀ vs F' H', Fz F H F' H' → AllS F' σ vs ss → Q vs H') → ta σ H Q
def Stands (s : Sl) (t : OT) : Prop := s.isT t ∨ s = .ro t
def SrOk (env : List Sl) : Sr → Prop
  | .d _ => True
  | .ro i t => ∃ s, env[i]? = some s ∧ Stands s t
  | .mu i t => ∃ s, env[i]? = some s ∧ s.isT t
section
variable {K : Frag} {F0 H0 F H F' H' : Hp} {σ : List (Option V)} {env env' : List Sl} {te ta : TE} {tr : TA} {ss : List Sr} {d : PyData}
theorem eag_nil : EAg K tNil env [] := fun F0 H0 F H σ E Q q => q [] F H (Fz.refl E.fh) trivial
theorem eag_d (ha : EX K te env d) (hr : EAg K tr env ss) : EAg K (tCons te tr) env (.d d :: ss) := fun F0 H0 F H σ E Q q =>
  ha E _ fun v F1 H1 z1 h1 => hr (E.step z1) _ fun vs F2 H2 z2 h2 => q _ F2 H2 (z1.trans z2) ⟨Dq.mono' z2.f h1, h2⟩
def less (H : Hp) (A : List Addr) : Hp := fun a => if a ∈ A then none else H a
theorem callee (E : EnvOk K F0 H0 F H σ env) {vs : List V} (a : AllS F σ vs ss) (ok : ∀ (j : Nat) (s : Sr), ss[j]? = some s → SrOk env s) (A : List Addr) (z : ∀ c, c ∈ A → H0 c = none) (far : ∀ (i : Nat) (t : OT) (j : Nat), ss[j]? = some (.ro i t) → ∀ (o : Option V) (s : Sl) (B : List Addr), env[i]? = some s → σ[i]? = some o → SlA K H0 F H o B s → ∀ b, b ∈ B → b ∉ A)
    (As : Nat → List Addr) (hm : ∀ (j i : Nat) (t : OT), ss[j]? = some (.mu i t) → ∃ v, vs[j]? = some v ∧ SlA K (less H A) F H (some v) (As j) (slT v t)) (hn : ∀ (j : Nat) (s : Sr), ss[j]? = some s → s.ag.isMu = false → As j = []) (ha : ∀ (i j : Nat) (s t : Sr) (p : Addr), ss[i]? = some s → ss[j]? = some t → p ∈ As i → p ∈ As j → i = j) :
    EnvOk K F (less H A) F H (vs.map some) (pres vs (ss.map Sr.ag)) := by
  have len := a.len
  have pl : (pres vs (ss.map Sr.ag)).length = ss.length := by rw [pres_len (by rw [List.length_map, len]), List.length_map]
  have get : ∀ j sl, (pres vs (ss.map Sr.ag))[j]? = some sl → ∃ s v, ss[j]? = some s ∧ vs[j]? = some v ∧ SrV F σ v s ∧ sl = s.ag.pre v := fun j sl h => by
    have jl : j < ss.length := by rw [← pl]; exact (List.getElem?_eq_some_iff.mp h).1
    have hs : ss[j]? = some ss[j] := List.getElem?_eq_getElem jl
    obtain ⟨v, h1, h2⟩ := a.get hs
    refine ⟨_, v, hs, h1, h2, ?_⟩
    rw [pres_get h1 (by rw [List.getElem?_map, hs]; rfl)] at h
    cases h
    rfl
  refine ⟨⟨Evl.Ex.refl F, E.fh, fun p o hp hf => ⟨fun _ => hf, ?_⟩⟩, by rw [List.length_map, pl, len], As, fun j sl h => ?_, fun i j s t p h1 h2 => ?_⟩
  · unfold less at hp
    by_cases c : p ∈ A
    · rw [if_pos c] at hp; cases hp
    · rw [if_neg c] at hp; exact hp
  · obtain ⟨s, v, h1, h2, h3, rfl⟩ := get j sl h
    refine ⟨some v, by rw [List.getElem?_map, h2]; rfl, ?_⟩
    cases s with
    | d d =>
      rw [hn j _ h1 rfl]
      exact ⟨⟨v, rfl, h3⟩, rfl⟩
    | mu i t =>
      obtain ⟨w, e1, e2⟩ := hm j i t h1
      rw [h2] at e1
      cases e1
      exact e2
    | ro i t =>
      rw [hn j _ h1 rfl]
      obtain ⟨s, hi, st⟩ := ok j _ h1
      obtain ⟨Bs, ba, _⟩ := E.as
      obtain ⟨o, e1, e2⟩ := ba i s hi
      have h3 : σ[i]? = some (some v) := h3
      rw [h3] at e1
      cases e1
      have fa := far i t j h1 _ s _ hi h3 e2
      rcases st with st | rfl
      · obtain ⟨w, e, T, nd, fr⟩ := isT_at st e2
        cases e
        refine ⟨⟨v, Bs i, rfl, T, fun b hb => ⟨(fr b hb).1, ?_⟩⟩, rfl⟩
        obtain ⟨u, hu, _⟩ := T.at b hb
        exact ⟨u, by unfold less; rw [if_neg (fa b hb)]; exact hu⟩
      · obtain ⟨⟨w, B, e, T, fr⟩, _⟩ := e2
        cases e
        refine ⟨⟨v, B, rfl, T, fun b hb => ⟨(fr b hb).1, ?_⟩⟩, rfl⟩
        obtain ⟨u, hu, _⟩ := T.at b hb
        obtain ⟨_, u0, hu0⟩ := fr b hb
        refine ⟨u, ?_⟩
        unfold less
        rw [if_neg fun m => by rw [z b m] at hu0; cases hu0]
        exact hu
  · obtain ⟨s', v, q1, _⟩ := get i s h1
    obtain ⟨t', w, q2, _⟩ := get j t h2
    exact ha i j s' t' p q1 q2
theorem call0 (E : EnvOk K F0 H0 F H σ env) {vs : List V} (a : AllS F σ vs ss) (ok : ∀ (j : Nat) (s : Sr), ss[j]? = some s → SrOk env s) (nm : ∀ (j : Nat) (s : Sr), ss[j]? = some s → s.ag.isMu = false) :
    EnvOk K F (less H []) F H (vs.map some) (pres vs (ss.map Sr.ag)) :=
  callee E a ok [] (fun _ m => by cases m) (fun _ _ _ _ _ _ _ _ _ _ _ _ m => by cases m) (fun _ => []) (fun j i t h => by cases nm j _ h) (fun _ _ _ _ => rfl) fun _ _ _ _ _ _ _ m => by cases m
theorem less_nil : less H [] = H := by
  funext a
  unfold less
  rw [if_neg (by simp)]
end
end Rb

set_option Elab.async false
set_option linter.all false
set_option maxRecDepth 100000
set_option maxHeartbeats 2000000
namespace Rb
open PySem PySem.Spec PyProof.Rows L2
def EXe (K : Frag) (te : TE) (env : List Sl) (t : OT) (env' : List Sl) : Prop := ∀ ⦃F0 H0 F H : Hp⦄ ⦃σ : List (Option V)⦄, EnvOk K F0 H0 F H σ env → ∀ Q : VK, (∀ v F' H', Ex F F' → EnvOk K F0 H0 F' H' (σ ++ [some v]) (env' ++ [.tr t]) → Q v H') → te σ H Q
def EXn (K : Frag) (te : TE) (env env' : List Sl) : Prop := ∀ ⦃F0 H0 F H : Hp⦄ ⦃σ : List (Option V)⦄, EnvOk K F0 H0 F H σ env → ∀ Q : VK, (∀ v F' H', Ex F F' → EnvOk K F0 H0 F' H' σ env' → Q v H') → te σ H Q
def EXt (K : Frag) (te : TE) (env : List Sl) (t : OT) : Prop := ∀ ⦃F0 H0 F H : Hp⦄ ⦃σ : List (Option V)⦄, EnvOk K F0 H0 F H σ env → ∀ Q : VK, (∀ v F' H' B, Fz F H F' H' → Tr F' H' v t B → B.Nodup → (∀ b, b ∈ B → H b = none ∧ F' b = none) → Q v H') → te σ H Q
def ERRe (K : Frag) (W : WX) (te : TE) (env : List Sl) (x : Exn) : Prop := ∀ ⦃F0 H0 F H : Hp⦄ ⦃σ : List (Option V)⦄, EnvOk K F0 H0 F H σ env → ∀ Q : VK, (∀ F' H', EnvOk K F0 H0 F' H' σ env → exW K x F' H' fun c d => W c d σ H') → te σ H Q
section
variable {K : Frag} {env env' env1 : List Sl} {t u : OT} {d : PyData} {ds : List PyData} {te ta tb : TE} {tr : TA} {ss : List Sr} {W : WX} {x : Exn} {ts : TS} {O : Type} {enc : O → Out}
theorem EXe.n (h : EXe K te env t env') : EXn K te env env' := fun F0 H0 F H σ E Q q => h E Q fun v F' H' e E' => q v F' H' e E'.pop
theorem EX.thing (h : EX K te env d) : EXt K te env (.d d) := fun F0 H0 F H σ E Q q => h E Q fun v F' H' z hv => q v F' H' [] z (.d hv) .nil fun _ m => by cases m
theorem EXw.thing (h : EXw K te env ds) : EXt K te env (.lst ds) := fun F0 H0 F H σ E Q q => h E Q fun p vs F' H' z hn hf h1 h2 h3 => q (.ref p) F' H' [p] z (.lst h1 h2 h3) (by simp) fun b m => by
  obtain rfl := List.mem_singleton.mp m
  exact ⟨hn, hf⟩
theorem EXt.e (h : EXt K te env t) : EXe K te env t env := fun F0 H0 F H σ E Q q => h E Q fun v F' H' B z T nd fr => q v F' H' z.f (E.push z (D := B) (fun b m => (fr b m).1) (tr_ok.mpr ⟨T, nd, fun b m => ⟨(fr b m).2, E.z.hn (fr b m).1⟩⟩))
theorem EXt.sh (h : EXt K te env (.d d)) : EX K te env d := fun F0 H0 F H σ E Q q => h E Q fun v F' H' B z T _ _ => by
  cases T with
  | d hd => exact q v F' H' z hd
theorem EX.n (h : EX K te env d) : EXn K te env env := h.thing.e.n
theorem ERR.e (h : ERR K W te env x) : ERRe K W te env x := fun F0 H0 F H σ E Q q => h E Q fun F' H' z => q F' H' (E.step z)
theorem call0_ret {F H F' H' : Hp} {vs : List V} {as : List Ag} {w : V} (E' : EnvOk K F H F' H' (vs.map some ++ [some w]) (posts vs as [] ++ [.tr t])) : Fz F H F' H' ∧ ∃ B, Tr F' H' w t B ∧ B.Nodup ∧ ∀ b, b ∈ B → H b = none ∧ F' b = none := by
  obtain ⟨D, hD⟩ := E'.last
  have := tr_ok.mp hD
  exact ⟨E'.z, D, this.1, this.2.1, fun b m => ⟨(this.2.2 b m).2, (this.2.2 b m).1⟩⟩
variable {I : List Ag → (Rt × List OT) ⊕ Exn → Prop} {Ek : L2.St → XK}
theorem ext_call0 (ha : EAg K tr env ss) (ok : ∀ (j : Nat) (s : Sr), ss[j]? = some s → SrOk env s) (nm : ∀ (j : Nat) (s : Sr), ss[j]? = some s → s.ag.isMu = false) (hI : I (ss.map Sr.ag) (.inl (.t t, []))) : EXt K (tCallS (PromE K I) Ek tr) env t := fun F0 H0 F H σ E Q q =>
  ha E _ fun vs F1 H1 z1 a1 => by
    have c := call0 (E.step z1) a1 ok nm
    rw [less_nil] at c
    refine ⟨F1, H1, ss.map Sr.ag, _, by rw [List.length_map]; exact a1.len, c, hI, fun F2 H2 w E2 => ?_⟩
    obtain ⟨z2, B, T, nd, fr⟩ := call0_ret E2
    exact q w F2 H2 B (z1.trans z2) T nd fun b m => ⟨z1.hn (fr b m).1, (fr b m).2⟩
section
variable {i : Nat} {s : Sl} {C : Addr} {m : Str} {ns : List Str} {us : List OT} {sp : Sp}
end
variable {tw tu : TS} {m : Option O}
theorem Wk.push {e e' : List Sl} (w : Wk e e') {s : Sl} : Wk (e ++ [s]) (e' ++ [s]) := by
  induction w with
  | nil => exact .same .nil
  | same _ ih => exact .same ih
  | un _ ih => exact .un ih
  | tb _ ih => exact .tb ih
theorem bx_retE {o : O} (h : EXe K te env t env1) (hn : enc o = .re env' (some t)) (hw : Wk env1 env') : BX K (tRet te) env enc (some o) := fun o' ho F0 H0 F H σ D E c => by
  cases ho
  rw [hn] at c
  exact h E _ fun v F' H' e E' => c F' H' σ v (E'.weak hw.push)
end
end Rb

set_option Elab.async false
set_option linter.all false
set_option maxRecDepth 100000
set_option maxHeartbeats 2000000
namespace Rb
open PySem PySem.Spec PyProof.Rows L2
section
variable {X : Cx} {CX : CXT} {k : Nat} {f C : Addr} {fd : FuncData} {ps : List Str} {sp : Sp} {E : L2.St → XK} {x m : Str} {p pos apos : Pos} {e o : Expr} {es : List Expr} {ta : TE} {t : TA}
end
structure FnE (P : Program) (w : World) (K : Frag) (mg : Str → Option Value) (base : Heap) (x : Str) (k : Nat) (I : List Ag → (Rt × List OT) ⊕ Exn → Prop) : Prop where
  ex : ∃ f fd ps, FnOk P w K mg base (L2N.CX P w) k f fd ps (PromE K I) ∧ mg x = some (.ref f) ∧ PySem.W.keepIn K (.ref f) = true ∧ Binds K fd ps []
structure MtE (P : Program) (w : World) (K : Frag) (mg : Str → Option Value) (base : Heap) (C m : Str) (k : Nat) (I : List Ag → (Rt × List OT) ⊕ Exn → Prop) : Prop where
  ex : ∃ f fd ps, FnOk P w K mg base (L2N.CX P w) k f fd ps (PromE K I) ∧ Cls K (He.ga K C) ∧ Meth K (He.ga K C) m f ∧ Binds K fd ps []
structure MkE (P : Program) (w : World) (K : Frag) (mg : Str → Option Value) (base : Heap) (C : Str) (k : Nat) (I : List Ag → (Rt × List OT) ⊕ Exn → Prop) : Prop where
  ex : ∃ f fd ps, FnOk P w K mg base (L2N.CX P w) k f fd ps (PromE K I) ∧ Mk K (He.ga K C) f ∧ mg C = some (.ref (He.ga K C)) ∧ Binds K fd ps []
section
variable {X : Cx} {K : Frag} {x C m : Str} {k : Nat} {I : List Ag → (Rt × List OT) ⊕ Exn → Prop} {e o : Expr} {es : List Expr} {t : TA} {ta : TE} {p pos apos : Pos} {W : WX}
end
def OT.node : OT → Prop
  | .d _ => False
  | .val _ => False
  | _ => True
theorem node_ref {F H : Hp} {v : V} {t : OT} {A : List Addr} (h : t.node) (T : Tr F H v t A) : ∃ p, v = .ref p := by
  cases T with
  | d _ => cases h
  | val => cases h
  | _ => exact ⟨_, rfl⟩
section
variable {K : Frag} {F0 H0 F H : Hp} {σ : List (Option V)} {env : List Sl}
theorem EnvOk.pad (E : EnvOk K F0 H0 F H σ env) : ∀ n, EnvOk K F0 H0 F H (σ ++ List.replicate n none) (env ++ List.replicate n .un)
  | 0 => by simpa using E
  | n + 1 => by
    have := (E.pad n).push (Fz.refl E.fh) (v := none) (r := .un) (D := []) (fun _ m => by cases m) ⟨trivial, rfl⟩
    rw [List.replicate_succ', List.replicate_succ', ← List.append_assoc, ← List.append_assoc]
    exact this
theorem posts_at : ∀ {vs : List V} {as : List Ag} {us : List OT} {j : Nat} {s : Sl}, (posts vs as us)[j]? = some s → s = .un ∨ ∃ v t u, vs[j]? = some v ∧ as[j]? = some (.mu t) ∧ s = slT v u
  | [], as, us, j, s, h => by unfold posts at h; simp at h
  | v :: vs, [], us, j, s, h => by unfold posts at h; simp at h
  | v :: vs, .d q :: as, us, 0, s, h => by cases h; exact .inl rfl
  | v :: vs, .ro q :: as, us, 0, s, h => by cases h; exact .inl rfl
  | v :: vs, .mu q :: as, [], 0, s, h => by cases h; exact .inl rfl
  | v :: vs, .mu q :: as, u :: us, 0, s, h => by cases h; exact .inr ⟨v, q, u, rfl, rfl, rfl⟩
  | v :: vs, .d q :: as, us, j + 1, s, h => by
    have h : (posts vs as us)[j]? = some s := h
    rcases posts_at h with h | ⟨v', t, u, a, b, c⟩
    · exact .inl h
    · exact .inr ⟨v', t, u, by simpa using a, by simpa using b, c⟩
  | v :: vs, .ro q :: as, us, j + 1, s, h => by
    have h : (posts vs as us)[j]? = some s := h
    rcases posts_at h with h | ⟨v', t, u, a, b, c⟩
    · exact .inl h
    · exact .inr ⟨v', t, u, by simpa using a, by simpa using b, c⟩
  | v :: vs, .mu q :: as, [], j + 1, s, h => by
    have h : (posts vs as [])[j]? = some s := h
    rcases posts_at h with h | ⟨v', t, u, a, b, c⟩
    · exact .inl h
    · exact .inr ⟨v', t, u, by simpa using a, by simpa using b, c⟩
  | v :: vs, .mu q :: as, u :: us, j + 1, s, h => by
    have h : (posts vs as us)[j]? = some s := h
    rcases posts_at h with h | ⟨v', t, u, a, b, c⟩
    · exact .inl h
    · exact .inr ⟨v', t, u, by simpa using a, by simpa using b, c⟩
theorem end_ok {vs : List V} {as : List Ag} {us : List OT} {n : Nat} (hl : vs.length = as.length) (hv : ∀ (j : Nat) (t : OT) (v : V), as[j]? = some (.mu t) → vs[j]? = some v → ∃ p, v = .ref p) (E : EnvOk K F0 H0 F H σ (posts vs as us ++ List.replicate n Sl.un)) : EnvOk K F0 H0 F H (vs.map some) (posts vs as us) := by
  obtain ⟨As, a, d⟩ := E.as
  have pl : (posts vs as us).length = vs.length := by rw [posts_len hl, hl]
  have up : ∀ {j : Nat} {s : Sl}, (posts vs as us)[j]? = some s → (posts vs as us ++ List.replicate n Sl.un)[j]? = some s := fun {j s} h => by
    rw [List.getElem?_append_left (List.getElem?_eq_some_iff.mp h).1]; exact h
  refine ⟨E.z, by rw [List.length_map, pl], As, fun j s h => ?_, fun i j s t p h1 h2 => d i j s t p (up h1) (up h2)⟩
  obtain ⟨o, h1, h2⟩ := a j s (up h)
  have jl : j < vs.length := by rw [← pl]; exact (List.getElem?_eq_some_iff.mp h).1
  have g : (vs.map some)[j]? = some (some vs[j]) := by rw [List.getElem?_map, List.getElem?_eq_getElem jl]; rfl
  refine ⟨_, g, ?_⟩
  rcases posts_at h with rfl | ⟨v, t, u, e1, e2, rfl⟩
  · exact ⟨trivial, h2.2⟩
  · obtain ⟨p, rfl⟩ := hv j t v e2 e1
    rw [List.getElem?_eq_getElem jl] at e1
    have e1 := Option.some.inj e1
    rw [e1]
    have h2 : SlA K H0 F H o (As j) (.tb p u) := h2
    have e := h2.1
    subst e
    exact h2
theorem end_okT {vs : List V} {as : List Ag} {us : List OT} {n : Nat} {v : V} {t : OT} (hl : vs.length = as.length) (hv : ∀ (j : Nat) (t : OT) (v : V), as[j]? = some (.mu t) → vs[j]? = some v → ∃ p, v = .ref p) (E : EnvOk K F0 H0 F H (σ ++ [some v]) ((posts vs as us ++ List.replicate n Sl.un) ++ [.tr t])) : EnvOk K F0 H0 F H (vs.map some ++ [some v]) (posts vs as us ++ [.tr t]) := by
  have E1 := end_ok hl hv E.pop
  obtain ⟨As, a, d⟩ := E.as
  have sl : σ.length = (posts vs as us ++ List.replicate n Sl.un).length := by have := E.len; simp at this; rw [List.length_append, List.length_replicate]; omega
  have pl : (posts vs as us).length = vs.length := by rw [posts_len hl, hl]
  have up : ∀ {j : Nat} {s : Sl}, (posts vs as us)[j]? = some s → ((posts vs as us ++ List.replicate n Sl.un) ++ [Sl.tr t])[j]? = some s := fun {j s} h => by
    have jl := (List.getElem?_eq_some_iff.mp h).1
    rw [List.getElem?_append_left (by rw [List.length_append]; omega), List.getElem?_append_left jl]; exact h
  have gl : ((posts vs as us ++ List.replicate n Sl.un) ++ [Sl.tr t])[(posts vs as us ++ List.replicate n Sl.un).length]? = some (Sl.tr t) := by
    rw [List.getElem?_append_right (Nat.le_refl _)]; simp
  refine ⟨E.z, by simp [pl], fun j => if j = vs.length then As (posts vs as us ++ List.replicate n Sl.un).length else As j, fun j s h => ?_, fun i j s u p h1 h2 m1 m2 => ?_⟩
  · rcases push_env h with ⟨c, h⟩ | ⟨c, rfl⟩
    · rw [pl] at c
      rw [List.getElem?_append_left (by rw [List.length_map]; exact c)]
      dsimp only
      rw [if_neg (show j ≠ vs.length by omega)]
      obtain ⟨o, h1, h2⟩ := a j s (up h)
      have g : (vs.map some)[j]? = some (some vs[j]) := by rw [List.getElem?_map, List.getElem?_eq_getElem c]; rfl
      refine ⟨_, g, ?_⟩
      rcases posts_at h with rfl | ⟨v', t', u', e1, e2, rfl⟩
      · exact ⟨trivial, h2.2⟩
      · obtain ⟨p, rfl⟩ := hv j t' v' e2 e1
        rw [List.getElem?_eq_getElem c] at e1
        have e1 := Option.some.inj e1
        rw [e1]
        have h2 : SlA K H0 F H o (As j) (.tb p u') := h2
        have e := h2.1
        subst e
        exact h2
    · rw [pl] at c
      refine ⟨some v, by rw [c, List.getElem?_append_right (by rw [List.length_map]; exact Nat.le_refl _), List.length_map, Nat.sub_self]; rfl, ?_⟩
      dsimp only
      rw [if_pos c]
      obtain ⟨o, h1, h2⟩ := a _ _ gl
      rw [← sl, List.getElem?_append_right (Nat.le_refl _)] at h1
      simp at h1
      subst h1
      exact h2
  · dsimp only at m1 m2
    have big : ∀ {j : Nat} {s : Sl}, (posts vs as us)[j]? = some s → j ≠ (posts vs as us ++ List.replicate n Sl.un).length := fun {j s} h z => by
      have := (List.getElem?_eq_some_iff.mp h).1
      rw [List.length_append] at z
      omega
    rcases push_env h1 with ⟨c1, h1⟩ | ⟨c1, e1⟩
    · rw [pl] at c1
      rw [if_neg (show i ≠ vs.length by omega)] at m1
      rcases push_env h2 with ⟨c2, h2⟩ | ⟨c2, e2⟩
      · rw [pl] at c2
        rw [if_neg (show j ≠ vs.length by omega)] at m2
        exact d i j s u p (up h1) (up h2) m1 m2
      · rw [pl] at c2
        rw [if_pos c2] at m2
        exact (big h1 (d i _ s _ p (up h1) gl m1 m2)).elim
    · rw [pl] at c1
      rw [if_pos c1] at m1
      rcases push_env h2 with ⟨c2, h2⟩ | ⟨c2, e2⟩
      · rw [pl] at c2
        rw [if_neg (show j ≠ vs.length by omega)] at m2
        exact (big h2 (d j _ u _ p (up h2) gl m2 m1)).elim
      · rw [pl] at c2
        rw [c1, c2]
end
def startA (N : List Str) (vs : List V) (as : List Ag) : List Sl := pres vs as ++ List.replicate (N.length - as.length) .un
def endA (N : List Str) (vs : List V) (as : List Ag) (us : List OT) : List Sl := posts vs as us ++ List.replicate (N.length - as.length) .un
def OutE (N : List Str) (vs : List V) (as : List Ag) (us : List OT) (o : Out) : Rt → Prop
  | .t t => o = .re (endA N vs as us) (some t) ∨ (t = .d .none ∧ o = .nx (endA N vs as us))
  | .un => o = .re (endA N vs as us) none ∨ o = .nx (endA N vs as us)
def RefsAt (vs : List V) (as : List Ag) : Prop := vs.length = as.length ∧ ∀ (j : Nat) (t : OT) (v : V), as[j]? = some (.mu t) → vs[j]? = some v → ∃ p, v = .ref p
theorem fn_okE {A R : Type} {P : Program} {w : World} {K : Frag} {mg : Str → Option Value} {base : Heap} {x qual : Str} {params : Arguments} {body : List Stmt} {scope : Scope} {f : Addr} {fd : FuncData} {N ps : List Str} {k : Nat} {ea : A → List Ag} {er : R → Rt} {ou : R → List OT} {fm : A → Option (Except Exn R)} {en : List V → A → XK → Except Exn R → Out}
    (F : FunD K x qual params body scope [] [] f fd) (S : FnScope N ps scope) (hl : ∀ a, (ea a).length = ps.length) (hnd : ∀ (a : A) (t : OT), Ag.mu t ∈ ea a → t.node) (hn : ∀ vs a E y, RefsAt vs (ea a) → OutE N vs (ea a) (ou y) (en vs a E (.ok y)) (er y))
    (hx : ∀ vs a E y, RefsAt vs (ea a) → en vs a E (.error y) = .ex (endA N vs (ea a) (mus (ea a))) y fun c d _ H => E c d H)
    (hb : ∀ (cdv : Value) (A' : Around) (outer : List Env) (s : Shared) (H : Hp) (E : XK), Room k (A'.deeper (envOfC qual scope s.heap.objs.size f cdv)) →
      ∃ t, PSs (cxOf (L2N.CX P w) P w K mg base N qual scope f cdv A' outer s H E) body t ∧ ∀ vs a, RefsAt vs (ea a) → BX K t (startA N vs (ea a)) (en vs a E) (fm a)) : FnOk P w K mg base (L2N.CX P w) (k + 1) f fd ps (PromE K (ImE ea er ou fm)) := by
  refine F.ok S (fun vs H Q E h => ?_) (fun cdv A' outer s H vs Q E hr h => ?_)
  · obtain ⟨F, H0, as, r, e, _, ⟨a', y, rfl, _, _⟩, _⟩ := h
    rw [e, hl]
  · obtain ⟨F, H0, as, r, e, E0, ⟨a', y, rfl, hy, rfl⟩, q⟩ := h
    obtain ⟨t, p, b⟩ := hb cdv A' outer s H E hr
    have st : EnvOk K F H0 F H (L2.start N vs) (startA N vs (ea a')) := by
      have := E0.pad (N.length - vs.length)
      unfold startA
      rw [← e]
      exact this
    have hv : ∀ (j : Nat) (t : OT) (v : V), (ea a')[j]? = some (.mu t) → vs[j]? = some v → ∃ p, v = .ref p := fun j t v h1 h2 => by
      obtain ⟨o, g1, g2⟩ := E0.sl j _ (pres_get h2 h1)
      rw [List.getElem?_map, h2] at g1
      cases g1
      obtain ⟨A, hA⟩ := g2.a
      exact node_ref (hnd a' t (List.mem_of_getElem? h1)) (slT_ok.mp hA).1
    refine ⟨t, p, b vs a' ⟨e, hv⟩ y hy _ st ?_⟩
    cases y with
    | error y =>
      rw [hx vs a' E y ⟨e, hv⟩]
      exact fun F1 H1 σ1 E1 => q F1 H1 (end_ok e hv E1)
    | ok y =>
      have hn := hn vs a' E y ⟨e, hv⟩
      have q : RetE K F H0 vs (ea a') Q E (.inl (er y, ou y)) := q
      generalize er y = r at hn q
      cases r with
      | t r =>
        rcases hn with h | ⟨rfl, h⟩
        · rw [h]
          exact fun F1 H1 σ1 v E1 => q F1 H1 v (end_okT e hv E1)
        · rw [h]
          exact fun F1 H1 σ1 E1 => q F1 H1 .non ((end_ok e hv E1).push (Fz.refl E1.fh) (D := []) (fun _ m => by cases m) (tr_ok.mpr ⟨.d .non, .nil, fun _ m => by cases m⟩))
      | un =>
        rcases hn with h | h
        · rw [h]
          exact fun F1 H1 σ1 v E1 => q F1 H1 v (end_ok e hv E1)
        · rw [h]
          exact fun F1 H1 σ1 E1 => q F1 H1 .non (end_ok e hv E1)
end Rb

set_option Elab.async false
set_option linter.all false
set_option maxRecDepth 100000
set_option maxHeartbeats 2000000
namespace Rb
open PySem PySem.Spec PyProof.Rows L2
section
variable {K : Frag} {env env' : List Sl} {d : PyData} {ds : List PyData} {te tv : TE} {ts tu : TS} {O : Type} {enc : O → Out} {m : Option O} {i : Nat} {s : Sl} {C p : Addr} {ns : List Str} {us : List OT} {f : Str} {t : OT}
end
end Rb

set_option Elab.async false
set_option linter.all false
set_option maxRecDepth 100000
set_option maxHeartbeats 2000000
namespace Rb
open PySem PySem.Spec PyProof.Rows L2
section
variable {K : Frag} {env env' : List Sl} {d : PyData} {ds : List PyData} {t : OT} {te : TE} {tr : TA} {ts tu : TS} {O : Type} {enc : O → Out} {m : Option O}
end
end Rb

set_option Elab.async false
set_option linter.all false
set_option maxRecDepth 100000
set_option maxHeartbeats 2000000
namespace Rb
open PySem PySem.Spec PyProof.Rows L2
theorem posts_no {us : List OT} : ∀ {vs : List V} {as : List Ag}, vs.length = as.length → (∀ (j : Nat) (a : Ag), as[j]? = some a → a.isMu = false) → posts vs as us = List.replicate as.length .un
  | [], [], _, _ => by unfold posts; rfl
  | v :: vs, a :: as, h, n => by
    have na := n 0 a rfl
    have ih := posts_no (us := us) (vs := vs) (as := as) (by simpa using h) fun j b hb => n (j + 1) b (by simpa using hb)
    cases a with
    | mu t => cases na
    | d q =>
      show Sl.un :: posts vs as us = List.replicate (as.length + 1) .un
      rw [ih, List.replicate_succ]
    | ro q =>
      show Sl.un :: posts vs as us = List.replicate (as.length + 1) .un
      rw [ih, List.replicate_succ]
  | [], _ :: _, h, _ => by cases h
  | _ :: _, [], h, _ => by cases h
section
variable {K : Frag} {env env' : List Sl} {d : PyData} {ds : List PyData} {te ty td tv tx : TE} {ts tu : TS} {O : Type} {enc : O → Out} {m : Option O} {i : Nat} {C p : Addr} {ns : List Str} {us : List OT} {f : Str}
theorem dict_at {F H : Hp} {v : V} {kvs : List (Key × PyData)} (h : Dq F v (.dict (kvs.map kvD))) (e : Ex F H) : ∃ a ob xs, v = .ref a ∧ H a = some (.frz ob (.dK xs)) ∧ KvOk F xs kvs ∧ DkL kvs := by
  generalize hd : PyData.dict (kvs.map kvD) = d at h
  cases h with
  | dct h1 h2 h3 h4 h5 =>
    rename_i a o xs kvs' ps
    cases hd
    have inj : ∀ (xs ys : List (Key × PyData)), xs.map kvD = ys.map kvD → xs = ys := fun xs => by
      induction xs with
      | nil => intro ys h; cases ys with
        | nil => rfl
        | cons _ _ => cases h
      | cons x xs ih =>
        intro ys h
        cases ys with
        | nil => cases h
        | cons y ys =>
          rw [List.map_cons, List.map_cons] at h
          obtain ⟨h1, h2⟩ := List.cons.inj h
          rw [ih ys h2]
          obtain ⟨k, d⟩ := x
          obtain ⟨k', d'⟩ := y
          have e1 : kD k = kD k' := congrArg Prod.fst h1
          have e2 : d = d' := congrArg Prod.snd h1
          have : k = k' := by
            cases k <;> cases k' <;> first | (cases e1; rfl) | cases e1
          rw [this, e2]
    have := inj _ _ h5
    subst this
    exact ⟨a, o, xs, rfl, e _ _ h1, ⟨h2, h3⟩, h4⟩
  | _ => cases hd
variable {kvs : List (Key × PyData)} {k : Key}
end
end Rb

set_option Elab.async false
set_option linter.all false
set_option maxRecDepth 100000
set_option maxHeartbeats 2000000
namespace Rb
open PySem PySem.Spec PyProof.Rows L2
section
variable {K : Frag} {env env' : List Sl} {d d1 d2 : PyData} {ds : List PyData} {ts tu : TS} {O : Type} {enc : O → Out} {m : Option O} {i : Nat} {C p : Addr} {ns : List Str} {us : List OT} {f g h : Str}
end
def OkAll (env : List Sl) : List Sr → Prop
  | [] => True
  | s :: ss => SrOk env s ∧ OkAll env ss
theorem OkAll.at {env : List Sl} : ∀ {ss : List Sr}, OkAll env ss → ∀ (j : Nat) (s : Sr), ss[j]? = some s → SrOk env s
  | s :: ss, h, 0, _, e => by cases e; exact h.1
  | s :: ss, h, j + 1, u, e => OkAll.at h.2 j u (by simpa using e)
  | [], _, _, _, e => by simp at e
def noMu : List Sr → Bool
  | [] => true
  | .mu _ _ :: _ => false
  | _ :: ss => noMu ss
theorem noMu_at : ∀ {ss : List Sr}, noMu ss = true → ∀ (j : Nat) (s : Sr), ss[j]? = some s → s.ag.isMu = false
  | .mu _ _ :: ss, h, _, _, _ => by cases h
  | .d q :: ss, h, 0, _, e => by cases e; rfl
  | .ro k t :: ss, h, 0, _, e => by cases e; rfl
  | .d q :: ss, h, j + 1, u, e => noMu_at (ss := ss) h j u (by simpa using e)
  | .ro k t :: ss, h, j + 1, u, e => noMu_at (ss := ss) h j u (by simpa using e)
  | [], _, _, _, e => by simp at e
end Rb

set_option Elab.async false
set_option linter.all false
set_option maxRecDepth 100000
set_option maxHeartbeats 2000000
namespace Rb
open PySem PySem.Spec PyProof.Rows L2
section
variable {K : Frag} {env : List Sl} {td : TE} {kvs : List (Key × PyData)} {ts tu : TS} {O : Type} {enc : O → Out} {m : Option O} {te : TE}
end
end Rb

set_option Elab.async false
set_option linter.all false
set_option maxRecDepth 100000
set_option maxHeartbeats 2000000
namespace Rb
open PySem PySem.Spec PyProof.Rows L2
section
variable {K : Frag} {env env' : List Sl} {ts tu : TS} {O : Type} {enc : O → Out} {m : Option O} {i : Nat} {C p : Addr} {ns : List Str} {us : List OT} {f : Str} {kvs : List (Key × PyData)}
end
end Rb

set_option Elab.async false
set_option linter.all false
set_option maxRecDepth 100000
set_option maxHeartbeats 2000000
namespace Rb
open PySem PySem.Spec PyProof.Rows L2
abbrev Known := List (Str × List Int)
abbrev Piles := List (Str × (List PyData × Int))
abbrev LoftS := Int × Known × Piles × List (Known × Piles) × List (Known × Piles)
end Rb

set_option Elab.async false
set_option linter.all false
set_option maxRecDepth 100000
set_option maxHeartbeats 2000000
namespace Rb
open PySem PySem.Spec PyProof.Rows L2
section
variable {K : Frag} {env env' : List Sl} {d : PyData} {ds : List PyData} {ta tb te td ty tx : TE} {tr : TA} {α β : Type}
def tFzV (te : TE) : TE := fun σ H Q => te σ H fun v H' => ∃ d u, H' d = some u ∧ Mut (some u) ∧ ∀ od, Q v (upd H' d (.frz od u))
theorem EXt.fz {kvs : List (Key × PyData)} (h : EXt K te env (.dk kvs)) : EX K (tFzV te) env (.dict (kvs.map kvD)) := fun F0 H0 F H σ E Q q => h E _ fun v F' H' B z T nd fr => by
  cases T with
  | @dk p xs _ h1 h2 h3 =>
    obtain ⟨hn, hf⟩ := fr p (List.mem_singleton.mpr rfl)
    refine ⟨p, _, h1, trivial, fun od => q _ (upd F' p (.frz od (.dK xs))) _ ⟨z.f.trans (Evl.Ex.new hf), fun a u w => ?_, fun a u w n => ?_⟩ (.dct upd_same h2.1 (h2.2.mono' (Evl.Ex.new hf)) h3 rfl)⟩
    · by_cases y : a = p
      · subst y; rw [upd_same] at w ⊢; exact w
      · rw [upd_ne y] at w ⊢; exact z.fh a u w
    · have y := ne_of_none w hn
      rw [upd_ne y, upd_ne y]
      exact z.own' a u w n
def Dv (F H : Hp) (p : Addr) (u : HO) : Prop := (∃ ob, F p = some (.frz ob u)) ∨ (F p = none ∧ H p = some u)
theorem Dv.step {F H F' H' : Hp} {p : Addr} {u : HO} (z : Fz F H F' H') (nt : NoTup u) : Dv F H p u → Dv F' H' p u
  | .inl ⟨ob, h⟩ => .inl ⟨ob, z.f _ _ h⟩
  | .inr ⟨a, b⟩ => .inr (z.own p u b a nt)
theorem Dv.rd {F H : Hp} {p : Addr} {u : HO} (e : Ex F H) : Dv F H p u → Rd H p u
  | .inl ⟨ob, h⟩ => .inr ⟨ob, e _ _ h⟩
  | .inr ⟨a, b⟩ => .inl b
def EXk (K : Frag) (te : TE) (env : List Sl) (kvs : List (Key × PyData)) : Prop := ∀ ⦃F0 H0 F H : Hp⦄ ⦃σ : List (Option V)⦄, EnvOk K F0 H0 F H σ env → ∀ Q : VK, (∀ p xs F' H', Fz F H F' H' → Dv F' H' p (.dK xs) → KvOk F' xs kvs → DkL kvs → Q (.ref p) H') → te σ H Q
theorem EX.k {kvs : List (Key × PyData)} (h : EX K te env (.dict (kvs.map kvD))) : EXk K te env kvs := fun F0 H0 F H σ E Q q => h E _ fun v F' H' z hv => by
  obtain ⟨a, ob, xs, rfl, g1, g2, g3⟩ := dict_at hv (Evl.Ex.refl F')
  exact q a xs F' H' z (.inl ⟨ob, g1⟩) g2 g3
variable [DecidableEq α]
section
variable {kf : α → Key} (inj : ∀ a b, kf a = kf b → a = b) {e : β → PyData} {xs : List (α × β)} {k : α} {x : β}
include inj
end
omit [DecidableEq α]
variable {kf : α → Key} {e : β → PyData} {xs : List (α × β)}
end
end Rb

set_option autoImplicit false
set_option Elab.async false
set_option linter.all false
set_option maxRecDepth 100000
set_option maxHeartbeats 2000000
namespace Rb
open PySem PySem.Spec PyProof.Rows L2
abbrev GSt := Int × Known × Piles
section
variable {K : Frag} {env env' : List Sl} {td ty : TE} {g : GSt}
end
section
variable {K : Frag} {F0 H0 F H : Hp} {σ : List (Option V)} {env env' : List Sl} {i : Nat} {s : Sl} {ns : List Key} {us : List OT} {p : Addr} {k : Key} {t : OT} {kvs : List (Key × PyData)}
end
section
variable {K : Frag} {env env' : List Sl} {i : Nat} {s : Sl} {ns : List Key} {us : List OT} {p : Addr} {k : Key} {t : OT} {kvs : List (Key × PyData)} {tk ty tv : TE} {d : PyData} {g : GSt} {ts tu : TS} {O : Type} {enc : O → Out} {m : Option O}
def dropA {κ β : Type} [DecidableEq κ] (xs : List (κ × β)) (k : κ) : List (κ × β) := xs.filter fun kv => decide (kv.1 ≠ k)
theorem KvOk.drop {κ : Type} [DecidableEq κ] {F : Hp} {k : κ} : ∀ {ws : List (κ × V)} {kvs : List (κ × PyData)}, KvOk F ws kvs → KvOk F (dropK ws k) (dropA kvs k)
  | [], [], h => h
  | [], _ :: _, h => by have := h.1; simp at this
  | _ :: _, [], h => by have := h.1; simp at this
  | w :: ws, x :: kvs, h => by
    obtain ⟨h1, h2⟩ := h
    rw [List.map_cons, List.map_cons] at h1 h2
    injection h1 with e1 e2
    cases h2 with
    | cons a b =>
      have ih := KvOk.drop (k := k) (ws := ws) (kvs := kvs) ⟨e2, b⟩
      unfold dropK dropA at ih ⊢
      rw [List.filter_cons, List.filter_cons]
      by_cases c : x.1 = k
      · have c' : w.1 = k := e1.trans c
        simp only [c, c', ne_eq, not_true, decide_false, Bool.false_eq_true, if_false]
        exact ih
      · have c' : ¬ w.1 = k := fun z => c (e1.symm.trans z)
        simp only [c, c', ne_eq, not_false_iff, decide_true, if_true]
        exact ⟨by rw [List.map_cons, List.map_cons, e1, ih.1], .cons a ih.2⟩
end
end Rb

set_option autoImplicit false
set_option Elab.async false
set_option linter.all false
set_option maxRecDepth 100000
set_option maxHeartbeats 2000000
namespace Rb
open PySem PySem.Spec PyProof.Rows L2
section
variable {K : Frag} {env env' env1 env2 : List Sl} {d e : PyData} {ds : List PyData} {te ta tb tv : TE} {tr : TA} {t u : OT} {tt : TT} {tk : TE} {ts tu tw : TS} {O R S : Type} {enc : O → Out} {m n : Option O} {i j : Nat} {p : Addr} {g : GSt} {W : WX} {tg : TG}
theorem EnvOk.open {F0 H0 F H : Hp} {σ : List (Option V)} (E : EnvOk K F0 H0 F H σ env) (hi : env[i]? = some (.tr t)) (hn : t.node) : ∃ p, EnvOk K F0 H0 F H σ (env.set i (.tb p t)) := by
  obtain ⟨As, a, b⟩ := E.as
  obtain ⟨o1, e1, e2⟩ := a i _ hi
  obtain ⟨v, rfl, T, nd, fr⟩ := e2
  obtain ⟨p, rfl⟩ := node_ref hn T
  refine ⟨p, E.z, by rw [List.length_set, E.len], As, fun j s h => ?_, fun j l s s' a' hj hl => ?_⟩
  · rcases set_env h with ⟨rfl, rfl, _⟩ | ⟨_, h⟩
    · exact ⟨_, e1, rfl, T, nd, fr⟩
    · exact a j s h
  · have get : ∀ (j : Nat) (s : Sl), (env.set i (.tb p t))[j]? = some s → ∃ s0, env[j]? = some s0 := fun j s h => by
      have := (List.getElem?_eq_some_iff.mp h).1
      rw [List.length_set] at this
      exact ⟨_, List.getElem?_eq_getElem this⟩
    obtain ⟨s0, h0⟩ := get j s hj
    obtain ⟨s1, h1⟩ := get l s' hl
    exact b j l s0 s1 a' h0 h1
def EXd (K : Frag) (te : TE) (env : List Sl) (d : PyData) (env' : List Sl) : Prop := ∀ ⦃F0 H0 F H : Hp⦄ ⦃σ : List (Option V)⦄, EnvOk K F0 H0 F H σ env → ∀ Q : VK, (∀ v F' H', Ex F F' → EnvOk K F0 H0 F' H' σ env' → Dq F' v d → Q v H') → te σ H Q
def ETd (K : Frag) (tt : TT) (env : List Sl) (b : Bool) (env' : List Sl) : Prop := ∀ ⦃F0 H0 F H : Hp⦄ ⦃σ : List (Option V)⦄, EnvOk K F0 H0 F H σ env → ∀ Q : Bool → Hp → Prop, (∀ F' H', Ex F F' → EnvOk K F0 H0 F' H' σ env' → Q b H') → tt σ H Q
theorem EX.dd (h : EX K te env d) : EXd K te env d env := fun F0 H0 F H σ E Q q => h E Q fun v F' H' z hv => q v F' H' z.f (E.step z) hv
theorem EXe.dd (h : EXe K te env (.d d) env') : EXd K te env d env' := fun F0 H0 F H σ E Q q => h E Q fun v F' H' e E' => by
  obtain ⟨B, hB⟩ := E'.last
  have T := (tr_ok.mp hB).1
  cases T with
  | d hd => exact q v F' H' e E'.pop hd
theorem EXd.ee (h : EXd K te env d env') : EXe K te env (.d d) env' := fun F0 H0 F H σ E Q q => h E Q fun v F' H' e E' hd => q v F' H' e (E'.push (Fz.refl E'.fh) (D := []) (fun _ m => by cases m) (tr_ok.mpr ⟨.d hd, .nil, fun _ m => by cases m⟩))
theorem EXd.nn (h : EXd K te env d env') : EXn K te env env' := h.ee.n
theorem ET.dd {b : Bool} (h : ET K tt env b) : ETd K tt env b env := fun F0 H0 F H σ E Q q => h E Q fun F' H' z => q F' H' z.f (E.step z)
theorem bx_retTr {o : O} (h : EXe K te env t env1) (hn : enc o = .re env' (some t)) (hw : Wk env1 env') : BX K (tSeq (tRet te) tu) env enc (some o) := fun o' ho F0 H0 F H σ D E c =>
  bx_retE h hn hw o' ho { D with nx := tu D } E (by
    cases ho
    rw [hn] at c ⊢
    exact c)
end
def Ag.roSl : Ag → Sl
  | .d q => .sh q
  | .ro t => .ro t
  | .mu _ => .un
def muC : List Ag → Nat
  | .mu _ :: as => muC as + 1
  | _ :: as => muC as
  | [] => 0
theorem pres_ro : ∀ {vs : List V} {as : List Ag}, vs.length = as.length → muC as = 0 → pres vs as = as.map Ag.roSl
  | [], [], _, _ => rfl
  | v :: vs, .d q :: as, h, m => by
    show Sl.sh q :: pres vs as = Sl.sh q :: as.map Ag.roSl
    rw [pres_ro (as := as) (by simpa using h) m]
  | v :: vs, .ro q :: as, h, m => by
    show Sl.ro q :: pres vs as = Sl.ro q :: as.map Ag.roSl
    rw [pres_ro (as := as) (by simpa using h) m]
  | v :: vs, .mu q :: as, h, m => by cases (show muC as + 1 = 0 from m)
  | [], _ :: _, h, _ => by cases h
  | _ :: _, [], h, _ => by cases h
theorem muC_no : ∀ {as : List Ag}, muC as = 0 → ∀ (j : Nat) (a : Ag), as[j]? = some a → a.isMu = false
  | [], _, _, _, e => by simp at e
  | .d q :: as, m, 0, _, e => by cases e; rfl
  | .ro q :: as, m, 0, _, e => by cases e; rfl
  | .mu q :: as, m, _, _, e => by cases (show muC as + 1 = 0 from m)
  | .d q :: as, m, j + 1, a, e => muC_no (as := as) m j a (by simpa using e)
  | .ro q :: as, m, j + 1, a, e => muC_no (as := as) m j a (by simpa using e)
theorem fn_okTr {A R : Type} {P : Program} {w : World} {K : Frag} {mg : Str → Option Value} {base : Heap} {x qual : Str} {params : Arguments} {body : List Stmt} {scope : Scope} {f : Addr} {fd : FuncData} {N ps : List Str} {k : Nat} {ea : A → List Ag} {er : R → OT} {fm : A → Option (Except Exn R)} {en : XK → Except Exn R → Out} {n : Nat}
    (F : FunD K x qual params body scope [] [] f fd) (S : FnScope N ps scope) (hl : ∀ a, (ea a).length = ps.length) (hN : N.length = ps.length + n) (h0 : ∀ a, muC (ea a) = 0)
    (hn : ∀ E y, en E (.ok y) = .re (List.replicate (ps.length + n) .un) (some (er y)))
    (hx : ∀ E y, en E (.error y) = .ex (List.replicate (ps.length + n) .un) y fun c d _ H => E c d H)
    (hb : ∀ (cdv : Value) (A' : Around) (outer : List Env) (s : Shared) (H : Hp) (E : XK), Room k (A'.deeper (envOfC qual scope s.heap.objs.size f cdv)) →
      ∃ t, PSs (cxOf (L2N.CX P w) P w K mg base N qual scope f cdv A' outer s H E) body t ∧ ∀ a, BX K t ((ea a).map Ag.roSl ++ List.replicate n .un) (en E) (fm a)) :
    FnOk P w K mg base (L2N.CX P w) (k + 1) f fd ps (PromE K (ImE ea (fun y => .t (er y)) (fun _ => []) fm)) := by
  have ee : ∀ vs a us, RefsAt vs (ea a) → endA N vs (ea a) us = List.replicate (ps.length + n) .un := fun vs a us hv => by
    unfold endA
    rw [posts_no hv.1 (muC_no (h0 a)), List.replicate_append_replicate, hl, hN]
    congr 1
    omega
  refine fn_okE (en := fun vs a E y => en E y) F S hl (fun a t m => ?_) (fun vs a E y hv => ?_) (fun vs a E y hv => ?_) fun cdv A' outer s H E hr => ?_
  · exfalso
    obtain ⟨j, hj, e⟩ := List.mem_iff_getElem.mp m
    have := muC_no (h0 a) j _ (List.getElem?_eq_getElem hj)
    rw [e] at this
    cases this
  · show (_ = Out.re (endA N _ _ _) _ ∨ _)
    rw [ee vs a _ hv]
    exact .inl (hn E y)
  · rw [hx, ee vs a _ hv]
  · obtain ⟨t, pt, b⟩ := hb cdv A' outer s H E hr
    refine ⟨t, pt, fun vs a hv => ?_⟩
    have e : startA N vs (ea a) = (ea a).map Ag.roSl ++ List.replicate n .un := by
      unfold startA
      rw [pres_ro hv.1 (h0 a), hl, hN]
      congr 2
      omega
    rw [e]
    exact b a
end Rb

set_option autoImplicit false
set_option Elab.async false
set_option linter.all false
set_option maxRecDepth 100000
set_option maxHeartbeats 2000000
namespace Rb
open PySem PySem.Spec PyProof.Rows L2
structure LoftF (K : Frag) : Prop where
  cl : Cls K (He.ga K "Loft")
  width : NoAttr K (He.ga K "Loft") "width"
  known : NoAttr K (He.ga K "Loft") "known"
  piles : NoAttr K (He.ga K "Loft") "piles"
  past : NoAttr K (He.ga K "Loft") "past"
  ahead : NoAttr K (He.ga K "Loft") "ahead"
section
variable {K : Frag} {env env' env1 : List Sl} {d : PyData} {ds : List PyData} {te ta tb tv td : TE} {tr : TA} {t u : OT} {ts tu : TS} {O : Type} {enc : O → Out} {m : Option O} {i j : Nat} {p : Addr} {s : Sl} {q : LoftS}
theorem EXt.w (h : EXt K te env (.lst ds)) : EXw K te env ds := fun F0 H0 F H σ E Q q => h E Q fun v F' H' B z T nd fr => by
  cases T with
  | lst h1 h2 h3 => exact q _ _ F' H' z (fr _ (List.mem_singleton.mpr rfl)).1 (fr _ (List.mem_singleton.mpr rfl)).2 h1 h2 h3
variable {W : WX} {x : Exn}
end
section
variable {X : Cx} {K : Frag} {x C m : Str} {k : Nat} {I : List Ag → (Rt × List OT) ⊕ Exn → Prop} {e o : Expr} {es : List Expr} {t : TA} {ta : TE} {p pos apos : Pos}
theorem pe_fnES (G : FnE X.prog X.w K X.mg X.base x k I) (hr : Room k X.A) (hg : Gl X x) (ha : PA X (e :: es) t) (hK : X.K = K := by rfl)
    (hs : starEach (e :: es) X.env = (false, eval e X.env) :: starEach es X.env := by rfl) (hpl : (backTo pos (starEach es X.env)).any (·.1) = false := by rfl) (hd : (x == ("__debug__" : Str)) = false := by decide) : PE X (.Call (.Name x p) (e :: es) [] pos) (tCallS (PromE K I) (fun _ _ _ _ => False) t) := by
  subst hK
  obtain ⟨f, fd, ps, F, hm, hk, hb⟩ := G.ex
  exact pe_callS F hr hg hm hk hb pass_none ha hd hs hpl
end
theorem ok_of {α : Type} {m : Option α} {v : α} (h : m = some v) : m.map (Except.ok (ε := Exn)) = some (.ok v) := by rw [h]; rfl
end Rb

set_option autoImplicit false
set_option Elab.async false
set_option linter.all false
set_option maxRecDepth 100000
set_option maxHeartbeats 2000000
namespace Rb
open PySem PySem.Spec PyProof.Rows L2
section
variable {K : Frag} {env : List Sl} {ta tb tc te : TE} {d : PyData} {ds : List PyData}
end
section
variable {K : Frag} {W : WX} {env env' : List Sl} {te ty td : TE} {x : Exn} {O : Type} {enc : O → Out} {tu : TS} {g : TG} {o : O}
end
end Rb

set_option Elab.async false
set_option linter.all false
set_option maxRecDepth 100000
set_option maxHeartbeats 4000000
namespace Rb
open PySem PySem.Spec PyProof.Rows L2
abbrev Cu : Type := Value × (Addr → Value → Option Addr → TS)
section
variable {K : Frag} {env env' envS envX : List Sl} {α β O S : Type} {ts tu : TS} {enc : O → Out} {Wout : WX} {x : Exn} {cl : List Cu}
end
section
variable {K : Frag} {env : List Sl} {α O : Type} {tl te : TE} {tu : TS} {enc : O → Out} {m : Option O} {e : α → PyData} {xs ys : List α} {x : α}
end
section
variable {X : Cx} {a b c d : Expr} {ta tb tc td : TE} {pos : Pos}
end
section
variable {K : Frag} {env : List Sl} {te : TE} {α : Type}
end
section
end
section
variable {K : Frag} {env : List Sl} {α β : Type} {wi : TI} {g : TG} {te : TE} {tt : TT} {vs : List Nat}
end
end Rb

set_option autoImplicit false
set_option Elab.async false
set_option linter.all false
set_option maxRecDepth 100000
set_option maxHeartbeats 4000000
namespace Rb
open PySem PySem.Spec PyProof.Rows L2
section
variable {K : Frag} {F0 H0 F H : Hp} {σ : List (Option V)} {env env' : List Sl} {i : Nat} {d z : PyData} {te ta tb : TE} {tt : TT} {ts tu : TS} {O : Type} {enc : O → Out} {m : Option O} {v : V} {x : PyData} {ds : List PyData} {b : Bool}
def scal : PyData → Prop
  | .none => True
  | .bool _ => True
  | .int _ => True
  | .str _ => True
  | _ => False
theorem Dq.scal {F F' : Hp} {v : V} {z : PyData} (h : Dq F v z) (s : scal z) : Dq F' v z := by
  cases h with
  | non => exact .non
  | bl b => exact .bl b
  | int i => exact .int i
  | str x l => exact .str x l
  | lst _ _ _ => exact s.elim
  | tup _ _ _ => exact s.elim
  | dct _ _ _ _ _ => exact s.elim
theorem EXt.is {t t' : OT} (h : EXt K te env t) (e : t = t') : EXt K te env t' := e ▸ h
end
end Rb

set_option autoImplicit false
set_option Elab.async false
set_option linter.all false
set_option maxRecDepth 100000
set_option maxHeartbeats 4000000
namespace Rb
open PySem PySem.Spec PyProof.Rows L2
theorem min_loopH {prog : Program} {w : World} {A : Around} {R : Result → Shared → Prop} {I : Addr} {fp wr : List Addr} {n : Nat} {P : Nat → Value → Prop} {St : Nat → Heap → Prop} (W : Walks prog w A.in1 I fp wr n P St) (bt : Nat → Nat → Bool) (Hh : Heap → Prop) (S : Addr) (hSf : ¬ S ∈ fp)
    (hH : ∀ h h', Hh h → (∀ b o, ¬ b ∈ wr → b ≠ S → h.get? b = some o → h'.get? b = some o) → Hh h')
    (hcmp : ∀ (i j : Nat) (vi vj : Value) (s : Shared) (Q E : Value → Shared → Prop), Hh s.heap → P i vi → P j vj → Q (.bool (bt i j)) s → wpAny (model prog w) A.in1 (richCompare .Lt vi vj) Q E s) :
    ∀ (k j : Nat) (s : Shared) (vb : Value) (c : Nat), n - (j + 1) = k → j + 1 ≤ n → St (j + 1) s.heap → Hh s.heap → P (argBest bt j) vb → s.heap.get? S = some { cls := Value.type "list", data := Data.seq #[vb, vb] c } →
      (∀ (v : Value) (h' : Heap) (tk : Nat), P (argBest bt (n - 1)) v → (∀ b o, ¬ b ∈ wr → b ≠ S → s.heap.get? b = some o → h'.get? b = some o) → R (.ok (.ret v)) { heap := h', gens := s.gens, drawn := s.drawn, toks := tk, os := s.os }) →
      codeAny (model prog w) A (Code.builtin "min.loop" { pos := [Value.ref I, Value.none, Value.ref S] }) R s := by
  have hSw : ¬ S ∈ wr := fun h => hSf (W.sub S h)
  intro k
  induction k with
  | zero =>
    intro j s vb c hk hj hst hh hPb hS hR
    have hin : n = j + 1 := by omega
    refine codeAny_builtin F.entry_min_loop ?_
    rw [Around.under_plainId F.plain_min_loop]
    refine wpAny_bind (wpAny_seqItems hS rfl ?_)
    refine wpAny_bind (wpAny_tryCatch (W.done s _ _ (hin ▸ hst) fun h' tk hk' => ?_))
    have hS' := hk' S _ hSw hS
    refine wpAny_bind (wpAny_updateSeq hS' rfl ?_ ?_ ?_)
    · refine wpAny_bind (wpAny_letGo (wpAny_pure (hR vb _ tk (by rw [hin]; exact hPb) fun b o hbw hbS e => (Heap.get?_update_other _ _ (Ne.symm hbS)).trans (hk' b o hbw e))))
    · simp [sizeLine_eq]
    · simp [sizeLine_eq]
  | succ k ih =>
    intro j s vb c hk hj hst hh hPb hS hR
    have hlt : j + 1 < n := by omega
    refine codeAny_builtin F.entry_min_loop ?_
    rw [Around.under_plainId F.plain_min_loop]
    refine wpAny_bind (wpAny_seqItems hS rfl ?_)
    refine wpAny_bind (wpAny_tryCatch (W.item (j + 1) s _ _ hlt hst fun v h' tk hP hst' hk' => ?_))
    have hS' := hk' S _ hSw hS
    have hh' : Hh h' := hH _ _ hh fun b o hb _ e => hk' b o hb e
    refine wpAny_bind (wpAny_pure ?_)
    refine wpAny_bind (wpAny_tryCatch (wpAny_holding (wpAny_bind (hcmp (j + 1) (argBest bt j) v vb { s with heap := h', toks := tk } _ _ hh' hP hPb ?_))))
    refine wpAny_bind (wpAny_holding (wpAny_truthy_bool (wpAny_bind (wpAny_letGo (wpAny_pure ?_)))))
    cases hb : bt (j + 1) (argBest bt j) with
    | false =>
      have ea : argBest bt (j + 1) = argBest bt j := by simp [argBest, hb]
      refine wpAny_bind (wpAny_letGo (wpAny_pure ⟨rfl, ih (j + 1) _ vb c (by omega) (by omega) hst' hh' (by rw [ea]; exact hPb) hS' fun v' h'' tk'' hP' hk'' => hR v' h'' tk'' hP' fun b o hbw hbS e => hk'' b o hbw hbS (hk' b o hbw e)⟩))
    | true =>
      have ea : argBest bt (j + 1) = j + 1 := by simp [argBest, hb]
      refine wpAny_bind (wpAny_updateSeq hS' rfl ?_ ?_ ?_)
      · refine wpAny_bind (wpAny_letGo (wpAny_pure ⟨rfl, ih (j + 1) _ v _ (by omega) (by omega) (W.frame _ _ _ hst' fun b hb o e => (Heap.get?_update_other _ _ (fun h => hSf (by rw [h]; exact hb))).trans e) (hH _ _ hh' fun b o _ hbS e => (Heap.get?_update_other _ _ (Ne.symm hbS)).trans e) (by rw [ea]; exact hP) (Heap.get?_update_self _ hS' rfl) fun v' h'' tk'' hP' hk'' => hR v' h'' tk'' hP' fun b o hbw hbS e => hk'' b o hbw hbS ((Heap.get?_update_other _ _ (Ne.symm hbS)).trans (hk' b o hbw e))⟩))
      · simp [sizeLine_eq]
      · simp [sizeLine_eq]
theorem min_firstH {prog : Program} {w : World} {A : Around} {R : Result → Shared → Prop} {I : Addr} {fp wr : List Addr} {n : Nat} {P : Nat → Value → Prop} {St : Nat → Heap → Prop} (W : Walks prog w A.in1 I fp wr n P St) (bt : Nat → Nat → Bool) (Hh : Heap → Prop) (S : Addr) (hSf : ¬ S ∈ fp)
    (hH : ∀ h h', Hh h → (∀ b o, ¬ b ∈ wr → b ≠ S → h.get? b = some o → h'.get? b = some o) → Hh h')
    (hcmp : ∀ (i j : Nat) (vi vj : Value) (s : Shared) (Q E : Value → Shared → Prop), Hh s.heap → P i vi → P j vj → Q (.bool (bt i j)) s → wpAny (model prog w) A.in1 (richCompare .Lt vi vj) Q E s)
    (hn : 0 < n) {s : Shared} {c : Nat} (hst : St 0 s.heap) (hh : Hh s.heap) (hS : s.heap.get? S = some { cls := Value.type "list", data := Data.seq #[] c })
    (hR : ∀ (v : Value) (h' : Heap) (tk : Nat), P (argBest bt (n - 1)) v → (∀ b o, ¬ b ∈ wr → b ≠ S → s.heap.get? b = some o → h'.get? b = some o) → R (.ok (.ret v)) { heap := h', gens := s.gens, drawn := s.drawn, toks := tk, os := s.os }) :
    codeAny (model prog w) A (Code.builtin "min.loop" { pos := [Value.ref I, Value.none, Value.ref S] }) R s := by
  have hSw : ¬ S ∈ wr := fun h => hSf (W.sub S h)
  refine codeAny_builtin F.entry_min_loop ?_
  rw [Around.under_plainId F.plain_min_loop]
  refine wpAny_bind (wpAny_seqItems hS rfl ?_)
  refine wpAny_bind (wpAny_tryCatch (W.item 0 s _ _ hn hst fun v h' tk hP hst' hk' => ?_))
  have hS' := hk' S _ hSw hS
  have hh' : Hh h' := hH _ _ hh fun b o hb _ e => hk' b o hb e
  refine wpAny_bind (wpAny_pure ?_)
  refine wpAny_bind (wpAny_updateSeq hS' rfl ?_ ?_ ?_)
  · refine wpAny_pure ⟨rfl, min_loopH W bt Hh S hSf hH hcmp (n - (0 + 1)) 0 _ v _ rfl (by omega) (W.frame _ _ _ hst' fun b hb o e => (Heap.get?_update_other _ _ (fun h => hSf (by rw [h]; exact hb))).trans e) (hH _ _ hh' fun b o _ hbS e => (Heap.get?_update_other _ _ (Ne.symm hbS)).trans e) hP (Heap.get?_update_self _ hS' rfl) fun v' h'' tk'' hP' hk'' => hR v' h'' tk'' hP' fun b o hbw hbS e => hk'' b o hbw hbS ((Heap.get?_update_other _ _ (Ne.symm hbS)).trans (hk' b o hbw e))⟩
  · simp [sizeLine_eq]
  · simp [sizeLine_eq]
theorem call_minH {prog : Program} {w : World} {A : Around} {E : Value → Shared → Prop} {s : Shared} {l : Addr} {its : Array Value} {Q : Value → Shared → Prop} (hA : A.in1.handled = none) (hl : s.heap.IsList l its) (hn : 0 < its.size) (bt : Nat → Nat → Bool)
    (hcmp : ∀ (i j : Nat) (vi vj : Value) (s2 : Shared) (Q E : Value → Shared → Prop), (∀ b o, s.heap.get? b = some o → s2.heap.get? b = some o) → its[i]? = some vi → its[j]? = some vj → Q (.bool (bt i j)) s2 → wpAny (model prog w) A.in1 (richCompare .Lt vi vj) Q E s2)
    (hQ : ∀ (v : Value) (h' : Heap) (tk : Nat), its[argBest bt (its.size - 1)]? = some v → (∀ b o, s.heap.get? b = some o → h'.get? b = some o) → Q v { heap := h', gens := s.gens, drawn := s.drawn, toks := tk, os := s.os }) :
    wpAny (model prog w) A (call (.builtin "min") [.ref l]) Q E s := by
  have hlt : l < s.heap.objs.size := by obtain ⟨o, e, _⟩ := hl; exact Heap.lt_size e
  refine call_function_tree F.kind_min F.plain_min F.entry_min (F.args_min1 _) ?_
  refine wpAny_bind (wpAny_of_eq rfl (wpAny_bind (wpAny_pure (wpAny_bind ?_))))
  refine wpAny_pyIter_list hl ?_
  have W : Walks prog w A.in1 s.heap.objs.size [s.heap.objs.size, l] [s.heap.objs.size] its.size (fun i v => its[i]? = some v) (fun i h => h.IsListIter s.heap.objs.size l i ∧ h.IsList l its) := Walks.list hA _ _ (Nat.ne_of_lt hlt) its
  refine wpAny_bind (wpAny_newObj_type ?_)
  refine wpAny_pure ⟨plainId_quiet F.plain_min_loop _, min_firstH W bt (fun h => ∀ b o, s.heap.get? b = some o → h.get? b = some o) _ ?_ ?_ ?_ hn ?_ ?_ (Heap.get?_push_size _ rfl) fun v h' tk hP hk => ?_⟩
  · intro hm
    rcases List.mem_cons.mp hm with h | h
    · exact Nat.succ_ne_self _ ((Heap.size_push _ _).symm.trans h)
    · exact Nat.ne_of_lt (Nat.lt_succ_of_lt hlt) ((List.mem_singleton.mp h).symm.trans (Heap.size_push _ _))
  · intro h h' hh hk b o e
    have hb := Heap.lt_size e
    exact hk b o (fun m => Nat.ne_of_lt hb (List.mem_singleton.mp m)) (Nat.ne_of_lt (Nat.lt_of_lt_of_eq (Nat.lt_succ_of_lt hb) (Heap.size_push _ _).symm)) (hh b o e)
  · exact fun i j vi vj s2 Q E hh hi hj q => hcmp i j vi vj s2 Q E hh hi hj q
  · exact W.frame 0 _ _ ⟨⟨_, Heap.get?_push_size _ rfl, rfl, rfl⟩, hl.push _⟩ fun b _ o e => Heap.get?_push_of_some _ e
  · exact fun b o e => Heap.get?_push_of_some _ (Heap.get?_push_of_some _ e)
  · refine hQ v h' tk hP fun b o e => ?_
    have hb := Heap.lt_size e
    exact hk b o (fun m => Nat.ne_of_lt hb (List.mem_singleton.mp m)) (Nat.ne_of_lt (Nat.lt_of_lt_of_eq (Nat.lt_succ_of_lt hb) (Heap.size_push _ _).symm)) (Heap.get?_push_of_some _ (Heap.get?_push_of_some _ e))
theorem reads_ints0 {h : Heap} : ∀ {ns : List Int} {its : List Value}, Vals (ns.map V.int) its → ReadsAll h its (ns.map PyData.int) []
  | [], _, v => by cases v; exact .nil
  | n :: ns, _, v => by
    cases v with
    | cons a b =>
      obtain ⟨t, rfl⟩ := a
      exact .cons (.int n t) (reads_ints0 b)
theorem reads_ints {h h' : Heap} {a : Addr} {ns : List Int} {its : List Value} (p : PlainL h a its.toArray) (v : Vals (ns.map V.int) its) (k : ∀ b o, h.get? b = some o → h'.get? b = some o) : Reads h' (.ref a) (.list (ns.map PyData.int)) [a] := by
  obtain ⟨o, n, e, c, _, d⟩ := p
  exact .list (k _ _ e) c d (reads_ints0 v)
theorem alike_ints : ∀ (xs ys : List Int), PySem.W.alikeAll (xs.map PyData.int) (ys.map PyData.int) = true
  | [], _ => by simp [PySem.W.alikeAll]
  | _ :: _, [] => by simp [PySem.W.alikeAll]
  | x :: xs, y :: ys => by simp [PySem.W.alikeAll, PySem.W.alike, alike_ints xs ys]
def eLL (ns : List Int) : PyData := .list (ns.map PyData.int)
def ltLL (nss : List (List Int)) (i j : Nat) : Bool := PySem.W.dataLt (eLL (nss.getD i [])) (eLL (nss.getD j []))
def minLL (nss : List (List Int)) : List Int := nss.getD (argBest (ltLL nss) (nss.length - 1)) []
theorem dep_ints (ns : List Int) : (eLL ns).depth ≤ 1 := by
  have h : ∀ xs : List Int, PyData.depthAll (xs.map PyData.int) = 0 := fun xs => by
    induction xs with
    | nil => rfl
    | cons x xs ih => simp [PyData.depthAll, PyData.depth, ih]
  simp [eLL, PyData.depth, h]
def rMinLL (K : Frag) : List V → Hp → VK → Prop := fun vs H Q => ∃ (a : Addr) (ps : List Addr) (nss : List (List Int)), vs = [.ref a] ∧ SqL K H a (ps.map V.ref) ∧ ps.length = nss.length ∧ (∀ (i : Nat) (p : Addr) (ns : List Int), ps[i]? = some p → nss[i]? = some ns → SqL K H p (ns.map V.int)) ∧ 0 < nss.length ∧ ∀ (i : Nat) (p : Addr), i < nss.length → i = argBest (ltLL nss) (nss.length - 1) → ps[i]? = some p → Q (.ref p) H
theorem argBest_le (bt : Nat → Nat → Bool) : ∀ n, argBest bt n ≤ n
  | 0 => by simp [argBest]
  | n + 1 => by
    have := argBest_le bt n
    cases h : bt (n + 1) (argBest bt n) <;> simp [argBest, h]
    omega
theorem vals_refs : ∀ {ps : List Addr} {its : List Value}, Vals (ps.map V.ref) its → its = ps.map Value.ref
  | [], _, v => by cases v; rfl
  | p :: ps, _, v => by
    cases v with
    | cons a b =>
      have a' : _ = Value.ref p := a
      rw [a', vals_refs b, List.map_cons]
theorem cr_minLL {X : Cx} (hc : X.calm = true) (hu : X.A.units + 64 < cLine) : CallR X (.builtin "min") (rMinLL X.K) := fun pins s σ H xs us Q I r h => by
  obtain ⟨a, ps, nss, rfl, hq, hl, hi, h0, q⟩ := h
  cases r with
  | cons r1 r2 =>
    cases r2
    cases r1
    obtain ⟨its, v, pl, hz⟩ := I.list hq
    obtain rfl := vals_refs v
    refine call_minH (bt := ltLL nss) (I.ok.hd hc) pl.isList (by simpa [hl] using h0) (fun i j vi vj s2 Q E hk e1 e2 q2 => ?_) fun v h' tk e hk => ?_
    · have e1' : (ps[i]?).map Value.ref = some vi := by simpa using e1
      have e2' : (ps[j]?).map Value.ref = some vj := by simpa using e2
      cases z1 : ps[i]? with
      | none => rw [z1] at e1'; cases e1'
      | some p1 =>
        cases z2 : ps[j]? with
        | none => rw [z2] at e2'; cases e2'
        | some p2 =>
          rw [z1] at e1'
          rw [z2] at e2'
          cases e1'
          cases e2'
          have li : i < nss.length := hl ▸ (List.getElem?_eq_some_iff.mp z1).1
          have lj : j < nss.length := hl ▸ (List.getElem?_eq_some_iff.mp z2).1
          have s1 := hi i p1 _ z1 (List.getElem?_eq_getElem li)
          have s2' := hi j p2 _ z2 (List.getElem?_eq_getElem lj)
          obtain ⟨it1, v1, pl1, _⟩ := I.list s1
          obtain ⟨it2, v2, pl2, _⟩ := I.list s2'
          have g1 : nss.getD i [] = nss[i] := by simp [List.getD, li]
          have g2 : nss.getD j [] = nss[j] := by simp [List.getD, lj]
          have b : ltLL nss i j = PySem.W.dataLt (eLL nss[i]) (eLL nss[j]) := by rw [ltLL, g1, g2]
          rw [b] at q2
          refine PySem.W.rcLt_alike (eLL nss[i]) (eLL nss[j]) X.A.in1 s2 _ _ _ _ (reads_ints pl1 v1 hk) (reads_ints pl2 v2 hk) (by simp [eLL, PySem.W.alike, alike_ints]) (fun h => nomatch h) ?_ _ _ _ _ q2
          have d1 := dep_ints nss[i]
          have u : X.A.in1.units = X.A.units + 1 := rfl
          rw [u]
          omega
    · have e' : (ps[argBest (ltLL nss) (nss.length - 1)]?).map Value.ref = some v := by simpa [hl] using e
      cases z : ps[argBest (ltLL nss) (nss.length - 1)]? with
      | none => rw [z] at e'; cases e'
      | some p =>
        rw [z] at e'
        cases e'
        exact ⟨.ref p, H, I.kept hk, rfl, q _ p (by have := argBest_le (ltLL nss) (nss.length - 1); omega) rfl z⟩
end Rb

set_option autoImplicit false
set_option Elab.async false
set_option linter.all false
set_option maxRecDepth 100000
set_option maxHeartbeats 4000000
namespace Rb
open PySem PySem.Spec PyProof.Rows L2
def tDispT (trs : List (TE × TE)) : TE := fun σ H Q => ∀ p, H p = none → tPairs trs σ (upd H p (.dT [])) fun ps H2 => H2 p = some (.dT []) ∧ ∃ (b : Addr) (k : List Key) (v : V), ps = [(.ref b, v)] ∧ H2 b = some (.tup (k.map kV)) ∧ Q (.ref p) (upd H2 p (.dT [(k, v)]))
theorem pe_dispT {X : Cx} {ek ev : Expr} {pos : Pos} {trs : List (TE × TE)} (hu : X.A.units < cLine) (h : PPs X pos [some ek] [ev] trs) : PE X (.Dict [some ek] [ev] pos) (tDispT trs) := by
  refine ⟨fun pins s σ H Q I q => ?_⟩
  have hn := I.hok.fresh (Nat.le_refl s.heap.objs.size)
  have I1 := I.laid (fun _ _ q => Heap.get?_push_of_some { cls := Value.type "dict", data := Data.dict #[] } q) (Nat.le_refl _) (dt_empty s.heap I.big) (t' := s.toks)
  rw [arm_eval_Dict]
  have hshape : (evalEachOpt [some ek] X.env).zip (List.map (fun v => do let x ← v; standAt pos; pure x) (evalEach [ev] X.env)) = List.map (fun p => (some p.1, p.2)) (pairTrees [some ek] [ev] X.env pos) := rfl
  rw [hshape, dictDisplay_pairs (pairTrees [some ek] [ev] X.env pos) (fun h => nomatch h) (show 1 < 17 by decide)]
  refine wpAny_bind (wpAny_standAt (wpAny_bind (wpAny_subDictH (knd := tupleKind (mixKind X.prog X.w)) hu (show 1 ≤ 15 by decide) ?_)))
  refine thn (h.run pins _ σ _ _ I1 (q _ hn)) fun ws s2 ⟨ps, H2, I2, rel, e, b, k, v, ep, eb, q2⟩ => ?_
  subst ep
  cases rel with
  | @cons _ kv1 _ _ r1 r2 =>
  cases r2
  obtain ⟨w1, w2⟩ := kv1
  obtain ⟨rk, rv⟩ := r1
  have rk' : w1 = Value.ref b := rk
  subst rk'
  have kk := key_of I2.hok eb
  obtain ⟨z, hd, xs, rel, dd⟩ := dt_of I2.hok e
  cases rel
  refine ⟨[(k, b, w2)], ⟨rfl, rfl, kk, trivial⟩, dd, fun h' tk dd' hs => wpAny_pure ⟨.ref s.heap.objs.size, upd H2 s.heap.objs.size (.dT [(k, v)]), ?_, rfl, q2⟩⟩
  obtain ⟨o, es, ep, g1, g2, g3, g4, g5, g6⟩ := dd'
  refine d_write I2 (by rw [e]; trivial) hs ⟨o, g1⟩ ⟨by rw [sizeLine_eq]; simp, hd, [(k, b, w2)], .cons ⟨rfl, ?_, rv⟩ .nil, o, es, ep, g1, g2, g3, g4, g6⟩
  have ne : b ≠ s.heap.objs.size := fun z => by rw [z, e] at eb; cases eb
  rw [upd_ne ne]
  exact eb
section
variable {K : Frag} {F0 H0 F H F' H' : Hp} {σ : List (Option V)} {env env' env1 : List Sl} {i j : Nat} {d : PyData} {tk tv te ta : TE} {ts tu : TS} {O : Type} {enc : O → Out} {m : Option O} {v w : V} {a b : List (List Key × PyData)} {ks : List Key}
theorem ext_dispT1 (hk : EX K tk env (.tuple (ks.map kD))) (hv : EX K tv env d) : EXt K (tDispT [(tk, tv)]) env (.dtt [(ks, d)]) := fun F0 H0 F H σ E Q q => by
  intro p hp
  have zp : Fz F H F (upd H p (.dT [])) := Fz.add E.fh hp
  have fp : F p = none := Evl.fresh_back E.fh hp
  refine hk (E.step zp) _ fun x F1 H1 z1 h1 => hv ((E.step zp).step z1) _ fun y F2 H2 z2 h2 => ?_
  obtain ⟨f2, o2⟩ := (z1.trans z2).own p _ upd_same fp (fun _ w => nomatch w)
  cases h1 with
  | tup t1 t2 t3 =>
    rw [kD_all t2] at t1
    refine ⟨o2, _, ks, y, rfl, z2.fh _ _ (z2.f _ _ t1), ?_⟩
    refine q (.ref p) F2 _ [p] (((zp.trans z1).trans z2).mutNew hp f2) (.dtt upd_same ⟨rfl, .cons h2 .nil⟩ ⟨show 1 ≤ lim by decide, fun x hx => ?_⟩) (by simp) fun b mb => ?_
    · obtain rfl := List.mem_singleton.mp hx
      rw [List.length_map] at t3
      exact t3
    · obtain rfl := List.mem_singleton.mp mb
      exact ⟨hp, f2⟩
theorem bx_asgDt (he : EXt K te env (.dtt a)) (hr : BX K tu (env.set j (.dt a)) enc m) : BX K (tSeq (tAsg te (gName j)) tu) env enc m := fun o ho F0 H0 F H σ D E c =>
  he E _ fun v F' H' B z T nd fr => by
    cases T with
    | dtt h1 h2 h3 => exact hr o ho D (E.setO z j (fr _ (List.mem_singleton.mpr rfl)).1 (s := .dt _) ⟨_, _, rfl, E.z.hn (fr _ (List.mem_singleton.mpr rfl)).1, (fr _ (List.mem_singleton.mpr rfl)).2, h1, h2, h3⟩) c
theorem EnvOk.setN2 (E : EnvOk K F0 H0 F H σ env) (z : Fz F H F' H') (i j : Nat) (hij : i ≠ j) {v w : V} {s t : Sl} {B C : List Addr} (hB : ∀ b, b ∈ B → H b = none) (hC : ∀ b, b ∈ C → H b = none) (dis : ∀ b, b ∈ B → b ∈ C → False) (hs : SlA K H0 F' H' (some v) B s) (ht : SlA K H0 F' H' (some w) C t) :
    EnvOk K F0 H0 F' H' ((σ.set i (some v)).set j (some w)) ((env.set i s).set j t) := by
  obtain ⟨As, as, d⟩ := E.as
  refine ⟨E.z.trans z, by simp [E.len], fun k => if k = j then C else if k = i then B else As k, fun k u h => ?_, fun k l u u' p hk hl mk ml => ?_⟩
  · rcases set_env h with ⟨rfl, rfl, l⟩ | ⟨n, h⟩
    · rw [List.length_set] at l
      exact ⟨some w, by simp [E.len, l], by simpa using ht⟩
    · rcases set_env h with ⟨rfl, rfl, l⟩ | ⟨n2, h⟩
      · refine ⟨some v, ?_, ?_⟩
        · rw [List.getElem?_set, if_neg fun e => n e.symm, List.getElem?_set, if_pos rfl, if_pos (by rw [E.len]; exact l)]
        · dsimp only; rw [if_neg n, if_pos rfl]; exact hs
      · obtain ⟨o, h1, h2⟩ := as k u h
        refine ⟨o, ?_, ?_⟩
        · rw [List.getElem?_set, if_neg fun e => n e.symm, List.getElem?_set, if_neg fun e => n2 e.symm]; exact h1
        · dsimp only; rw [if_neg n, if_neg n2]
          exact h2.keep (C := []) z.f (fun p u hp hf _ => z.own' p u hp hf) (fun _ m => by cases m) fun _ _ m => by cases m
  · have old : ∀ {k : Nat} {u : Sl}, k ≠ j → k ≠ i → ((env.set i s).set j t)[k]? = some u → p ∈ As k → ∃ u, H p = some u := fun {k u} n1 n2 h m => by
      rw [List.getElem?_set, if_neg fun e => n1 e.symm, List.getElem?_set, if_neg fun e => n2 e.symm] at h
      obtain ⟨o, h1, h2⟩ := as k u h
      obtain ⟨_, _, u', hu, _⟩ := h2.free p m
      exact ⟨u', hu⟩
    have env0 : ∀ {k : Nat} {u : Sl}, k ≠ j → k ≠ i → ((env.set i s).set j t)[k]? = some u → env[k]? = some u := fun {k u} n1 n2 h => by
      rw [List.getElem?_set, if_neg fun e => n1 e.symm, List.getElem?_set, if_neg fun e => n2 e.symm] at h
      exact h
    dsimp only at mk ml
    by_cases c1 : k = j
    · rw [if_pos c1] at mk
      by_cases c2 : l = j
      · rw [c1, c2]
      · rw [if_neg c2] at ml
        by_cases c3 : l = i
        · rw [if_pos c3] at ml; exact (dis p ml mk).elim
        · rw [if_neg c3] at ml
          obtain ⟨u', hu⟩ := old c2 c3 hl ml
          rw [hC p mk] at hu; cases hu
    · rw [if_neg c1] at mk
      by_cases c4 : k = i
      · rw [if_pos c4] at mk
        by_cases c2 : l = j
        · rw [if_pos c2] at ml; exact (dis p mk ml).elim
        · rw [if_neg c2] at ml
          by_cases c3 : l = i
          · rw [c4, c3]
          · rw [if_neg c3] at ml
            obtain ⟨u', hu⟩ := old c2 c3 hl ml
            rw [hB p mk] at hu; cases hu
      · rw [if_neg c4] at mk
        have zk := old c1 c4 hk mk
        by_cases c2 : l = j
        · rw [if_pos c2] at ml
          obtain ⟨u', hu⟩ := zk
          rw [hC p ml] at hu; cases hu
        · rw [if_neg c2] at ml
          by_cases c3 : l = i
          · rw [if_pos c3] at ml
            obtain ⟨u', hu⟩ := zk
            rw [hB p ml] at hu; cases hu
          · rw [if_neg c3] at ml
            exact d k l u u' p (env0 c1 c4 hk) (env0 c2 c3 hl) mk ml
theorem bx_unpDt (hij : i ≠ j) (he : EXt K te env (.tup [.dtt a, .dtt b])) (hr : BX K tu ((env.set i (.dt a)).set j (.dt b)) enc m) : BX K (tSeq (tAsg te (gTup K 2 (gCons (gName i) (gCons (gName j) gNil)))) tu) env enc m := fun o ho F0 H0 F H σ D E c =>
  he E _ fun v F' H' B z T nd fr => by
    cases T with
    | tup h1 h2 h3 =>
    cases h2 with
    | cons g1 g2 =>
    cases g1 with
    | @dtt p xs _ k1 k2 k3 =>
    cases g2 with
    | cons g3 g4 =>
    cases g3 with
    | @dtt q ys _ l1 l2 l3 =>
    cases g4
    have mp : p ∈ ([p] ++ ([q] ++ []) : List Addr) := by simp
    have mq : q ∈ ([p] ++ ([q] ++ []) : List Addr) := by simp
    have ne : p ≠ q := fun e => by subst e; simp at nd
    refine ⟨_, _, rfl, SqT.of (z.fh _ _ h1), rfl, _, _, rfl, _, _, rfl, rfl, hr o ho D (E.setN2 z i j hij (B := [p]) (C := [q]) (fun x m => ?_) (fun x m => ?_) (fun x m m2 => ?_) ⟨p, xs, rfl, E.z.hn (fr _ mp).1, (fr _ mp).2, k1, k2, k3, rfl⟩ ⟨q, ys, rfl, E.z.hn (fr _ mq).1, (fr _ mq).2, l1, l2, l3, rfl⟩) c⟩
    · obtain rfl := List.mem_singleton.mp m; exact (fr _ mp).1
    · obtain rfl := List.mem_singleton.mp m; exact (fr _ mq).1
    · exact ne ((List.mem_singleton.mp m).symm.trans (List.mem_singleton.mp m2))
theorem exe_pairDt (hij : i ≠ j) (hi : env[i]? = some (.dt a)) (hj : env[j]? = some (.dt b)) : EXe K (tTup (tCons (tVar i) (tCons (tVar j) tNil))) env (.tup [.dtt a, .dtt b]) ((env.set i .un).set j .un) := fun F0 H0 F H σ E Q q => by
  obtain ⟨As, as, d⟩ := E.as
  obtain ⟨o1, e1, p, xs, rfl, k0, k1, k2, k3, k4, kA⟩ := as i _ hi
  obtain ⟨o2, e2, r, ys, rfl, l0, l1, l2, l3, l4, lA⟩ := as j _ hj
  have ne : p ≠ r := fun e => hij (d i j _ _ p hi hj (by rw [kA]; exact List.mem_singleton.mpr rfl) (by rw [lA, e]; exact List.mem_singleton.mpr rfl))
  refine ⟨_, e1, _, e2, Nat.le_of_ble_eq_true rfl, fun t ht => ?_⟩
  have ft := Evl.fresh_back E.fh ht
  have ex := Evl.Ex.new (o := HO.tup [.ref p, .ref r]) ft
  have z : Fz F H (upd F t (.tup [.ref p, .ref r])) (upd H t (.tup [.ref p, .ref r])) := Fz.new E.fh ht
  have np : p ≠ t := fun e => by rw [e, ht] at k2; cases k2
  have nr : r ≠ t := fun e => by rw [e, ht] at l2; cases l2
  refine q (.ref t) _ _ z.f ⟨E.z.trans z, by simp [E.len], fun k => if k = env.length then [p, r] else if k = i then [] else if k = j then [] else As k, fun k s h => ?_, fun k l s s' x hk hl mk ml => ?_⟩
  · by_cases c : k = env.length
    · subst c
      rw [List.getElem?_append_right (by simp)] at h
      simp at h
      subst h
      refine ⟨some (.ref t), by rw [← E.len]; simp, ?_⟩
      dsimp only
      rw [if_pos rfl]
      refine ⟨_, rfl, .tup (A := [p] ++ ([r] ++ [])) upd_same (.cons (.dtt (by rw [upd_ne np]; exact k2) (k3.mono ex) k4) (.cons (.dtt (by rw [upd_ne nr]; exact l2) (l3.mono ex) l4) .nil)) (Nat.le_of_ble_eq_true rfl), by simp [ne], fun y my => ?_⟩
      rcases List.mem_cons.mp my with rfl | my
      · exact ⟨by rw [upd_ne np]; exact k1, k0⟩
      · obtain rfl := List.mem_singleton.mp my
        exact ⟨by rw [upd_ne nr]; exact l1, l0⟩
    · have kl : k < env.length := by
        have := (List.getElem?_eq_some_iff.mp h).1
        simp at this
        omega
      rw [List.getElem?_append_left (by simpa using kl)] at h
      dsimp only
      rw [if_neg c, List.getElem?_append_left (by rw [E.len]; exact kl)]
      rcases set_env h with ⟨rfl, rfl, _⟩ | ⟨n, h⟩
      · exact ⟨_, e2, by rw [if_neg fun e => hij e.symm, if_pos rfl]; exact ⟨trivial, rfl⟩⟩
      · rcases set_env h with ⟨rfl, rfl, _⟩ | ⟨n2, h⟩
        · exact ⟨_, e1, by rw [if_pos rfl]; exact ⟨trivial, rfl⟩⟩
        · obtain ⟨o, h1, h2⟩ := as k s h
          rw [if_neg n2, if_neg n]
          exact ⟨o, h1, h2.keep (C := []) z.f (fun p u hp hf _ => z.own' p u hp hf) (fun _ m => by cases m) fun _ _ m => by cases m⟩
  · have low : ∀ {k : Nat} {s : Sl}, (((env.set i .un).set j .un) ++ [Sl.tr (.tup [.dtt a, .dtt b])])[k]? = some s → k ≠ env.length → k ≠ i → k ≠ j → env[k]? = some s := fun {k s} h c n1 n2 => by
      have kl : k < env.length := by
        have := (List.getElem?_eq_some_iff.mp h).1
        simp at this
        omega
      rw [List.getElem?_append_left (by simpa using kl), List.getElem?_set, if_neg fun e => n2 e.symm, List.getElem?_set, if_neg fun e => n1 e.symm] at h
      exact h
    have clash : ∀ {k : Nat} {s : Sl}, env[k]? = some s → k ≠ i → k ≠ j → x ∈ As k → x ∈ [p, r] → False := fun {k s} h n1 n2 m1 m2 => by
      rcases List.mem_cons.mp m2 with e | m2
      · exact n1 (d k i _ _ x h hi m1 (by rw [kA, e]; exact List.mem_singleton.mpr rfl))
      · have e := List.mem_singleton.mp m2
        exact n2 (d k j _ _ x h hj m1 (by rw [lA, e]; exact List.mem_singleton.mpr rfl))
    dsimp only at mk ml
    by_cases c1 : k = env.length
    · rw [if_pos c1] at mk
      by_cases c2 : l = env.length
      · rw [c1, c2]
      · rw [if_neg c2] at ml
        by_cases n1 : l = i
        · rw [if_pos n1] at ml; cases ml
        · rw [if_neg n1] at ml
          by_cases n2 : l = j
          · rw [if_pos n2] at ml; cases ml
          · rw [if_neg n2] at ml
            exact (clash (low hl c2 n1 n2) n1 n2 ml mk).elim
    · rw [if_neg c1] at mk
      by_cases n1 : k = i
      · rw [if_pos n1] at mk; cases mk
      · rw [if_neg n1] at mk
        by_cases n2 : k = j
        · rw [if_pos n2] at mk; cases mk
        · rw [if_neg n2] at mk
          by_cases c2 : l = env.length
          · rw [if_pos c2] at ml
            exact (clash (low hk c1 n1 n2) n1 n2 mk ml).elim
          · rw [if_neg c2] at ml
            by_cases m1 : l = i
            · rw [if_pos m1] at ml; cases ml
            · rw [if_neg m1] at ml
              by_cases m2 : l = j
              · rw [if_pos m2] at ml; cases ml
              · rw [if_neg m2] at ml
                exact d k l _ _ x (low hk c1 n1 n2) (low hl c2 m1 m2) mk ml
def rListT : List V → Hp → VK → Prop := fun xs H Q => ∃ d kvs, xs = [V.ref d] ∧ Rd H d (.dT kvs) ∧ ∀ p bs, H p = none → IsKeys H kvs bs → Q (.ref p) (upd H p (.lst (bs.map V.ref)))
theorem call_listT {X : Cx} (hc : X.calm = true) : CallR X (.type "list") rListT := call_list_dT hc
theorem keysF : ∀ {xs : List (List Key × V)} {bs : List Addr} {F H : Hp}, Ex F H → IsKeys H xs bs → ∃ F', Fz F H F' H ∧ ∀ (i : Nat) (x : List Key × V) (b : Addr), xs[i]? = some x → bs[i]? = some b → F' b = some (.tup (x.1.map kV))
  | [], _, F, H, e, h => ⟨F, Fz.refl e, fun i x b hx => by simp at hx⟩
  | x :: xs, _, F, H, e, h => by
    cases h with
    | cons h1 h2 =>
      obtain ⟨F1, z1, g1⟩ := Fz.tup e h1
      obtain ⟨F2, z2, g2⟩ := keysF z1.fh h2
      refine ⟨F2, z1.trans z2, fun i y b hy hb => ?_⟩
      cases i with
      | zero => simp at hy hb; subst hy; subst hb; exact z2.f _ _ g1
      | succ i => exact g2 i y b (by simpa using hy) (by simpa using hb)
theorem dq_keys {β : Type} {F : Hp} {e : β → PyData} : ∀ {l : List (List Int × β)} {xs : List (List Key × V)} {bs : List Addr}, xs.map (·.1) = (l.map (kvE kT e)).map (·.1) → bs.length = xs.length → (∀ p, p ∈ l.map (kvE kT e) → p.1.length ≤ lim) → (∀ (i : Nat) (x : List Key × V) (b : Addr), xs[i]? = some x → bs[i]? = some b → F b = some (.tup (x.1.map kV))) → DqAll F (bs.map V.ref) ((l.map (·.1)).map (eT PyData.int))
  | [], [], [], _, _, _, _ => .nil
  | [], _ :: _, _, h, _, _, _ => by cases h
  | [], [], _ :: _, _, h, _, _ => by cases h
  | _ :: _, [], _, h, _, _, _ => by cases h
  | _ :: _, _ :: _, [], _, h, _, _ => by cases h
  | k :: l, x :: xs, b :: bs, h, hl, hm, hf => by
    injection h with h1 h2
    have g := hf 0 x b rfl rfl
    have h1' : x.1 = kT k.1 := h1
    rw [h1'] at g
    refine .cons (.tup g (kT_dq _ _) ?_) (dq_keys h2 (by simpa using hl) (fun p m => hm p (List.mem_cons_of_mem _ m)) fun i y b hy hb => hf (i + 1) y b (by simpa using hy) (by simpa using hb))
    have := hm _ List.mem_cons_self
    have : (kT k.1).length ≤ lim := this
    rw [List.length_map] at this ⊢
    exact this
theorem isKeys_len : ∀ {xs : List (List Key × V)} {bs : List Addr} {H : Hp}, IsKeys H xs bs → bs.length = xs.length
  | [], _, H, h => by cases h; rfl
  | _ :: _, _, H, h => by cases h with | cons _ h2 => simp [isKeys_len h2]
theorem exw_listFT {β : Type} {e : β → PyData} {xs : List (List Int × β)} (hi : env[i]? = some (.ft (xs.map (kvE kT e)))) : EXw K (tCB rListT (tCons (tVar i) tNil)) env ((xs.map (·.1)).map (eT PyData.int)) := fun F0 H0 F H σ E Q q => by
  obtain ⟨o, h1, p, ob, ws, h2, h4, h6, h7⟩ := E.sl i _ hi
  subst h2
  refine ⟨_, h1, p, ws, rfl, .inr ⟨ob, E.fh _ _ h4⟩, fun r bs hr hk => ?_⟩
  obtain ⟨F1, z1, g1⟩ := keysF E.fh hk
  have fr : F1 r = none := Evl.fresh_back z1.fh hr
  have l := h7.1
  refine q r _ F1 _ (z1.trans (Fz.add z1.fh hr)) hr fr upd_same (dq_keys h6.1 (isKeys_len hk) h7.2 g1) ?_
  rw [List.length_map] at l
  rw [List.length_map, List.length_map]
  exact l
theorem dq_lists : ∀ {nss : List (List Int)} {vs : List V} {F : Hp}, DqAll F vs (nss.map (eL PyData.int)) → ∃ ps : List Addr, vs = ps.map V.ref ∧ ps.length = nss.length ∧ ∀ (i : Nat) (p : Addr) (ns : List Int), ps[i]? = some p → nss[i]? = some ns → F p = some (.lst (ns.map V.int)) ∧ ns.length ≤ lim
  | [], _, F, h => by cases h; exact ⟨[], rfl, rfl, fun i p ns h => by simp at h⟩
  | n :: nss, _, F, h => by
    cases h with
    | cons a b =>
      cases a with
      | @lst p vs _ g1 g2 g3 =>
        obtain ⟨ps, e1, e2, e3⟩ := dq_lists b
        have e := g2.ints
        subst e
        refine ⟨p :: ps, by rw [e1]; rfl, by simp [e2], fun i q ns hq hn => ?_⟩
        cases i with
        | zero => simp at hq hn; subst hq; subst hn; exact ⟨g1, by simpa using g3⟩
        | succ i => exact e3 i q ns (by simpa using hq) (by simpa using hn)
theorem call_minK {X : Cx} (hc : X.calm = true) (hu : X.A.units + 64 < cLine) (h : X.K = K := by rfl) : CallR X (.builtin "min") (rMinLL K) := by subst h; exact cr_minLL hc hu
theorem ex_minLL {nss : List (List Int)} (ha : EXl K ta env (nss.map (eL PyData.int))) (h0 : 0 < nss.length) : EX K (tCB (rMinLL K) (tCons ta tNil)) env (eL PyData.int (minLL nss)) := fun F0 H0 F H σ E Q q =>
  ha E _ fun p vs F1 H1 z1 h1 a1 l1 => by
    obtain ⟨ps, rfl, e2, e3⟩ := dq_lists a1
    refine ⟨p, ps, nss, rfl, SqL.of h1, e2, fun i p' ns hp hn => SqL.of (z1.fh _ _ (e3 i p' ns hp hn).1), h0, fun i p' hi he hp => ?_⟩
    have g : nss[i]? = some (minLL nss) := by
      rw [minLL, ← he, List.getElem?_eq_getElem hi]
      simp [List.getD, hi]
    obtain ⟨k1, k2⟩ := e3 i p' _ hp g
    exact q _ F1 H1 z1 (.lst k1 (DqAll.ints' _) (by rw [List.length_map]; exact k2))
end
end Rb

set_option Elab.async false
set_option linter.all false
set_option maxRecDepth 100000
set_option maxHeartbeats 2000000
namespace Rb
def FT (m : Int) (x : Int → Int) : Prop := ∀ p, 0 ≤ p → p < m → 0 ≤ x p ∧ x p < m ∧ x p ≠ p ∧ x (x p) = p
def ring (c : Int) (x : Int → Int) : Int := if x c = c + 1 then 1 else 0
end Rb

set_option Elab.async false
set_option linter.all false
set_option maxRecDepth 100000
set_option maxHeartbeats 2000000
namespace Rb
open L2
theorem mem_rng {lo hi p : Int} : p ∈ rng lo hi ↔ lo ≤ p ∧ p < hi := by
  unfold rng
  rw [List.mem_map]
  constructor
  · rintro ⟨i, hi, rfl⟩
    rw [List.mem_range] at hi
    omega
  · intro ⟨h1, h2⟩
    exact ⟨(p - lo).toNat, by rw [List.mem_range]; omega, by omega⟩
theorem atI_eq {α : Type} {xs : List α} {p : Int} (h0 : 0 ≤ p) (h1 : p < (xs.length : Int)) : atI xs p = xs[p.toNat]? := by
  unfold atI ixN
  rw [if_pos h0, if_pos h1]
  rfl
def lst (m : Int) (x : Int → Int) : List Int := (rng 0 m).map x
theorem lst_ext {m : Int} {x y : Int → Int} (h : ∀ p, 0 ≤ p → p < m → x p = y p) : lst m x = lst m y := by
  unfold lst
  exact List.map_congr_left fun p hp => h p (mem_rng.mp hp).1 (mem_rng.mp hp).2
section
variable {α β S : Type}
theorem forS_cons {f : S → α → Option S} {s : S} {x : α} {xs : List α} : forS f s (x :: xs) = (f s x).bind fun s' => forS f s' xs := rfl
theorem app_ok {xs : List α} {x : α} (h : xs.length < lim) : app? xs x = some (xs ++ [x]) := by unfold app?; rw [if_pos h]
end
inductive Runs (u l : Int → Int) (n : Int) : Bool → Int → Int → List Int → Prop
  | stopL {p : Int} : n ≤ l p → Runs u l n true p (l p) []
  | stopU {p : Int} : u p < n → Runs u l n false p (u p) []
  | goL {p e : Int} {ms : List Int} : l p < n → Runs u l n false (l p + n) e ms → Runs u l n true p e (l p :: ms)
  | goU {p e : Int} {ms : List Int} : n ≤ u p → Runs u l n true (u p - n) e ms → Runs u l n false p e ((u p - n) :: ms)
end Rb

set_option Elab.async false
set_option linter.all false
set_option maxRecDepth 100000
set_option maxHeartbeats 4000000
namespace Rb
def Btw (ps : Int → Int) (u v w : Int) : Prop := (ps u < ps w ∧ ps w < ps v) ∨ (ps v < ps w ∧ ps w < ps u)
structure Pm (A : Int → Prop) (ps t : Int → Int) : Prop where
  ft : ∀ p, A p → A (t p) ∧ t p ≠ p ∧ t (t p) = p
  nc : ∀ p q, A p → A q → q ≠ p → q ≠ t p → (Btw ps p (t p) q ↔ Btw ps p (t p) (t q))
def glue (t : Int → Int) (a b : Int) : Int → Int := fun p => if t a = b then t p else if p = t a then t b else if p = t b then t a else t p
end Rb

set_option Elab.async false
set_option linter.all false
set_option maxRecDepth 100000
set_option maxHeartbeats 4000000
namespace Rb
def rd (n p : Int) : Int := if p < n then p else 3 * n - 1 - p
def Fr (n : Int) (x : Int → Int) : Prop := Pm (fun p => 0 ≤ p ∧ p < 2 * n) (rd n) x
theorem Fr.ft {n : Int} {x : Int → Int} (h : Fr n x) : FT (2 * n) x := fun p a b => by
  obtain ⟨⟨h1, h2⟩, h3, h4⟩ := Pm.ft h p ⟨a, b⟩
  exact ⟨h1, h2, h3, h4⟩
def two (n : Int) (x y : Int → Int) : Int → Int := fun p => if p < 2 * n then x p else y (p - 2 * n) + 2 * n
def Al (n k : Int) (p : Int) : Prop := 0 ≤ p ∧ p < 4 * n ∧ ¬ (n + k ≤ p ∧ p < 2 * n) ∧ ¬ (2 * n + k ≤ p ∧ p < 3 * n)
theorem rd_in {n p : Int} (h : 0 ≤ p ∧ p < 2 * n) : 0 ≤ rd n p ∧ rd n p < 2 * n := by unfold rd; grind
theorem rd_ne {n p q : Int} (h : 0 ≤ p ∧ p < 2 * n) (h' : 0 ≤ q ∧ q < 2 * n) (e : p ≠ q) : rd n p ≠ rd n q := by unfold rd; grind
def gl (n : Int) (s : (Int → Int) × Int) (k : Int) : (Int → Int) × Int := (glue s.1 (2 * n + k) (n + k), s.2 + if s.1 (2 * n + k) = n + k then 1 else 0)
def gls (n : Int) (x y : Int → Int) : Nat → (Int → Int) × Int
  | 0 => (two n x y, 0)
  | j + 1 => gl n (gls n x y j) (n - 1 - j)
theorem Pm.imp {A B : Int → Prop} {ps t : Int → Int} (h : Pm A ps t) (e : ∀ p, B p ↔ A p) : Pm B ps t :=
  ⟨fun p hp => by obtain ⟨a, b⟩ := h.ft p ((e p).mp hp); exact ⟨(e _).mpr a, b⟩, fun p q hp hq => h.nc p q ((e p).mp hp) ((e q).mp hq)⟩
def back (n r : Int) : Int := if r < n then r else r - 2 * n
def forth (n p : Int) : Int := if p < n then p else p + 2 * n
def comp (n : Int) (x y : Int → Int) (p : Int) : Int := back n ((gls n x y n.toNat).1 (forth n p))
def crings (n : Int) (x y : Int → Int) : Int := (gls n x y n.toNat).2
end Rb

set_option Elab.async false
set_option linter.all false
set_option maxRecDepth 100000
set_option maxHeartbeats 4000000
namespace Rb
def In (n k q : Int) : Prop := (n + k ≤ q ∧ q < 2 * n) ∨ (2 * n + k ≤ q ∧ q < 3 * n)
def cr (n q : Int) : Int := if q < 2 * n then q + n else q - n
def pg (n q : Int) : Int := if q < 2 * n then q - n else q - 2 * n
inductive Rk (T : Int → Int) (n k : Int) : Int → Int → List Int → Prop
  | stop {c : Int} : ¬ In n k (T c) → Rk T n k c (T c) []
  | go {c e : Int} {ms : List Int} : In n k (T c) → Rk T n k (cr n (T c)) e ms → Rk T n k c e (pg n (T c) :: ms)
theorem Rk.down {T : Int → Int} {n k c e : Int} {ms : List Int} (h : Rk T n (k + 1) c e ms) (he : ¬ In n k e) : Rk T n k c e ms := by
  induction h with
  | @stop c h => exact .stop he
  | @go c e ms h r ih => exact .go (by unfold In at *; omega) (ih he)
theorem Rk.join {T : Int → Int} {n k c e e' : Int} {ms ms' : List Int} (h : Rk T n (k + 1) c e ms) (he : In n k e) (r : Rk T n k (cr n e) e' ms') : Rk T n k c e' (ms ++ pg n e :: ms') := by
  induction h with
  | @stop c h => exact .go he r
  | @go c e ms h r' ih => exact .go (by unfold In at *; omega) (ih he r)
theorem Rk.inner {T : Int → Int} {n k c e : Int} {ms : List Int} (k0 : 0 ≤ k) (h : Rk T n k c e ms) : ∀ i, i ∈ ms → k ≤ i ∧ i < n := by
  induction h with
  | stop h => intro i hi; cases hi
  | @go c e ms h r ih =>
    intro i hi
    rcases List.mem_cons.mp hi with z | z
    · subst z; unfold In at h; unfold pg; grind
    · exact ih i z
structure Nbr (T : Int → Int) (n c e : Int) (ms : List Int) : Prop where
  up : ∀ i, i ∈ ms → (T (2 * n + i) = c ∨ T (2 * n + i) = e ∨ ∃ j, j ∈ ms ∧ T (2 * n + i) = 2 * n + j)
  lo : ∀ i, i ∈ ms → (T (n + i) = c ∨ T (n + i) = e ∨ ∃ j, j ∈ ms ∧ T (n + i) = n + j)
  st : T c = e ∨ ∃ j, j ∈ ms ∧ (T c = n + j ∨ T c = 2 * n + j)
structure T2 (n : Int) (T : Int → Int) : Prop where
  inv : ∀ q, 0 ≤ q → q < 4 * n → T (T q) = q
  up : ∀ q, 0 ≤ q → q < 2 * n → 0 ≤ T q ∧ T q < 2 * n
  lo : ∀ q, 2 * n ≤ q → q < 4 * n → 2 * n ≤ T q ∧ T q < 4 * n
theorem Rk.nbr {T : Int → Int} {n k c e : Int} {ms : List Int} (hT : T2 n T) (k0 : 0 ≤ k) (h : Rk T n k c e ms) : 0 ≤ c → c < 4 * n → Nbr T n c e ms := by
  induction h with
  | @stop c h => exact fun _ _ => ⟨fun i hi => (by cases hi), fun i hi => (by cases hi), .inl rfl⟩
  | @go c e ms h r ih =>
    intro c0 c1
    have hj : (T c < 2 * n ∧ T c = n + pg n (T c) ∧ cr n (T c) = 2 * n + pg n (T c)) ∨ (2 * n ≤ T c ∧ T c = 2 * n + pg n (T c) ∧ cr n (T c) = n + pg n (T c)) := by unfold In at h; unfold pg cr; grind
    have hb : 0 ≤ pg n (T c) ∧ pg n (T c) < n := by unfold In at h; unfold pg; grind
    have hi := hT.inv c c0 c1
    have I := r.inner k0
    have q := ih (by omega) (by omega)
    generalize pg n (T c) = j at *
    generalize cr n (T c) = c' at *
    refine ⟨fun i hm => ?_, fun i hm => ?_, .inr ⟨j, List.mem_cons_self, by omega⟩⟩
    · have bi : 0 ≤ i ∧ i < n := by
        rcases List.mem_cons.mp hm with z | z
        · omega
        · have := I i z; omega
      have u := hT.lo (2 * n + i) (by omega) (by omega)
      rcases List.mem_cons.mp hm with z | z
      · subst z
        rcases hj with ⟨h1, h2, h3⟩ | ⟨h1, h2, h3⟩
        · rw [← h3] at u ⊢
          rcases q.st with s | ⟨j', m, s⟩
          · exact .inr (.inl s)
          · have := I j' m
            exact .inr (.inr ⟨j', List.mem_cons_of_mem _ m, by omega⟩)
        · rw [← h2]; exact .inl hi
      · rcases q.up i z with s | s | ⟨j', m, s⟩
        · exact .inr (.inr ⟨j, List.mem_cons_self, by omega⟩)
        · exact .inr (.inl s)
        · exact .inr (.inr ⟨j', List.mem_cons_of_mem _ m, s⟩)
    · have bi : 0 ≤ i ∧ i < n := by
        rcases List.mem_cons.mp hm with z | z
        · omega
        · have := I i z; omega
      have u := hT.up (n + i) (by omega) (by omega)
      rcases List.mem_cons.mp hm with z | z
      · subst z
        rcases hj with ⟨h1, h2, h3⟩ | ⟨h1, h2, h3⟩
        · rw [← h2]; exact .inl hi
        · rw [← h3] at u ⊢
          rcases q.st with s | ⟨j', m, s⟩
          · exact .inr (.inl s)
          · have := I j' m
            exact .inr (.inr ⟨j', List.mem_cons_of_mem _ m, by omega⟩)
      · rcases q.lo i z with s | s | ⟨j', m, s⟩
        · exact .inr (.inr ⟨j, List.mem_cons_self, by omega⟩)
        · exact .inr (.inl s)
        · exact .inr (.inr ⟨j', List.mem_cons_of_mem _ m, s⟩)
inductive Con (f g : Int → Int) : Int → Int → Prop
  | refl {i : Int} : Con f g i i
  | f {i j : Int} : Con f g i j → Con f g i (f j)
  | g {i j : Int} : Con f g i j → Con f g i (g j)
theorem Con.trans {f g : Int → Int} {i j l : Int} (h : Con f g i j) (r : Con f g j l) : Con f g i l := by
  induction r with
  | refl => exact h
  | f _ ih => exact ih.f
  | g _ ih => exact ih.g
def fT (T : Int → Int) (n i : Int) : Int := T (2 * n + i) - 2 * n
def gT (T : Int → Int) (n i : Int) : Int := T (n + i) - n
theorem Rk.con {T : Int → Int} {n k c e : Int} {ms : List Int} (hT : T2 n T) (k0 : 0 ≤ k) (h : Rk T n k c e ms) : ∀ i0, 0 ≤ i0 → i0 < n → (c = n + i0 ∨ c = 2 * n + i0) → ∀ i, i ∈ ms → Con (fT T n) (gT T n) i0 i := by
  induction h with
  | @stop c h => intro i0 _ _ _ i hi; cases hi
  | @go c e ms h r ih =>
    intro i0 b0 b1 hc i hm
    have hj : (T c < 2 * n ∧ T c = n + pg n (T c) ∧ cr n (T c) = 2 * n + pg n (T c)) ∨ (2 * n ≤ T c ∧ T c = 2 * n + pg n (T c) ∧ cr n (T c) = n + pg n (T c)) := by unfold In at h; unfold pg cr; grind
    have hb : 0 ≤ pg n (T c) ∧ pg n (T c) < n := by unfold In at h; unfold pg; grind
    have IH := ih (pg n (T c)) hb.1 hb.2 (by omega)
    generalize pg n (T c) = j at *
    have one : Con (fT T n) (gT T n) i0 j := by
      rcases hc with z | z
      · subst z
        have u := hT.up (n + i0) (by omega) (by omega)
        have e : j = gT T n i0 := by unfold gT; omega
        rw [e]; exact .g .refl
      · subst z
        have u := hT.lo (2 * n + i0) (by omega) (by omega)
        have e : j = fT T n i0 := by unfold fT; omega
        rw [e]; exact .f .refl
    rcases List.mem_cons.mp hm with z | z
    · subst z; exact one
    · exact one.trans (IH i z)
inductive Cnt (f g : Int → Int) : (Int → Prop) → Int → Prop
  | nil {D : Int → Prop} : (∀ i, ¬ D i) → Cnt f g D 0
  | ring {D D' W : Int → Prop} {r c : Int} : W r → (∀ i, W i → D i ∧ W (f i) ∧ W (g i) ∧ Con f g r i) → (∀ i, D' i ↔ D i ∧ ¬ W i) → Cnt f g D' c → Cnt f g D (c + 1)
theorem Cnt.imp {f g : Int → Int} {D E : Int → Prop} {c : Int} (h : Cnt f g D c) (e : ∀ i, D i ↔ E i) : Cnt f g E c := by
  have : D = E := funext fun i => propext (e i)
  rw [← this]; exact h
end Rb

set_option Elab.async false
set_option linter.all false
set_option maxRecDepth 100000
set_option maxHeartbeats 4000000
namespace Rb
structure Gs (T : Int → Int) (n k : Int) (t : Int → Int) (P : Int → List Int) (c : Int) : Prop where
  ft : ∀ p, Al n k p → Al n k (t p) ∧ t p ≠ p ∧ t (t p) = p
  rk : ∀ p, Al n k p → Rk T n k p (t p) (P p)
  nd : ∀ p, Al n k p → (P p).Nodup
  rev : ∀ p, Al n k p → ∀ i, i ∈ P (t p) ↔ i ∈ P p
  dj : ∀ p q, Al n k p → Al n k q → q ≠ p → q ≠ t p → ∀ i, i ∈ P p → i ∉ P q
  cnt : Cnt (fT T n) (gT T n) (fun i => k ≤ i ∧ i < n ∧ ∀ p, Al n k p → i ∉ P p) c
theorem al_not_in {n k p : Int} (h : Al n k p) : ¬ In n k p := by unfold Al at h; unfold In; omega
theorem Gs.start {T : Int → Int} {n : Int} (hn : 0 ≤ n) (hT : T2 n T) (hne : ∀ q, 0 ≤ q → q < 4 * n → T q ≠ q) : Gs T n n T (fun _ => []) 0 := by
  have tb : ∀ q, 0 ≤ q → q < 4 * n → 0 ≤ T q ∧ T q < 4 * n := fun q a b => by
    by_cases c : q < 2 * n
    · have := hT.up q a c; omega
    · have := hT.lo q (by omega) b; omega
  refine ⟨fun p hp => ?_, fun p hp => .stop ?_, fun p hp => .nil, fun p hp i => Iff.rfl, fun p q hp hq _ _ i hi => (by cases hi), .nil fun i hi => by omega⟩
  · unfold Al at hp
    have a := tb p (by omega) (by omega)
    exact ⟨by unfold Al; omega, hne p (by omega) (by omega), hT.inv p (by omega) (by omega)⟩
  · unfold In; omega
theorem Gs.step {T t : Int → Int} {n k c : Int} {P : Int → List Int} (hT : T2 n T) (k0 : 0 ≤ k) (k1 : k < n) (h : Gs T n (k + 1) t P c) :
    ∃ P', Gs T n k (glue t (2 * n + k) (n + k)) P' (c + if t (2 * n + k) = n + k then 1 else 0) := by
  have aA : Al n (k + 1) (2 * n + k) := by unfold Al; omega
  have bA : Al n (k + 1) (n + k) := by unfold Al; omega
  have ab : 2 * n + k ≠ n + k := by omega
  have inA : In n k (2 * n + k) := by unfold In; omega
  have inB : In n k (n + k) := by unfold In; omega
  have crA : cr n (2 * n + k) = n + k := by unfold cr; rw [if_neg (by omega)]; omega
  have crB : cr n (n + k) = 2 * n + k := by unfold cr; rw [if_pos (by omega)]; omega
  have pgA : pg n (2 * n + k) = k := by unfold pg; rw [if_neg (by omega)]; omega
  have pgB : pg n (n + k) = k := by unfold pg; rw [if_pos (by omega)]; omega
  have split : ∀ p, Al n k p ↔ Al n (k + 1) p ∧ p ≠ 2 * n + k ∧ p ≠ n + k := fun p => by unfold Al; omega
  have nin : ∀ p, Al n (k + 1) p → p ≠ 2 * n + k → p ≠ n + k → ¬ In n k p := fun p hp x y => al_not_in ((split p).mpr ⟨hp, x, y⟩)
  have kno : ∀ p, Al n (k + 1) p → k ∉ P p := fun p hp z => by have := (h.rk p hp).inner (by omega) k z; omega
  have fa := h.ft _ aA
  have fb := h.ft _ bA
  generalize ha : 2 * n + k = a at *
  generalize hb : n + k = b at *
  by_cases ct : t a = b
  · have et : glue t a b = t := by funext p; unfold glue; rw [if_pos ct]
    rw [et, if_pos ct]
    have tba : t b = a := by rw [← ct]; exact fa.2.2
    have ne : ∀ p, Al n k p → t p ≠ a ∧ t p ≠ b := fun p hp => by
      have q := (split p).mp hp
      have f := h.ft p q.1
      refine ⟨fun z => q.2.2 ?_, fun z => q.2.1 ?_⟩
      · rw [← f.2.2, z, ct]
      · rw [← f.2.2, z, tba]
    refine ⟨P, fun p hp => ?_, fun p hp => ?_, fun p hp => h.nd p ((split p).mp hp).1, fun p hp => h.rev p ((split p).mp hp).1, fun p q hp hq => h.dj p q ((split p).mp hp).1 ((split q).mp hq).1, ?_⟩
    · have f := h.ft p ((split p).mp hp).1
      exact ⟨(split _).mpr ⟨f.1, ne p hp⟩, f.2⟩
    · have f := h.ft p ((split p).mp hp).1
      exact (h.rk p ((split p).mp hp).1).down (nin _ f.1 (ne p hp).1 (ne p hp).2)
    · have ra := h.rk a aA
      rw [ct] at ra
      have N := ra.nbr hT (by omega) (by omega) (by omega)
      have I := ra.inner (by omega)
      have C := ra.con hT (by omega) k k0 k1 (by omega)
      refine .ring (W := fun i => i = k ∨ i ∈ P a) (r := k) (.inl rfl) (fun i hi => ⟨⟨?_, ?_, fun p hp => ?_⟩, ?_, ?_, ?_⟩) (fun i => ?_) h.cnt
      · rcases hi with z | z
        · omega
        · have := I i z; omega
      · rcases hi with z | z
        · omega
        · have := I i z; omega
      · have q := (split p).mp hp
        rcases hi with z | z
        · rw [z]; exact kno p q.1
        · exact h.dj a p aA q.1 q.2.1 (by rw [ct]; exact q.2.2) i z
      · rcases hi with z | z
        · subst z
          have u := hT.lo a (by omega) (by omega)
          have e : fT T n i = T a - 2 * n := by unfold fT; rw [ha]
          rcases N.st with s | ⟨j, m, s⟩
          · omega
          · right
            have := I j m
            have : fT T n i = j := by omega
            rw [this]; exact m
        · have b1 := I i z
          have u := hT.lo (2 * n + i) (by omega) (by omega)
          rcases N.up i z with s | s | ⟨j, m, s⟩
          · left; unfold fT; omega
          · omega
          · right
            have : fT T n i = j := by unfold fT; omega
            rw [this]; exact m
      · rcases hi with z | z
        · subst z
          have u := hT.up b (by omega) (by omega)
          have e : gT T n i = T b - n := by unfold gT; rw [hb]
          -- the last peg met before b
          have rb := h.rk b bA
          rw [tba] at rb
          have Nb := rb.nbr hT (by omega) (by omega) (by omega)
          have Ib := rb.inner (by omega)
          rcases Nb.st with s | ⟨j, m, s⟩
          · omega
          · right
            have := Ib j m
            have e2 : gT T n i = j := by omega
            rw [e2]
            exact (h.rev a aA j).mp (by rw [ct]; exact m)
        · have b1 := I i z
          have u := hT.up (n + i) (by omega) (by omega)
          rcases N.lo i z with s | s | ⟨j, m, s⟩
          · omega
          · left; unfold gT; omega
          · right
            have : gT T n i = j := by unfold gT; omega
            rw [this]; exact m
      · rcases hi with z | z
        · rw [z]; exact .refl
        · exact C i z
      · constructor
        · rintro ⟨x, y, z⟩
          refine ⟨⟨by omega, y, fun p hp => z p ((split p).mp hp).1⟩, fun w => ?_⟩
          rcases w with w | w
          · omega
          · exact z a aA w
        · rintro ⟨⟨x, y, z⟩, w⟩
          refine ⟨by have : i ≠ k := fun e => w (.inl e); omega, y, fun p hp m => ?_⟩
          by_cases pa : p = a
          · subst pa; exact w (.inr m)
          · by_cases pb : p = b
            · subst pb
              have := (h.rev a aA i).mp (by rw [ct]; exact m)
              exact w (.inr this)
            · exact z p ((split p).mpr ⟨hp, pa, pb⟩) m
  · have et : ∀ p, glue t a b p = if p = t a then t b else if p = t b then t a else t p := fun p => by unfold glue; rw [if_neg ct]
    rw [if_neg ct, Int.add_zero]
    have tab : t a ≠ t b := fun z => ab (by rw [← fa.2.2, z, fb.2.2])
    have tbna : t b ≠ a := fun z => ct (by rw [← z]; exact fb.2.2)
    let P' : Int → List Int := fun p => if p = t a then P p ++ k :: P b else if p = t b then P p ++ k :: P a else P p
    have e1 : P' (t a) = P (t a) ++ k :: P b := if_pos rfl
    have e2 : P' (t b) = P (t b) ++ k :: P a := by show (if t b = t a then _ else if t b = t b then _ else _) = _; rw [if_neg (Ne.symm tab), if_pos rfl]
    have e3 : ∀ p, p ≠ t a → p ≠ t b → P' p = P p := fun p x y => by show (if p = t a then _ else if p = t b then _ else _) = _; rw [if_neg x, if_neg y]
    have g1 : glue t a b (t a) = t b := by rw [et, if_pos rfl]
    have g2 : glue t a b (t b) = t a := by rw [et, if_neg (Ne.symm tab), if_pos rfl]
    have g3 : ∀ p, p ≠ t a → p ≠ t b → glue t a b p = t p := fun p x y => by rw [et, if_neg x, if_neg y]
    have ta : Al n k (t a) := (split _).mpr ⟨fa.1, fa.2.1, ct⟩
    have tb : Al n k (t b) := (split _).mpr ⟨fb.1, tbna, fb.2.1⟩
    have other : ∀ p, Al n k p → p ≠ t a → p ≠ t b → t p ≠ a ∧ t p ≠ b ∧ t p ≠ t a ∧ t p ≠ t b := fun p hp x y => by
      have q := (split p).mp hp
      have f := h.ft p q.1
      refine ⟨fun z => x ?_, fun z => y ?_, fun z => q.2.1 ?_, fun z => q.2.2 ?_⟩
      · rw [← z, f.2.2]
      · rw [← z, f.2.2]
      · rw [← f.2.2, z, fa.2.2]
      · rw [← f.2.2, z, fb.2.2]
    have mA : ∀ i, i ∈ P' (t a) ↔ i ∈ P a ∨ i = k ∨ i ∈ P b := fun i => by rw [e1, List.mem_append, List.mem_cons, h.rev a aA]
    have mB : ∀ i, i ∈ P' (t b) ↔ i ∈ P b ∨ i = k ∨ i ∈ P a := fun i => by rw [e2, List.mem_append, List.mem_cons, h.rev b bA]
    have dAB : ∀ i, i ∈ P a → i ∉ P b := h.dj a b aA bA (Ne.symm ab) (fun z => ct z.symm)
    have dO : ∀ p, Al n k p → p ≠ t a → p ≠ t b → ∀ i, i ∈ P p → i ∉ P a ∧ i ≠ k ∧ i ∉ P b := fun p hp x y i hi => by
      have q := (split p).mp hp
      have o := other p hp x y
      exact ⟨h.dj p a q.1 aA (Ne.symm q.2.1) (Ne.symm o.1) i hi, fun z => kno p q.1 (z ▸ hi), h.dj p b q.1 bA (Ne.symm q.2.2) (Ne.symm o.2.1) i hi⟩
    refine ⟨P', fun p hp => ?_, fun p hp => ?_, fun p hp => ?_, fun p hp => ?_, fun p q hp hq nq nt i hi hi2 => ?_, h.cnt.imp fun i => ?_⟩
    · by_cases p1 : p = t a
      · subst p1; rw [g1, g2]; exact ⟨tb, Ne.symm tab, rfl⟩
      · by_cases p2 : p = t b
        · subst p2; rw [g2, g1]; exact ⟨ta, tab, rfl⟩
        · have o := other p hp p1 p2
          have f := h.ft p ((split p).mp hp).1
          rw [g3 p p1 p2, g3 (t p) o.2.2.1 o.2.2.2]
          exact ⟨(split _).mpr ⟨f.1, o.1, o.2.1⟩, f.2⟩
    · by_cases p1 : p = t a
      · subst p1; rw [g1, e1]
        have r := h.rk (t a) fa.1
        rw [fa.2.2] at r
        have := r.join inA (by rw [crA]; exact (h.rk b bA).down (nin _ fb.1 tbna fb.2.1))
        rw [pgA] at this
        exact this
      · by_cases p2 : p = t b
        · subst p2; rw [g2, e2]
          have r := h.rk (t b) fb.1
          rw [fb.2.2] at r
          have := r.join inB (by rw [crB]; exact (h.rk a aA).down (nin _ fa.1 fa.2.1 ct))
          rw [pgB] at this
          exact this
        · have o := other p hp p1 p2
          rw [g3 p p1 p2, e3 p p1 p2]
          have q := (split p).mp hp
          exact (h.rk p q.1).down (nin _ (h.ft p q.1).1 o.1 o.2.1)
    · by_cases p1 : p = t a
      · subst p1; rw [e1]
        refine List.nodup_append.mpr ⟨h.nd _ fa.1, List.nodup_cons.mpr ⟨kno b bA, h.nd b bA⟩, fun i hi j hj e => ?_⟩
        subst e
        rw [h.rev a aA] at hi
        rcases List.mem_cons.mp hj with z | z
        · exact kno a aA (z ▸ hi)
        · exact dAB i hi z
      · by_cases p2 : p = t b
        · subst p2; rw [e2]
          refine List.nodup_append.mpr ⟨h.nd _ fb.1, List.nodup_cons.mpr ⟨kno a aA, h.nd a aA⟩, fun i hi j hj e => ?_⟩
          subst e
          rw [h.rev b bA] at hi
          rcases List.mem_cons.mp hj with z | z
          · exact kno b bA (z ▸ hi)
          · exact dAB i z hi
        · rw [e3 p p1 p2]; exact h.nd p ((split p).mp hp).1
    · intro i
      by_cases p1 : p = t a
      · subst p1; rw [g1, mB, mA]; grind
      · by_cases p2 : p = t b
        · subst p2; rw [g2, mA, mB]; grind
        · have o := other p hp p1 p2
          rw [g3 p p1 p2, e3 p p1 p2, e3 (t p) o.2.2.1 o.2.2.2]
          exact h.rev p ((split p).mp hp).1 i
    · by_cases p1 : p = t a
      · subst p1
        rw [g1] at nt
        rw [e3 q nq nt] at hi2
        have := dO q hq nq nt i hi2
        rcases (mA i).mp hi with z | z | z
        · exact this.1 z
        · exact this.2.1 z
        · exact this.2.2 z
      · by_cases p2 : p = t b
        · subst p2
          rw [g2] at nt
          rw [e3 q nt nq] at hi2
          have := dO q hq nt nq i hi2
          rcases (mB i).mp hi with z | z | z
          · exact this.2.2 z
          · exact this.2.1 z
          · exact this.1 z
        · rw [g3 p p1 p2] at nt
          rw [e3 p p1 p2] at hi
          have D := dO p hp p1 p2 i hi
          by_cases q1 : q = t a
          · subst q1
            rcases (mA i).mp hi2 with z | z | z
            · exact D.1 z
            · exact D.2.1 z
            · exact D.2.2 z
          · by_cases q2 : q = t b
            · subst q2
              rcases (mB i).mp hi2 with z | z | z
              · exact D.2.2 z
              · exact D.2.1 z
              · exact D.1 z
            · rw [e3 q q1 q2] at hi2
              exact h.dj p q ((split p).mp hp).1 ((split q).mp hq).1 nq nt i hi hi2
    · constructor
      · rintro ⟨x, y, z⟩
        refine ⟨by omega, y, fun p hp m => ?_⟩
        by_cases p1 : p = t a
        · subst p1
          rcases (mA i).mp m with w | w | w
          · exact z a aA w
          · omega
          · exact z b bA w
        · by_cases p2 : p = t b
          · subst p2
            rcases (mB i).mp m with w | w | w
            · exact z b bA w
            · omega
            · exact z a aA w
          · rw [e3 p p1 p2] at m
            exact z p ((split p).mp hp).1 m
      · rintro ⟨x, y, z⟩
        have zA := z _ ta
        rw [mA] at zA
        have nk : i ≠ k := fun e => zA (.inr (.inl e))
        refine ⟨by omega, y, fun p hp m => ?_⟩
        by_cases pa : p = a
        · subst pa; exact zA (.inl m)
        · by_cases pb : p = b
          · subst pb; exact zA (.inr (.inr m))
          · have hp' := (split p).mpr ⟨hp, pa, pb⟩
            by_cases p1 : p = t a
            · subst p1; exact zA (.inl ((h.rev a aA i).mp m))
            · by_cases p2 : p = t b
              · subst p2; exact zA (.inr (.inr ((h.rev b bA i).mp m)))
              · exact z p hp' (by rw [e3 p p1 p2]; exact m)
end Rb

set_option Elab.async false
set_option linter.all false
set_option maxRecDepth 100000
set_option maxHeartbeats 4000000
namespace Rb
theorem Con.congr {f g f' g' : Int → Int} {W : Int → Prop} {r i : Int} (hr : W r) (hW : ∀ i, W i → W (f i) ∧ W (g i) ∧ f i = f' i ∧ g i = g' i) (h : Con f g r i) : W i ∧ Con f' g' r i := by
  induction h with
  | refl => exact ⟨hr, .refl⟩
  | f _ ih =>
    have := hW _ ih.1
    exact ⟨this.1, this.2.2.1 ▸ ih.2.f⟩
  | g _ ih =>
    have := hW _ ih.1
    exact ⟨this.2.1, this.2.2.2 ▸ ih.2.g⟩
theorem Cnt.congr {f g f' g' : Int → Int} {D : Int → Prop} {c : Int} (h : Cnt f g D c) : (∀ i, D i → f i = f' i ∧ g i = g' i) → Cnt f' g' D c := by
  induction h with
  | nil h => intro _; exact .nil h
  | ring hr hw hd _ ih =>
    intro e
    refine .ring hr (fun i hi => ?_) hd (ih fun i hi => e i ((hd i).mp hi).1)
    have q := hw i hi
    have e' := e i q.1
    exact ⟨q.1, e'.1 ▸ q.2.1, e'.2 ▸ q.2.2.1, (q.2.2.2.congr hr fun j hj => ⟨(hw j hj).2.1, (hw j hj).2.2.1, e j (hw j hj).1⟩).2⟩
structure Inv2 (f g : Int → Int) (D : Int → Prop) : Prop where
  f : ∀ i, D i → D (f i) ∧ f i ≠ i ∧ f (f i) = i
  g : ∀ i, D i → D (g i) ∧ g i ≠ i ∧ g (g i) = i
theorem Con.mem {f g : Int → Int} {W : Int → Prop} {i j : Int} (h : Con f g i j) (hi : W i) (hW : ∀ i, W i → W (f i) ∧ W (g i)) : W j := by
  induction h with
  | refl => exact hi
  | f _ ih => exact (hW _ ih).1
  | g _ ih => exact (hW _ ih).2
theorem Con.symm {f g : Int → Int} {D : Int → Prop} {i j : Int} (v : Inv2 f g D) (h : Con f g i j) (hi : D i) : Con f g j i := by
  induction h with
  | refl => exact .refl
  | @f j h ih =>
    have dj : D j := h.mem hi fun i hi => ⟨(v.f i hi).1, (v.g i hi).1⟩
    have e := (v.f j dj).2.2
    have : Con f g (f j) (f (f j)) := .f .refl
    rw [e] at this
    exact this.trans ih
  | @g j h ih =>
    have dj : D j := h.mem hi fun i hi => ⟨(v.f i hi).1, (v.g i hi).1⟩
    have e := (v.g j dj).2.2
    have : Con f g (g j) (g (g j)) := .g .refl
    rw [e] at this
    exact this.trans ih
structure Ring (f g : Int → Int) (D W : Int → Prop) (r0 : Int) : Prop where
  r : W r0
  all : ∀ i, W i → D i ∧ W (f i) ∧ W (g i) ∧ Con f g r0 i
theorem Ring.same {f g : Int → Int} {D W V : Int → Prop} {r s i : Int} (v : Inv2 f g D) (a : Ring f g D W r) (b : Ring f g D V s) (h1 : W i) (h2 : V i) (j : Int) (hj : W j) : V j := by
  have c1 := (a.all i h1).2.2.2
  have c2 := (a.all j hj).2.2.2
  exact ((c1.symm v (a.all r a.r).1).trans c2).mem h2 fun k hk => ⟨(b.all k hk).2.1, (b.all k hk).2.2.1⟩
theorem Inv2.less {f g : Int → Int} {D W D' : Int → Prop} {r : Int} (v : Inv2 f g D) (a : Ring f g D W r) (hd : ∀ i, D' i ↔ D i ∧ ¬ W i) : Inv2 f g D' := by
  refine ⟨fun i hi => ?_, fun i hi => ?_⟩
  · obtain ⟨h1, h2⟩ := (hd i).mp hi
    have q := v.f i h1
    refine ⟨(hd _).mpr ⟨q.1, fun z => h2 ?_⟩, q.2⟩
    have := (a.all _ z).2.1
    rw [q.2.2] at this; exact this
  · obtain ⟨h1, h2⟩ := (hd i).mp hi
    have q := v.g i h1
    refine ⟨(hd _).mpr ⟨q.1, fun z => h2 ?_⟩, q.2⟩
    have := (a.all _ z).2.2.1
    rw [q.2.2] at this; exact this
theorem Cnt.less {f g : Int → Int} {D : Int → Prop} {c : Int} (h : Cnt f g D c) : Inv2 f g D → ∀ {V D' : Int → Prop} {s : Int}, Ring f g D V s → (∀ i, D' i ↔ D i ∧ ¬ V i) → Cnt f g D' (c - 1) := by
  induction h with
  | nil h => intro v V D' s b hd; exact absurd (b.all s b.r).1 (h s)
  | @ring D D1 W r c hr hw hd1 h1 ih =>
    intro v V D' s b hd
    have a : Ring f g D W r := ⟨hr, hw⟩
    have e : c + 1 - 1 = c := by omega
    rw [e]
    by_cases m : ∃ i, W i ∧ V i
    · obtain ⟨i, m1, m2⟩ := m
      refine h1.imp fun j => ?_
      rw [hd1, hd]
      exact ⟨fun z => ⟨z.1, fun w => z.2 (b.same v a m2 m1 j w)⟩, fun z => ⟨z.1, fun w => z.2 (a.same v b m1 m2 j w)⟩⟩
    · have nm : ∀ i, W i → ¬ V i := fun i h1 h2 => m ⟨i, h1, h2⟩
      have b1 : Ring f g D1 V s := ⟨b.r, fun i hi => ⟨(hd1 i).mpr ⟨(b.all i hi).1, fun w => nm i w hi⟩, (b.all i hi).2⟩⟩
      have q := ih (v.less a hd1) b1 (D' := fun i => D1 i ∧ ¬ V i) (fun i => Iff.rfl)
      have e2 : c = c - 1 + 1 := by omega
      rw [e2]
      refine .ring (W := W) hr (fun i hi => ⟨(hd i).mpr ⟨(hw i hi).1, nm i hi⟩, (hw i hi).2⟩) (fun i => ?_) q
      show D1 i ∧ ¬ V i ↔ _
      rw [hd1, hd]
      exact ⟨fun z => ⟨⟨z.1.1, z.2⟩, z.1.2⟩, fun z => ⟨⟨z.1.1, z.2⟩, z.1.2⟩⟩
theorem Cnt.zero {f g : Int → Int} {D : Int → Prop} {c : Int} (h : Cnt f g D c) (hn : ∀ i, ¬ D i) : c = 0 := by
  cases h with
  | nil _ => rfl
  | ring hr hw _ _ => exact absurd (hw _ hr).1 (hn _)
end Rb

set_option Elab.async false
set_option linter.all false
set_option maxRecDepth 100000
set_option maxHeartbeats 4000000
namespace Rb
open PySem L2
section
variable {α β S R : Type}
end
structure Opn (E : Int → Int) (p : Int) (Q : List Int) : Prop where
  srt : Q.Pairwise (· < ·)
  mem : ∀ q, q ∈ Q ↔ 0 ≤ q ∧ q < p ∧ p ≤ E q
theorem Opn.push {E : Int → Int} {m p : Int} {Q : List Int} (h : Opn E p Q) (hE : FT m E) (p0 : 0 ≤ p) (p1 : p < m) (u : p < E p) : Opn E (p + 1) (Q ++ [p]) := by
  refine ⟨List.pairwise_append.mpr ⟨h.srt, List.pairwise_singleton _ _, fun a ha b hb => ?_⟩, fun q => ?_⟩
  · have := (h.mem a).mp ha
    have : b = p := by simpa using hb
    omega
  · rw [List.mem_append, h.mem, List.mem_singleton]
    constructor
    · rintro (⟨a, b, c⟩ | rfl)
      · have := hE q a (by omega)
        have : E q ≠ p := fun z => by rw [z] at this; omega
        omega
      · omega
    · rintro ⟨a, b, c⟩
      by_cases e : q = p
      · exact .inr e
      · exact .inl ⟨a, by omega, by omega⟩
theorem Opn.pop {E : Int → Int} {m p : Int} {Q : List Int} (h : Opn E p Q) (hE : FT m E) (p0 : 0 ≤ p) (p1 : p < m) (u : E p < p) :
    ∃ Q' q, Q = Q' ++ [q] ∧ (E q = p → Opn E (p + 1) Q') ∧ (E q = p ↔ ∀ r, E p < r → r < p → E r < p) := by
  have hp := hE p p0 p1
  have me : E p ∈ Q := (h.mem _).mpr ⟨hp.1, u, by omega⟩
  have ne : Q ≠ [] := List.ne_nil_of_mem me
  have eq := (List.dropLast_concat_getLast ne).symm
  generalize Q.getLast ne = q at eq
  generalize Q.dropLast = Q' at eq
  subst eq
  have hq := (h.mem q).mp (by simp)
  obtain ⟨s1, s2, s3⟩ := List.pairwise_append.mp h.srt
  have last : ∀ r, r ∈ Q' → r < q := fun r hr => s3 r hr q (by simp)
  have inj : ∀ r s, 0 ≤ r → r < m → 0 ≤ s → s < m → E r = E s → r = s := fun r s a b c d e => by
    have x := hE r a b
    have y := hE s c d
    rw [← x.2.2.2, e, y.2.2.2]
  refine ⟨Q', q, rfl, fun e => ⟨s1, fun r => ?_⟩, fun e r r1 r2 => ?_, fun k => ?_⟩
  · have hm := h.mem r
    rw [List.mem_append, List.mem_singleton] at hm
    constructor
    · intro hr
      have := hm.mp (.inl hr)
      have l := last r hr
      have : E r ≠ p := fun z => by
        have := inj r q this.1 (by omega) hq.1 (by omega) (by rw [z, e])
        omega
      omega
    · rintro ⟨a, b, c⟩
      by_cases rp : r = p
      · subst rp; omega
      · rcases hm.mpr ⟨a, by omega, by omega⟩ with z | z
        · exact z
        · subst z; omega
  · have eq : q = E p := by rw [← e]; exact ((hE q hq.1 (by omega)).2.2.2).symm
    refine Int.not_le.mp fun c => ?_
    have : r ∈ Q' ++ [q] := (h.mem r).mpr ⟨by omega, r2, c⟩
    rcases List.mem_append.mp this with z | z
    · have := last r z; omega
    · have : r = q := by simpa using z
      omega
  · have le : E p ≤ q := by
      rcases List.mem_append.mp me with z | z
      · have := last _ z; omega
      · have : E p = q := by simpa using z
        omega
    by_cases c : E p = q
    · rw [← c]; exact hp.2.2.2
    · have := k q (by omega) hq.2.1
      omega
end Rb

set_option Elab.async false
set_option linter.all false
set_option maxRecDepth 100000
set_option maxHeartbeats 4000000
namespace Rb
open PySem L2
section
variable {κ β : Type} [DecidableEq κ]
end
end Rb

set_option Elab.async false
set_option linter.all false
set_option maxRecDepth 100000
set_option maxHeartbeats 4000000
namespace Rb
def plainF (n : Int) (p : Int) : Int := if p < n then p + n else p - n
theorem btw_rev {m s a b c d pa pb pc pd : Int} (ha : (a < s ∧ pa = s - 1 - a) ∨ (s ≤ a ∧ pa = m + s - 1 - a)) (hb : (b < s ∧ pb = s - 1 - b) ∨ (s ≤ b ∧ pb = m + s - 1 - b)) (hc : (c < s ∧ pc = s - 1 - c) ∨ (s ≤ c ∧ pc = m + s - 1 - c)) (hd : (d < s ∧ pd = s - 1 - d) ∨ (s ≤ d ∧ pd = m + s - 1 - d))
    (a0 : 0 ≤ a ∧ a < m) (b0 : 0 ≤ b ∧ b < m) (c0 : 0 ≤ c ∧ c < m) (d0 : 0 ≤ d ∧ d < m) (n1 : a ≠ c) (n2 : a ≠ d) (n3 : b ≠ c) (n4 : b ≠ d)
    (h : ((a < c ∧ c < b) ∨ (b < c ∧ c < a)) ↔ ((a < d ∧ d < b) ∨ (b < d ∧ d < a))) : ((pa < pc ∧ pc < pb) ∨ (pb < pc ∧ pc < pa)) ↔ ((pa < pd ∧ pd < pb) ∨ (pb < pd ∧ pd < pa)) := by
  rcases ha with ⟨_, rfl⟩ | ⟨_, rfl⟩ <;> rcases hb with ⟨_, rfl⟩ | ⟨_, rfl⟩ <;> rcases hc with ⟨_, rfl⟩ | ⟨_, rfl⟩ <;> rcases hd with ⟨_, rfl⟩ | ⟨_, rfl⟩ <;> omega
theorem Fr.turn {n : Int} {x f g : Int → Int} (h : Fr n x) (hf : ∀ p, 0 ≤ p → p < 2 * n → 0 ≤ f p ∧ f p < 2 * n ∧ g (f p) = p) (hg : ∀ p, 0 ≤ p → p < 2 * n → 0 ≤ g p ∧ g p < 2 * n ∧ f (g p) = p)
    (hb : ∀ a b c d, (0 ≤ a ∧ a < 2 * n) → (0 ≤ b ∧ b < 2 * n) → (0 ≤ c ∧ c < 2 * n) → (0 ≤ d ∧ d < 2 * n) → a ≠ c → a ≠ d → b ≠ c → b ≠ d → (Btw (rd n) a b c ↔ Btw (rd n) a b d) → (Btw (rd n) (f a) (f b) (f c) ↔ Btw (rd n) (f a) (f b) (f d))) : Fr n (fun p => f (x (g p))) := by
  refine ⟨fun p hp => ?_, fun p q hp hq np nt => ?_⟩
  · have a := hg p hp.1 hp.2
    have b := h.ft _ a.1 a.2.1
    have c := hf _ b.1 b.2.1
    refine ⟨⟨c.1, c.2.1⟩, fun z => b.2.2.1 ?_, ?_⟩
    · rw [← c.2.2, z]
    · show f (x (g (f (x (g p))))) = p
      rw [c.2.2, b.2.2.2, a.2.2]
  · have a := hg p hp.1 hp.2
    have b := h.ft _ a.1 a.2.1
    have a' := hg q hq.1 hq.2
    have b' := h.ft _ a'.1 a'.2.1
    have m1 : g p ≠ g q := fun z => np (by rw [← a'.2.2, ← z, a.2.2])
    have m2 : x (g p) ≠ g q := fun z => nt (by rw [z, a'.2.2])
    have m3 : g p ≠ x (g q) := fun z => m2 (by rw [z, b'.2.2.2])
    have m4 : x (g p) ≠ x (g q) := fun z => m1 (by rw [← b.2.2.2, z, b'.2.2.2])
    have := hb (g p) (x (g p)) (g q) (x (g q)) ⟨a.1, a.2.1⟩ ⟨b.1, b.2.1⟩ ⟨a'.1, a'.2.1⟩ ⟨b'.1, b'.2.1⟩ m1 m3 m2 m4 (Pm.nc h (g p) (g q) ⟨a.1, a.2.1⟩ ⟨a'.1, a'.2.1⟩ (Ne.symm m1) (Ne.symm m2))
    rw [a.2.2, a'.2.2] at this
    exact this
def ovF (n : Int) (x : Int → Int) (p : Int) : Int := plainF n (x (plainF n p))
theorem ov_fr {n : Int} {x : Int → Int} (h : Fr n x) : Fr n (ovF n x) := by
  have pl : ∀ p, 0 ≤ p → p < 2 * n → 0 ≤ plainF n p ∧ plainF n p < 2 * n ∧ plainF n (plainF n p) = p := fun p a b => by unfold plainF; grind
  have rp : ∀ p, (0 ≤ p ∧ p < 2 * n) → (rd n p < 2 * n ∧ rd n (plainF n p) = 2 * n - 1 - rd n p) ∨ (2 * n ≤ rd n p ∧ rd n (plainF n p) = 2 * n + 2 * n - 1 - rd n p) := fun p hp => by unfold rd plainF; grind
  exact h.turn pl pl fun a b c d ha hb hc hd m1 m2 m3 m4 hh => btw_rev (m := 2 * n) (s := 2 * n) (rp a ha) (rp b hb) (rp c hc) (rp d hd) (rd_in ha) (rd_in hb) (rd_in hc) (rd_in hd) (rd_ne ha hc m1) (rd_ne ha hd m2) (rd_ne hb hc m3) (rd_ne hb hd m4) hh
end Rb
namespace Rb
end Rb
namespace Rb
open PySem L2
end Rb

set_option Elab.async false
set_option linter.all false
set_option maxRecDepth 100000
set_option maxHeartbeats 4000000
namespace Rb
open PySem L2
def sh (m b r : Int) : Int := (r + b) % m
end Rb

set_option Elab.async false
set_option linter.all false
set_option maxRecDepth 100000
set_option maxHeartbeats 4000000
namespace Rb
def Iv (A : Int → Prop) (t : Int → Int) : Prop := ∀ p, A p → A (t p) ∧ t p ≠ p ∧ t (t p) = p
theorem Iv.glue {A : Int → Prop} {t : Int → Int} {a b : Int} (h : Iv A t) (ha : A a) (hb : A b) (hab : a ≠ b) : Iv (fun p => A p ∧ p ≠ a ∧ p ≠ b) (glue t a b) := by
  intro p ⟨hp, pa, pb⟩
  have fa := h a ha
  have fb := h b hb
  have fp := h p hp
  unfold Rb.glue
  grind
def gst (s : (Int → Int) × Int) (q : Int × Int) : (Int → Int) × Int := (glue s.1 q.1 q.2, s.2 + if s.1 q.1 = q.2 then 1 else 0)
def glL (L : List (Int × Int)) (s : (Int → Int) × Int) : (Int → Int) × Int := L.foldl gst s
theorem glL_cons {q : Int × Int} {L : List (Int × Int)} {s : (Int → Int) × Int} : glL (q :: L) s = glL L (gst s q) := rfl
theorem glL_app {L M : List (Int × Int)} {s : (Int → Int) × Int} : glL (L ++ M) s = glL M (glL L s) := List.foldl_append
theorem glL_congr {A : Int → Prop} : ∀ {L : List (Int × Int)} {s s' : (Int → Int) × Int}, (∀ q, q ∈ L → A q.1 ∧ A q.2) → (∀ p, A p → s.1 p = s'.1 p) → s.2 = s'.2 → (∀ p, A p → (glL L s).1 p = (glL L s').1 p) ∧ (glL L s).2 = (glL L s').2
  | [], s, s', _, h, e => ⟨h, e⟩
  | q :: L, s, s', hA, h, e => by
    have a := hA q List.mem_cons_self
    rw [glL_cons, glL_cons]
    refine glL_congr (fun r hr => hA r (List.mem_cons_of_mem _ hr)) (fun p hp => ?_) ?_
    · show glue s.1 q.1 q.2 p = glue s'.1 q.1 q.2 p
      unfold glue
      rw [h p hp, h _ a.1, h _ a.2]
    · show s.2 + _ = s'.2 + _
      rw [e, h _ a.1]
end Rb

set_option Elab.async false
set_option linter.all false
set_option maxRecDepth 100000
set_option maxHeartbeats 4000000
namespace Rb
def AL (u v : Int) : Nat → List (Int × Int)
  | 0 => []
  | j + 1 => (u + j, v + j) :: AL u v j
theorem mem_AL {u v : Int} {q : Int × Int} : ∀ {j : Nat}, q ∈ AL u v j ↔ ∃ k : Int, 0 ≤ k ∧ k < j ∧ q = (u + k, v + k)
  | 0 => by
    refine ⟨fun z => (by cases z), ?_⟩
    rintro ⟨k, a, b, _⟩
    omega
  | j + 1 => by
    unfold AL
    rw [List.mem_cons, mem_AL]
    constructor
    · rintro (z | ⟨k, a, b, c⟩)
      · exact ⟨j, by omega, by omega, z⟩
      · exact ⟨k, a, by omega, c⟩
    · rintro ⟨k, a, b, c⟩
      by_cases e : k = j
      · subst e; exact .inl c
      · exact .inr ⟨k, a, by omega, c⟩
theorem gls_AL {n : Int} {x y : Int → Int} : ∀ {j : Nat}, (j : Int) ≤ n → gls n x y j = glL (AL (3 * n - j) (2 * n - j) j) (two n x y, 0)
  | 0, _ => rfl
  | j + 1, h => by
    have e : ∀ (u v : Int) (j : Nat), AL u v (j + 1) = AL (u + 1) (v + 1) j ++ [(u, v)] := fun u v j => by
      induction j with
      | zero =>
        show [(u + ((0 : Nat) : Int), v + ((0 : Nat) : Int))] = [(u, v)]
        simp
      | succ j ih =>
        show (u + ((j + 1 : Nat) : Int), v + ((j + 1 : Nat) : Int)) :: AL u v (j + 1) = (u + 1 + (j : Int), v + 1 + (j : Int)) :: AL (u + 1) (v + 1) j ++ [(u, v)]
        rw [ih, List.cons_append]
        have e1 : u + ((j + 1 : Nat) : Int) = u + 1 + (j : Int) := by omega
        have e2 : v + ((j + 1 : Nat) : Int) = v + 1 + (j : Int) := by omega
        rw [e1, e2]
    rw [e, glL_app]
    have e1 : 3 * n - ((j + 1 : Nat) : Int) + 1 = 3 * n - j := by omega
    have e2 : 2 * n - ((j + 1 : Nat) : Int) + 1 = 2 * n - j := by omega
    rw [e1, e2, ← gls_AL (by omega)]
    show gl n (gls n x y j) _ = gst (gls n x y j) _
    unfold gl gst
    have e3 : 3 * n - ((j + 1 : Nat) : Int) = 2 * n + (n - 1 - j) := by omega
    have e4 : 2 * n - ((j + 1 : Nat) : Int) = n + (n - 1 - j) := by omega
    rw [e3, e4]
theorem gls_all {n : Int} {x y : Int → Int} (hn : 0 ≤ n) : gls n x y n.toNat = glL (AL (2 * n) n n.toNat) (two n x y, 0) := by
  rw [gls_AL (by omega)]
  have e1 : 3 * n - (n.toNat : Int) = 2 * n := by omega
  have e2 : 2 * n - (n.toNat : Int) = n := by omega
  rw [e1, e2]
theorem AL_in {n : Int} {q : Int × Int} (h : q ∈ AL (2 * n) n n.toNat) : ∃ k : Int, 0 ≤ k ∧ k < n ∧ q = (2 * n + k, n + k) := by
  obtain ⟨k, a, b, c⟩ := mem_AL.mp h
  exact ⟨k, a, by omega, c⟩
end Rb

set_option Elab.async false
set_option linter.all false
set_option maxRecDepth 100000
set_option maxHeartbeats 4000000
namespace Rb
theorem inA4 {n : Int} : ∀ q, q ∈ AL (2 * n) n n.toNat → (0 ≤ q.1 ∧ q.1 < 4 * n) ∧ 0 ≤ q.2 ∧ q.2 < 4 * n := fun q hq => by
  obtain ⟨k, a, b, rfl⟩ := AL_in hq
  simp only
  omega
def cls (n : Int) (x : Int → Int) : Int := (glL (AL n 0 n.toNat) (x, 0)).2
theorem FT.iv {n : Int} {x : Int → Int} (hx : FT (2 * n) x) : Iv (fun p => 0 ≤ p ∧ p < 2 * n) x := fun p hp => by
  have := hx p hp.1 hp.2
  exact ⟨⟨this.1, this.2.1⟩, this.2.2⟩
end Rb

set_option Elab.async false
set_option linter.all false
set_option maxRecDepth 100000
set_option maxHeartbeats 4000000
namespace Rb
open L2
theorem comp_congr {n : Int} {x y x' y' : Int → Int} (hn : 0 ≤ n) (hx : ∀ p, 0 ≤ p → p < 2 * n → x p = x' p) (hy : ∀ p, 0 ≤ p → p < 2 * n → y p = y' p) :
    (∀ p, 0 ≤ p → p < 2 * n → comp n x y p = comp n x' y' p) ∧ crings n x y = crings n x' y' := by
  have r := glL_congr (A := fun p => 0 ≤ p ∧ p < 4 * n) (L := AL (2 * n) n n.toNat) (s := (two n x y, 0)) (s' := (two n x' y', 0)) inA4 (fun p hp => by
    show two n x y p = two n x' y' p
    unfold two
    by_cases c : p < 2 * n
    · rw [if_pos c, if_pos c, hx p hp.1 c]
    · rw [if_neg c, if_neg c, hy (p - 2 * n) (by omega) (by omega)]) rfl
  rw [← gls_all hn, ← gls_all hn] at r
  refine ⟨fun p p0 p1 => ?_, r.2⟩
  show back n _ = back n _
  rw [r.1 (forth n p) ⟨by unfold forth; split <;> omega, by unfold forth; split <;> omega⟩]
def Lk (n : Int) (s t : (Int → Int) × Int) : Prop := (∀ p, 0 ≤ p → p < 2 * n → s.1 p = t.1 p) ∧ s.2 = t.2
theorem Lk.refl {n : Int} (s : (Int → Int) × Int) : Lk n s s := ⟨fun _ _ _ => rfl, rfl⟩
theorem Lk.symm {n : Int} {s t : (Int → Int) × Int} (h : Lk n s t) : Lk n t s := ⟨fun p a b => (h.1 p a b).symm, h.2.symm⟩
theorem Lk.trans {n : Int} {s t u : (Int → Int) × Int} (h : Lk n s t) (g : Lk n t u) : Lk n s u := ⟨fun p a b => (h.1 p a b).trans (g.1 p a b), h.2.trans g.2⟩
def tw (n : Int) (s t : (Int → Int) × Int) : (Int → Int) × Int := (comp n s.1 t.1, crings n s.1 t.1 + s.2 + t.2)
theorem Lk.tw {n : Int} {s t s' t' : (Int → Int) × Int} (hn : 0 ≤ n) (h : Lk n s s') (g : Lk n t t') : Lk n (tw n s t) (tw n s' t') := by
  have c := comp_congr hn h.1 g.1
  refine ⟨c.1, ?_⟩
  show crings n s.1 t.1 + s.2 + t.2 = crings n s'.1 t'.1 + s'.2 + t'.2
  rw [c.2, h.2, g.2]
theorem Lk.lst {n : Int} {s t : (Int → Int) × Int} (h : Lk n s t) : (lst (2 * n) s.1, s.2) = (lst (2 * n) t.1, t.2) := by
  rw [lst_ext h.1, h.2]
structure WayG (f g : Int → Int) (L0 : List Int) (p0 : Int) (L : List Int) (q : Int) : Prop where
  nd : L.Nodup
  sub : ∀ i, i ∈ L → i ∈ L0
  hp : p0 ∈ L0 ∧ p0 ∉ L
  hq : q ∈ L0 ∧ q ∉ L ∧ q ≠ p0
  hf : ∀ i, i ∈ L0 → i ∉ L → f i ∉ L
  hg : ∀ i, i ∈ L0 → i ∉ L → i ≠ p0 → i ≠ q → g i ∉ L ∧ g i ≠ p0 ∧ g i ≠ q
  con : ∀ i, i ∈ L0 → i ∉ L → Con f g p0 i
end Rb

set_option Elab.async false
set_option linter.all false
set_option maxRecDepth 100000
set_option maxHeartbeats 4000000
namespace Rb
open L2
structure Mid (n : Int) (x y x' y' : Int → Int) : Prop where
  u : ∀ i, 0 ≤ i → i < n → (n ≤ x (n + i) → x' (n + i) = x (n + i)) ∧ (x (n + i) < n → x' (n + i) < n)
  l : ∀ i, 0 ≤ i → i < n → (y i < n → y' i = y i) ∧ (n ≤ y i → n ≤ y' i)
theorem Mid.symm {n : Int} {x y x' y' : Int → Int} (h : Mid n x y x' y') : Mid n x' y' x y := by
  refine ⟨fun i a b => ?_, fun i a b => ?_⟩
  · have := h.u i a b
    by_cases c : n ≤ x (n + i)
    · have := this.1 c; exact ⟨fun _ => this.symm, fun z => by omega⟩
    · have := this.2 (by omega); exact ⟨fun z => by omega, fun _ => by omega⟩
  · have := h.l i a b
    by_cases c : y i < n
    · have := this.1 c; exact ⟨fun _ => this.symm, fun z => by omega⟩
    · have := this.2 (by omega); exact ⟨fun z => by omega, fun _ => by omega⟩
end Rb

set_option Elab.async false
set_option linter.all false
set_option maxRecDepth 100000
set_option maxHeartbeats 4000000
namespace Rb
open L2
structure Hf (n : Int) (h : Int → Int) : Prop where
  iv : ∀ p, 0 ≤ p → p < n → 0 ≤ h p ∧ h p < n ∧ h (h p) = p
  nc : ∀ p, 0 ≤ p → p < n → h p < p → ∀ r, h p < r → r < p → h r < p
  op : ∀ p, 0 ≤ p → p < n → h p = p → ∀ q, 0 ≤ q → q < p → h q < p
theorem Hf.congr {n : Int} {h g : Int → Int} (H : Hf n h) (e : ∀ p, 0 ≤ p → p < n → g p = h p) : Hf n g := by
  refine ⟨fun p a b => ?_, fun p a b c r d f => ?_, fun p a b c q d f => ?_⟩
  · have i := H.iv p a b
    rw [e p a b, e _ i.1 i.2.1]
    exact i
  · rw [e p a b] at c d
    rw [e r (by have := H.iv p a b; omega) (by omega)]
    exact H.nc p a b c r d f
  · rw [e p a b] at c
    rw [e q d (by omega)]
    exact H.op p a b c q d f
def upF (n : Int) (x : Int → Int) (p : Int) : Int := if x p < n then x p else p
def lowF (n : Int) (x : Int → Int) (p : Int) : Int := if n ≤ x (n + p) then x (n + p) - n else p
theorem Fr.up {n : Int} {x : Int → Int} (f : Fr n x) : Hf n (upF n x) := by
  have ft := f.ft
  refine ⟨fun p a b => ?_, fun p a b c r d e => ?_, fun p a b c q d e => ?_⟩
  · have h := ft p a (by omega)
    unfold upF
    by_cases c : x p < n
    · rw [if_pos c, h.2.2.2, if_pos b]; omega
    · rw [if_neg c, if_neg c]; omega
  · have h := ft p a (by omega)
    unfold upF at *
    by_cases g : x p < n
    · rw [if_pos g] at c d
      have hr := ft r (by omega) (by omega)
      have nc := f.nc p r ⟨a, by omega⟩ ⟨by omega, by omega⟩ (by omega) (by omega)
      unfold Btw rd at nc
      split <;> grind
    · rw [if_neg g] at c; omega
  · have h := ft p a (by omega)
    unfold upF at *
    have hq := ft q d (by omega)
    by_cases g : x p < n
    · rw [if_pos g] at c; omega
    · by_cases k : x q < n
      · rw [if_pos k]
        have ne : x q ≠ p := fun z => by rw [← z, hq.2.2.2] at g; omega
        have nc := f.nc q p ⟨d, by omega⟩ ⟨a, by omega⟩ (by omega) (by omega)
        unfold Btw rd at nc
        grind
      · rw [if_neg k]; omega
theorem low_up {n : Int} {x : Int → Int} {p : Int} (ft : FT (2 * n) x) (p0 : 0 ≤ p) (p1 : p < n) : upF n (ovF n x) p = lowF n x p := by
  have e : p + n = n + p := by omega
  have h := ft (n + p) (by omega) (by omega)
  unfold upF lowF ovF plainF
  rw [if_pos p1, e]
  by_cases c : x (n + p) < n
  · rw [if_pos c, if_neg (by omega), if_neg (by omega)]
  · rw [if_neg c, if_pos (by omega), if_pos (by omega)]
theorem Fr.low {n : Int} {x : Int → Int} (f : Fr n x) : Hf n (lowF n x) := by
  refine ((ov_fr f).up).congr fun p a b => ?_
  exact (low_up f.ft a b).symm
end Rb

set_option Elab.async false
set_option linter.all false
set_option maxRecDepth 100000
set_option maxHeartbeats 0
namespace Rb.M_k26
open PySem PySem.Spec PyProof.Rows L2 Rb
def p_turned_round (v_pegs : Int) (v_place : Int) : Option Int :=
  (if (decide (v_place < v_pegs)) = true then (some v_place) else (some ((((3 : Int) * v_pegs) - (1 : Int)) - v_place)))
def p_in_round (v_frame : (List Int)) : Option (List Int) :=
  (Option.bind (some (((v_frame.length : Int) / (2 : Int)) : Int)) fun v_pegs_1 => (Option.bind (grd (rngOk ((2 : Int) * v_pegs_1))) fun g2 => (Option.bind (compM (fun (x3 : Int) => (some true)) (fun (x3 : Int) => (Option.bind (p_turned_round v_pegs_1 x3) fun u4 => (Option.bind (atI v_frame u4) fun u5 => (Option.bind (p_turned_round v_pegs_1 u5) fun u6 => (some u6))))) (rng 0 ((2 : Int) * v_pegs_1))) fun u7 => (some u7))))
def p_in_round_L (v_frame : (List Int)) : Option (List Int) :=
  (Option.bind (some (((v_frame.length : Int) / (2 : Int)) : Int)) fun v_pegs_1 => (Option.bind (grd (rngOk ((2 : Int) * v_pegs_1))) fun g2 => (Option.bind (compM (fun (x3 : Int) => (some true)) (fun (x3 : Int) => (Option.bind (p_turned_round v_pegs_1 x3) fun u4 => (Option.bind (atI v_frame u4) fun u5 => (Option.bind (p_turned_round v_pegs_1 u5) fun u6 => (some u6))))) (rng 0 ((2 : Int) * v_pegs_1))) fun u7 => (some u7))))
def p_are_ties_for1 (v_frame : (List Int)) (s_1 : Unit) (x1 : (Int × Int)) : Option ((Unit) ⊕ Bool) :=
  (Option.bind (Option.bind (some (!((decide ((0 : Int) ≤ x1.2)) && (decide (x1.2 < (v_frame.length : Int)))))) fun a => if a = true then some true else (Option.bind (some (decide (x1.2 = x1.1))) fun a => if a = true then some true else (Option.bind (atI v_frame x1.2) fun u2 => (some (!(decide (u2 = x1.1))))))) fun c3 => (if c3 = true then ((some false)).map Sum.inr else (some (Sum.inl ()))))
def p_are_ties (v_frame : (List Int)) : Option Bool :=
  (if ((decide ((v_frame.length : Int) < (2 : Int))) || ((decide ((v_frame.length : Int) > ((2 : Int) * (10 : Int)))) || (decide (((v_frame.length : Int) % (2 : Int)) = (1 : Int))))) = true then (some false) else (bindR (R := Bool) (forR (p_are_ties_for1 v_frame) () (enumI v_frame)) (fun (s4 : Unit) => (some true)) id))
def p_nested_for1  (s_1 : (List Int)) (x1 : (Int × Int)) : Option (((List Int)) ⊕ Bool) :=
  (if (decide (x1.2 > x1.1)) = true then (Option.bind (app? s_1 x1.2) fun u2 => (some (Sum.inl u2))) else (Option.bind (pop? s_1) fun u3 => (if (!decide (u3.1 = x1.1)) = true then (some (Sum.inr false)) else (some (Sum.inl u3.2)))))
def p_nested (v_ends : (List Int)) : Option Bool :=
  (bindR (R := Bool) (forR p_nested_for1 ([] : (List Int)) (enumI v_ends)) (fun (s4 : (List Int)) => (some true)) id)
def p_is_frame (v_frame : (List Int)) : Option Bool :=
  (Option.bind (p_are_ties v_frame) fun u1 => (Option.bind (Option.bind (some u1) fun a => if a = true then (Option.bind (p_in_round v_frame) fun u2 => (Option.bind (p_nested u2) fun u3 => (some u3))) else some false) fun c4 => (some c4)))
def p_ask_frame (v_frame : (List Int)) : Option Unit :=
  (Option.bind (p_is_frame v_frame) fun u1 => (if (!u1) = true then none else (some ())))
def p_column (v_pegs : Int) (v_peg : Int) : Option Int :=
  (Option.bind (grd ((0 : Int) < v_pegs)) fun g1 => (some (v_peg % v_pegs)))
def p_seams_of (v_frame : (List Int)) : Option (List Int) :=
  (Option.bind (some (((v_frame.length : Int) / (2 : Int)) : Int)) fun v_pegs_1 => (Option.bind (compM (fun (x2 : (Int × Int)) => (some (decide (x2.1 < x2.2)))) (fun (x2 : (Int × Int)) => (Option.bind (p_column v_pegs_1 x2.1) fun u3 => (Option.bind (p_column v_pegs_1 x2.2) fun u4 => (some (u3, u4))))) (enumI v_frame)) fun u5 => (Option.bind (grd (rngOk (v_pegs_1 - (1 : Int)))) fun g6 => (some ((rng 0 (v_pegs_1 - (1 : Int))).map fun (x7 : Int) => (((u5.filter fun (x8 : (Int × Int)) => ((decide ((if x8.2 < x8.1 then x8.2 else x8.1) ≤ x7)) && (decide (x7 < (if x8.2 > x8.1 then x8.2 else x8.1))))).map fun (x8 : (Int × Int)) => (1 : Int)).length : Int))))))
def p_length_of (v_frame : (List Int)) : Option Int :=
  (Option.bind (p_seams_of v_frame) fun u1 => (some (u1.sum / (2 : Int))))
def p_length (v_frame : (List Int)) : Option Int :=
  (Option.bind (p_ask_frame v_frame) fun u1 => (Option.bind (p_length_of v_frame) fun u2 => (some u2)))
def p_tied_beside (v_frame : (List Int)) (v_start : Int) : Option (List Int) :=
  (Option.bind (some (((v_frame.length : Int) / (2 : Int)) : Int)) fun v_pegs_1 => (Option.bind (grd (rngOk (v_pegs_1 - (1 : Int)))) fun g2 => (Option.bind (compM (fun (x3 : Int) => (Option.bind (atI v_frame (v_start + x3)) fun u4 => (some (decide (u4 = ((v_start + x3) + (1 : Int))))))) (fun (x3 : Int) => (some x3)) (rng 0 (v_pegs_1 - (1 : Int)))) fun u5 => (some u5))))
def p_firsts (v_frame : (List Int)) : Option (List Int) :=
  (Option.bind (p_ask_frame v_frame) fun u1 => (Option.bind (p_tied_beside v_frame (0 : Int)) fun u2 => (some u2)))
def p_lasts (v_frame : (List Int)) : Option (List Int) :=
  (Option.bind (p_ask_frame v_frame) fun u1 => (Option.bind (p_tied_beside v_frame ((v_frame.length : Int) / (2 : Int))) fun u2 => (some u2)))
def p_tied_anew_for1  (s_1 : (List Int)) (x2 : (Int × Int)) : Option ((List Int)) :=
  (Option.bind (set? s_1 x2.1 x2.2) fun u3 => (Option.bind (set? u3 x2.2 x2.1) fun u4 => (some u4)))
def p_tied_anew (v_frame : (List Int)) (v_rows : (List (Int × Int))) : Option (Option (List Int)) :=
  (Option.bind (some (v_frame : (List Int))) fun v_found_1 => (Option.bind (forS p_tied_anew_for1 v_found_1 v_rows) fun (s5 : (List Int)) => (Option.bind (p_in_round_L s5) fun u6 => (Option.bind (p_nested u6) fun u7 => (if u7 = true then (some (some s5)) else (some none))))))
def p_without_first_for2 (v_frame : (List Int)) (v_number : Int) (v_goal : Int) (s_2 : Unit) (x4 : (Int × Int)) : Option ((Unit) ⊕ (List Int)) :=
  (Option.bind (p_tied_anew v_frame ([(v_number, x4.1), ((v_number + (1 : Int)), x4.2)])) fun u5 => (Option.bind (Option.bind (some (!u5.isNone)) fun a => if a = true then (Option.bind u5 fun u6 => (Option.bind (p_length_of u6) fun u7 => (some (decide (u7 = v_goal))))) else some false) fun c8 => (if c8 = true then ((Option.bind u5 fun u9 => (some u9))).map Sum.inr else (some (Sum.inl ())))))
def p_without_first_for1 (v_frame : (List Int)) (v_number : Int) (v_goal : Int) (s_1 : Unit) (x3 : (Int × Int)) : Option ((Unit) ⊕ (List Int)) :=
  (if ((decide (x3.1 < x3.2)) && (!(decide (x3.1 = v_number)))) = true then (bindR (R := (List Int)) (forR (p_without_first_for2 v_frame v_number v_goal) () [(x3.1, x3.2), (x3.2, x3.1)]) (fun (s10 : Unit) => (some (Sum.inl ()))) Sum.inr) else (some (Sum.inl ())))
def p_without_first (v_frame : (List Int)) (v_number : Int) : Option (List Int) :=
  (Option.bind (p_length_of v_frame) fun u1 => (Option.bind (some ((u1 - (1 : Int)) : Int)) fun v_goal_2 => (bindR (R := (List Int)) (forR (p_without_first_for1 v_frame v_number v_goal_2) () (enumI v_frame)) (fun (s11 : Unit) => (some v_frame)) id)))
def p_shortest_row_for1  (s_1 : (List Int) × (List Int)) (x4 : Int) : Option ((List Int) × (List Int)) :=
  (Option.bind (p_tied_beside s_1.1 (0 : Int)) fun u5 => (Option.bind (atI u5 (0 : Int)) fun u6 => (Option.bind (app? s_1.2 u6) fun u7 => (Option.bind (p_without_first s_1.1 u6) fun u8 => (some (u8, u7))))))
def p_shortest_row (v_frame : (List Int)) : Option (List Int) :=
  (Option.bind (p_ask_frame v_frame) fun u1 => (Option.bind (p_length_of v_frame) fun u2 => (Option.bind (grd (rngOk u2)) fun g3 => (Option.bind (forS p_shortest_row_for1 (v_frame, ([] : (List Int))) (rng 0 u2)) fun (s9 : (List Int) × (List Int)) => (some s9.2)))))
def l_plain (v_pegs : Int) : Option (List Int) :=
  (Option.bind (grd (rngOk v_pegs)) fun g1 => (Option.bind (grd (rngOk v_pegs)) fun g3 => (Option.bind (grd ((((rng 0 v_pegs).map fun (x2 : Int) => (v_pegs + x2)) ++ (rng 0 v_pegs)).length ≤ lim)) fun g4 => (some (((rng 0 v_pegs).map fun (x2 : Int) => (v_pegs + x2)) ++ (rng 0 v_pegs))))))
def l_rings_by_for1  (s_1 : (List (Int × Int))) (x2 : Int) : Option ((List (Int × Int))) :=
  (Option.bind (put? s_1 x2 x2) fun u3 => (some u3))
def l_rings_by_for4 (v_keep : Int) (v_go : Int) (s_4 : (List (Int × Int))) (x11 : Int) : Option ((List (Int × Int))) :=
  (Option.bind (lookA s_4 x11) fun u12 => (if (decide (u12 = v_go)) = true then (Option.bind (put? s_4 x11 v_keep) fun u13 => (some u13)) else (some s_4)))
def l_rings_by_for3 (v_inner : (List Int)) (v_peg : Int) (s_3 : (List (Int × Int))) (x8 : Int) : Option ((List (Int × Int))) :=
  (Option.bind (lookA s_3 v_peg) fun u9 => (Option.bind (lookA s_3 x8) fun u10 => (Option.bind (forS (l_rings_by_for4 u9 u10) s_3 v_inner) fun (s14 : (List (Int × Int))) => (some s14))))
def l_rings_by_for2 (v_high : (List Int)) (v_low : (List Int)) (v_inner : (List Int)) (v_pegs : Int) (s_2 : (List (Int × Int))) (x5 : Int) : Option ((List (Int × Int))) :=
  (Option.bind (atI v_low x5) fun u6 => (Option.bind (atI v_high (v_pegs + x5)) fun u7 => (Option.bind (forS (l_rings_by_for3 v_inner x5) s_2 [u6, (u7 - v_pegs)]) fun (s15 : (List (Int × Int))) => (some s15))))
def l_rings_by (v_high : (List Int)) (v_low : (List Int)) (v_inner : (List Int)) : Option Int :=
  (Option.bind (some (((v_high.length : Int) / (2 : Int)) : Int)) fun v_pegs_1 => (Option.bind (forS l_rings_by_for1 ([] : (List (Int × Int))) v_inner) fun (s4 : (List (Int × Int))) => (Option.bind (forS (l_rings_by_for2 v_high v_low v_inner v_pegs_1) s4 v_inner) fun (s16 : (List (Int × Int))) => (Option.bind (compM (fun (x17 : Int) => (some true)) (fun (x17 : Int) => (Option.bind (lookA s16 x17) fun u18 => (some u18))) v_inner) fun u19 => (Option.bind (grd (u19.length < 60)) fun g20 => (some ((distinct u19).length : Int)))))))
def l_hung_for1 (v_high : (List Int)) (v_low : (List Int)) (s_1 : (List ((Str × Int) × (Str × Int)))) (x3 : Int) : Option ((List ((Str × Int) × (Str × Int)))) :=
  (Option.bind (atI v_high x3) fun u4 => (Option.bind (put? s_1 ((Str.ofString "high"), x3) ((Str.ofString "high"), u4)) fun u5 => (Option.bind (atI v_low x3) fun u6 => (Option.bind (put? u5 ((Str.ofString "low"), x3) ((Str.ofString "low"), u6)) fun u7 => (some u7)))))
def l_hung_for3 (v_pegs : Int) (v_near : (List ((Str × Int) × (Str × Int)))) (s_3 : (List (Int × Bool)) × (Str × Int)) (x14 : Int) : Option ((List (Int × Bool)) × (Str × Int)) :=
  (if ((decide (s_3.2.1 = (Str.ofString "high"))) == (decide (s_3.2.2 ≥ v_pegs))) = true then (Option.bind (grd ((0 : Int) < v_pegs)) fun g15 => (Option.bind (put? s_3.1 (s_3.2.2 % v_pegs) true) fun u16 => (Option.bind (atI ([(Str.ofString "high"), (Str.ofString "low")]) (if (decide (s_3.2.1 = (Str.ofString "high"))) then 1 else 0)) fun u17 => (Option.bind (grd ((0 : Int) < ((2 : Int) * v_pegs))) fun g18 => (Option.bind (lookA v_near (u17, ((s_3.2.2 + v_pegs) % ((2 : Int) * v_pegs)))) fun u19 => (some (u16, u19))))))) else (some (s_3.1, s_3.2)))
def l_hung_for2 (v_pegs : Int) (v_near : (List ((Str × Int) × (Str × Int)))) (s_2 : (List Int) × (List (Int × Bool))) (x10 : Int) : Option ((List Int) × (List (Int × Bool))) :=
  (Option.bind (atI ([(Str.ofString "high"), (Str.ofString "low")]) (if (decide (x10 ≥ v_pegs)) then 1 else 0)) fun u11 => (Option.bind (lookA v_near (u11, x10)) fun u12 => (Option.bind (grd (rngOk ((4 : Int) * v_pegs))) fun g13 => (Option.bind (forS (l_hung_for3 v_pegs v_near) (s_2.2, u12) (rng 0 ((4 : Int) * v_pegs))) fun (s20 : (List (Int × Bool)) × (Str × Int)) => (Option.bind (app? s_2.1 s20.2.2) fun u21 => (some (u21, s20.1)))))))
def l_hung (v_high : (List Int)) (v_low : (List Int)) : Option ((List Int) × Int) :=
  (Option.bind (some (((v_high.length : Int) / (2 : Int)) : Int)) fun v_pegs_1 => (Option.bind (grd (rngOk ((2 : Int) * v_pegs_1))) fun g2 => (Option.bind (forS (l_hung_for1 v_high v_low) ([] : (List ((Str × Int) × (Str × Int)))) (rng 0 ((2 : Int) * v_pegs_1))) fun (s8 : (List ((Str × Int) × (Str × Int)))) => (Option.bind (grd (rngOk ((2 : Int) * v_pegs_1))) fun g9 => (Option.bind (forS (l_hung_for2 v_pegs_1 s8) (([] : (List Int)), ([] : (List (Int × Bool)))) (rng 0 ((2 : Int) * v_pegs_1))) fun (s22 : (List Int) × (List (Int × Bool))) => (Option.bind (grd (rngOk v_pegs_1)) fun g23 => (Option.bind (l_rings_by v_high v_low (((rng 0 v_pegs_1).filter fun (x24 : Int) => (!(lookA s22.2 x24).isSome)).map fun (x24 : Int) => x24)) fun u25 => (some (s22.1, u25)))))))))
def l_hook_for1  (s_1 : (List Int)) (x2 : Int) : Option ((List Int)) :=
  (Option.bind (set? s_1 x2 (x2 + (1 : Int))) fun u3 => (Option.bind (set? u3 (x2 + (1 : Int)) x2) fun u4 => (some u4)))
def l_hook (v_pegs : Int) (v_number : Int) : Option (List Int) :=
  (Option.bind (l_plain v_pegs) fun u1 => (Option.bind (forS l_hook_for1 u1 [v_number, (v_pegs + v_number)]) fun (s5 : (List Int)) => (some s5)))
def l_mix (v_seed : Int) : Option Int :=
  (Option.bind (some ((((v_seed * (48271 : Int)) + (11 : Int)) % (2147483647 : Int)) : Int)) fun v_one_1 => (Option.bind (grd (CMul v_one_1 v_one_1)) fun g2 => (Option.bind (some (((((v_one_1 * v_one_1) + ((40692 : Int) * v_one_1)) + v_seed) % (2147483399 : Int)) : Int)) fun v_two_3 => (Option.bind (grd (CMul v_two_3 v_two_3)) fun g4 => (some ((((v_two_3 * v_two_3) + ((69621 : Int) * v_two_3)) + v_one_1) % (2147483563 : Int)))))))
def l_raw_for1 (v_k : Int) (v_cell : Int) (s_1 : Int) (x7 : Int) : Option (Int) :=
  (Option.bind (l_mix ((v_cell + ((1009 : Int) * v_k)) + ((7919 : Int) * x7))) fun u8 => (Option.bind (some (((s_1 * (2147483563 : Int)) + u8) : Int)) fun v_found_9 => (some v_found_9)))
def l_raw (v_script : (List Int)) (v_k : Int) : Option Int :=
  (Option.bind (some ((((7 : Int) * v_k) + (3 : Int)) : Int)) fun v_cell_1 => (Option.bind (if (decide ((v_script.length : Int) > (0 : Int))) = true then (Option.bind (grd ((0 : Int) < (v_script.length : Int))) fun g3 => (Option.bind (atI v_script (v_k % (v_script.length : Int))) fun u4 => (Option.bind (grd (CDivW v_k (v_script.length : Int))) fun g5 => (Option.bind (some ((u4 + ((9973 : Int) * (v_k / (v_script.length : Int)))) : Int)) fun v_cell_6 => (some v_cell_6))))) else (some v_cell_1)) fun (s2 : Int) => (if ((decide (v_k < (v_script.length : Int))) && (decide (s2 ≥ ((10 : Int) ^ Int.toNat (18 : Int))))) = true then (some (s2 - ((10 : Int) ^ Int.toNat (18 : Int)))) else (Option.bind (forS (l_raw_for1 v_k s2) (0 : Int) (rng 0 (40 : Int))) fun (s10 : Int) => (some s10)))))
def l_digits_for1  (s_1 : Int × (List Int)) (x2 : Int) : Option (Int × (List Int)) :=
  (Option.bind (grd ((0 : Int) < x2)) fun g3 => (Option.bind (app? s_1.2 (s_1.1 % x2)) fun u4 => (Option.bind (grd (CDivW s_1.1 x2)) fun g5 => (Option.bind (some ((s_1.1 / x2) : Int)) fun v_rest_6 => (some (v_rest_6, u4))))))
def l_digits (v_script : (List Int)) (v_k : Int) (v_sizes : (List Int)) : Option (List Int) :=
  (Option.bind (l_raw v_script v_k) fun u1 => (Option.bind (forS l_digits_for1 (u1, ([] : (List Int))) v_sizes) fun (s7 : Int × (List Int)) => (some s7.2)))
def l_same : Nat → PyData → PyData → Option Bool
  | 0, _, _ => none
  | n + 1, v_told, v_due =>
  (if (isNone v_due) = true then (some (isNone v_told)) else (if ((!((isBD v_told) == (isBD v_due))) || (!((isID v_told) == (isID v_due)))) = true then (some false) else (if ((!((isLD v_told) == (isLD v_due))) || (!((isTD v_told) == (isTD v_due)))) = true then (some false) else (if ((!(isLD v_due)) && (!(isTD v_due))) = true then (Option.bind (Option.bind (some ((isSD v_told) == (isSD v_due))) fun a => if a = true then (Option.bind (eqLeaf v_told v_due) fun u1 => (some u1)) else some false) fun c2 => (some c2)) else (Option.bind (lenD v_told) fun u3 => (Option.bind (lenD v_due) fun u4 => (Option.bind (Option.bind (some (decide (u3 = u4))) fun a => if a = true then (Option.bind (zipD v_told v_due) fun u5 => (Option.bind (compM (fun (x6 : (PyData × PyData)) => (some true)) (fun (x6 : (PyData × PyData)) => (Option.bind (l_same n x6.1 x6.2) fun u7 => (some u7))) u5) fun u8 => (some (u8.all id)))) else some false) fun c9 => (some c9))))))))
def l_shortest_for3 (v_pegs : Int) (v_found : (List ((List Int) × (List Int)))) (v_begins : (List ((List Int) × ((List Int) × (List Int))))) (v_frame : (List Int)) (s_3 : (List ((List Int) × (List ((List Int) × (List Int)))))) (x10 : Int) : Option ((List ((List Int) × (List ((List Int) × (List Int)))))) :=
  (Option.bind (l_hook v_pegs x10) fun u11 => (Option.bind (l_hung v_frame u11) fun u12 => (if (!(lookA v_found u12.1).isSome) = true then (Option.bind (lookA v_found v_frame) fun u13 => (Option.bind (grd ((u13 ++ ([x10])).length ≤ lim)) fun g14 => (Option.bind (lookA v_begins v_frame) fun u15 => (Option.bind (grd ((((lookA s_3 u12.1).getD ([] : (List ((List Int) × (List Int))))) ++ ([((u13 ++ ([x10])), u15.1)])).length ≤ lim)) fun g16 => (Option.bind (put? s_3 u12.1 (((lookA s_3 u12.1).getD ([] : (List ((List Int) × (List Int))))) ++ ([((u13 ++ ([x10])), u15.1)]))) fun u17 => (some u17)))))) else (some s_3))))
def l_shortest_for2 (v_pegs : Int) (v_found : (List ((List Int) × (List Int)))) (v_begins : (List ((List Int) × ((List Int) × (List Int))))) (s_2 : (List ((List Int) × (List ((List Int) × (List Int)))))) (x8 : (List Int)) : Option ((List ((List Int) × (List ((List Int) × (List Int)))))) :=
  (Option.bind (grd (rngOk (v_pegs - (1 : Int)))) fun g9 => (Option.bind (forS (l_shortest_for3 v_pegs v_found v_begins x8) s_2 (rng 0 (v_pegs - (1 : Int)))) fun (s18 : (List ((List Int) × (List ((List Int) × (List Int)))))) => (some s18)))
def l_shortest_for5  (s_5 : (List Int)) (x30 : ((List Int) × (List Int))) : Option ((List Int)) :=
  (Option.bind (grd ((s_5 ++ x30.2).length ≤ lim)) fun g31 => (Option.bind (some ((s_5 ++ x30.2) : (List Int))) fun v_heads_32 => (some v_heads_32)))
def l_shortest_for4 (v_later : (List ((List Int) × (List ((List Int) × (List Int)))))) (s_4 : (List ((List Int) × (List Int))) × (List ((List Int) × ((List Int) × (List Int))))) (x20 : (List Int)) : Option ((List ((List Int) × (List Int))) × (List ((List Int) × ((List Int) × (List Int))))) :=
  (Option.bind (lookA v_later x20) fun u21 => (Option.bind (grd (0 < ((u21.map fun (x22 : ((List Int) × (List Int))) => x22.1)).length)) fun g23 => (Option.bind (put? s_4.1 x20 (minLL (u21.map fun (x22 : ((List Int) × (List Int))) => x22.1))) fun u24 => (Option.bind (lookA v_later x20) fun u25 => (Option.bind (compM (fun (x26 : ((List Int) × (List Int))) => (some true)) (fun (x26 : ((List Int) × (List Int))) => (Option.bind (atI x26.1 (0 : Int)) fun u27 => (some u27))) u25) fun u28 => (Option.bind (lookA v_later x20) fun u29 => (Option.bind (forS l_shortest_for5 u28 u29) fun (s33 : (List Int)) => (Option.bind (grd ((s33).length < 60)) fun g34 => (Option.bind (lookA v_later x20) fun u35 => (Option.bind (compM (fun (x36 : ((List Int) × (List Int))) => (some true)) (fun (x36 : ((List Int) × (List Int))) => (Option.bind (atI x36.1 (-(1 : Int))) fun u37 => (some u37))) u35) fun u38 => (Option.bind (grd ((u38).length < 60)) fun g39 => (Option.bind (put? s_4.2 x20 ((sortU s33), (sortU u38))) fun u40 => (some (u24, u40))))))))))))))
def l_shortest_for1 (v_pegs : Int) (s_1 : (List ((List Int) × (List Int))) × (List ((List Int) × ((List Int) × (List Int)))) × (List (List Int))) (x7 : Int) : Option ((List ((List Int) × (List Int))) × (List ((List Int) × ((List Int) × (List Int)))) × (List (List Int))) :=
  (Option.bind (forS (l_shortest_for2 v_pegs s_1.1 s_1.2.1) ([] : (List ((List Int) × (List ((List Int) × (List Int)))))) s_1.2.2) fun (s19 : (List ((List Int) × (List ((List Int) × (List Int)))))) => (Option.bind (forS (l_shortest_for4 s19) (s_1.1, s_1.2.1) (s19.map fun kv => kv.1)) fun (s41 : (List ((List Int) × (List Int))) × (List ((List Int) × ((List Int) × (List Int))))) => (Option.bind (some ((s19.map fun kv => kv.1) : (List (List Int)))) fun v_layer_42 => (some (s41.1, s41.2, v_layer_42)))))
def l_shortest (v_pegs : Int) : Option ((List ((List Int) × (List Int))) × (List ((List Int) × ((List Int) × (List Int))))) :=
  (Option.bind (l_plain v_pegs) fun u1 => (Option.bind (l_plain v_pegs) fun u2 => (Option.bind (l_plain v_pegs) fun u3 => (Option.bind (some (([u3]) : (List (List Int)))) fun v_layer_4 => (Option.bind (grd (CMul v_pegs v_pegs)) fun g5 => (Option.bind (grd (rngOk (v_pegs * v_pegs))) fun g6 => (Option.bind (forS (l_shortest_for1 v_pegs) (([(u1, ([] : (List Int)))] : (List ((List Int) × (List Int)))), ([(u2, (([] : (List Int)), ([] : (List Int))))] : (List ((List Int) × ((List Int) × (List Int))))), v_layer_4) (rng 0 (v_pegs * v_pegs))) fun (s43 : (List ((List Int) × (List Int))) × (List ((List Int) × ((List Int) × (List Int)))) × (List (List Int))) => (some (s43.1, s43.2.1)))))))))
def l_law_for2 (v_rows_of : (List ((List Int) × (List Int)))) (v_frame : (List Int)) (s_2 : Unit) (x8 : Int) : Option ((Unit) ⊕ Bool) :=
  (Option.bind (p_shortest_row v_frame) fun u9 => (Option.bind (lookA v_rows_of v_frame) fun u10 => (Option.bind (l_same 6 ((eL PyData.int) u9) ((eL PyData.int) u10)) fun u11 => (if (!u11) = true then ((some false)).map Sum.inr else (Option.bind (app? u9 (0 : Int)) fun u12 => (some (Sum.inl ())))))))
def l_law_for1 (v_rows_of : (List ((List Int) × (List Int)))) (v_begins : (List ((List Int) × ((List Int) × (List Int))))) (s_1 : Unit) (x7 : (List Int)) : Option ((Unit) ⊕ Bool) :=
  (bindR (R := Bool) (forR (l_law_for2 v_rows_of x7) () (rng 0 (2 : Int))) (fun (s13 : Unit) => (Option.bind (p_length x7) fun u14 => (Option.bind (lookA v_rows_of x7) fun u15 => (Option.bind (l_same 6 (PyData.int u14) (PyData.int (u15.length : Int))) fun u16 => (if (!u16) = true then ((some false)).map Sum.inr else (Option.bind (p_firsts x7) fun u17 => (Option.bind (p_lasts x7) fun u18 => (Option.bind (lookA v_begins x7) fun u19 => (Option.bind (lookA v_begins x7) fun u20 => (Option.bind (l_same 6 ((eL (eL PyData.int)) ([u17, u18])) ((eL (eL PyData.int)) ([u19.1, u20.2]))) fun u21 => (if (!u21) = true then ((some false)).map Sum.inr else (some (Sum.inl ()))))))))))))) Sum.inr)
def l_law (v_script : (List Int)) : Option Bool :=
  (Option.bind (some ((cutA v_script none (some (63 : Int))) : (List Int))) fun v_script_1 => (Option.bind (l_digits v_script_1 (0 : Int) ([(5 : Int)])) fun u2 => (Option.bind (atI u2 (0 : Int)) fun u3 => (Option.bind (some (((1 : Int) + u3) : Int)) fun v_pegs_4 => (Option.bind (l_shortest v_pegs_4) fun u5 => (Option.bind (atI ([(1 : Int), (2 : Int), (5 : Int), (14 : Int), (42 : Int)]) (v_pegs_4 - (1 : Int))) fun u6 => (if (!(decide ((u5.1.length : Int) = u6))) = true then (some false) else (bindR (R := Bool) (forR (l_law_for1 u5.1 u5.2) () (u5.1.map fun kv => kv.1)) (fun (s22 : Unit) => (some true)) id))))))))
end Rb.M_k26

set_option Elab.async false
set_option autoImplicit false
set_option linter.all false
set_option maxRecDepth 100000
set_option maxHeartbeats 4000000
namespace Rb.M_k26
open PySem L2 Rb
def Dig : List Int → List Int → Prop
  | [], [] => True
  | d :: ds, s :: ss => 0 ≤ d ∧ d < s ∧ Dig ds ss
  | _, _ => False
def SzOk (ss : List Int) : Prop := ∀ s, s ∈ ss → 0 < s ∧ s < 2 ^ 200
theorem log_small {j : Int} (h : 0 < j ∧ j < 2 ^ 200) : CDivW 0 j := by
  refine ⟨h.1, ?_⟩
  have : j.natAbs < 2 ^ 200 := by omega
  have h2 : j.natAbs ≠ 0 := by omega
  have := (Nat.log2_lt h2).mpr this
  omega
theorem cmul_mod (a : Int) {m : Int} (h0 : 0 < m) (h1 : m < 2 ^ 63) : CMul (a % m) (a % m) := by
  have a1 := Int.emod_nonneg a (show m ≠ 0 by omega)
  have a2 := Int.emod_lt_of_pos a h0
  exact .inl ⟨by omega, by omega⟩
theorem mix_ok (s : Int) : ∃ v, l_mix s = some v := by
  unfold l_mix
  simp only [Option.bind_some]
  rw [grd_true (cmul_mod _ (by decide) (by decide)), Option.bind_some, grd_true (cmul_mod _ (by decide) (by decide)), Option.bind_some]
  exact ⟨_, rfl⟩
theorem raw_loop (k c : Int) : ∀ (xs : List Int) (s : Int), ∃ v, forS (l_raw_for1 k c) s xs = some v
  | [], s => ⟨s, rfl⟩
  | x :: xs, s => by
    obtain ⟨v, hv⟩ := mix_ok ((c + 1009 * k) + 7919 * x)
    rw [forS_cons]
    unfold l_raw_for1
    rw [hv]
    exact raw_loop k c xs _
theorem raw_ok {ns : List Int} {k : Int} (hk : 0 ≤ k) (hl : ns.length ≤ 63) : ∃ v, l_raw ns k = some v := by
  unfold l_raw
  simp only [Option.bind_some]
  have tail : ∀ s2 : Int, ∃ v, (if ((decide (k < (ns.length : Int))) && (decide (s2 ≥ ((10 : Int) ^ Int.toNat (18 : Int))))) = true then (some (s2 - ((10 : Int) ^ Int.toNat (18 : Int)))) else (Option.bind (forS (l_raw_for1 k s2) (0 : Int) (rng 0 (40 : Int))) fun (s10 : Int) => (some s10))) = some v := by
    intro s2
    obtain ⟨v, hv⟩ := raw_loop k s2 (rng 0 40) 0
    split
    · exact ⟨_, rfl⟩
    · rw [hv]; exact ⟨_, rfl⟩
  by_cases c : (ns.length : Int) > 0
  · rw [if_pos (decide_eq_true c), grd_true (by exact c), Option.bind_some]
    have b0 := Int.emod_nonneg k (show (ns.length : Int) ≠ 0 by omega)
    have b1 := Int.emod_lt_of_pos k c
    rw [atI_eq b0 b1]
    obtain ⟨y, hy⟩ : ∃ y, ns[(k % (ns.length : Int)).toNat]? = some y := ⟨_, List.getElem?_eq_getElem (by omega)⟩
    have g := log_small (j := (ns.length : Int)) ⟨c, by omega⟩
    rw [hy, Option.bind_some, grd_true (p := CDivW k (ns.length : Int)) g, Option.bind_some]
    exact tail _
  · rw [if_neg (by simpa using c)]
    exact tail _
theorem digits_loop : ∀ (ss : List Int) (r : Int) (acc : List Int), SzOk ss → acc.length + ss.length < lim → ∃ r' ds, forS l_digits_for1 (r, acc) ss = some (r', acc ++ ds) ∧ Dig ds ss
  | [], r, acc, _, _ => ⟨r, [], by simp [forS], trivial⟩
  | s :: ss, r, acc, h, hl => by
    have hs := h s List.mem_cons_self
    rw [List.length_cons] at hl
    obtain ⟨r', ds, e, d⟩ := digits_loop ss (r / s) (acc ++ [r % s]) (fun x hx => h x (List.mem_cons_of_mem _ hx)) (by rw [List.length_append, List.length_singleton]; omega)
    refine ⟨r', (r % s) :: ds, ?_, Int.emod_nonneg r (by omega), Int.emod_lt_of_pos r hs.1, d⟩
    have a1 : app? acc (r % s) = some (acc ++ [r % s]) := app_ok (by omega)
    have g : grd (CDivW r s) = some () := grd_true (p := CDivW r s) (log_small hs)
    have t : l_digits_for1 (r, acc) s = some (r / s, acc ++ [r % s]) := by
      unfold l_digits_for1
      simp only [grd_true hs.1, a1, g, Option.bind_some]
    rw [forS_cons, t, Option.bind_some, e, List.append_assoc]
    rfl
theorem digits_ok {ns : List Int} {k : Int} {ss : List Int} (hk : 0 ≤ k) (hl : ns.length ≤ 63) (hs : SzOk ss) (hz : ss.length ≤ 100) : ∃ ds, l_digits ns k ss = some ds ∧ Dig ds ss := by
  obtain ⟨v, hv⟩ := raw_ok (ns := ns) hk hl
  obtain ⟨r', ds, e, d⟩ := digits_loop ss v [] hs (by unfold lim; simp; omega)
  refine ⟨ds, ?_, d⟩
  unfold l_digits
  rw [hv, Option.bind_some, e]
  rfl
theorem Dig.len : ∀ {ds ss : List Int}, Dig ds ss → ds.length = ss.length
  | [], [], _ => rfl
  | d :: ds, s :: ss, h => by rw [List.length_cons, List.length_cons, Dig.len h.2.2]
  | [], _ :: _, h => h.elim
  | _ :: _, [], h => h.elim
def rest26 (v_pegs_4 : Int) : Option Bool :=
  (Option.bind (l_shortest v_pegs_4) fun u5 => (Option.bind (atI ([(1 : Int), (2 : Int), (5 : Int), (14 : Int), (42 : Int)]) (v_pegs_4 - (1 : Int))) fun u6 => (if (!(decide ((u5.1.length : Int) = u6))) = true then (some false) else (bindR (R := Bool) (forR (l_law_for1 u5.1 u5.2) () (u5.1.map fun kv => kv.1)) (fun (s22 : Unit) => (some true)) id))))
theorem r26_1 : rest26 1 = some true := by decide +kernel
theorem r26_2 : rest26 2 = some true := by decide +kernel
theorem r26_3 : rest26 3 = some true := by decide +kernel
theorem r26_4 : rest26 4 = some true := by decide +kernel
theorem r26_5 : rest26 5 = some true := by decide +kernel
theorem law_true : ∀ ns : List Int, ns.length ≤ 63 → l_law ns = some true := by
  intro ns hl
  show Option.bind (some (cutA ns none (some (63 : Int)))) (fun ms => Option.bind (l_digits ms (0 : Int) ([(5 : Int)])) fun u2 => Option.bind (atI u2 (0 : Int)) fun u3 => Option.bind (some ((1 : Int) + u3)) rest26) = some true
  rw [Option.bind_some]
  have : (cutA ns none (some (63 : Int))).length ≤ 63 := Nat.le_trans cutA_len hl
  generalize cutA ns none (some (63 : Int)) = ms at this
  obtain ⟨ds, e, g⟩ := digits_ok (k := 0) (ss := [5]) (by omega) this (fun s h => by obtain rfl := List.mem_singleton.mp h; decide) (by decide)
  rw [e, Option.bind_some]
  match ds, g with
  | [], g => exact g.elim
  | _ :: _ :: _, g => exact g.2.2.elim
  | [d], ⟨h0, h1, h2⟩ =>
    have e2 : atI [d] (0 : Int) = some d := rfl
    rw [e2, Option.bind_some, Option.bind_some]
    have c : d = 0 ∨ d = 1 ∨ d = 2 ∨ d = 3 ∨ d = 4 := by omega
    rcases c with rfl | rfl | rfl | rfl | rfl
    · exact r26_1
    · exact r26_2
    · exact r26_3
    · exact r26_4
    · exact r26_5
end Rb.M_k26

set_option Elab.async false
set_option linter.all false
set_option maxRecDepth 100000
set_option maxHeartbeats 0
namespace Rb.M_k26
open PySem PySem.Spec PyProof.Rows L2 Rb
structure Tx (K : PySem.W.Frag) (mg : Str → Option Value) : Prop where
  dum : True
  all : mg "all" = none
  bool : mg "bool" = none
  enumerate : mg "enumerate" = none
  int : mg "int" = none
  isinstance : mg "isinstance" = none
  len : mg "len" = none
  list : mg "list" = none
  max : mg "max" = none
  min : mg "min" = none
  range : mg "range" = none
  set : mg "set" = none
  sorted : mg "sorted" = none
  str : mg "str" = none
  sum : mg "sum" = none
  tuple : mg "tuple" = none
  zip : mg "zip" = none
  MOST_PEGS : ∃ t, mg "MOST_PEGS" = some (.int 10 t)
abbrev encR_p_turned_round (y : Int) : Out := .rt (.sh (PyData.int y))
abbrev st_p_turned_round : Stmt := top 5
abbrev NN_p_turned_round : List Str := ["pegs", "place"]
theorem sc_p_turned_round : FnScope NN_p_turned_round ["pegs", "place"] (defScope st_p_turned_round) := ⟨rfl, rfl, rfl, by decide +kernel, rfl, by decide +kernel, by decide +kernel⟩
abbrev I_p_turned_round : List PyData → Rv → Prop := Im (fun (a : (Int × Int)) => [PyData.int a.1, PyData.int a.2]) (fun (y : Int) => Rv.sh (PyData.int y)) (fun a => p_turned_round a.1 a.2)
theorem fn_p_turned_round {P : Program} {w : World} {K : PySem.W.Frag} {mg : Str → Option Value} {base : Heap} {f : Addr} {fd : FuncData} (F : FunD K "turned_round" "turned_round" (defArgs st_p_turned_round) (defBody st_p_turned_round) (defScope st_p_turned_round) [] [] f fd) (hg : mg "turned_round" = some (.ref f)) (T : Tx K mg)  : Fn P w K mg base "turned_round" 1 I_p_turned_round := by
  refine ⟨f, fd, ["pegs", "place"], fn_ok (N := NN_p_turned_round) (en := encR_p_turned_round) F sc_p_turned_round (fun _ => rfl) (fun _ => .inl rfl) (fun cdv A' outer s H E hr => ⟨_, (pss_cons (ps_if (pt_cmpR op_lt (pv 1) (pv 0) (nomark _)) (pss_cons (ps_ret (pv 1)) pss_never) pss_nil) (pss_cons (ps_ret (pe_op op_sub (pe_op op_sub (pe_op op_mul pe_int (pv 0)) pe_int) (pv 1))) pss_never)), fun a => ?_⟩), hg, F.kp, F.bindsN fun _ _ _ _ _ _ us hl => match us, hl with | [_, _], _ => rfl⟩
  obtain ⟨v_pegs, v_place⟩ := a
  exact (show BX K _ [.sh (PyData.int v_pegs), .sh (PyData.int v_place)] encR_p_turned_round (p_turned_round v_pegs v_place) from
   (bx_ifRet (et_of (ex_lt (ex_var (i := 1) rfl) (ex_var (i := 0) rfl))) (fun _ => (bx_retS (ex_var (i := 1) rfl) rfl)) (fun _ _ _ h => nomatch h) (fun _ => (bx_retS (ex_sub (ex_sub (ex_mul ex_int (ex_var (i := 0) rfl) (.inl ⟨by decide, by decide⟩)) ex_int) (ex_var (i := 1) rfl)) rfl))))
abbrev encR_p_in_round (y : (List Int)) : Out := .rt (.fr (y.map PyData.int))
abbrev st_p_in_round : Stmt := top 6
abbrev NN_p_in_round : List Str := ["frame", "pegs", "place"]
theorem sc_p_in_round : FnScope NN_p_in_round ["frame"] (defScope st_p_in_round) := ⟨rfl, rfl, rfl, by decide +kernel, rfl, by decide +kernel, by decide +kernel⟩
abbrev I_p_in_round : List PyData → Rv → Prop := Im (fun (a : ((List Int))) => [(eT PyData.int) a]) (fun (y : (List Int)) => Rv.fr (y.map PyData.int)) (fun a => p_in_round a)
theorem fn_p_in_round {P : Program} {w : World} {K : PySem.W.Frag} {mg : Str → Option Value} {base : Heap} {f : Addr} {fd : FuncData} (F : FunD K "in_round" "in_round" (defArgs st_p_in_round) (defBody st_p_in_round) (defScope st_p_in_round) [] [] f fd) (hg : mg "in_round" = some (.ref f)) (T : Tx K mg) (G_turned_round : Fn P w K mg base "turned_round" 1 I_p_turned_round) : Fn P w K mg base "in_round" 2 I_p_in_round := by
  refine ⟨f, fd, ["frame"], fn_ok (N := NN_p_in_round) (en := encR_p_in_round) F sc_p_in_round (fun _ => rfl) (fun _ => .inl rfl) (fun cdv A' outer s H E hr => ⟨_, (pss_cons (ps_set (i := 1) sc_p_in_round.nd rfl (by first | exact Or.inl rfl | exact Or.inr rfl) (pe_op op_fdivW (pe_callB (call_lenK (K := K)) (by rfl) T.len (by decide +kernel) (pa_cons (pv 0) pa_nil)) pe_int)) (pss_cons (ps_ret (pe_lc (own := [("place", 2)]) (tt := tYes) rfl sc_p_in_round.nd (pi_range1 (by rfl) T.range (pa_cons (pe_op op_mul pe_int (pv 1)) pa_nil)) (blkOk_by (N := NN_p_in_round) (sc := defScope st_p_in_round) (by decide +kernel)) (fun _ _ _ _ _ => (pg_name (i := 2) sc_p_in_round.nd rfl (by first | exact Or.inl rfl | exact Or.inr rfl))) (fun _ _ _ _ _ => pts_nil) (fun _ _ _ _ _ => (pe_fn G_turned_round (hr.mono (by decide)) (by rfl) (pa_cons (pv 1) (pa_cons (pe_ix (ix_tupK (K := K)) (pv 0) (pe_fn G_turned_round (hr.mono (by decide)) (by rfl) (pa_cons (pv 1) (pa_cons (pv 2) pa_nil))) (fun _ _ => rfl)) pa_nil)))))) pss_never)), fun v_frame => ?_⟩), hg, F.kp, F.bindsN fun _ _ _ _ _ _ us hl => match us, hl with | [_], _ => rfl⟩
  exact (show BX K _ [.sh ((eT PyData.int) v_frame), .un, .un] encR_p_in_round (p_in_round v_frame) from
   (bx_asgB (e := PyData.int) (i := 1) (ex_fdiv (ex_lenT (ex_var (i := 0) rfl)) ex_int ⟨by decide, by decide +kernel⟩) (fun v_pegs_1 => (bx_bind fun g2 hg2 => (bx_bind fun u7 hu7 => (bx_retSW (exw_lc (e := PyData.int) (e' := PyData.int) (envB := (fun x3 => [.sh ((eT PyData.int) v_frame), .sh (PyData.int v_pegs_1), .sh (PyData.int x3)])) (EIs.i (eis_rng1 (ex_mul ex_int (ex_var (i := 1) rfl) (.inl ⟨by decide, by decide⟩)) (grd_ok hg2))) hu7 (fun x3 _ => (egc_name (i := 2) (by decide))) (fun x3 _ => (eto_some et_yes)) (fun x3 _ => (exo_bind fun u4 hu4 => (exo_bind fun u5 hu5 => (exo_bind fun u6 hu6 => (exo_some (e := PyData.int) (ex_call (ea_cons (ex_var (i := 1) rfl) (ea_cons (ex_ixT (ex_var (i := 0) rfl) (ex_call (ea_cons (ex_var (i := 1) rfl) (ea_cons (ex_var (i := 2) rfl) ea_nil)) ⟨(v_pegs_1, x3), u4, rfl, hu4, rfl⟩) (atI_map hu5)) ea_nil)) ⟨(v_pegs_1, u5), u6, rfl, hu6, rfl⟩))))))) rfl))))))
abbrev encR_p_in_round_L (y : (List Int)) : Out := .rt (.fr (y.map PyData.int))
abbrev st_p_in_round_L : Stmt := top 6
abbrev NN_p_in_round_L : List Str := ["frame", "pegs", "place"]
theorem sc_p_in_round_L : FnScope NN_p_in_round_L ["frame"] (defScope st_p_in_round_L) := ⟨rfl, rfl, rfl, by decide +kernel, rfl, by decide +kernel, by decide +kernel⟩
abbrev I_p_in_round_L : List PyData → Rv → Prop := Im (fun (a : ((List Int))) => [(eL PyData.int) a]) (fun (y : (List Int)) => Rv.fr (y.map PyData.int)) (fun a => p_in_round_L a)
theorem fn_p_in_round_L {P : Program} {w : World} {K : PySem.W.Frag} {mg : Str → Option Value} {base : Heap} {f : Addr} {fd : FuncData} (F : FunD K "in_round" "in_round" (defArgs st_p_in_round_L) (defBody st_p_in_round_L) (defScope st_p_in_round_L) [] [] f fd) (hg : mg "in_round" = some (.ref f)) (T : Tx K mg) (G_turned_round : Fn P w K mg base "turned_round" 1 I_p_turned_round) : Fn P w K mg base "in_round" 2 I_p_in_round_L := by
  refine ⟨f, fd, ["frame"], fn_ok (N := NN_p_in_round_L) (en := encR_p_in_round_L) F sc_p_in_round_L (fun _ => rfl) (fun _ => .inl rfl) (fun cdv A' outer s H E hr => ⟨_, (pss_cons (ps_set (i := 1) sc_p_in_round_L.nd rfl (by first | exact Or.inl rfl | exact Or.inr rfl) (pe_op op_fdivW (pe_callB (call_lenK (K := K)) (by rfl) T.len (by decide +kernel) (pa_cons (pv 0) pa_nil)) pe_int)) (pss_cons (ps_ret (pe_lc (own := [("place", 2)]) (tt := tYes) rfl sc_p_in_round_L.nd (pi_range1 (by rfl) T.range (pa_cons (pe_op op_mul pe_int (pv 1)) pa_nil)) (blkOk_by (N := NN_p_in_round_L) (sc := defScope st_p_in_round_L) (by decide +kernel)) (fun _ _ _ _ _ => (pg_name (i := 2) sc_p_in_round_L.nd rfl (by first | exact Or.inl rfl | exact Or.inr rfl))) (fun _ _ _ _ _ => pts_nil) (fun _ _ _ _ _ => (pe_fn G_turned_round (hr.mono (by decide)) (by rfl) (pa_cons (pv 1) (pa_cons (pe_ix (ix_listK (K := K)) (pv 0) (pe_fn G_turned_round (hr.mono (by decide)) (by rfl) (pa_cons (pv 1) (pa_cons (pv 2) pa_nil))) (fun _ _ => rfl)) pa_nil)))))) pss_never)), fun v_frame => ?_⟩), hg, F.kp, F.bindsN fun _ _ _ _ _ _ us hl => match us, hl with | [_], _ => rfl⟩
  exact (show BX K _ [.sh ((eL PyData.int) v_frame), .un, .un] encR_p_in_round_L (p_in_round_L v_frame) from
   (bx_asgB (e := PyData.int) (i := 1) (ex_fdiv (ex_lenL (EX.l (ex_var (i := 0) rfl))) ex_int ⟨by decide, by decide +kernel⟩) (fun v_pegs_1 => (bx_bind fun g2 hg2 => (bx_bind fun u7 hu7 => (bx_retSW (exw_lc (e := PyData.int) (e' := PyData.int) (envB := (fun x3 => [.sh ((eL PyData.int) v_frame), .sh (PyData.int v_pegs_1), .sh (PyData.int x3)])) (EIs.i (eis_rng1 (ex_mul ex_int (ex_var (i := 1) rfl) (.inl ⟨by decide, by decide⟩)) (grd_ok hg2))) hu7 (fun x3 _ => (egc_name (i := 2) (by decide))) (fun x3 _ => (eto_some et_yes)) (fun x3 _ => (exo_bind fun u4 hu4 => (exo_bind fun u5 hu5 => (exo_bind fun u6 hu6 => (exo_some (e := PyData.int) (ex_call (ea_cons (ex_var (i := 1) rfl) (ea_cons (ex_ixL (EX.l (ex_var (i := 0) rfl)) (ex_call (ea_cons (ex_var (i := 1) rfl) (ea_cons (ex_var (i := 2) rfl) ea_nil)) ⟨(v_pegs_1, x3), u4, rfl, hu4, rfl⟩) (atI_map hu5)) ea_nil)) ⟨(v_pegs_1, u5), u6, rfl, hu6, rfl⟩))))))) rfl))))))
abbrev encR_p_are_ties (y : Bool) : Out := .rt (.sh (PyData.bool y))
abbrev st_p_are_ties : Stmt := top 7
abbrev NN_p_are_ties : List Str := ["frame", "peg", "other"]
theorem sc_p_are_ties : FnScope NN_p_are_ties ["frame"] (defScope st_p_are_ties) := ⟨rfl, rfl, rfl, by decide +kernel, rfl, by decide +kernel, by decide +kernel⟩
abbrev I_p_are_ties : List PyData → Rv → Prop := Im (fun (a : ((List Int))) => [(eT PyData.int) a]) (fun (y : Bool) => Rv.sh (PyData.bool y)) (fun a => p_are_ties a)
theorem fn_p_are_ties {P : Program} {w : World} {K : PySem.W.Frag} {mg : Str → Option Value} {base : Heap} {f : Addr} {fd : FuncData} (F : FunD K "are_ties" "are_ties" (defArgs st_p_are_ties) (defBody st_p_are_ties) (defScope st_p_are_ties) [] [] f fd) (hg : mg "are_ties" = some (.ref f)) (T : Tx K mg)  : Fn P w K mg base "are_ties" 1 I_p_are_ties := by
  refine ⟨f, fd, ["frame"], fn_ok (N := NN_p_are_ties) (en := encR_p_are_ties) F sc_p_are_ties (fun _ => rfl) (fun _ => .inl rfl) (fun cdv A' outer s H E hr => ⟨_, (pss_cons (ps_if (PW.pt (pw_or (pt_cmpR op_lt (pe_callB (call_lenK (K := K)) (by rfl) T.len (by decide +kernel) (pa_cons (pv 0) pa_nil)) pe_int (nomark _)) (pw_or (pt_cmpR op_gt (pe_callB (call_lenK (K := K)) (by rfl) T.len (by decide +kernel) (pa_cons (pv 0) pa_nil)) (pe_op op_mul pe_int (pe_const (by rfl) T.MOST_PEGS)) (nomark _)) (pw_or1 (pt_cmpR op_eq (pe_op op_mod (pe_callB (call_lenK (K := K)) (by rfl) T.len (by decide +kernel) (pa_cons (pv 0) pa_nil)) pe_int) pe_int (nomark _)))))) (pss_cons (ps_ret pe_bl) pss_never) pss_nil) (pss_cons (ps_for PassesOwn.never rfl (pi_enumT (K := K) (by rfl) T.enumerate (pa_cons (pv 0) pa_nil)) (pg_tupK (K := K) (n := 2) (by rfl) (pgs_cons (pg_name (i := 1) sc_p_are_ties.nd rfl (by first | exact Or.inl rfl | exact Or.inr rfl)) (pgs_cons (pg_name (i := 2) sc_p_are_ties.nd rfl (by first | exact Or.inl rfl | exact Or.inr rfl)) pgs_nil))) (pss_cons (ps_if (PW.pt (pw_or (pt_not (pt_chain op_le op_lt pe_int (pv 2) (pe_callB (call_lenK (K := K)) (by rfl) T.len (by decide +kernel) (pa_cons (pv 0) pa_nil)))) (pw_or (pt_cmpR op_eq (pv 2) (pv 1) (nomark _)) (pw_or1 (pt_cmpR op_ne (pe_ix (ix_tupK (K := K)) (pv 0) (pv 2) (fun _ _ => rfl)) (pv 1) (nomark _)))))) (pss_cons (ps_ret pe_bl) pss_never) pss_nil) pss_nil)) (pss_cons (ps_ret pe_bl) pss_never))), fun v_frame => ?_⟩), hg, F.kp, F.bindsN fun _ _ _ _ _ _ us hl => match us, hl with | [_], _ => rfl⟩
  exact (show BX K _ [.sh ((eT PyData.int) v_frame), .un, .un] encR_p_are_ties (p_are_ties v_frame) from
   (bx_ifRet (et_or (et_of (ex_lt (ex_lenT (ex_var (i := 0) rfl)) ex_int)) (et_or (et_of (ex_gt (ex_lenT (ex_var (i := 0) rfl)) (ex_mul ex_int ex_int (.inr ⟨by decide, by decide⟩)))) (et_of (ex_eqI (ex_mod (ex_lenT (ex_var (i := 0) rfl)) ex_int (by decide)) ex_int)))) (fun _ => (bx_retS ex_bl rfl)) (fun _ _ _ h => nomatch h) (fun _ => (bx_bindR (envS := (fun (s_1 : Unit) => [.sh ((eT PyData.int) v_frame), .un, .un])) (encR := encR_p_are_ties) (bx_forR (encR := encR_p_are_ties) (envS := (fun (s_1 : Unit) => [.sh ((eT PyData.int) v_frame), .un, .un])) (e := (eP PyData.int PyData.int)) (envB := (fun (s_1 : Unit) (x1 : (Int × Int)) => [.sh ((eT PyData.int) v_frame), .sh (PyData.int x1.1), .sh (PyData.int x1.2)])) (f := (p_are_ties_for1 v_frame)) (eis_enumT (ex_var (i := 0) rfl)) (.same (.un (.un .nil))) (fun _ => trivial) (fun s_1 x1 _ => EGc.eg (vs := [1, 2]) (egc_tup (egs_cons (egc_name (i := 1) (by decide)) (egs_cons (egc_name (i := 2) (by decide)) egs_nil)) rfl)) (fun s_1 x1 _ => (bx_bind fun c3 hc3 => (bx_ifRetM (encR := encR_p_are_ties) ((eto_or (eto_some (et_not (et_of (ex_chain (p := fun i j => decide (i ≤ j)) (p' := fun i j => decide (i < j)) (fun _ _ => rfl) (fun _ _ => rfl) ex_int (ex_var (i := 2) rfl) (ex_lenT (ex_var (i := 0) rfl)))))) (eto_or (eto_some (et_of (ex_eqI (ex_var (i := 2) rfl) (ex_var (i := 1) rfl)))) (eto_bind fun u2 hu2 => (eto_some (et_of (ex_neI (ex_ixT (ex_var (i := 0) rfl) (ex_var (i := 2) rfl) (atI_map hu2)) (ex_var (i := 1) rfl))))))) c3 hc3) (fun _ => (bx_retS ex_bl rfl)) (fun _ _ h => nomatch h) (fun _ => rfl) (fun _ => (bx_nx (.same (.un (.un .nil))) rfl)))))) (fun _ => rfl) (fun _ _ h => nomatch h) (fun s4 _ => (bx_retS ex_bl rfl))))))
abbrev encR_p_nested (y : Bool) : Out := .rt (.sh (PyData.bool y))
abbrev st_p_nested : Stmt := top 8
abbrev NN_p_nested : List Str := ["ends", "open_ones", "place", "other"]
theorem sc_p_nested : FnScope NN_p_nested ["ends"] (defScope st_p_nested) := ⟨rfl, rfl, rfl, by decide +kernel, rfl, by decide +kernel, by decide +kernel⟩
abbrev I_p_nested : List PyData → Rv → Prop := Im (fun (a : ((List Int))) => [(eL PyData.int) a]) (fun (y : Bool) => Rv.sh (PyData.bool y)) (fun a => p_nested a)
theorem fn_p_nested {P : Program} {w : World} {K : PySem.W.Frag} {mg : Str → Option Value} {base : Heap} {f : Addr} {fd : FuncData} (F : FunD K "nested" "nested" (defArgs st_p_nested) (defBody st_p_nested) (defScope st_p_nested) [] [] f fd) (hg : mg "nested" = some (.ref f)) (T : Tx K mg)  : Fn P w K mg base "nested" 1 I_p_nested := by
  refine ⟨f, fd, ["ends"], fn_ok (N := NN_p_nested) (en := encR_p_nested) F sc_p_nested (fun _ => rfl) (fun _ => .inl rfl) (fun cdv A' outer s H E hr => ⟨_, (pss_cons (ps_set (i := 1) sc_p_nested.nd rfl (by first | exact Or.inl rfl | exact Or.inr rfl) (pe_lst pa_nil)) (pss_cons (ps_for PassesOwn.never rfl (pi_enumK (K := K) (by rfl) T.enumerate (pa_cons (pv 0) pa_nil)) (pg_tupK (K := K) (n := 2) (by rfl) (pgs_cons (pg_name (i := 2) sc_p_nested.nd rfl (by first | exact Or.inl rfl | exact Or.inr rfl)) (pgs_cons (pg_name (i := 3) sc_p_nested.nd rfl (by first | exact Or.inl rfl | exact Or.inr rfl)) pgs_nil))) (pss_cons (ps_if (pt_cmpR op_gt (pv 3) (pv 2) (nomark _)) (pss_cons (ps_expr (pe_bm PySem.F.plainAttrs_list PySem.F.slot_list_append PySem.F.type_list_append mt_append (pv 1) (pa_cons (pv 3) pa_nil))) pss_nil) (pss_cons (ps_if (pt_cmpR op_ne (pe_bm0 PySem.F.plainAttrs_list PySem.F.slot_list_pop PySem.F.type_list_pop mt_pop (pv 1)) (pv 2) (nomark _)) (pss_cons (ps_ret pe_bl) pss_never) pss_nil) pss_nil)) pss_nil)) (pss_cons (ps_ret pe_bl) pss_never))), fun v_ends => ?_⟩), hg, F.kp, F.bindsN fun _ _ _ _ _ _ us hl => match us, hl with | [_], _ => rfl⟩
  exact (show BX K _ [.sh ((eL PyData.int) v_ends), .un, .un, .un] encR_p_nested (p_nested v_ends) from
   (bx_asgW (exw_lst (ds := (([] : (List Int)) : (List Int)).map PyData.int) ea_nil (Nat.le_of_ble_eq_true rfl)) (bx_bindR (envS := (fun (s_1 : (List Int)) => [.sh ((eL PyData.int) v_ends), .ow (s_1.map PyData.int), .un, .un])) (encR := encR_p_nested) (bx_forR (encR := encR_p_nested) (envS := (fun (s_1 : (List Int)) => [.sh ((eL PyData.int) v_ends), .ow (s_1.map PyData.int), .un, .un])) (e := (eP PyData.int PyData.int)) (envB := (fun (s_1 : (List Int)) (x1 : (Int × Int)) => [.sh ((eL PyData.int) v_ends), .ow (s_1.map PyData.int), .sh (PyData.int x1.1), .sh (PyData.int x1.2)])) (f := p_nested_for1) (eis_enumL (ex_var (i := 0) rfl)) (.same (.same (.un (.un .nil)))) (fun _ => trivial) (fun s_1 x1 _ => EGc.eg (vs := [2, 3]) (egc_tup (egs_cons (egc_name (i := 2) (by decide)) (egs_cons (egc_name (i := 3) (by decide)) egs_nil)) rfl)) (fun s_1 x1 _ => (bx_last (bx_if (et_of (ex_gt (ex_var (i := 3) rfl) (ex_var (i := 2) rfl))) (fun _ => (bx_bind fun u2 hu2 => (bx_app (e := PyData.int) (x := x1.2) rfl (ex_var (i := 3) rfl) hu2 (bx_nx (.same (.same (.un (.un .nil)))) rfl)))) (fun _ => (bx_bind fun u3 hu3 => (bx_last (bx_ifPopNe (α := Int) (e := PyData.int) (xs := []) (ys := []) (i := 1) rfl hu3 (ex_var (i := 2) rfl) (bx_retS ex_bl rfl) (bx_nx (.same (.same (.un (.un .nil)))) rfl))))))))) (fun _ => rfl) (fun _ _ h => nomatch h) (fun s4 _ => (bx_retS ex_bl rfl)))))
abbrev encR_p_is_frame (y : Bool) : Out := .rt (.sh (PyData.bool y))
abbrev st_p_is_frame : Stmt := top 9
abbrev NN_p_is_frame : List Str := ["frame"]
theorem sc_p_is_frame : FnScope NN_p_is_frame ["frame"] (defScope st_p_is_frame) := ⟨rfl, rfl, rfl, by decide +kernel, rfl, by decide +kernel, by decide +kernel⟩
abbrev I_p_is_frame : List PyData → Rv → Prop := Im (fun (a : ((List Int))) => [(eT PyData.int) a]) (fun (y : Bool) => Rv.sh (PyData.bool y)) (fun a => p_is_frame a)
theorem fn_p_is_frame {P : Program} {w : World} {K : PySem.W.Frag} {mg : Str → Option Value} {base : Heap} {f : Addr} {fd : FuncData} (F : FunD K "is_frame" "is_frame" (defArgs st_p_is_frame) (defBody st_p_is_frame) (defScope st_p_is_frame) [] [] f fd) (hg : mg "is_frame" = some (.ref f)) (T : Tx K mg) (G_are_ties : Fn P w K mg base "are_ties" 1 I_p_are_ties) (G_in_round : Fn P w K mg base "in_round" 2 I_p_in_round) (G_nested : Fn P w K mg base "nested" 1 I_p_nested) : Fn P w K mg base "is_frame" 3 I_p_is_frame := by
  refine ⟨f, fd, ["frame"], fn_ok (N := NN_p_is_frame) (en := encR_p_is_frame) F sc_p_is_frame (fun _ => rfl) (fun _ => .inl rfl) (fun cdv A' outer s H E hr => ⟨_, (pss_cons (ps_ret (pe_and (pe_fn G_are_ties (hr.mono (by decide)) (by rfl) (pa_cons (pv 0) pa_nil)) (pe_one (pe_fn G_nested (hr.mono (by decide)) (by rfl) (pa_cons (pe_fn G_in_round (hr.mono (by decide)) (by rfl) (pa_cons (pv 0) pa_nil)) pa_nil))))) pss_never), fun v_frame => ?_⟩), hg, F.kp, F.bindsN fun _ _ _ _ _ _ us hl => match us, hl with | [_], _ => rfl⟩
  exact (show BX K _ [.sh ((eT PyData.int) v_frame)] encR_p_is_frame (p_is_frame v_frame) from
   (bx_bind fun u1 hu1 => (bx_bind fun c4 hc4 => (bx_retS ((exo_and (exo_some (e := PyData.bool) (ex_call (ea_cons (ex_var (i := 0) rfl) ea_nil) ⟨v_frame, u1, rfl, hu1, rfl⟩)) (exo_bind fun u2 hu2 => (exo_bind fun u3 hu3 => (exo_some (e := PyData.bool) (ex_call (ea_cons (EXw.sh (exw_call (ea_cons (ex_var (i := 0) rfl) ea_nil) ⟨v_frame, u2, rfl, hu2, rfl⟩)) ea_nil) ⟨u2, u3, rfl, hu3, rfl⟩))))) c4 hc4) rfl))))
abbrev encR_p_ask_frame (_ : Unit) : Out := .nx [.un]
abbrev st_p_ask_frame : Stmt := top 10
abbrev NN_p_ask_frame : List Str := ["frame"]
theorem sc_p_ask_frame : FnScope NN_p_ask_frame ["frame"] (defScope st_p_ask_frame) := ⟨rfl, rfl, rfl, by decide +kernel, rfl, by decide +kernel, by decide +kernel⟩
abbrev I_p_ask_frame : List PyData → Rv → Prop := Im (fun (a : ((List Int))) => [(eT PyData.int) a]) (fun (y : Unit) => Rv.sh (eN y)) (fun a => p_ask_frame a)
theorem fn_p_ask_frame {P : Program} {w : World} {K : PySem.W.Frag} {mg : Str → Option Value} {base : Heap} {f : Addr} {fd : FuncData} (F : FunD K "ask_frame" "ask_frame" (defArgs st_p_ask_frame) (defBody st_p_ask_frame) (defScope st_p_ask_frame) [] [] f fd) (hg : mg "ask_frame" = some (.ref f)) (T : Tx K mg) (G_is_frame : Fn P w K mg base "is_frame" 3 I_p_is_frame) : Fn P w K mg base "ask_frame" 4 I_p_ask_frame := by
  refine ⟨f, fd, ["frame"], fn_ok (N := NN_p_ask_frame) (en := encR_p_ask_frame) F sc_p_ask_frame (fun _ => rfl) (fun _ => .inr ⟨rfl, _, rfl⟩) (fun cdv A' outer s H E hr => ⟨_, (pss_cons (ps_if (pt_not (pt_val (pe_fn G_is_frame (hr.mono (by decide)) (by rfl) (pa_cons (pv 0) pa_nil)))) pss_never pss_nil) pss_nil), fun v_frame => ?_⟩), hg, F.kp, F.bindsN fun _ _ _ _ _ _ us hl => match us, hl with | [_], _ => rfl⟩
  exact (show BX K _ [.sh ((eT PyData.int) v_frame)] encR_p_ask_frame (p_ask_frame v_frame) from
   (bx_bind fun u1 hu1 => (bx_ifNo (et_not (et_B (ex_call (ea_cons (ex_var (i := 0) rfl) ea_nil) ⟨v_frame, u1, rfl, hu1, rfl⟩))) (fun _ => (bx_nx (.un .nil) rfl)))))
abbrev encR_p_column (y : Int) : Out := .rt (.sh (PyData.int y))
abbrev st_p_column : Stmt := top 12
abbrev NN_p_column : List Str := ["pegs", "peg"]
theorem sc_p_column : FnScope NN_p_column ["pegs", "peg"] (defScope st_p_column) := ⟨rfl, rfl, rfl, by decide +kernel, rfl, by decide +kernel, by decide +kernel⟩
abbrev I_p_column : List PyData → Rv → Prop := Im (fun (a : (Int × Int)) => [PyData.int a.1, PyData.int a.2]) (fun (y : Int) => Rv.sh (PyData.int y)) (fun a => p_column a.1 a.2)
theorem fn_p_column {P : Program} {w : World} {K : PySem.W.Frag} {mg : Str → Option Value} {base : Heap} {f : Addr} {fd : FuncData} (F : FunD K "column" "column" (defArgs st_p_column) (defBody st_p_column) (defScope st_p_column) [] [] f fd) (hg : mg "column" = some (.ref f)) (T : Tx K mg)  : Fn P w K mg base "column" 1 I_p_column := by
  refine ⟨f, fd, ["pegs", "peg"], fn_ok (N := NN_p_column) (en := encR_p_column) F sc_p_column (fun _ => rfl) (fun _ => .inl rfl) (fun cdv A' outer s H E hr => ⟨_, (pss_cons (ps_ret (pe_op op_mod (pv 1) (pv 0))) pss_never), fun a => ?_⟩), hg, F.kp, F.bindsN fun _ _ _ _ _ _ us hl => match us, hl with | [_, _], _ => rfl⟩
  obtain ⟨v_pegs, v_peg⟩ := a
  exact (show BX K _ [.sh (PyData.int v_pegs), .sh (PyData.int v_peg)] encR_p_column (p_column v_pegs v_peg) from
   (bx_bind fun g1 hg1 => (bx_retS (ex_mod (ex_var (i := 1) rfl) (ex_var (i := 0) rfl) (grd_ok hg1)) rfl)))
abbrev encR_p_seams_of (y : (List Int)) : Out := .rt (.fr (y.map PyData.int))
abbrev st_p_seams_of : Stmt := top 13
abbrev NN_p_seams_of : List Str := ["frame", "pegs", "pairs", "peg", "other", "seam", "one", "two"]
theorem sc_p_seams_of : FnScope NN_p_seams_of ["frame"] (defScope st_p_seams_of) := ⟨rfl, rfl, rfl, by decide +kernel, rfl, by decide +kernel, by decide +kernel⟩
abbrev I_p_seams_of : List PyData → Rv → Prop := Im (fun (a : ((List Int))) => [(eT PyData.int) a]) (fun (y : (List Int)) => Rv.fr (y.map PyData.int)) (fun a => p_seams_of a)
theorem fn_p_seams_of {P : Program} {w : World} {K : PySem.W.Frag} {mg : Str → Option Value} {base : Heap} {f : Addr} {fd : FuncData} (F : FunD K "seams_of" "seams_of" (defArgs st_p_seams_of) (defBody st_p_seams_of) (defScope st_p_seams_of) [] [] f fd) (hg : mg "seams_of" = some (.ref f)) (T : Tx K mg) (G_column : Fn P w K mg base "column" 1 I_p_column) : Fn P w K mg base "seams_of" 2 I_p_seams_of := by
  refine ⟨f, fd, ["frame"], fn_ok (N := NN_p_seams_of) (en := encR_p_seams_of) F sc_p_seams_of (fun _ => rfl) (fun _ => .inl rfl) (fun cdv A' outer s H E hr => ⟨_, (pss_cons (ps_set (i := 1) sc_p_seams_of.nd rfl (by first | exact Or.inl rfl | exact Or.inr rfl) (pe_op op_fdivW (pe_callB (call_lenK (K := K)) (by rfl) T.len (by decide +kernel) (pa_cons (pv 0) pa_nil)) pe_int)) (pss_cons (ps_set (i := 2) sc_p_seams_of.nd rfl (by first | exact Or.inl rfl | exact Or.inr rfl) (pe_lc (own := [("peg", 3), ("other", 4)]) rfl sc_p_seams_of.nd (pi_enumT (K := K) (by rfl) T.enumerate (pa_cons (pv 0) pa_nil)) (blkOk_by (N := NN_p_seams_of) (sc := defScope st_p_seams_of) (by decide +kernel)) (fun _ _ _ _ _ => (pg_tupK (K := K) (n := 2) (by rfl) (pgs_cons (pg_name (i := 3) sc_p_seams_of.nd rfl (by first | exact Or.inl rfl | exact Or.inr rfl)) (pgs_cons (pg_name (i := 4) sc_p_seams_of.nd rfl (by first | exact Or.inl rfl | exact Or.inr rfl)) pgs_nil)))) (fun _ _ _ _ _ => (pts_one (pt_cmpR op_lt (pv 3) (pv 4) (nomark _)))) (fun _ _ _ _ _ => (pe_tup (pa_cons (pe_fn G_column (hr.mono (by decide)) (by rfl) (pa_cons (pv 1) (pa_cons (pv 3) pa_nil))) (pa_cons (pe_fn G_column (hr.mono (by decide)) (by rfl) (pa_cons (pv 1) (pa_cons (pv 4) pa_nil))) pa_nil)))))) (pss_cons (ps_ret (pe_lc (own := [("seam", 5)]) (tt := tYes) rfl sc_p_seams_of.nd (pi_range1 (by rfl) T.range (pa_cons (pe_op op_sub (pv 1) pe_int) pa_nil)) (blkOk_by (N := NN_p_seams_of) (sc := defScope st_p_seams_of) (by decide +kernel)) (fun _ _ _ _ _ => (pg_name (i := 5) sc_p_seams_of.nd rfl (by first | exact Or.inl rfl | exact Or.inr rfl))) (fun _ _ _ _ _ => pts_nil) (fun _ _ _ _ _ => (pe_callB (call_lenK (K := K)) (by rfl) T.len (by decide +kernel) (pa_cons (pe_lc (own := [("one", 6), ("two", 7)]) rfl sc_p_seams_of.nd (pi_listK (K := K) (pv 2)) (blkOk_by (by first | rfl | kernel_rfl)) (fun _ _ _ _ _ => (pg_tupK (K := K) (n := 2) (by rfl) (pgs_cons (pg_name (i := 6) sc_p_seams_of.nd rfl (by first | exact Or.inl rfl | exact Or.inr rfl)) (pgs_cons (pg_name (i := 7) sc_p_seams_of.nd rfl (by first | exact Or.inl rfl | exact Or.inr rfl)) pgs_nil)))) (fun _ _ _ _ _ => (pts_one (pt_chain op_le op_lt (pe_callB (call_min2 rfl) (by rfl) T.min (by decide +kernel) (pa_cons (pv 6) (pa_cons (pv 7) pa_nil))) (pv 5) (pe_callB (call_max2 rfl) (by rfl) T.max (by decide +kernel) (pa_cons (pv 6) (pa_cons (pv 7) pa_nil)))))) (fun _ _ _ _ _ => pe_int)) pa_nil))))) pss_never))), fun v_frame => ?_⟩), hg, F.kp, F.bindsN fun _ _ _ _ _ _ us hl => match us, hl with | [_], _ => rfl⟩
  exact (show BX K _ [.sh ((eT PyData.int) v_frame), .un, .un, .un, .un, .un, .un, .un] encR_p_seams_of (p_seams_of v_frame) from
   (bx_asgB (e := PyData.int) (i := 1) (ex_fdiv (ex_lenT (ex_var (i := 0) rfl)) ex_int ⟨by decide, by decide +kernel⟩) (fun v_pegs_1 => (bx_bind fun u5 hu5 => (bx_asg (d := (eL (eP PyData.int PyData.int)) u5) (EXw.sh (exw_lc (e := (eP PyData.int PyData.int)) (e' := (eP PyData.int PyData.int)) (envB := (fun x2 => [.sh ((eT PyData.int) v_frame), .sh (PyData.int v_pegs_1), .un, .sh (PyData.int x2.1), .sh (PyData.int x2.2), .un, .un, .un])) (EIs.i (eis_enumT (ex_var (i := 0) rfl))) hu5 (fun x2 _ => (egc_tup (egs_cons (egc_name (i := 3) (by decide)) (egs_cons (egc_name (i := 4) (by decide)) egs_nil)) rfl)) (fun x2 _ => (eto_some (et_of (ex_lt (ex_var (i := 3) rfl) (ex_var (i := 4) rfl))))) (fun x2 _ => (exo_bind fun u3 hu3 => (exo_bind fun u4 hu4 => (exo_some (e := (eP PyData.int PyData.int)) (ex_tup (ea_cons (ex_call (ea_cons (ex_var (i := 1) rfl) (ea_cons (ex_var (i := 3) rfl) ea_nil)) ⟨(v_pegs_1, x2.1), u3, rfl, hu3, rfl⟩) (ea_cons (ex_call (ea_cons (ex_var (i := 1) rfl) (ea_cons (ex_var (i := 4) rfl) ea_nil)) ⟨(v_pegs_1, x2.2), u4, rfl, hu4, rfl⟩) ea_nil)) (Nat.le_of_ble_eq_true rfl)))))))) (EGc.eg (egc_name (i := 2) (vs := [2]) (by decide))) (bx_bind fun g6 hg6 => (bx_retSW (exw_lcm (e := PyData.int) (e' := PyData.int) (envB := (fun x7 => [.sh ((eT PyData.int) v_frame), .sh (PyData.int v_pegs_1), .sh ((eL (eP PyData.int PyData.int)) u5), .un, .un, .sh (PyData.int x7), .un, .un])) (EIs.i (eis_rng1 (ex_sub (ex_var (i := 1) rfl) ex_int) (grd_ok hg6))) (fun x7 _ => (egc_name (i := 5) (by decide))) (fun x7 _ => (ex_lenL (EXw.l (exw_lcp (e := (eP PyData.int PyData.int)) (e' := PyData.int) (envB := (fun x8 => [.sh ((eT PyData.int) v_frame), .sh (PyData.int v_pegs_1), .sh ((eL (eP PyData.int PyData.int)) u5), .un, .un, .sh (PyData.int x7), .sh (PyData.int x8.1), .sh (PyData.int x8.2)])) (ei_list (EX.l (ex_var (i := 2) rfl))) (fun x8 _ => (egc_tup (egs_cons (egc_name (i := 6) (by decide)) (egs_cons (egc_name (i := 7) (by decide)) egs_nil)) rfl)) (fun x8 _ => (et_of (ex_chain (p := fun i j => decide (i ≤ j)) (p' := fun i j => decide (i < j)) (fun _ _ => rfl) (fun _ _ => rfl) (ex_min (ex_var (i := 6) rfl) (ex_var (i := 7) rfl)) (ex_var (i := 5) rfl) (ex_max (ex_var (i := 6) rfl) (ex_var (i := 7) rfl))))) (fun x8 _ => ex_int)))))) rfl)))))))
abbrev encR_p_length_of (y : Int) : Out := .rt (.sh (PyData.int y))
abbrev st_p_length_of : Stmt := top 14
abbrev NN_p_length_of : List Str := ["frame"]
theorem sc_p_length_of : FnScope NN_p_length_of ["frame"] (defScope st_p_length_of) := ⟨rfl, rfl, rfl, by decide +kernel, rfl, by decide +kernel, by decide +kernel⟩
abbrev I_p_length_of : List PyData → Rv → Prop := Im (fun (a : ((List Int))) => [(eT PyData.int) a]) (fun (y : Int) => Rv.sh (PyData.int y)) (fun a => p_length_of a)
theorem fn_p_length_of {P : Program} {w : World} {K : PySem.W.Frag} {mg : Str → Option Value} {base : Heap} {f : Addr} {fd : FuncData} (F : FunD K "length_of" "length_of" (defArgs st_p_length_of) (defBody st_p_length_of) (defScope st_p_length_of) [] [] f fd) (hg : mg "length_of" = some (.ref f)) (T : Tx K mg) (G_seams_of : Fn P w K mg base "seams_of" 2 I_p_seams_of) : Fn P w K mg base "length_of" 3 I_p_length_of := by
  refine ⟨f, fd, ["frame"], fn_ok (N := NN_p_length_of) (en := encR_p_length_of) F sc_p_length_of (fun _ => rfl) (fun _ => .inl rfl) (fun cdv A' outer s H E hr => ⟨_, (pss_cons (ps_ret (pe_op op_fdivW (pe_callB (cr_sumK (K := K) rfl) (by rfl) T.sum (by decide +kernel) (pa_cons (pe_fn G_seams_of (hr.mono (by decide)) (by rfl) (pa_cons (pv 0) pa_nil)) pa_nil)) pe_int)) pss_never), fun v_frame => ?_⟩), hg, F.kp, F.bindsN fun _ _ _ _ _ _ us hl => match us, hl with | [_], _ => rfl⟩
  exact (show BX K _ [.sh ((eT PyData.int) v_frame)] encR_p_length_of (p_length_of v_frame) from
   (bx_bind fun u1 hu1 => (bx_retS (ex_fdiv (ex_sum (EXw.l (exw_call (ea_cons (ex_var (i := 0) rfl) ea_nil) ⟨v_frame, u1, rfl, hu1, rfl⟩))) ex_int ⟨by decide, by decide +kernel⟩) rfl)))
abbrev encR_p_length (y : Int) : Out := .rt (.sh (PyData.int y))
abbrev st_p_length : Stmt := top 15
abbrev NN_p_length : List Str := ["frame"]
theorem sc_p_length : FnScope NN_p_length ["frame"] (defScope st_p_length) := ⟨rfl, rfl, rfl, by decide +kernel, rfl, by decide +kernel, by decide +kernel⟩
abbrev I_p_length : List PyData → Rv → Prop := Im (fun (a : ((List Int))) => [(eT PyData.int) a]) (fun (y : Int) => Rv.sh (PyData.int y)) (fun a => p_length a)
theorem fn_p_length {P : Program} {w : World} {K : PySem.W.Frag} {mg : Str → Option Value} {base : Heap} {f : Addr} {fd : FuncData} (F : FunD K "length" "length" (defArgs st_p_length) (defBody st_p_length) (defScope st_p_length) [] [] f fd) (hg : mg "length" = some (.ref f)) (T : Tx K mg) (G_ask_frame : Fn P w K mg base "ask_frame" 4 I_p_ask_frame) (G_length_of : Fn P w K mg base "length_of" 3 I_p_length_of) : Fn P w K mg base "length" 5 I_p_length := by
  refine ⟨f, fd, ["frame"], fn_ok (N := NN_p_length) (en := encR_p_length) F sc_p_length (fun _ => rfl) (fun _ => .inl rfl) (fun cdv A' outer s H E hr => ⟨_, (pss_cons (ps_expr (pe_fn G_ask_frame (hr.mono (by decide)) (by rfl) (pa_cons (pv 0) pa_nil))) (pss_cons (ps_ret (pe_fn G_length_of (hr.mono (by decide)) (by rfl) (pa_cons (pv 0) pa_nil))) pss_never)), fun v_frame => ?_⟩), hg, F.kp, F.bindsN fun _ _ _ _ _ _ us hl => match us, hl with | [_], _ => rfl⟩
  exact (show BX K _ [.sh ((eT PyData.int) v_frame)] encR_p_length (p_length v_frame) from
   (bx_bind fun u1 hu1 => (bx_drop (ex_call (ea_cons (ex_var (i := 0) rfl) ea_nil) ⟨v_frame, u1, rfl, hu1, rfl⟩) (bx_bind fun u2 hu2 => (bx_retS (ex_call (ea_cons (ex_var (i := 0) rfl) ea_nil) ⟨v_frame, u2, rfl, hu2, rfl⟩) rfl)))))
abbrev encR_p_tied_beside (y : (List Int)) : Out := .rt (.fr (y.map PyData.int))
abbrev st_p_tied_beside : Stmt := top 16
abbrev NN_p_tied_beside : List Str := ["frame", "start", "pegs", "peg"]
theorem sc_p_tied_beside : FnScope NN_p_tied_beside ["frame", "start"] (defScope st_p_tied_beside) := ⟨rfl, rfl, rfl, by decide +kernel, rfl, by decide +kernel, by decide +kernel⟩
abbrev I_p_tied_beside : List PyData → Rv → Prop := Im (fun (a : ((List Int) × Int)) => [(eT PyData.int) a.1, PyData.int a.2]) (fun (y : (List Int)) => Rv.fr (y.map PyData.int)) (fun a => p_tied_beside a.1 a.2)
theorem fn_p_tied_beside {P : Program} {w : World} {K : PySem.W.Frag} {mg : Str → Option Value} {base : Heap} {f : Addr} {fd : FuncData} (F : FunD K "tied_beside" "tied_beside" (defArgs st_p_tied_beside) (defBody st_p_tied_beside) (defScope st_p_tied_beside) [] [] f fd) (hg : mg "tied_beside" = some (.ref f)) (T : Tx K mg)  : Fn P w K mg base "tied_beside" 1 I_p_tied_beside := by
  refine ⟨f, fd, ["frame", "start"], fn_ok (N := NN_p_tied_beside) (en := encR_p_tied_beside) F sc_p_tied_beside (fun _ => rfl) (fun _ => .inl rfl) (fun cdv A' outer s H E hr => ⟨_, (pss_cons (ps_set (i := 2) sc_p_tied_beside.nd rfl (by first | exact Or.inl rfl | exact Or.inr rfl) (pe_op op_fdivW (pe_callB (call_lenK (K := K)) (by rfl) T.len (by decide +kernel) (pa_cons (pv 0) pa_nil)) pe_int)) (pss_cons (ps_ret (pe_lc (own := [("peg", 3)]) rfl sc_p_tied_beside.nd (pi_range1 (by rfl) T.range (pa_cons (pe_op op_sub (pv 2) pe_int) pa_nil)) (blkOk_by (N := NN_p_tied_beside) (sc := defScope st_p_tied_beside) (by decide +kernel)) (fun _ _ _ _ _ => (pg_name (i := 3) sc_p_tied_beside.nd rfl (by first | exact Or.inl rfl | exact Or.inr rfl))) (fun _ _ _ _ _ => (pts_one (pt_cmpR op_eq (pe_ix (ix_tupK (K := K)) (pv 0) (pe_op op_add (pv 1) (pv 3)) (fun _ _ => rfl)) (pe_op op_add (pe_op op_add (pv 1) (pv 3)) pe_int) (nomark _)))) (fun _ _ _ _ _ => (pv 3)))) pss_never)), fun a => ?_⟩), hg, F.kp, F.bindsN fun _ _ _ _ _ _ us hl => match us, hl with | [_, _], _ => rfl⟩
  obtain ⟨v_frame, v_start⟩ := a
  exact (show BX K _ [.sh ((eT PyData.int) v_frame), .sh (PyData.int v_start), .un, .un] encR_p_tied_beside (p_tied_beside v_frame v_start) from
   (bx_asgB (e := PyData.int) (i := 2) (ex_fdiv (ex_lenT (ex_var (i := 0) rfl)) ex_int ⟨by decide, by decide +kernel⟩) (fun v_pegs_1 => (bx_bind fun g2 hg2 => (bx_bind fun u5 hu5 => (bx_retSW (exw_lc (e := PyData.int) (e' := PyData.int) (envB := (fun x3 => [.sh ((eT PyData.int) v_frame), .sh (PyData.int v_start), .sh (PyData.int v_pegs_1), .sh (PyData.int x3)])) (EIs.i (eis_rng1 (ex_sub (ex_var (i := 2) rfl) ex_int) (grd_ok hg2))) hu5 (fun x3 _ => (egc_name (i := 3) (by decide))) (fun x3 _ => (eto_bind fun u4 hu4 => (eto_some (et_of (ex_eqI (ex_ixT (ex_var (i := 0) rfl) (ex_add (ex_var (i := 1) rfl) (ex_var (i := 3) rfl)) (atI_map hu4)) (ex_add (ex_add (ex_var (i := 1) rfl) (ex_var (i := 3) rfl)) ex_int)))))) (fun x3 _ => (exo_some (e := PyData.int) (ex_var (i := 3) rfl)))) rfl))))))
abbrev encR_p_firsts (y : (List Int)) : Out := .rt (.fr (y.map PyData.int))
abbrev st_p_firsts : Stmt := top 17
abbrev NN_p_firsts : List Str := ["frame"]
theorem sc_p_firsts : FnScope NN_p_firsts ["frame"] (defScope st_p_firsts) := ⟨rfl, rfl, rfl, by decide +kernel, rfl, by decide +kernel, by decide +kernel⟩
abbrev I_p_firsts : List PyData → Rv → Prop := Im (fun (a : ((List Int))) => [(eT PyData.int) a]) (fun (y : (List Int)) => Rv.fr (y.map PyData.int)) (fun a => p_firsts a)
theorem fn_p_firsts {P : Program} {w : World} {K : PySem.W.Frag} {mg : Str → Option Value} {base : Heap} {f : Addr} {fd : FuncData} (F : FunD K "firsts" "firsts" (defArgs st_p_firsts) (defBody st_p_firsts) (defScope st_p_firsts) [] [] f fd) (hg : mg "firsts" = some (.ref f)) (T : Tx K mg) (G_ask_frame : Fn P w K mg base "ask_frame" 4 I_p_ask_frame) (G_tied_beside : Fn P w K mg base "tied_beside" 1 I_p_tied_beside) : Fn P w K mg base "firsts" 5 I_p_firsts := by
  refine ⟨f, fd, ["frame"], fn_ok (N := NN_p_firsts) (en := encR_p_firsts) F sc_p_firsts (fun _ => rfl) (fun _ => .inl rfl) (fun cdv A' outer s H E hr => ⟨_, (pss_cons (ps_expr (pe_fn G_ask_frame (hr.mono (by decide)) (by rfl) (pa_cons (pv 0) pa_nil))) (pss_cons (ps_ret (pe_fn G_tied_beside (hr.mono (by decide)) (by rfl) (pa_cons (pv 0) (pa_cons pe_int pa_nil)))) pss_never)), fun v_frame => ?_⟩), hg, F.kp, F.bindsN fun _ _ _ _ _ _ us hl => match us, hl with | [_], _ => rfl⟩
  exact (show BX K _ [.sh ((eT PyData.int) v_frame)] encR_p_firsts (p_firsts v_frame) from
   (bx_bind fun u1 hu1 => (bx_drop (ex_call (ea_cons (ex_var (i := 0) rfl) ea_nil) ⟨v_frame, u1, rfl, hu1, rfl⟩) (bx_bind fun u2 hu2 => (bx_retSW (exw_call (ea_cons (ex_var (i := 0) rfl) (ea_cons ex_int ea_nil)) ⟨(v_frame, (0 : Int)), u2, rfl, hu2, rfl⟩) rfl)))))
abbrev encR_p_lasts (y : (List Int)) : Out := .rt (.fr (y.map PyData.int))
abbrev st_p_lasts : Stmt := top 18
abbrev NN_p_lasts : List Str := ["frame"]
theorem sc_p_lasts : FnScope NN_p_lasts ["frame"] (defScope st_p_lasts) := ⟨rfl, rfl, rfl, by decide +kernel, rfl, by decide +kernel, by decide +kernel⟩
abbrev I_p_lasts : List PyData → Rv → Prop := Im (fun (a : ((List Int))) => [(eT PyData.int) a]) (fun (y : (List Int)) => Rv.fr (y.map PyData.int)) (fun a => p_lasts a)
theorem fn_p_lasts {P : Program} {w : World} {K : PySem.W.Frag} {mg : Str → Option Value} {base : Heap} {f : Addr} {fd : FuncData} (F : FunD K "lasts" "lasts" (defArgs st_p_lasts) (defBody st_p_lasts) (defScope st_p_lasts) [] [] f fd) (hg : mg "lasts" = some (.ref f)) (T : Tx K mg) (G_ask_frame : Fn P w K mg base "ask_frame" 4 I_p_ask_frame) (G_tied_beside : Fn P w K mg base "tied_beside" 1 I_p_tied_beside) : Fn P w K mg base "lasts" 5 I_p_lasts := by
  refine ⟨f, fd, ["frame"], fn_ok (N := NN_p_lasts) (en := encR_p_lasts) F sc_p_lasts (fun _ => rfl) (fun _ => .inl rfl) (fun cdv A' outer s H E hr => ⟨_, (pss_cons (ps_expr (pe_fn G_ask_frame (hr.mono (by decide)) (by rfl) (pa_cons (pv 0) pa_nil))) (pss_cons (ps_ret (pe_fn G_tied_beside (hr.mono (by decide)) (by rfl) (pa_cons (pv 0) (pa_cons (pe_op op_fdivW (pe_callB (call_lenK (K := K)) (by rfl) T.len (by decide +kernel) (pa_cons (pv 0) pa_nil)) pe_int) pa_nil)))) pss_never)), fun v_frame => ?_⟩), hg, F.kp, F.bindsN fun _ _ _ _ _ _ us hl => match us, hl with | [_], _ => rfl⟩
  exact (show BX K _ [.sh ((eT PyData.int) v_frame)] encR_p_lasts (p_lasts v_frame) from
   (bx_bind fun u1 hu1 => (bx_drop (ex_call (ea_cons (ex_var (i := 0) rfl) ea_nil) ⟨v_frame, u1, rfl, hu1, rfl⟩) (bx_bind fun u2 hu2 => (bx_retSW (exw_call (ea_cons (ex_var (i := 0) rfl) (ea_cons (ex_fdiv (ex_lenT (ex_var (i := 0) rfl)) ex_int ⟨by decide, by decide +kernel⟩) ea_nil)) ⟨(v_frame, ((v_frame.length : Int) / (2 : Int))), u2, rfl, hu2, rfl⟩) rfl)))))
abbrev encR_p_tied_anew (y : (Option (List Int))) : Out := .rt (.sh ((eO (eT PyData.int)) y))
abbrev st_p_tied_anew : Stmt := top 19
abbrev NN_p_tied_anew : List Str := ["frame", "rows", "found", "one", "other"]
theorem sc_p_tied_anew : FnScope NN_p_tied_anew ["frame", "rows"] (defScope st_p_tied_anew) := ⟨rfl, rfl, rfl, by decide +kernel, rfl, by decide +kernel, by decide +kernel⟩
abbrev I_p_tied_anew : List PyData → Rv → Prop := Im (fun (a : ((List Int) × (List (Int × Int)))) => [(eT PyData.int) a.1, (eL (eP PyData.int PyData.int)) a.2]) (fun (y : (Option (List Int))) => Rv.sh ((eO (eT PyData.int)) y)) (fun a => p_tied_anew a.1 a.2)
theorem fn_p_tied_anew {P : Program} {w : World} {K : PySem.W.Frag} {mg : Str → Option Value} {base : Heap} {f : Addr} {fd : FuncData} (F : FunD K "tied_anew" "tied_anew" (defArgs st_p_tied_anew) (defBody st_p_tied_anew) (defScope st_p_tied_anew) [] [] f fd) (hg : mg "tied_anew" = some (.ref f)) (T : Tx K mg) (G_in_round_L : Fn P w K mg base "in_round" 2 I_p_in_round_L) (G_nested : Fn P w K mg base "nested" 1 I_p_nested) : Fn P w K mg base "tied_anew" 3 I_p_tied_anew := by
  refine ⟨f, fd, ["frame", "rows"], fn_ok (N := NN_p_tied_anew) (en := encR_p_tied_anew) F sc_p_tied_anew (fun _ => rfl) (fun _ => .inl rfl) (fun cdv A' outer s H E hr => ⟨_, (pss_cons (ps_set (i := 2) sc_p_tied_anew.nd rfl (by first | exact Or.inl rfl | exact Or.inr rfl) (pe_callTy (call_listK (K := K)) (by rfl) T.list (by decide +kernel) (pa_cons (pv 0) pa_nil))) (pss_cons (ps_for PassesOwn.never rfl (pi_listK (K := K) (pv 1)) (pg_tupK (K := K) (n := 2) (by rfl) (pgs_cons (pg_name (i := 3) sc_p_tied_anew.nd rfl (by first | exact Or.inl rfl | exact Or.inr rfl)) (pgs_cons (pg_name (i := 4) sc_p_tied_anew.nd rfl (by first | exact Or.inl rfl | exact Or.inr rfl)) pgs_nil))) (pss_cons (ps_asg (pv 4) (pg_sub (pv 2) (pv 3) set_list)) (pss_cons (ps_asg (pv 3) (pg_sub (pv 2) (pv 4) set_list)) pss_nil))) (pss_cons (ps_if (pt_val (pe_fn G_nested (hr.mono (by decide)) (by rfl) (pa_cons (pe_fn G_in_round_L (hr.mono (by decide)) (by rfl) (pa_cons (pv 2) pa_nil)) pa_nil))) (pss_cons (ps_ret (pe_callTy (call_tupleK (K := K)) (by rfl) T.tuple (by decide +kernel) (pa_cons (pv 2) pa_nil))) pss_never) pss_nil) (pss_cons (ps_ret pe_non) pss_never)))), fun a => ?_⟩), hg, F.kp, F.bindsN fun _ _ _ _ _ _ us hl => match us, hl with | [_, _], _ => rfl⟩
  obtain ⟨v_frame, v_rows⟩ := a
  exact (show BX K _ [.sh ((eT PyData.int) v_frame), .sh ((eL (eP PyData.int PyData.int)) v_rows), .un, .un, .un] encR_p_tied_anew (p_tied_anew v_frame v_rows) from
   (bx_asgWB (e := PyData.int) (i := 2) (exw_listT (ex_var (i := 0) rfl)) (fun v_found_1 => (bx_then (envS := (fun (s_1 : (List Int)) => [.sh ((eT PyData.int) v_frame), .sh ((eL (eP PyData.int PyData.int)) v_rows), .ow (s_1.map PyData.int), .un, .un])) (bx_forS (envS := (fun (s_1 : (List Int)) => [.sh ((eT PyData.int) v_frame), .sh ((eL (eP PyData.int PyData.int)) v_rows), .ow (s_1.map PyData.int), .un, .un])) (e := (eP PyData.int PyData.int)) (envB := (fun (s_1 : (List Int)) (x2 : (Int × Int)) => [.sh ((eT PyData.int) v_frame), .sh ((eL (eP PyData.int PyData.int)) v_rows), .ow (s_1.map PyData.int), .sh (PyData.int x2.1), .sh (PyData.int x2.2)])) (f := p_tied_anew_for1) (eis_list (ex_var (i := 1) rfl)) (.same (.same (.same (.un (.un .nil))))) (fun s_1 x2 _ => EGc.eg (vs := [3, 4]) (egc_tup (egs_cons (egc_name (i := 3) (by decide)) (egs_cons (egc_name (i := 4) (by decide)) egs_nil)) rfl)) (fun s_1 x2 _ => (bx_bind fun u3 hu3 => (bx_asg (d := PyData.int x2.2) (ex_var (i := 4) rfl) (eg_setI (e := PyData.int) rfl (ex_var (i := 3) rfl) hu3) (bx_bind fun u4 hu4 => (bx_asg (d := PyData.int x2.1) (ex_var (i := 3) rfl) (eg_setI (e := PyData.int) rfl (ex_var (i := 4) rfl) hu4) (bx_nx (.same (.same (.same (.un (.un .nil))))) rfl))))))) (fun s5 _ => (bx_freeze 2 rfl (bx_bind fun u6 hu6 => (bx_bind fun u7 hu7 => (bx_ifRet (et_B (ex_call (ea_cons (EXw.sh (exw_call (ea_cons (ex_var (i := 2) rfl) ea_nil) ⟨s5, u6, rfl, hu6, rfl⟩)) ea_nil) ⟨u6, u7, rfl, hu7, rfl⟩)) (fun _ => (bx_retS (ex_tupL (EX.l (ex_var (i := 2) rfl))) rfl)) (fun _ _ _ h => nomatch h) (fun _ => (bx_retS ex_non rfl)))))))))))
abbrev encR_p_without_first (y : (List Int)) : Out := .rt (.sh ((eT PyData.int) y))
abbrev st_p_without_first : Stmt := top 20
abbrev NN_p_without_first : List Str := ["frame", "number", "goal", "one", "other", "first", "last", "found"]
theorem sc_p_without_first : FnScope NN_p_without_first ["frame", "number"] (defScope st_p_without_first) := ⟨rfl, rfl, rfl, by decide +kernel, rfl, by decide +kernel, by decide +kernel⟩
abbrev I_p_without_first : List PyData → Rv → Prop := Im (fun (a : ((List Int) × Int)) => [(eT PyData.int) a.1, PyData.int a.2]) (fun (y : (List Int)) => Rv.sh ((eT PyData.int) y)) (fun a => p_without_first a.1 a.2)
theorem fn_p_without_first {P : Program} {w : World} {K : PySem.W.Frag} {mg : Str → Option Value} {base : Heap} {f : Addr} {fd : FuncData} (F : FunD K "without_first" "without_first" (defArgs st_p_without_first) (defBody st_p_without_first) (defScope st_p_without_first) [] [] f fd) (hg : mg "without_first" = some (.ref f)) (T : Tx K mg) (G_length_of : Fn P w K mg base "length_of" 3 I_p_length_of) (G_tied_anew : Fn P w K mg base "tied_anew" 3 I_p_tied_anew) : Fn P w K mg base "without_first" 4 I_p_without_first := by
  refine ⟨f, fd, ["frame", "number"], fn_ok (N := NN_p_without_first) (en := encR_p_without_first) F sc_p_without_first (fun _ => rfl) (fun _ => .inl rfl) (fun cdv A' outer s H E hr => ⟨_, (pss_cons (ps_set (i := 2) sc_p_without_first.nd rfl (by first | exact Or.inl rfl | exact Or.inr rfl) (pe_op op_sub (pe_fn G_length_of (hr.mono (by decide)) (by rfl) (pa_cons (pv 0) pa_nil)) pe_int)) (pss_cons (ps_for PassesOwn.never rfl (pi_enumT (K := K) (by rfl) T.enumerate (pa_cons (pv 0) pa_nil)) (pg_tupK (K := K) (n := 2) (by rfl) (pgs_cons (pg_name (i := 3) sc_p_without_first.nd rfl (by first | exact Or.inl rfl | exact Or.inr rfl)) (pgs_cons (pg_name (i := 4) sc_p_without_first.nd rfl (by first | exact Or.inl rfl | exact Or.inr rfl)) pgs_nil))) (pss_cons (ps_if (PW.pt (pw_and (pt_cmpR op_lt (pv 3) (pv 4) (nomark _)) (pw_and1 (pt_cmpR op_ne (pv 3) (pv 1) (nomark _))))) (pss_cons (ps_for PassesOwn.never rfl (pi_tupK (K := K) (pe_tup (pa_cons (pe_tup (pa_cons (pv 3) (pa_cons (pv 4) pa_nil))) (pa_cons (pe_tup (pa_cons (pv 4) (pa_cons (pv 3) pa_nil))) pa_nil)))) (pg_tupK (K := K) (n := 2) (by rfl) (pgs_cons (pg_name (i := 5) sc_p_without_first.nd rfl (by first | exact Or.inl rfl | exact Or.inr rfl)) (pgs_cons (pg_name (i := 6) sc_p_without_first.nd rfl (by first | exact Or.inl rfl | exact Or.inr rfl)) pgs_nil))) (pss_cons (ps_set (i := 7) sc_p_without_first.nd rfl (by first | exact Or.inl rfl | exact Or.inr rfl) (pe_fn G_tied_anew (hr.mono (by decide)) (by rfl) (pa_cons (pv 0) (pa_cons (pe_lst (pa_cons (pe_tup (pa_cons (pv 1) (pa_cons (pv 5) pa_nil))) (pa_cons (pe_tup (pa_cons (pe_op op_add (pv 1) pe_int) (pa_cons (pv 6) pa_nil))) pa_nil))) pa_nil)))) (pss_cons (ps_if (PW.pt (pw_and (pt_cmpR op_notN (pv 7) pe_non (nomark _)) (pw_and1 (pt_cmpR op_eq (pe_fn G_length_of (hr.mono (by decide)) (by rfl) (pa_cons (pv 7) pa_nil)) (pv 2) (nomark _))))) (pss_cons (ps_ret (pv 7)) pss_never) pss_nil) pss_nil))) pss_nil) pss_nil) pss_nil)) (pss_cons (ps_ret (pv 0)) pss_never))), fun a => ?_⟩), hg, F.kp, F.bindsN fun _ _ _ _ _ _ us hl => match us, hl with | [_, _], _ => rfl⟩
  obtain ⟨v_frame, v_number⟩ := a
  exact (show BX K _ [.sh ((eT PyData.int) v_frame), .sh (PyData.int v_number), .un, .un, .un, .un, .un, .un] encR_p_without_first (p_without_first v_frame v_number) from
   (bx_bind fun u1 hu1 => (bx_asgB (e := PyData.int) (i := 2) (ex_sub (ex_call (ea_cons (ex_var (i := 0) rfl) ea_nil) ⟨v_frame, u1, rfl, hu1, rfl⟩) ex_int) (fun v_goal_2 => (bx_bindR (envS := (fun (s_1 : Unit) => [.sh ((eT PyData.int) v_frame), .sh (PyData.int v_number), .sh (PyData.int v_goal_2), .un, .un, .un, .un, .un])) (encR := encR_p_without_first) (bx_forR (encR := encR_p_without_first) (envS := (fun (s_1 : Unit) => [.sh ((eT PyData.int) v_frame), .sh (PyData.int v_number), .sh (PyData.int v_goal_2), .un, .un, .un, .un, .un])) (e := (eP PyData.int PyData.int)) (envB := (fun (s_1 : Unit) (x3 : (Int × Int)) => [.sh ((eT PyData.int) v_frame), .sh (PyData.int v_number), .sh (PyData.int v_goal_2), .sh (PyData.int x3.1), .sh (PyData.int x3.2), .un, .un, .un])) (f := (p_without_first_for1 v_frame v_number v_goal_2)) (eis_enumT (ex_var (i := 0) rfl)) (.same (.same (.same (.un (.un (.un (.un (.un .nil)))))))) (fun _ => trivial) (fun s_1 x3 _ => EGc.eg (vs := [3, 4]) (egc_tup (egs_cons (egc_name (i := 3) (by decide)) (egs_cons (egc_name (i := 4) (by decide)) egs_nil)) rfl)) (fun s_1 x3 _ => (bx_last (bx_if (et_and (et_of (ex_lt (ex_var (i := 3) rfl) (ex_var (i := 4) rfl))) (et_of (ex_neI (ex_var (i := 3) rfl) (ex_var (i := 1) rfl)))) (fun _ => (bx_bindR (envS := (fun (s_2 : Unit) => [.sh ((eT PyData.int) v_frame), .sh (PyData.int v_number), .sh (PyData.int v_goal_2), .sh (PyData.int x3.1), .sh (PyData.int x3.2), .un, .un, .un])) (encR := encR_p_without_first) (bx_forR (encR := encR_p_without_first) (envS := (fun (s_2 : Unit) => [.sh ((eT PyData.int) v_frame), .sh (PyData.int v_number), .sh (PyData.int v_goal_2), .sh (PyData.int x3.1), .sh (PyData.int x3.2), .un, .un, .un])) (e := (eP PyData.int PyData.int)) (envB := (fun (s_2 : Unit) (x4 : (Int × Int)) => [.sh ((eT PyData.int) v_frame), .sh (PyData.int v_number), .sh (PyData.int v_goal_2), .sh (PyData.int x3.1), .sh (PyData.int x3.2), .sh (PyData.int x4.1), .sh (PyData.int x4.2), .un])) (f := (p_without_first_for2 v_frame v_number v_goal_2)) (eis_tup (ex_tup (ea_cons (ex_tup (ea_cons (ex_var (i := 3) rfl) (ea_cons (ex_var (i := 4) rfl) ea_nil)) (Nat.le_of_ble_eq_true rfl)) (ea_cons (ex_tup (ea_cons (ex_var (i := 4) rfl) (ea_cons (ex_var (i := 3) rfl) ea_nil)) (Nat.le_of_ble_eq_true rfl)) ea_nil)) (Nat.le_of_ble_eq_true rfl))) (.same (.same (.same (.same (.same (.un (.un (.un .nil)))))))) (fun _ => trivial) (fun s_2 x4 _ => EGc.eg (vs := [5, 6]) (egc_tup (egs_cons (egc_name (i := 5) (by decide)) (egs_cons (egc_name (i := 6) (by decide)) egs_nil)) rfl)) (fun s_2 x4 _ => (bx_bind fun u5 hu5 => (bx_asg (d := (eO (eT PyData.int)) u5) (ex_call (ea_cons (ex_var (i := 0) rfl) (ea_cons (EXw.sh (exw_lst (ds := ([(v_number, x4.1), ((v_number + (1 : Int)), x4.2)] : (List (Int × Int))).map (eP PyData.int PyData.int)) (ea_cons (ex_tup (ea_cons (ex_var (i := 1) rfl) (ea_cons (ex_var (i := 5) rfl) ea_nil)) (Nat.le_of_ble_eq_true rfl)) (ea_cons (ex_tup (ea_cons (ex_add (ex_var (i := 1) rfl) ex_int) (ea_cons (ex_var (i := 6) rfl) ea_nil)) (Nat.le_of_ble_eq_true rfl)) ea_nil)) (Nat.le_of_ble_eq_true rfl))) ea_nil)) ⟨(v_frame, ([(v_number, x4.1), ((v_number + (1 : Int)), x4.2)])), u5, rfl, hu5, rfl⟩) (EGc.eg (egc_name (i := 7) (vs := [7]) (by decide))) (bx_bind fun c8 hc8 => (bx_ifRetM (encR := encR_p_without_first) ((eto_and (eto_some (et_of (ex_notNO (e := (eT PyData.int)) (m := u5) (ex_var (i := 7) rfl)))) (eto_bind fun u6 hu6 => (eto_bind fun u7 hu7 => (eto_some (et_of (ex_eqI (ex_call (ea_cons (ex_is (ex_var (i := 7) rfl) (congrArg (eO (eT PyData.int)) hu6)) ea_nil) ⟨u6, u7, rfl, hu7, rfl⟩) (ex_var (i := 2) rfl))))))) c8 hc8) (fun _ => (bx_bind fun u9 hu9 => (bx_retS (ex_is (ex_var (i := 7) rfl) (congrArg (eO (eT PyData.int)) hu9)) rfl))) (fun _ _ h => nomatch h) (fun _ => rfl) (fun _ => (bx_nx (.same (.same (.same (.same (.same (.un (.un (.un .nil)))))))) rfl)))))))) (fun _ => rfl) (fun _ _ h => nomatch h) (fun s10 _ => (bx_nx (.same (.same (.same (.un (.un (.un (.un (.un .nil)))))))) rfl)))) (fun _ => (bx_nx (.same (.same (.same (.un (.un (.un (.un (.un .nil)))))))) rfl)))))) (fun _ => rfl) (fun _ _ h => nomatch h) (fun s11 _ => (bx_retS (ex_var (i := 0) rfl) rfl)))))))
abbrev encR_p_shortest_row (y : (List Int)) : Out := .rt (.fr (y.map PyData.int))
abbrev st_p_shortest_row : Stmt := top 21
abbrev NN_p_shortest_row : List Str := ["frame", "found", "turn", "number"]
theorem sc_p_shortest_row : FnScope NN_p_shortest_row ["frame"] (defScope st_p_shortest_row) := ⟨rfl, rfl, rfl, by decide +kernel, rfl, by decide +kernel, by decide +kernel⟩
abbrev I_p_shortest_row : List PyData → Rv → Prop := Im (fun (a : ((List Int))) => [(eT PyData.int) a]) (fun (y : (List Int)) => Rv.fr (y.map PyData.int)) (fun a => p_shortest_row a)
theorem fn_p_shortest_row {P : Program} {w : World} {K : PySem.W.Frag} {mg : Str → Option Value} {base : Heap} {f : Addr} {fd : FuncData} (F : FunD K "shortest_row" "shortest_row" (defArgs st_p_shortest_row) (defBody st_p_shortest_row) (defScope st_p_shortest_row) [] [] f fd) (hg : mg "shortest_row" = some (.ref f)) (T : Tx K mg) (G_ask_frame : Fn P w K mg base "ask_frame" 4 I_p_ask_frame) (G_length_of : Fn P w K mg base "length_of" 3 I_p_length_of) (G_tied_beside : Fn P w K mg base "tied_beside" 1 I_p_tied_beside) (G_without_first : Fn P w K mg base "without_first" 4 I_p_without_first) : Fn P w K mg base "shortest_row" 5 I_p_shortest_row := by
  refine ⟨f, fd, ["frame"], fn_ok (N := NN_p_shortest_row) (en := encR_p_shortest_row) F sc_p_shortest_row (fun _ => rfl) (fun _ => .inl rfl) (fun cdv A' outer s H E hr => ⟨_, (pss_cons (ps_expr (pe_fn G_ask_frame (hr.mono (by decide)) (by rfl) (pa_cons (pv 0) pa_nil))) (pss_cons (ps_set (i := 1) sc_p_shortest_row.nd rfl (by first | exact Or.inl rfl | exact Or.inr rfl) (pe_lst pa_nil)) (pss_cons (ps_for PassesOwn.never rfl (pi_range1 (by rfl) T.range (pa_cons (pe_fn G_length_of (hr.mono (by decide)) (by rfl) (pa_cons (pv 0) pa_nil)) pa_nil)) (pg_name (i := 2) sc_p_shortest_row.nd rfl (by first | exact Or.inl rfl | exact Or.inr rfl)) (pss_cons (ps_set (i := 3) sc_p_shortest_row.nd rfl (by first | exact Or.inl rfl | exact Or.inr rfl) (pe_ix (ix_listK (K := K)) (pe_fn G_tied_beside (hr.mono (by decide)) (by rfl) (pa_cons (pv 0) (pa_cons pe_int pa_nil))) pe_int (fun _ _ => rfl))) (pss_cons (ps_expr (pe_bm PySem.F.plainAttrs_list PySem.F.slot_list_append PySem.F.type_list_append mt_append (pv 1) (pa_cons (pv 3) pa_nil))) (pss_cons (ps_set (i := 0) sc_p_shortest_row.nd rfl (by first | exact Or.inl rfl | exact Or.inr rfl) (pe_fn G_without_first (hr.mono (by decide)) (by rfl) (pa_cons (pv 0) (pa_cons (pv 3) pa_nil)))) pss_nil)))) (pss_cons (ps_ret (pv 1)) pss_never)))), fun v_frame => ?_⟩), hg, F.kp, F.bindsN fun _ _ _ _ _ _ us hl => match us, hl with | [_], _ => rfl⟩
  exact (show BX K _ [.sh ((eT PyData.int) v_frame), .un, .un, .un] encR_p_shortest_row (p_shortest_row v_frame) from
   (bx_bind fun u1 hu1 => (bx_drop (ex_call (ea_cons (ex_var (i := 0) rfl) ea_nil) ⟨v_frame, u1, rfl, hu1, rfl⟩) (bx_asgW (exw_lst (ds := (([] : (List Int)) : (List Int)).map PyData.int) ea_nil (Nat.le_of_ble_eq_true rfl)) (bx_bind fun u2 hu2 => (bx_bind fun g3 hg3 => (bx_then (envS := (fun (s_1 : (List Int) × (List Int)) => [.sh ((eT PyData.int) s_1.1), .ow (s_1.2.map PyData.int), .un, .un])) (bx_forS (envS := (fun (s_1 : (List Int) × (List Int)) => [.sh ((eT PyData.int) s_1.1), .ow (s_1.2.map PyData.int), .un, .un])) (e := PyData.int) (envB := (fun (s_1 : (List Int) × (List Int)) (x4 : Int) => [.sh ((eT PyData.int) s_1.1), .ow (s_1.2.map PyData.int), .sh (PyData.int x4), .un])) (f := p_shortest_row_for1) (eis_rng1 (ex_call (ea_cons (ex_var (i := 0) rfl) ea_nil) ⟨v_frame, u2, rfl, hu2, rfl⟩) (grd_ok hg3)) (.same (.same (.un (.un .nil)))) (fun s_1 x4 _ => EGc.eg (vs := [2]) (egc_name (i := 2) (by decide))) (fun s_1 x4 _ => (bx_bind fun u5 hu5 => (bx_bind fun u6 hu6 => (bx_asg (d := PyData.int u6) (ex_ixL (EXw.l (exw_call (ea_cons (ex_var (i := 0) rfl) (ea_cons ex_int ea_nil)) ⟨(s_1.1, (0 : Int)), u5, rfl, hu5, rfl⟩)) ex_int (atI_map hu6)) (EGc.eg (egc_name (i := 3) (vs := [3]) (by decide))) (bx_bind fun u7 hu7 => (bx_app (e := PyData.int) (x := u6) rfl (ex_var (i := 3) rfl) hu7 (bx_bind fun u8 hu8 => (bx_asg (d := (eT PyData.int) u8) (ex_call (ea_cons (ex_var (i := 0) rfl) (ea_cons (ex_var (i := 3) rfl) ea_nil)) ⟨(s_1.1, u6), u8, rfl, hu8, rfl⟩) (EGc.eg (egc_name (i := 0) (vs := [0]) (by decide))) (bx_nx (.same (.same (.un (.un .nil)))) rfl)))))))))) (fun s9 _ => (bx_retO (i := 1) rfl rfl)))))))))
abbrev encR_l_plain (y : (List Int)) : Out := .rt (.sh ((eT PyData.int) y))
abbrev st_l_plain : Stmt := top 23
abbrev NN_l_plain : List Str := ["_law_pegs", "_law_peg"]
theorem sc_l_plain : FnScope NN_l_plain ["_law_pegs"] (defScope st_l_plain) := ⟨rfl, rfl, rfl, by decide +kernel, rfl, by decide +kernel, by decide +kernel⟩
abbrev I_l_plain : List PyData → Rv → Prop := Im (fun (a : (Int)) => [PyData.int a]) (fun (y : (List Int)) => Rv.sh ((eT PyData.int) y)) (fun a => l_plain a)
theorem fn_l_plain {P : Program} {w : World} {K : PySem.W.Frag} {mg : Str → Option Value} {base : Heap} {f : Addr} {fd : FuncData} (F : FunD K "_law_plain" "_law_plain" (defArgs st_l_plain) (defBody st_l_plain) (defScope st_l_plain) [] [] f fd) (hg : mg "_law_plain" = some (.ref f)) (T : Tx K mg)  : Fn P w K mg base "_law_plain" 1 I_l_plain := by
  refine ⟨f, fd, ["_law_pegs"], fn_ok (N := NN_l_plain) (en := encR_l_plain) F sc_l_plain (fun _ => rfl) (fun _ => .inl rfl) (fun cdv A' outer s H E hr => ⟨_, (pss_cons (ps_ret (pe_callTy (call_tupleK (K := K)) (by rfl) T.tuple (by decide +kernel) (pa_cons (pe_op op_cat (pe_lc (own := [("_law_peg", 1)]) (tt := tYes) rfl sc_l_plain.nd (pi_range1 (by rfl) T.range (pa_cons (pv 0) pa_nil)) (blkOk_by (N := NN_l_plain) (sc := defScope st_l_plain) (by decide +kernel)) (fun _ _ _ _ _ => (pg_name (i := 1) sc_l_plain.nd rfl (by first | exact Or.inl rfl | exact Or.inr rfl))) (fun _ _ _ _ _ => pts_nil) (fun _ _ _ _ _ => (pe_op op_add (pv 0) (pv 1)))) (pe_listRg rfl (by rfl) T.list (prg_1 (by rfl) T.range (pv 0)))) pa_nil))) pss_never), fun v_pegs => ?_⟩), hg, F.kp, F.bindsN fun _ _ _ _ _ _ us hl => match us, hl with | [_], _ => rfl⟩
  exact (show BX K _ [.sh (PyData.int v_pegs), .un] encR_l_plain (l_plain v_pegs) from
   (bx_bind fun g1 hg1 => (bx_bind fun g3 hg3 => (bx_bind fun g4 hg4 => (bx_retS (ex_tupL (EXw.l (exw_catT (EXw.l (exw_lcm (e := PyData.int) (e' := PyData.int) (envB := (fun x2 => [.sh (PyData.int v_pegs), .sh (PyData.int x2)])) (EIs.i (eis_rng1 (ex_var (i := 0) rfl) (grd_ok hg1))) (fun x2 _ => (egc_name (i := 1) (by decide))) (fun x2 _ => (ex_add (ex_var (i := 0) rfl) (ex_var (i := 1) rfl))))) (EXw.l (exw_listRg1 (ex_var (i := 0) rfl) (grd_ok hg3))) (grd_ok hg4)))) rfl)))))
abbrev encR_l_rings_by (y : Int) : Out := .rt (.sh (PyData.int y))
abbrev st_l_rings_by : Stmt := top 24
abbrev NN_l_rings_by : List Str := ["_law_high", "_law_low", "_law_inner", "_law_pegs", "_law_head", "_law_peg", "_law_other", "_law_keep", "_law_go", "_law_one"]
theorem sc_l_rings_by : FnScope NN_l_rings_by ["_law_high", "_law_low", "_law_inner"] (defScope st_l_rings_by) := ⟨rfl, rfl, rfl, by decide +kernel, rfl, by decide +kernel, by decide +kernel⟩
abbrev I_l_rings_by : List PyData → Rv → Prop := Im (fun (a : ((List Int) × (List Int) × (List Int))) => [(eT PyData.int) a.1, (eT PyData.int) a.2.1, (eL PyData.int) a.2.2]) (fun (y : Int) => Rv.sh (PyData.int y)) (fun a => l_rings_by a.1 a.2.1 a.2.2)
theorem fn_l_rings_by {P : Program} {w : World} {K : PySem.W.Frag} {mg : Str → Option Value} {base : Heap} {f : Addr} {fd : FuncData} (F : FunD K "_law_rings_by" "_law_rings_by" (defArgs st_l_rings_by) (defBody st_l_rings_by) (defScope st_l_rings_by) [] [] f fd) (hg : mg "_law_rings_by" = some (.ref f)) (T : Tx K mg)  : Fn P w K mg base "_law_rings_by" 1 I_l_rings_by := by
  refine ⟨f, fd, ["_law_high", "_law_low", "_law_inner"], fn_ok (N := NN_l_rings_by) (en := encR_l_rings_by) F sc_l_rings_by (fun _ => rfl) (fun _ => .inl rfl) (fun cdv A' outer s H E hr => ⟨_, (pss_cons (ps_set (i := 3) sc_l_rings_by.nd rfl (by first | exact Or.inl rfl | exact Or.inr rfl) (pe_op op_fdivW (pe_callB (call_lenK (K := K)) (by rfl) T.len (by decide +kernel) (pa_cons (pv 0) pa_nil)) pe_int)) (pss_cons (ps_set (i := 4) sc_l_rings_by.nd rfl (by first | exact Or.inl rfl | exact Or.inr rfl) pe_dnewK) (pss_cons (ps_for PassesOwn.never rfl (pi_listK (K := K) (pv 2)) (pg_name (i := 5) sc_l_rings_by.nd rfl (by first | exact Or.inl rfl | exact Or.inr rfl)) (pss_cons (ps_dput (un1 hr.units) (pv 4) (pv 5) (pv 5) (by rfl)) pss_nil)) (pss_cons (ps_for PassesOwn.never rfl (pi_listK (K := K) (pv 2)) (pg_name (i := 5) sc_l_rings_by.nd rfl (by first | exact Or.inl rfl | exact Or.inr rfl)) (pss_cons (ps_for PassesOwn.never rfl (pi_tupK (K := K) (pe_tup (pa_cons (pe_ix (ix_tupK (K := K)) (pv 1) (pv 5) (fun _ _ => rfl)) (pa_cons (pe_op op_sub (pe_ix (ix_tupK (K := K)) (pv 0) (pe_op op_add (pv 3) (pv 5)) (fun _ _ => rfl)) (pv 3)) pa_nil)))) (pg_name (i := 6) sc_l_rings_by.nd rfl (by first | exact Or.inl rfl | exact Or.inr rfl)) (pss_cons (ps_par (i := 7) (j := 8) (by rfl) sc_l_rings_by.nd rfl rfl (by decide) rfl rfl (pa_cons (pe_dget (un1 hr.units) (pv 4) (pv 5) (fun _ _ => rfl)) (pa_cons (pe_dget (un1 hr.units) (pv 4) (pv 6) (fun _ _ => rfl)) pa_nil)) (by rfl)) (pss_cons (ps_for PassesOwn.never rfl (pi_listK (K := K) (pv 2)) (pg_name (i := 9) sc_l_rings_by.nd rfl (by first | exact Or.inl rfl | exact Or.inr rfl)) (pss_cons (ps_if (pt_cmpR op_eq (pe_dget (un1 hr.units) (pv 4) (pv 9) (fun _ _ => rfl)) (pv 8) (nomark _)) (pss_cons (ps_dput (un1 hr.units) (pv 4) (pv 9) (pv 7) (by rfl)) pss_nil) pss_nil) pss_nil)) pss_nil))) pss_nil)) (pss_cons (ps_ret (pe_lenSetN (K := K) rfl (by rfl) T.len (by rfl) T.set (pe_lc (own := [("_law_peg", 5)]) (tt := tYes) rfl sc_l_rings_by.nd (pi_listK (K := K) (pv 2)) (blkOk_by (N := NN_l_rings_by) (sc := defScope st_l_rings_by) (by decide +kernel)) (fun _ _ _ _ _ => (pg_name (i := 5) sc_l_rings_by.nd rfl (by first | exact Or.inl rfl | exact Or.inr rfl))) (fun _ _ _ _ _ => pts_nil) (fun _ _ _ _ _ => (pe_dget (un1 hr.units) (pv 4) (pv 5) (fun _ _ => rfl)))))) pss_never))))), fun a => ?_⟩), hg, F.kp, F.bindsN fun _ _ _ _ _ _ us hl => match us, hl with | [_, _, _], _ => rfl⟩
  obtain ⟨v_high, v_low, v_inner⟩ := a
  exact (show BX K _ [.sh ((eT PyData.int) v_high), .sh ((eT PyData.int) v_low), .sh ((eL PyData.int) v_inner), .un, .un, .un, .un, .un, .un, .un] encR_l_rings_by (l_rings_by v_high v_low v_inner) from
   (bx_asgB (e := PyData.int) (i := 3) (ex_fdiv (ex_lenT (ex_var (i := 0) rfl)) ex_int ⟨by decide, by decide +kernel⟩) (fun v_pegs_1 => (bx_newK (kf := kI) (e := PyData.int) (β := Int) (i := 4) (bx_then (envS := (fun (s_1 : (List (Int × Int))) => [.sh ((eT PyData.int) v_high), .sh ((eT PyData.int) v_low), .sh ((eL PyData.int) v_inner), .sh (PyData.int v_pegs_1), .dk (s_1.map (kvE kI PyData.int)), .un, .un, .un, .un, .un])) (bx_forS (envS := (fun (s_1 : (List (Int × Int))) => [.sh ((eT PyData.int) v_high), .sh ((eT PyData.int) v_low), .sh ((eL PyData.int) v_inner), .sh (PyData.int v_pegs_1), .dk (s_1.map (kvE kI PyData.int)), .un, .un, .un, .un, .un])) (e := PyData.int) (envB := (fun (s_1 : (List (Int × Int))) (x2 : Int) => [.sh ((eT PyData.int) v_high), .sh ((eT PyData.int) v_low), .sh ((eL PyData.int) v_inner), .sh (PyData.int v_pegs_1), .dk (s_1.map (kvE kI PyData.int)), .sh (PyData.int x2), .un, .un, .un, .un])) (f := l_rings_by_for1) (eis_list (ex_var (i := 2) rfl)) (.same (.same (.same (.same (.same (.un (.un (.un (.un (.un .nil)))))))))) (fun s_1 x2 _ => EGc.eg (vs := [5]) (egc_name (i := 5) (by decide))) (fun s_1 x2 _ => (bx_bind fun u3 hu3 => (bx_dputK kI_inj (e := PyData.int) (i := 4) rfl (ex_var (i := 5) rfl) (ex_var (i := 5) rfl) hu3 (bx_nx (.same (.same (.same (.same (.same (.un (.un (.un (.un (.un .nil)))))))))) rfl))))) (fun s4 _ => (bx_then (envS := (fun (s_2 : (List (Int × Int))) => [.sh ((eT PyData.int) v_high), .sh ((eT PyData.int) v_low), .sh ((eL PyData.int) v_inner), .sh (PyData.int v_pegs_1), .dk (s_2.map (kvE kI PyData.int)), .un, .un, .un, .un, .un])) (bx_forS (envS := (fun (s_2 : (List (Int × Int))) => [.sh ((eT PyData.int) v_high), .sh ((eT PyData.int) v_low), .sh ((eL PyData.int) v_inner), .sh (PyData.int v_pegs_1), .dk (s_2.map (kvE kI PyData.int)), .un, .un, .un, .un, .un])) (e := PyData.int) (envB := (fun (s_2 : (List (Int × Int))) (x5 : Int) => [.sh ((eT PyData.int) v_high), .sh ((eT PyData.int) v_low), .sh ((eL PyData.int) v_inner), .sh (PyData.int v_pegs_1), .dk (s_2.map (kvE kI PyData.int)), .sh (PyData.int x5), .un, .un, .un, .un])) (f := (l_rings_by_for2 v_high v_low v_inner v_pegs_1)) (eis_list (ex_var (i := 2) rfl)) (.same (.same (.same (.same (.same (.un (.un (.un (.un (.un .nil)))))))))) (fun s_2 x5 _ => EGc.eg (vs := [5]) (egc_name (i := 5) (by decide))) (fun s_2 x5 _ => (bx_bind fun u6 hu6 => (bx_bind fun u7 hu7 => (bx_then (envS := (fun (s_3 : (List (Int × Int))) => [.sh ((eT PyData.int) v_high), .sh ((eT PyData.int) v_low), .sh ((eL PyData.int) v_inner), .sh (PyData.int v_pegs_1), .dk (s_3.map (kvE kI PyData.int)), .sh (PyData.int x5), .un, .un, .un, .un])) (bx_forS (envS := (fun (s_3 : (List (Int × Int))) => [.sh ((eT PyData.int) v_high), .sh ((eT PyData.int) v_low), .sh ((eL PyData.int) v_inner), .sh (PyData.int v_pegs_1), .dk (s_3.map (kvE kI PyData.int)), .sh (PyData.int x5), .un, .un, .un, .un])) (e := PyData.int) (envB := (fun (s_3 : (List (Int × Int))) (x8 : Int) => [.sh ((eT PyData.int) v_high), .sh ((eT PyData.int) v_low), .sh ((eL PyData.int) v_inner), .sh (PyData.int v_pegs_1), .dk (s_3.map (kvE kI PyData.int)), .sh (PyData.int x5), .sh (PyData.int x8), .un, .un, .un])) (f := (l_rings_by_for3 v_inner x5)) (eis_tup (ex_tup (ea_cons (ex_ixT (ex_var (i := 1) rfl) (ex_var (i := 5) rfl) (atI_map hu6)) (ea_cons (ex_sub (ex_ixT (ex_var (i := 0) rfl) (ex_add (ex_var (i := 3) rfl) (ex_var (i := 5) rfl)) (atI_map hu7)) (ex_var (i := 3) rfl)) ea_nil)) (Nat.le_of_ble_eq_true rfl))) (.same (.same (.same (.same (.same (.same (.un (.un (.un (.un .nil)))))))))) (fun s_3 x8 _ => EGc.eg (vs := [6]) (egc_name (i := 6) (by decide))) (fun s_3 x8 _ => (bx_bind fun u9 hu9 => (bx_bind fun u10 hu10 => (bx_par (i := 7) (j := 8) (ex_dgetK kI_inj (e := PyData.int) (i := 4) rfl (ex_var (i := 5) rfl) hu9) (ex_dgetK kI_inj (e := PyData.int) (i := 4) rfl (ex_var (i := 6) rfl) hu10) (bx_then (envS := (fun (s_4 : (List (Int × Int))) => [.sh ((eT PyData.int) v_high), .sh ((eT PyData.int) v_low), .sh ((eL PyData.int) v_inner), .sh (PyData.int v_pegs_1), .dk (s_4.map (kvE kI PyData.int)), .sh (PyData.int x5), .sh (PyData.int x8), .sh (PyData.int u9), .sh (PyData.int u10), .un])) (bx_forS (envS := (fun (s_4 : (List (Int × Int))) => [.sh ((eT PyData.int) v_high), .sh ((eT PyData.int) v_low), .sh ((eL PyData.int) v_inner), .sh (PyData.int v_pegs_1), .dk (s_4.map (kvE kI PyData.int)), .sh (PyData.int x5), .sh (PyData.int x8), .sh (PyData.int u9), .sh (PyData.int u10), .un])) (e := PyData.int) (envB := (fun (s_4 : (List (Int × Int))) (x11 : Int) => [.sh ((eT PyData.int) v_high), .sh ((eT PyData.int) v_low), .sh ((eL PyData.int) v_inner), .sh (PyData.int v_pegs_1), .dk (s_4.map (kvE kI PyData.int)), .sh (PyData.int x5), .sh (PyData.int x8), .sh (PyData.int u9), .sh (PyData.int u10), .sh (PyData.int x11)])) (f := (l_rings_by_for4 u9 u10)) (eis_list (ex_var (i := 2) rfl)) (.same (.same (.same (.same (.same (.same (.same (.same (.same (.un .nil)))))))))) (fun s_4 x11 _ => EGc.eg (vs := [9]) (egc_name (i := 9) (by decide))) (fun s_4 x11 _ => (bx_bind fun u12 hu12 => (bx_last (bx_if (et_of (ex_eqI (ex_dgetK kI_inj (e := PyData.int) (i := 4) rfl (ex_var (i := 9) rfl) hu12) (ex_var (i := 8) rfl))) (fun _ => (bx_bind fun u13 hu13 => (bx_dputK kI_inj (e := PyData.int) (i := 4) rfl (ex_var (i := 7) rfl) (ex_var (i := 9) rfl) hu13 (bx_nx (.same (.same (.same (.same (.same (.same (.same (.same (.same (.un .nil)))))))))) rfl)))) (fun _ => (bx_nx (.same (.same (.same (.same (.same (.same (.same (.same (.same (.un .nil)))))))))) rfl))))))) (fun s14 _ => (bx_nx (.same (.same (.same (.same (.same (.same (.un (.un (.un (.un .nil)))))))))) rfl)))))))) (fun s15 _ => (bx_nx (.same (.same (.same (.same (.same (.un (.un (.un (.un (.un .nil)))))))))) rfl))))))) (fun s16 _ => (bx_bind fun u19 hu19 => (bx_bind fun g20 hg20 => (bx_retS (ex_lenSetN (EXw.l (exw_lc (e := PyData.int) (e' := PyData.int) (envB := (fun x17 => [.sh ((eT PyData.int) v_high), .sh ((eT PyData.int) v_low), .sh ((eL PyData.int) v_inner), .sh (PyData.int v_pegs_1), .dk (s16.map (kvE kI PyData.int)), .sh (PyData.int x17), .un, .un, .un, .un])) (ei_list (EX.l (ex_var (i := 2) rfl))) hu19 (fun x17 _ => (egc_name (i := 5) (by decide))) (fun x17 _ => (eto_some et_yes)) (fun x17 _ => (exo_bind fun u18 hu18 => (exo_some (e := PyData.int) (ex_dgetK kI_inj (e := PyData.int) (i := 4) rfl (ex_var (i := 5) rfl) hu18)))))) (grd_ok hg20)) rfl)))))))))))
abbrev encR_l_hung (y : ((List Int) × Int)) : Out := .rt (.sh ((eP (eT PyData.int) PyData.int) y))
abbrev st_l_hung : Stmt := top 25
abbrev NN_l_hung : List Str := ["_law_high", "_law_low", "_law_pegs", "_law_near", "_law_peg", "_law_found", "_law_gone", "_law_here", "_law_turn"]
theorem sc_l_hung : FnScope NN_l_hung ["_law_high", "_law_low"] (defScope st_l_hung) := ⟨rfl, rfl, rfl, by decide +kernel, rfl, by decide +kernel, by decide +kernel⟩
abbrev I_l_hung : List PyData → Rv → Prop := Im (fun (a : ((List Int) × (List Int))) => [(eT PyData.int) a.1, (eT PyData.int) a.2]) (fun (y : ((List Int) × Int)) => Rv.sh ((eP (eT PyData.int) PyData.int) y)) (fun a => l_hung a.1 a.2)
theorem fn_l_hung {P : Program} {w : World} {K : PySem.W.Frag} {mg : Str → Option Value} {base : Heap} {f : Addr} {fd : FuncData} (F : FunD K "_law_hung" "_law_hung" (defArgs st_l_hung) (defBody st_l_hung) (defScope st_l_hung) [] [] f fd) (hg : mg "_law_hung" = some (.ref f)) (T : Tx K mg) (G__law_rings_by : Fn P w K mg base "_law_rings_by" 1 I_l_rings_by) : Fn P w K mg base "_law_hung" 2 I_l_hung := by
  refine ⟨f, fd, ["_law_high", "_law_low"], fn_ok (N := NN_l_hung) (en := encR_l_hung) F sc_l_hung (fun _ => rfl) (fun _ => .inl rfl) (fun cdv A' outer s H E hr => ⟨_, (pss_cons (ps_set (i := 2) sc_l_hung.nd rfl (by first | exact Or.inl rfl | exact Or.inr rfl) (pe_op op_fdivW (pe_callB (call_lenK (K := K)) (by rfl) T.len (by decide +kernel) (pa_cons (pv 0) pa_nil)) pe_int)) (pss_cons (ps_set (i := 3) sc_l_hung.nd rfl (by first | exact Or.inl rfl | exact Or.inr rfl) pe_dnewT) (pss_cons (ps_for PassesOwn.never rfl (pi_range1 (by rfl) T.range (pa_cons (pe_op op_mul pe_int (pv 2)) pa_nil)) (pg_name (i := 4) sc_l_hung.nd rfl (by first | exact Or.inl rfl | exact Or.inr rfl)) (pss_cons (ps_dput (un1 hr.units) (pv 3) (pe_tup (pa_cons pe_str (pa_cons (pv 4) pa_nil))) (pe_tup (pa_cons pe_str (pa_cons (pe_ix (ix_tupK (K := K)) (pv 0) (pv 4) (fun _ _ => rfl)) pa_nil))) (by rfl)) (pss_cons (ps_dput (un1 hr.units) (pv 3) (pe_tup (pa_cons pe_str (pa_cons (pv 4) pa_nil))) (pe_tup (pa_cons pe_str (pa_cons (pe_ix (ix_tupK (K := K)) (pv 1) (pv 4) (fun _ _ => rfl)) pa_nil))) (by rfl)) pss_nil))) (pss_cons (ps_set (i := 5) sc_l_hung.nd rfl (by first | exact Or.inl rfl | exact Or.inr rfl) (pe_lst pa_nil)) (pss_cons (ps_set (i := 6) sc_l_hung.nd rfl (by first | exact Or.inl rfl | exact Or.inr rfl) pe_dnewK) (pss_cons (ps_for PassesOwn.never rfl (pi_range1 (by rfl) T.range (pa_cons (pe_op op_mul pe_int (pv 2)) pa_nil)) (pg_name (i := 4) sc_l_hung.nd rfl (by first | exact Or.inl rfl | exact Or.inr rfl)) (pss_cons (ps_set (i := 7) sc_l_hung.nd rfl (by first | exact Or.inl rfl | exact Or.inr rfl) (pe_dget (un1 hr.units) (pv 3) (pe_tup (pa_cons (pe_ix (ix_listK (K := K)) (pe_lst (pa_cons pe_str (pa_cons pe_str pa_nil))) (pe_callTy call_int1 (by rfl) T.int (by decide +kernel) (pa_cons (pe_cmpR op_ge (pv 4) (pv 2) (nomark _)) pa_nil)) (fun _ _ => rfl)) (pa_cons (pv 4) pa_nil))) (fun _ _ => rfl))) (pss_cons (ps_for PassesOwn.never rfl (pi_range1 (by rfl) T.range (pa_cons (pe_op op_mul pe_int (pv 2)) pa_nil)) (pg_name (i := 8) sc_l_hung.nd rfl (by first | exact Or.inl rfl | exact Or.inr rfl)) (pss_cons (ps_if (pt_cmpR op_eq (pe_cmpR op_eq (pe_ix (ix_tupK (K := K)) (pv 7) pe_int (fun _ _ => rfl)) pe_str (nomark _)) (pe_cmpR op_ge (pe_ix (ix_tupK (K := K)) (pv 7) pe_int (fun _ _ => rfl)) (pv 2) (nomark _)) (nomark _)) (pss_cons (ps_dput (un1 hr.units) (pv 6) (pe_op op_mod (pe_ix (ix_tupK (K := K)) (pv 7) pe_int (fun _ _ => rfl)) (pv 2)) pe_bl (by rfl)) (pss_cons (ps_set (i := 7) sc_l_hung.nd rfl (by first | exact Or.inl rfl | exact Or.inr rfl) (pe_dget (un1 hr.units) (pv 3) (pe_tup (pa_cons (pe_ix (ix_listK (K := K)) (pe_lst (pa_cons pe_str (pa_cons pe_str pa_nil))) (pe_callTy call_int1 (by rfl) T.int (by decide +kernel) (pa_cons (pe_cmpR op_eq (pe_ix (ix_tupK (K := K)) (pv 7) pe_int (fun _ _ => rfl)) pe_str (nomark _)) pa_nil)) (fun _ _ => rfl)) (pa_cons (pe_op op_mod (pe_op op_add (pe_ix (ix_tupK (K := K)) (pv 7) pe_int (fun _ _ => rfl)) (pv 2)) (pe_op op_mul pe_int (pv 2))) pa_nil))) (fun _ _ => rfl))) pss_nil)) pss_nil) pss_nil)) (pss_cons (ps_expr (pe_bm PySem.F.plainAttrs_list PySem.F.slot_list_append PySem.F.type_list_append mt_append (pv 5) (pa_cons (pe_ix (ix_tupK (K := K)) (pv 7) pe_int (fun _ _ => rfl)) pa_nil))) pss_nil)))) (pss_cons (ps_ret (pe_tup (pa_cons (pe_callTy (call_tupleK (K := K)) (by rfl) T.tuple (by decide +kernel) (pa_cons (pv 5) pa_nil)) (pa_cons (pe_fn G__law_rings_by (hr.mono (by decide)) (by rfl) (pa_cons (pv 0) (pa_cons (pv 1) (pa_cons (pe_lc (own := [("_law_peg", 4)]) rfl sc_l_hung.nd (pi_range1 (by rfl) T.range (pa_cons (pv 2) pa_nil)) (blkOk_by (N := NN_l_hung) (sc := defScope st_l_hung) (by decide +kernel)) (fun _ _ _ _ _ => (pg_name (i := 4) sc_l_hung.nd rfl (by first | exact Or.inl rfl | exact Or.inr rfl))) (fun _ _ _ _ _ => (pts_one (pt_cmp (pc_dnotin (un1 hr.units) (pv 4) (pv 6)) (by rfl)))) (fun _ _ _ _ _ => (pv 4))) pa_nil)))) pa_nil)))) pss_never))))))), fun a => ?_⟩), hg, F.kp, F.bindsN fun _ _ _ _ _ _ us hl => match us, hl with | [_, _], _ => rfl⟩
  obtain ⟨v_high, v_low⟩ := a
  exact (show BX K _ [.sh ((eT PyData.int) v_high), .sh ((eT PyData.int) v_low), .un, .un, .un, .un, .un, .un, .un] encR_l_hung (l_hung v_high v_low) from
   (bx_asgB (e := PyData.int) (i := 2) (ex_fdiv (ex_lenT (ex_var (i := 0) rfl)) ex_int ⟨by decide, by decide +kernel⟩) (fun v_pegs_1 => (bx_newT (kf := kP) (e := (eP PyData.str PyData.int)) (β := (Str × Int)) (i := 3) (bx_bind fun g2 hg2 => (bx_then (envS := (fun (s_1 : (List ((Str × Int) × (Str × Int)))) => [.sh ((eT PyData.int) v_high), .sh ((eT PyData.int) v_low), .sh (PyData.int v_pegs_1), .dt (s_1.map (kvE kP (eP PyData.str PyData.int))), .un, .un, .un, .un, .un])) (bx_forS (envS := (fun (s_1 : (List ((Str × Int) × (Str × Int)))) => [.sh ((eT PyData.int) v_high), .sh ((eT PyData.int) v_low), .sh (PyData.int v_pegs_1), .dt (s_1.map (kvE kP (eP PyData.str PyData.int))), .un, .un, .un, .un, .un])) (e := PyData.int) (envB := (fun (s_1 : (List ((Str × Int) × (Str × Int)))) (x3 : Int) => [.sh ((eT PyData.int) v_high), .sh ((eT PyData.int) v_low), .sh (PyData.int v_pegs_1), .dt (s_1.map (kvE kP (eP PyData.str PyData.int))), .sh (PyData.int x3), .un, .un, .un, .un])) (f := (l_hung_for1 v_high v_low)) (eis_rng1 (ex_mul ex_int (ex_var (i := 2) rfl) (.inl ⟨by decide, by decide⟩)) (grd_ok hg2)) (.same (.same (.same (.same (.un (.un (.un (.un (.un .nil))))))))) (fun s_1 x3 _ => EGc.eg (vs := [4]) (egc_name (i := 4) (by decide))) (fun s_1 x3 _ => (bx_bind fun u4 hu4 => (bx_bind fun u5 hu5 => (bx_dputT kP_inj (e := (eP PyData.str PyData.int)) (i := 3) rfl (ex_tup (ea_cons (ex_str (Nat.le_of_ble_eq_true rfl)) (ea_cons (ex_ixT (ex_var (i := 0) rfl) (ex_var (i := 4) rfl) (atI_map hu4)) ea_nil)) (Nat.le_of_ble_eq_true rfl)) (ex_tup (ea_cons (ex_str (Nat.le_of_ble_eq_true rfl)) (ea_cons (ex_var (i := 4) rfl) ea_nil)) (Nat.le_of_ble_eq_true rfl)) hu5 (bx_bind fun u6 hu6 => (bx_bind fun u7 hu7 => (bx_dputT kP_inj (e := (eP PyData.str PyData.int)) (i := 3) rfl (ex_tup (ea_cons (ex_str (Nat.le_of_ble_eq_true rfl)) (ea_cons (ex_ixT (ex_var (i := 1) rfl) (ex_var (i := 4) rfl) (atI_map hu6)) ea_nil)) (Nat.le_of_ble_eq_true rfl)) (ex_tup (ea_cons (ex_str (Nat.le_of_ble_eq_true rfl)) (ea_cons (ex_var (i := 4) rfl) ea_nil)) (Nat.le_of_ble_eq_true rfl)) hu7 (bx_nx (.same (.same (.same (.same (.un (.un (.un (.un (.un .nil))))))))) rfl))))))))) (fun s8 _ => (bx_asgW (exw_lst (ds := (([] : (List Int)) : (List Int)).map PyData.int) ea_nil (Nat.le_of_ble_eq_true rfl)) (bx_newK (kf := kI) (e := PyData.bool) (β := Bool) (i := 6) (bx_bind fun g9 hg9 => (bx_then (envS := (fun (s_2 : (List Int) × (List (Int × Bool))) => [.sh ((eT PyData.int) v_high), .sh ((eT PyData.int) v_low), .sh (PyData.int v_pegs_1), .dt (s8.map (kvE kP (eP PyData.str PyData.int))), .un, .ow (s_2.1.map PyData.int), .dk (s_2.2.map (kvE kI PyData.bool)), .un, .un])) (bx_forS (envS := (fun (s_2 : (List Int) × (List (Int × Bool))) => [.sh ((eT PyData.int) v_high), .sh ((eT PyData.int) v_low), .sh (PyData.int v_pegs_1), .dt (s8.map (kvE kP (eP PyData.str PyData.int))), .un, .ow (s_2.1.map PyData.int), .dk (s_2.2.map (kvE kI PyData.bool)), .un, .un])) (e := PyData.int) (envB := (fun (s_2 : (List Int) × (List (Int × Bool))) (x10 : Int) => [.sh ((eT PyData.int) v_high), .sh ((eT PyData.int) v_low), .sh (PyData.int v_pegs_1), .dt (s8.map (kvE kP (eP PyData.str PyData.int))), .sh (PyData.int x10), .ow (s_2.1.map PyData.int), .dk (s_2.2.map (kvE kI PyData.bool)), .un, .un])) (f := (l_hung_for2 v_pegs_1 s8)) (eis_rng1 (ex_mul ex_int (ex_var (i := 2) rfl) (.inl ⟨by decide, by decide⟩)) (grd_ok hg9)) (.same (.same (.same (.same (.un (.same (.same (.un (.un .nil))))))))) (fun s_2 x10 _ => EGc.eg (vs := [4]) (egc_name (i := 4) (by decide))) (fun s_2 x10 _ => (bx_bind fun u11 hu11 => (bx_bind fun u12 hu12 => (bx_asg (d := (eP PyData.str PyData.int) u12) (ex_dgetT kP_inj (e := (eP PyData.str PyData.int)) (i := 3) rfl (ex_tup (ea_cons (ex_ixL (EXw.l (exw_lst (ds := ([(Str.ofString "high"), (Str.ofString "low")] : (List Str)).map PyData.str) (ea_cons (ex_str (Nat.le_of_ble_eq_true rfl)) (ea_cons (ex_str (Nat.le_of_ble_eq_true rfl)) ea_nil)) (Nat.le_of_ble_eq_true rfl))) (ex_intB (ex_ge (ex_var (i := 4) rfl) (ex_var (i := 2) rfl))) (atI_map hu11)) (ea_cons (ex_var (i := 4) rfl) ea_nil)) (Nat.le_of_ble_eq_true rfl)) hu12) (EGc.eg (egc_name (i := 7) (vs := [7]) (by decide))) (bx_bind fun g13 hg13 => (bx_then (envS := (fun (s_3 : (List (Int × Bool)) × (Str × Int)) => [.sh ((eT PyData.int) v_high), .sh ((eT PyData.int) v_low), .sh (PyData.int v_pegs_1), .dt (s8.map (kvE kP (eP PyData.str PyData.int))), .sh (PyData.int x10), .ow (s_2.1.map PyData.int), .dk (s_3.1.map (kvE kI PyData.bool)), .sh ((eP PyData.str PyData.int) s_3.2), .un])) (bx_forS (envS := (fun (s_3 : (List (Int × Bool)) × (Str × Int)) => [.sh ((eT PyData.int) v_high), .sh ((eT PyData.int) v_low), .sh (PyData.int v_pegs_1), .dt (s8.map (kvE kP (eP PyData.str PyData.int))), .sh (PyData.int x10), .ow (s_2.1.map PyData.int), .dk (s_3.1.map (kvE kI PyData.bool)), .sh ((eP PyData.str PyData.int) s_3.2), .un])) (e := PyData.int) (envB := (fun (s_3 : (List (Int × Bool)) × (Str × Int)) (x14 : Int) => [.sh ((eT PyData.int) v_high), .sh ((eT PyData.int) v_low), .sh (PyData.int v_pegs_1), .dt (s8.map (kvE kP (eP PyData.str PyData.int))), .sh (PyData.int x10), .ow (s_2.1.map PyData.int), .dk (s_3.1.map (kvE kI PyData.bool)), .sh ((eP PyData.str PyData.int) s_3.2), .sh (PyData.int x14)])) (f := (l_hung_for3 v_pegs_1 s8)) (eis_rng1 (ex_mul ex_int (ex_var (i := 2) rfl) (.inl ⟨by decide, by decide⟩)) (grd_ok hg13)) (.same (.same (.same (.same (.same (.same (.same (.same (.un .nil))))))))) (fun s_3 x14 _ => EGc.eg (vs := [8]) (egc_name (i := 8) (by decide))) (fun s_3 x14 _ => (bx_last (bx_if (et_of (ex_eqB (ex_eqS (ex_ixT (ex_var (i := 7) rfl) ex_int rfl) (ex_str (Nat.le_of_ble_eq_true rfl))) (ex_ge (ex_ixT (ex_var (i := 7) rfl) ex_int rfl) (ex_var (i := 2) rfl)))) (fun _ => (bx_bind fun g15 hg15 => (bx_bind fun u16 hu16 => (bx_dputK kI_inj (e := PyData.bool) (i := 6) rfl ex_bl (ex_mod (ex_ixT (ex_var (i := 7) rfl) ex_int rfl) (ex_var (i := 2) rfl) (grd_ok hg15)) hu16 (bx_bind fun u17 hu17 => (bx_bind fun g18 hg18 => (bx_bind fun u19 hu19 => (bx_asg (d := (eP PyData.str PyData.int) u19) (ex_dgetT kP_inj (e := (eP PyData.str PyData.int)) (i := 3) rfl (ex_tup (ea_cons (ex_ixL (EXw.l (exw_lst (ds := ([(Str.ofString "high"), (Str.ofString "low")] : (List Str)).map PyData.str) (ea_cons (ex_str (Nat.le_of_ble_eq_true rfl)) (ea_cons (ex_str (Nat.le_of_ble_eq_true rfl)) ea_nil)) (Nat.le_of_ble_eq_true rfl))) (ex_intB (ex_eqS (ex_ixT (ex_var (i := 7) rfl) ex_int rfl) (ex_str (Nat.le_of_ble_eq_true rfl)))) (atI_map hu17)) (ea_cons (ex_mod (ex_add (ex_ixT (ex_var (i := 7) rfl) ex_int rfl) (ex_var (i := 2) rfl)) (ex_mul ex_int (ex_var (i := 2) rfl) (.inl ⟨by decide, by decide⟩)) (grd_ok hg18)) ea_nil)) (Nat.le_of_ble_eq_true rfl)) hu19) (EGc.eg (egc_name (i := 7) (vs := [7]) (by decide))) (bx_nx (.same (.same (.same (.same (.same (.same (.same (.same (.un .nil))))))))) rfl))))))))) (fun _ => (bx_nx (.same (.same (.same (.same (.same (.same (.same (.same (.un .nil))))))))) rfl)))))) (fun s20 _ => (bx_bind fun u21 hu21 => (bx_app (e := PyData.int) (x := s20.2.2) rfl (ex_ixT (ex_var (i := 7) rfl) ex_int rfl) hu21 (bx_nx (.same (.same (.same (.same (.un (.same (.same (.un (.un .nil))))))))) rfl))))))))))) (fun s22 _ => (bx_bind fun g23 hg23 => (bx_bind fun u25 hu25 => (bx_retS (ex_tup (ea_cons (ex_tupL (exl_var (i := 5) rfl)) (ea_cons (ex_call (ea_cons (ex_var (i := 0) rfl) (ea_cons (ex_var (i := 1) rfl) (ea_cons (EXw.sh (exw_lcp (e := PyData.int) (e' := PyData.int) (envB := (fun x24 => [.sh ((eT PyData.int) v_high), .sh ((eT PyData.int) v_low), .sh (PyData.int v_pegs_1), .dt (s8.map (kvE kP (eP PyData.str PyData.int))), .sh (PyData.int x24), .ow (s22.1.map PyData.int), .dk (s22.2.map (kvE kI PyData.bool)), .un, .un])) (EIs.i (eis_rng1 (ex_var (i := 2) rfl) (grd_ok hg23))) (fun x24 _ => (egc_name (i := 4) (by decide))) (fun x24 _ => (et_B (ex_dninK kI_inj (e := PyData.bool) (i := 6) rfl (ex_var (i := 4) rfl)))) (fun x24 _ => (ex_var (i := 4) rfl)))) ea_nil))) ⟨(v_high, v_low, (((rng 0 v_pegs_1).filter fun (x24 : Int) => (!(lookA s22.2 x24).isSome)).map fun (x24 : Int) => x24)), u25, rfl, hu25, rfl⟩) ea_nil)) (Nat.le_of_ble_eq_true rfl)) rfl)))))))))))))))
abbrev encR_l_hook (y : (List Int)) : Out := .rt (.sh ((eT PyData.int) y))
abbrev st_l_hook : Stmt := top 26
abbrev NN_l_hook : List Str := ["_law_pegs", "_law_number", "_law_found", "_law_start"]
theorem sc_l_hook : FnScope NN_l_hook ["_law_pegs", "_law_number"] (defScope st_l_hook) := ⟨rfl, rfl, rfl, by decide +kernel, rfl, by decide +kernel, by decide +kernel⟩
abbrev I_l_hook : List PyData → Rv → Prop := Im (fun (a : (Int × Int)) => [PyData.int a.1, PyData.int a.2]) (fun (y : (List Int)) => Rv.sh ((eT PyData.int) y)) (fun a => l_hook a.1 a.2)
theorem fn_l_hook {P : Program} {w : World} {K : PySem.W.Frag} {mg : Str → Option Value} {base : Heap} {f : Addr} {fd : FuncData} (F : FunD K "_law_hook" "_law_hook" (defArgs st_l_hook) (defBody st_l_hook) (defScope st_l_hook) [] [] f fd) (hg : mg "_law_hook" = some (.ref f)) (T : Tx K mg) (G__law_plain : Fn P w K mg base "_law_plain" 1 I_l_plain) : Fn P w K mg base "_law_hook" 2 I_l_hook := by
  refine ⟨f, fd, ["_law_pegs", "_law_number"], fn_ok (N := NN_l_hook) (en := encR_l_hook) F sc_l_hook (fun _ => rfl) (fun _ => .inl rfl) (fun cdv A' outer s H E hr => ⟨_, (pss_cons (ps_set (i := 2) sc_l_hook.nd rfl (by first | exact Or.inl rfl | exact Or.inr rfl) (pe_callTy (call_listK (K := K)) (by rfl) T.list (by decide +kernel) (pa_cons (pe_fn G__law_plain (hr.mono (by decide)) (by rfl) (pa_cons (pv 0) pa_nil)) pa_nil))) (pss_cons (ps_for PassesOwn.never rfl (pi_tupK (K := K) (pe_tup (pa_cons (pv 1) (pa_cons (pe_op op_add (pv 0) (pv 1)) pa_nil)))) (pg_name (i := 3) sc_l_hook.nd rfl (by first | exact Or.inl rfl | exact Or.inr rfl)) (pss_cons (ps_asg (pe_op op_add (pv 3) pe_int) (pg_sub (pv 2) (pv 3) set_list)) (pss_cons (ps_asg (pv 3) (pg_sub (pv 2) (pe_op op_add (pv 3) pe_int) set_list)) pss_nil))) (pss_cons (ps_ret (pe_callTy (call_tupleK (K := K)) (by rfl) T.tuple (by decide +kernel) (pa_cons (pv 2) pa_nil))) pss_never))), fun a => ?_⟩), hg, F.kp, F.bindsN fun _ _ _ _ _ _ us hl => match us, hl with | [_, _], _ => rfl⟩
  obtain ⟨v_pegs, v_number⟩ := a
  exact (show BX K _ [.sh (PyData.int v_pegs), .sh (PyData.int v_number), .un, .un] encR_l_hook (l_hook v_pegs v_number) from
   (bx_bind fun u1 hu1 => (bx_asgW (exw_listT (ex_call (ea_cons (ex_var (i := 0) rfl) ea_nil) ⟨v_pegs, u1, rfl, hu1, rfl⟩)) (bx_then (envS := (fun (s_1 : (List Int)) => [.sh (PyData.int v_pegs), .sh (PyData.int v_number), .ow (s_1.map PyData.int), .un])) (bx_forS (envS := (fun (s_1 : (List Int)) => [.sh (PyData.int v_pegs), .sh (PyData.int v_number), .ow (s_1.map PyData.int), .un])) (e := PyData.int) (envB := (fun (s_1 : (List Int)) (x2 : Int) => [.sh (PyData.int v_pegs), .sh (PyData.int v_number), .ow (s_1.map PyData.int), .sh (PyData.int x2)])) (f := l_hook_for1) (eis_tup (ex_tup (ea_cons (ex_var (i := 1) rfl) (ea_cons (ex_add (ex_var (i := 0) rfl) (ex_var (i := 1) rfl)) ea_nil)) (Nat.le_of_ble_eq_true rfl))) (.same (.same (.same (.un .nil)))) (fun s_1 x2 _ => EGc.eg (vs := [3]) (egc_name (i := 3) (by decide))) (fun s_1 x2 _ => (bx_bind fun u3 hu3 => (bx_asg (d := PyData.int (x2 + (1 : Int))) (ex_add (ex_var (i := 3) rfl) ex_int) (eg_setI (e := PyData.int) rfl (ex_var (i := 3) rfl) hu3) (bx_bind fun u4 hu4 => (bx_asg (d := PyData.int x2) (ex_var (i := 3) rfl) (eg_setI (e := PyData.int) rfl (ex_add (ex_var (i := 3) rfl) ex_int) hu4) (bx_nx (.same (.same (.same (.un .nil)))) rfl))))))) (fun s5 _ => (bx_retS (ex_tupL (exl_var (i := 2) rfl)) rfl))))))
abbrev encR_l_mix (y : Int) : Out := .rt (.sh (PyData.int y))
abbrev st_l_mix : Stmt := top 27
abbrev NN_l_mix : List Str := ["_law_seed", "_law_one", "_law_two"]
theorem sc_l_mix : FnScope NN_l_mix ["_law_seed"] (defScope st_l_mix) := ⟨rfl, rfl, rfl, by decide +kernel, rfl, by decide +kernel, by decide +kernel⟩
abbrev I_l_mix : List PyData → Rv → Prop := Im (fun (a : (Int)) => [PyData.int a]) (fun (y : Int) => Rv.sh (PyData.int y)) (fun a => l_mix a)
theorem fn_l_mix {P : Program} {w : World} {K : PySem.W.Frag} {mg : Str → Option Value} {base : Heap} {f : Addr} {fd : FuncData} (F : FunD K "_law_mix" "_law_mix" (defArgs st_l_mix) (defBody st_l_mix) (defScope st_l_mix) [] [] f fd) (hg : mg "_law_mix" = some (.ref f)) (T : Tx K mg)  : Fn P w K mg base "_law_mix" 1 I_l_mix := by
  refine ⟨f, fd, ["_law_seed"], fn_ok (N := NN_l_mix) (en := encR_l_mix) F sc_l_mix (fun _ => rfl) (fun _ => .inl rfl) (fun cdv A' outer s H E hr => ⟨_, (pss_cons (ps_set (i := 1) sc_l_mix.nd rfl (by first | exact Or.inl rfl | exact Or.inr rfl) (pe_op op_mod (pe_op op_add (pe_op op_mul (pv 0) pe_int) pe_int) pe_int)) (pss_cons (ps_set (i := 2) sc_l_mix.nd rfl (by first | exact Or.inl rfl | exact Or.inr rfl) (pe_op op_mod (pe_op op_add (pe_op op_add (pe_op op_mul (pv 1) (pv 1)) (pe_op op_mul pe_int (pv 1))) (pv 0)) pe_int)) (pss_cons (ps_ret (pe_op op_mod (pe_op op_add (pe_op op_add (pe_op op_mul (pv 2) (pv 2)) (pe_op op_mul pe_int (pv 2))) (pv 1)) pe_int)) pss_never))), fun v_seed => ?_⟩), hg, F.kp, F.bindsN fun _ _ _ _ _ _ us hl => match us, hl with | [_], _ => rfl⟩
  exact (show BX K _ [.sh (PyData.int v_seed), .un, .un] encR_l_mix (l_mix v_seed) from
   (bx_asgB (e := PyData.int) (i := 1) (ex_mod (ex_add (ex_mul (ex_var (i := 0) rfl) ex_int (.inr ⟨by decide, by decide⟩)) ex_int) ex_int (by decide)) (fun v_one_1 => (bx_bind fun g2 hg2 => (bx_asgB (e := PyData.int) (i := 2) (ex_mod (ex_add (ex_add (ex_mul (ex_var (i := 1) rfl) (ex_var (i := 1) rfl) (grd_ok hg2)) (ex_mul ex_int (ex_var (i := 1) rfl) (.inl ⟨by decide, by decide⟩))) (ex_var (i := 0) rfl)) ex_int (by decide)) (fun v_two_3 => (bx_bind fun g4 hg4 => (bx_retS (ex_mod (ex_add (ex_add (ex_mul (ex_var (i := 2) rfl) (ex_var (i := 2) rfl) (grd_ok hg4)) (ex_mul ex_int (ex_var (i := 2) rfl) (.inl ⟨by decide, by decide⟩))) (ex_var (i := 1) rfl)) ex_int (by decide)) rfl))))))))
abbrev encR_l_raw (y : Int) : Out := .rt (.sh (PyData.int y))
abbrev st_l_raw : Stmt := top 28
abbrev NN_l_raw : List Str := ["_law_script", "_law_k", "_law_cell", "_law_found", "_law_turn"]
theorem sc_l_raw : FnScope NN_l_raw ["_law_script", "_law_k"] (defScope st_l_raw) := ⟨rfl, rfl, rfl, by decide +kernel, rfl, by decide +kernel, by decide +kernel⟩
abbrev I_l_raw : List PyData → Rv → Prop := Im (fun (a : ((List Int) × Int)) => [(eL PyData.int) a.1, PyData.int a.2]) (fun (y : Int) => Rv.sh (PyData.int y)) (fun a => l_raw a.1 a.2)
theorem fn_l_raw {P : Program} {w : World} {K : PySem.W.Frag} {mg : Str → Option Value} {base : Heap} {f : Addr} {fd : FuncData} (F : FunD K "_law_raw" "_law_raw" (defArgs st_l_raw) (defBody st_l_raw) (defScope st_l_raw) [] [] f fd) (hg : mg "_law_raw" = some (.ref f)) (T : Tx K mg) (G__law_mix : Fn P w K mg base "_law_mix" 1 I_l_mix) : Fn P w K mg base "_law_raw" 2 I_l_raw := by
  refine ⟨f, fd, ["_law_script", "_law_k"], fn_ok (N := NN_l_raw) (en := encR_l_raw) F sc_l_raw (fun _ => rfl) (fun _ => .inl rfl) (fun cdv A' outer s H E hr => ⟨_, (pss_cons (ps_set (i := 2) sc_l_raw.nd rfl (by first | exact Or.inl rfl | exact Or.inr rfl) (pe_op op_add (pe_op op_mul pe_int (pv 1)) pe_int)) (pss_cons (ps_if (pt_cmpR op_gt (pe_callB (call_lenK (K := K)) (by rfl) T.len (by decide +kernel) (pa_cons (pv 0) pa_nil)) pe_int (nomark _)) (pss_cons (ps_set (i := 2) sc_l_raw.nd rfl (by first | exact Or.inl rfl | exact Or.inr rfl) (pe_op op_add (pe_ix (ix_listK (K := K)) (pv 0) (pe_op op_mod (pv 1) (pe_callB (call_lenK (K := K)) (by rfl) T.len (by decide +kernel) (pa_cons (pv 0) pa_nil))) (fun _ _ => rfl)) (pe_op op_mul pe_int (pe_op op_fdivW (pv 1) (pe_callB (call_lenK (K := K)) (by rfl) T.len (by decide +kernel) (pa_cons (pv 0) pa_nil)))))) pss_nil) pss_nil) (pss_cons (ps_if (PW.pt (pw_and (pt_cmpR op_lt (pv 1) (pe_callB (call_lenK (K := K)) (by rfl) T.len (by decide +kernel) (pa_cons (pv 0) pa_nil)) (nomark _)) (pw_and1 (pt_cmpR op_ge (pv 2) (pe_op op_pow pe_int pe_int) (nomark _))))) (pss_cons (ps_ret (pe_op op_sub (pv 2) (pe_op op_pow pe_int pe_int))) pss_never) pss_nil) (pss_cons (ps_set (i := 3) sc_l_raw.nd rfl (by first | exact Or.inl rfl | exact Or.inr rfl) pe_int) (pss_cons (ps_for PassesOwn.never rfl (pi_range1 (by rfl) T.range (pa_cons pe_int pa_nil)) (pg_name (i := 4) sc_l_raw.nd rfl (by first | exact Or.inl rfl | exact Or.inr rfl)) (pss_cons (ps_set (i := 3) sc_l_raw.nd rfl (by first | exact Or.inl rfl | exact Or.inr rfl) (pe_op op_add (pe_op op_mul (pv 3) pe_int) (pe_fn G__law_mix (hr.mono (by decide)) (by rfl) (pa_cons (pe_op op_add (pe_op op_add (pv 2) (pe_op op_mul pe_int (pv 1))) (pe_op op_mul pe_int (pv 4))) pa_nil)))) pss_nil)) (pss_cons (ps_ret (pv 3)) pss_never)))))), fun a => ?_⟩), hg, F.kp, F.bindsN fun _ _ _ _ _ _ us hl => match us, hl with | [_, _], _ => rfl⟩
  obtain ⟨v_script, v_k⟩ := a
  exact (show BX K _ [.sh ((eL PyData.int) v_script), .sh (PyData.int v_k), .un, .un, .un] encR_l_raw (l_raw v_script v_k) from
   (bx_asgB (e := PyData.int) (i := 2) (ex_add (ex_mul ex_int (ex_var (i := 1) rfl) (.inl ⟨by decide, by decide⟩)) ex_int) (fun v_cell_1 => (bx_then (envS := fun (s2 : Int) => [.sh ((eL PyData.int) v_script), .sh (PyData.int v_k), .sh (PyData.int s2), .un, .un]) (bx_if (et_of (ex_gt (ex_lenL (EX.l (ex_var (i := 0) rfl))) ex_int)) (fun _ => (bx_bind fun g3 hg3 => (bx_bind fun u4 hu4 => (bx_bind fun g5 hg5 => (bx_asgB (e := PyData.int) (i := 2) (ex_add (ex_ixL (EX.l (ex_var (i := 0) rfl)) (ex_mod (ex_var (i := 1) rfl) (ex_lenL (EX.l (ex_var (i := 0) rfl))) (grd_ok hg3)) (atI_map hu4)) (ex_mul ex_int (ex_fdiv (ex_var (i := 1) rfl) (ex_lenL (EX.l (ex_var (i := 0) rfl))) (grd_ok hg5)) (.inl ⟨by decide, by decide⟩))) (fun v_cell_6 => (bx_nx (.same (.same (.same (.un (.un .nil))))) rfl))))))) (fun _ => (bx_nx (.same (.same (.same (.un (.un .nil))))) rfl))) (fun s2 _ => (bx_ifRet (et_and (et_of (ex_lt (ex_var (i := 1) rfl) (ex_lenL (EX.l (ex_var (i := 0) rfl))))) (et_of (ex_ge (ex_var (i := 2) rfl) (ex_pow ex_int ex_int ⟨by decide, by decide, by decide⟩)))) (fun _ => (bx_retS (ex_sub (ex_var (i := 2) rfl) (ex_pow ex_int ex_int ⟨by decide, by decide, by decide⟩)) rfl)) (fun _ _ _ h => nomatch h) (fun _ => (bx_asg (d := PyData.int (0 : Int)) ex_int (EGc.eg (egc_name (i := 3) (vs := [3]) (by decide))) (bx_then (envS := (fun (s_1 : Int) => [.sh ((eL PyData.int) v_script), .sh (PyData.int v_k), .sh (PyData.int s2), .sh (PyData.int s_1), .un])) (bx_forS (envS := (fun (s_1 : Int) => [.sh ((eL PyData.int) v_script), .sh (PyData.int v_k), .sh (PyData.int s2), .sh (PyData.int s_1), .un])) (e := PyData.int) (envB := (fun (s_1 : Int) (x7 : Int) => [.sh ((eL PyData.int) v_script), .sh (PyData.int v_k), .sh (PyData.int s2), .sh (PyData.int s_1), .sh (PyData.int x7)])) (f := (l_raw_for1 v_k s2)) (eis_rng1 ex_int (by decide)) (.same (.same (.same (.same (.un .nil))))) (fun s_1 x7 _ => EGc.eg (vs := [4]) (egc_name (i := 4) (by decide))) (fun s_1 x7 _ => (bx_bind fun u8 hu8 => (bx_asgB (e := PyData.int) (i := 3) (ex_add (ex_mul (ex_var (i := 3) rfl) ex_int (.inr ⟨by decide, by decide⟩)) (ex_call (ea_cons (ex_add (ex_add (ex_var (i := 2) rfl) (ex_mul ex_int (ex_var (i := 1) rfl) (.inl ⟨by decide, by decide⟩))) (ex_mul ex_int (ex_var (i := 4) rfl) (.inl ⟨by decide, by decide⟩))) ea_nil) ⟨((s2 + ((1009 : Int) * v_k)) + ((7919 : Int) * x7)), u8, rfl, hu8, rfl⟩)) (fun v_found_9 => (bx_nx (.same (.same (.same (.same (.un .nil))))) rfl)))))) (fun s10 _ => (bx_retS (ex_var (i := 3) rfl) rfl)))))))))))
abbrev encR_l_digits (y : (List Int)) : Out := .rt (.fr (y.map PyData.int))
abbrev st_l_digits : Stmt := top 29
abbrev NN_l_digits : List Str := ["_law_script", "_law_k", "_law_sizes", "_law_rest", "_law_found", "_law_size"]
theorem sc_l_digits : FnScope NN_l_digits ["_law_script", "_law_k", "_law_sizes"] (defScope st_l_digits) := ⟨rfl, rfl, rfl, by decide +kernel, rfl, by decide +kernel, by decide +kernel⟩
abbrev I_l_digits : List PyData → Rv → Prop := Im (fun (a : ((List Int) × Int × (List Int))) => [(eL PyData.int) a.1, PyData.int a.2.1, (eL PyData.int) a.2.2]) (fun (y : (List Int)) => Rv.fr (y.map PyData.int)) (fun a => l_digits a.1 a.2.1 a.2.2)
theorem fn_l_digits {P : Program} {w : World} {K : PySem.W.Frag} {mg : Str → Option Value} {base : Heap} {f : Addr} {fd : FuncData} (F : FunD K "_law_digits" "_law_digits" (defArgs st_l_digits) (defBody st_l_digits) (defScope st_l_digits) [] [] f fd) (hg : mg "_law_digits" = some (.ref f)) (T : Tx K mg) (G__law_raw : Fn P w K mg base "_law_raw" 2 I_l_raw) : Fn P w K mg base "_law_digits" 3 I_l_digits := by
  refine ⟨f, fd, ["_law_script", "_law_k", "_law_sizes"], fn_ok (N := NN_l_digits) (en := encR_l_digits) F sc_l_digits (fun _ => rfl) (fun _ => .inl rfl) (fun cdv A' outer s H E hr => ⟨_, (pss_cons (ps_set (i := 3) sc_l_digits.nd rfl (by first | exact Or.inl rfl | exact Or.inr rfl) (pe_fn G__law_raw (hr.mono (by decide)) (by rfl) (pa_cons (pv 0) (pa_cons (pv 1) pa_nil)))) (pss_cons (ps_set (i := 4) sc_l_digits.nd rfl (by first | exact Or.inl rfl | exact Or.inr rfl) (pe_lst pa_nil)) (pss_cons (ps_for PassesOwn.never rfl (pi_listK (K := K) (pv 2)) (pg_name (i := 5) sc_l_digits.nd rfl (by first | exact Or.inl rfl | exact Or.inr rfl)) (pss_cons (ps_expr (pe_bm PySem.F.plainAttrs_list PySem.F.slot_list_append PySem.F.type_list_append mt_append (pv 4) (pa_cons (pe_op op_mod (pv 3) (pv 5)) pa_nil))) (pss_cons (ps_set (i := 3) sc_l_digits.nd rfl (by first | exact Or.inl rfl | exact Or.inr rfl) (pe_op op_fdivW (pv 3) (pv 5))) pss_nil))) (pss_cons (ps_ret (pv 4)) pss_never)))), fun a => ?_⟩), hg, F.kp, F.bindsN fun _ _ _ _ _ _ us hl => match us, hl with | [_, _, _], _ => rfl⟩
  obtain ⟨v_script, v_k, v_sizes⟩ := a
  exact (show BX K _ [.sh ((eL PyData.int) v_script), .sh (PyData.int v_k), .sh ((eL PyData.int) v_sizes), .un, .un, .un] encR_l_digits (l_digits v_script v_k v_sizes) from
   (bx_bind fun u1 hu1 => (bx_asg (d := PyData.int u1) (ex_call (ea_cons (ex_var (i := 0) rfl) (ea_cons (ex_var (i := 1) rfl) ea_nil)) ⟨(v_script, v_k), u1, rfl, hu1, rfl⟩) (EGc.eg (egc_name (i := 3) (vs := [3]) (by decide))) (bx_asgW (exw_lst (ds := (([] : (List Int)) : (List Int)).map PyData.int) ea_nil (Nat.le_of_ble_eq_true rfl)) (bx_then (envS := (fun (s_1 : Int × (List Int)) => [.sh ((eL PyData.int) v_script), .sh (PyData.int v_k), .sh ((eL PyData.int) v_sizes), .sh (PyData.int s_1.1), .ow (s_1.2.map PyData.int), .un])) (bx_forS (envS := (fun (s_1 : Int × (List Int)) => [.sh ((eL PyData.int) v_script), .sh (PyData.int v_k), .sh ((eL PyData.int) v_sizes), .sh (PyData.int s_1.1), .ow (s_1.2.map PyData.int), .un])) (e := PyData.int) (envB := (fun (s_1 : Int × (List Int)) (x2 : Int) => [.sh ((eL PyData.int) v_script), .sh (PyData.int v_k), .sh ((eL PyData.int) v_sizes), .sh (PyData.int s_1.1), .ow (s_1.2.map PyData.int), .sh (PyData.int x2)])) (f := l_digits_for1) (eis_list (ex_var (i := 2) rfl)) (.same (.same (.same (.same (.same (.un .nil)))))) (fun s_1 x2 _ => EGc.eg (vs := [5]) (egc_name (i := 5) (by decide))) (fun s_1 x2 _ => (bx_bind fun g3 hg3 => (bx_bind fun u4 hu4 => (bx_app (e := PyData.int) (x := (s_1.1 % x2)) rfl (ex_mod (ex_var (i := 3) rfl) (ex_var (i := 5) rfl) (grd_ok hg3)) hu4 (bx_bind fun g5 hg5 => (bx_asgB (e := PyData.int) (i := 3) (ex_fdiv (ex_var (i := 3) rfl) (ex_var (i := 5) rfl) (grd_ok hg5)) (fun v_rest_6 => (bx_nx (.same (.same (.same (.same (.same (.un .nil)))))) rfl))))))))) (fun s7 _ => (bx_retO (i := 4) rfl rfl)))))))
abbrev encR_l_same (y : Bool) : Out := .rt (.sh (PyData.bool y))
abbrev st_l_same : Stmt := top 30
abbrev NN_l_same : List Str := ["_law_told", "_law_due", "_law_one", "_law_other"]
theorem sc_l_same : FnScope NN_l_same ["_law_told", "_law_due"] (defScope st_l_same) := ⟨rfl, rfl, rfl, by decide +kernel, rfl, by decide +kernel, by decide +kernel⟩
abbrev I_l_same (n : Nat) : List PyData → Rv → Prop := Im (fun (a : (PyData × PyData)) => [eD a.1, eD a.2]) (fun (y : Bool) => Rv.sh (PyData.bool y)) (fun a => l_same n a.1 a.2)
theorem mk_l_same {n : Nat} {a0 : PyData} {a1 : PyData} {y : Bool} (h : l_same n a0 a1 = some y) : I_l_same n [eD a0, eD a1] ((fun (y : Bool) => Rv.sh (PyData.bool y)) y) := ⟨(a0, a1), y, rfl, h, rfl⟩
theorem fnr_l_same {P : Program} {w : World} {K : PySem.W.Frag} {mg : Str → Option Value} {base : Heap} {f : Addr} {fd : FuncData} (F : FunD K "_law_same" "_law_same" (defArgs st_l_same) (defBody st_l_same) (defScope st_l_same) [] [] f fd) (hg : mg "_law_same" = some (.ref f)) (T : Tx K mg) : ∀ n : Nat, Fn P w K mg base "_law_same" (n + 1) (I_l_same n)
  | 0 => ⟨f, fd, ["_law_told", "_law_due"], fn_void (N := NN_l_same) F sc_l_same (fun ds r ⟨a, y, _, h, _⟩ => nomatch h), hg, F.kp, F.bindsN fun _ _ _ _ _ _ us hl => match us, hl with | [_, _], _ => rfl⟩
  | n + 1 => by
    have G__law_same := fnr_l_same (P := P) (w := w) (base := base) F hg T n
    refine ⟨f, fd, ["_law_told", "_law_due"], fn_ok (N := NN_l_same) (en := encR_l_same) F sc_l_same (fun _ => rfl) (fun _ => .inl rfl) (fun cdv A' outer s H E hr => ⟨_, (pss_cons (ps_if (pt_cmpR op_isN (pv 1) pe_non (nomark _)) (pss_cons (ps_ret (pe_cmpR op_isN (pv 0) pe_non (nomark _))) pss_never) pss_nil) (pss_cons (ps_if (PW.pt (pw_or (pt_cmpR op_ne (pe_callB (call_isiK' (K := K)) (by rfl) T.isinstance (by decide +kernel) (pa_cons (pv 0) (pa_cons (pe_bltn (u := .type "bool") (v := .ty "bool") (by rfl) T.bool (by decide +kernel) rfl) pa_nil))) (pe_callB (call_isiK' (K := K)) (by rfl) T.isinstance (by decide +kernel) (pa_cons (pv 1) (pa_cons (pe_bltn (u := .type "bool") (v := .ty "bool") (by rfl) T.bool (by decide +kernel) rfl) pa_nil))) (nomark _)) (pw_or1 (pt_cmpR op_ne (pe_callB (call_isiK' (K := K)) (by rfl) T.isinstance (by decide +kernel) (pa_cons (pv 0) (pa_cons (pe_bltn (u := .type "int") (v := .ty "int") (by rfl) T.int (by decide +kernel) rfl) pa_nil))) (pe_callB (call_isiK' (K := K)) (by rfl) T.isinstance (by decide +kernel) (pa_cons (pv 1) (pa_cons (pe_bltn (u := .type "int") (v := .ty "int") (by rfl) T.int (by decide +kernel) rfl) pa_nil))) (nomark _))))) (pss_cons (ps_ret pe_bl) pss_never) pss_nil) (pss_cons (ps_if (PW.pt (pw_or (pt_cmpR op_ne (pe_callB (call_isiK' (K := K)) (by rfl) T.isinstance (by decide +kernel) (pa_cons (pv 0) (pa_cons (pe_bltn (u := .type "list") (v := .ty "list") (by rfl) T.list (by decide +kernel) rfl) pa_nil))) (pe_callB (call_isiK' (K := K)) (by rfl) T.isinstance (by decide +kernel) (pa_cons (pv 1) (pa_cons (pe_bltn (u := .type "list") (v := .ty "list") (by rfl) T.list (by decide +kernel) rfl) pa_nil))) (nomark _)) (pw_or1 (pt_cmpR op_ne (pe_callB (call_isiK' (K := K)) (by rfl) T.isinstance (by decide +kernel) (pa_cons (pv 0) (pa_cons (pe_bltn (u := .type "tuple") (v := .ty "tuple") (by rfl) T.tuple (by decide +kernel) rfl) pa_nil))) (pe_callB (call_isiK' (K := K)) (by rfl) T.isinstance (by decide +kernel) (pa_cons (pv 1) (pa_cons (pe_bltn (u := .type "tuple") (v := .ty "tuple") (by rfl) T.tuple (by decide +kernel) rfl) pa_nil))) (nomark _))))) (pss_cons (ps_ret pe_bl) pss_never) pss_nil) (pss_cons (ps_if (PW.pt (pw_and (pt_not (pt_val (pe_callB (call_isiK' (K := K)) (by rfl) T.isinstance (by decide +kernel) (pa_cons (pv 1) (pa_cons (pe_bltn (u := .type "list") (v := .ty "list") (by rfl) T.list (by decide +kernel) rfl) pa_nil))))) (pw_and1 (pt_not (pt_val (pe_callB (call_isiK' (K := K)) (by rfl) T.isinstance (by decide +kernel) (pa_cons (pv 1) (pa_cons (pe_bltn (u := .type "tuple") (v := .ty "tuple") (by rfl) T.tuple (by decide +kernel) rfl) pa_nil)))))))) (pss_cons (ps_ret (pe_and (pe_cmpR op_eq (pe_callB (call_isiK' (K := K)) (by rfl) T.isinstance (by decide +kernel) (pa_cons (pv 0) (pa_cons (pe_bltn (u := .type "str") (v := .ty "str") (by rfl) T.str (by decide +kernel) rfl) pa_nil))) (pe_callB (call_isiK' (K := K)) (by rfl) T.isinstance (by decide +kernel) (pa_cons (pv 1) (pa_cons (pe_bltn (u := .type "str") (v := .ty "str") (by rfl) T.str (by decide +kernel) rfl) pa_nil))) (nomark _)) (pe_one (pe_cmpR op_eq (pv 0) (pv 1) (nomark _))))) pss_never) pss_nil) (pss_cons (ps_ret (pe_and (pe_cmpR op_eq (pe_callB (call_lenK (K := K)) (by rfl) T.len (by decide +kernel) (pa_cons (pv 0) pa_nil)) (pe_callB (call_lenK (K := K)) (by rfl) T.len (by decide +kernel) (pa_cons (pv 1) pa_nil)) (nomark _)) (pe_one (pe_callB (cr_allK (K := K) rfl) (by rfl) T.all (by decide +kernel) (pa_cons (pe_lc (own := [("_law_one", 2), ("_law_other", 3)]) (tt := tYes) rfl sc_l_same.nd (pi_zipK (K := K) (by rfl) T.zip (pa_cons (pv 0) (pa_cons (pv 1) pa_nil))) (blkOk_by (N := NN_l_same) (sc := defScope st_l_same) (by decide +kernel)) (fun _ _ _ _ _ => (pg_tupK (K := K) (n := 2) (by rfl) (pgs_cons (pg_name (i := 2) sc_l_same.nd rfl (by first | exact Or.inl rfl | exact Or.inr rfl)) (pgs_cons (pg_name (i := 3) sc_l_same.nd rfl (by first | exact Or.inl rfl | exact Or.inr rfl)) pgs_nil)))) (fun _ _ _ _ _ => pts_nil) (fun _ _ _ _ _ => (pe_fn G__law_same (hr.mono (by omega)) (by rfl) (pa_cons (pv 2) (pa_cons (pv 3) pa_nil))))) pa_nil))))) pss_never))))), fun a => ?_⟩), hg, F.kp, F.bindsN fun _ _ _ _ _ _ us hl => match us, hl with | [_, _], _ => rfl⟩
    obtain ⟨v_told, v_due⟩ := a
    exact (show BX K _ [.sh (eD v_told), .sh (eD v_due), .un, .un] encR_l_same (l_same (n + 1) v_told v_due) from
     (bx_ifRet (et_of (ex_isN (ex_var (i := 1) rfl))) (fun _ => (bx_retS (ex_isN (ex_var (i := 0) rfl)) rfl)) (fun _ _ _ h => nomatch h) (fun _ => (bx_ifRet (et_or (et_of (ex_neB (ex_isBD (ex_var (i := 0) rfl)) (ex_isBD (ex_var (i := 1) rfl)))) (et_of (ex_neB (ex_isID (ex_var (i := 0) rfl)) (ex_isID (ex_var (i := 1) rfl))))) (fun _ => (bx_retS ex_bl rfl)) (fun _ _ _ h => nomatch h) (fun _ => (bx_ifRet (et_or (et_of (ex_neB (ex_isLD (ex_var (i := 0) rfl)) (ex_isLD (ex_var (i := 1) rfl)))) (et_of (ex_neB (ex_isTD (ex_var (i := 0) rfl)) (ex_isTD (ex_var (i := 1) rfl))))) (fun _ => (bx_retS ex_bl rfl)) (fun _ _ _ h => nomatch h) (fun _ => (bx_ifRet (et_and (et_not (et_B (ex_isLD (ex_var (i := 1) rfl)))) (et_not (et_B (ex_isTD (ex_var (i := 1) rfl))))) (fun _ => (bx_bind fun c2 hc2 => (bx_retS ((exo_and (exo_some (e := PyData.bool) (ex_eqB (ex_isSD (ex_var (i := 0) rfl)) (ex_isSD (ex_var (i := 1) rfl)))) (exo_bind fun u1 hu1 => (exo_some (e := PyData.bool) (ex_eqLeaf (ex_var (i := 0) rfl) (ex_var (i := 1) rfl) hu1)))) c2 hc2) rfl))) (fun _ _ _ h => nomatch h) (fun _ => (bx_bind fun u3 hu3 => (bx_bind fun u4 hu4 => (bx_bind fun c9 hc9 => (bx_retS ((exo_and (exo_some (e := PyData.bool) (ex_eqI (ex_lenD (ex_var (i := 0) rfl) hu3) (ex_lenD (ex_var (i := 1) rfl) hu4))) (exo_bind fun u5 hu5 => (exo_bind fun u8 hu8 => (exo_some (e := PyData.bool) (ex_all (EXw.l (exw_lc (e := (eP eD eD)) (e' := PyData.bool) (envB := (fun x6 => [.sh (eD v_told), .sh (eD v_due), .sh (eD x6.1), .sh (eD x6.2)])) (EIs.i (ei_zipD (ex_var (i := 0) rfl) (ex_var (i := 1) rfl) hu5)) hu8 (fun x6 _ => (egc_tup (egs_cons (egc_name (i := 2) (by decide)) (egs_cons (egc_name (i := 3) (by decide)) egs_nil)) rfl)) (fun x6 _ => (eto_some et_yes)) (fun x6 _ => (exo_bind fun u7 hu7 => (exo_some (e := PyData.bool) (ex_call (ea_cons (ex_var (i := 2) rfl) (ea_cons (ex_var (i := 3) rfl) ea_nil)) ⟨(x6.1, x6.2), u7, rfl, hu7, rfl⟩))))))))))) c9 hc9) rfl)))))))))))))
theorem fn_l_same {P : Program} {w : World} {K : PySem.W.Frag} {mg : Str → Option Value} {base : Heap} {f : Addr} {fd : FuncData} (F : FunD K "_law_same" "_law_same" (defArgs st_l_same) (defBody st_l_same) (defScope st_l_same) [] [] f fd) (hg : mg "_law_same" = some (.ref f)) (T : Tx K mg) : Fn P w K mg base "_law_same" 7 (I_l_same 6) := fnr_l_same (P := P) (w := w) (base := base) F hg T 6
abbrev encE_l_shortest (K : PySem.W.Frag) (E : XK) (x : Exn) : Out := .ex [.un, .un, .un, .un, .un, .un, .un, .un, .un, .un, .un, .un] x fun c d _ H => E c d H
abbrev encR_l_shortest (K : PySem.W.Frag) (y : ((List ((List Int) × (List Int))) × (List ((List Int) × ((List Int) × (List Int)))))) : Out := .re [.un, .un, .un, .un, .un, .un, .un, .un, .un, .un, .un, .un] (some ((fun (y : ((List ((List Int) × (List Int))) × (List ((List Int) × ((List Int) × (List Int)))))) => OT.tup [.dtt (y.1.map (kvE kT (eL PyData.int))), .dtt (y.2.map (kvE kT (eP (eL PyData.int) (eL PyData.int))))]) y))
abbrev encX_l_shortest (K : PySem.W.Frag) (E : XK) (z : Except Exn ((List ((List Int) × (List Int))) × (List ((List Int) × ((List Int) × (List Int)))))) : Out := match z with
  | .ok y => .re [.un, .un, .un, .un, .un, .un, .un, .un, .un, .un, .un, .un] (some ((fun (y : ((List ((List Int) × (List Int))) × (List ((List Int) × ((List Int) × (List Int)))))) => OT.tup [.dtt (y.1.map (kvE kT (eL PyData.int))), .dtt (y.2.map (kvE kT (eP (eL PyData.int) (eL PyData.int))))]) y))
  | .error x => .ex [.un, .un, .un, .un, .un, .un, .un, .un, .un, .un, .un, .un] x fun c d _ H => E c d H
abbrev st_l_shortest : Stmt := top 31
abbrev NN_l_shortest : List Str := ["_law_pegs", "_law_found", "_law_begins", "_law_layer", "_law_turn", "_law_later", "_law_frame", "_law_number", "_law_there", "_law_heads", "_law_line", "_law_starts"]
theorem sc_l_shortest : FnScope NN_l_shortest ["_law_pegs"] (defScope st_l_shortest) := ⟨rfl, rfl, rfl, by decide +kernel, rfl, by decide +kernel, by decide +kernel⟩
abbrev I_l_shortest (K : PySem.W.Frag) : List Ag → (Rt × List OT) ⊕ Exn → Prop := ImE (fun (a : (Int)) => [.d (PyData.int a)]) (fun y => .t ((fun (y : ((List ((List Int) × (List Int))) × (List ((List Int) × ((List Int) × (List Int)))))) => OT.tup [.dtt (y.1.map (kvE kT (eL PyData.int))), .dtt (y.2.map (kvE kT (eP (eL PyData.int) (eL PyData.int))))]) y)) (fun _ => []) (fun a => (l_shortest a).map Except.ok)
theorem fn_l_shortest {P : Program} {w : World} {K : PySem.W.Frag} {mg : Str → Option Value} {base : Heap} {f : Addr} {fd : FuncData} (F : FunD K "_law_shortest" "_law_shortest" (defArgs st_l_shortest) (defBody st_l_shortest) (defScope st_l_shortest) [] [] f fd) (hg : mg "_law_shortest" = some (.ref f)) (T : Tx K mg) (G__law_plain : Fn P w K mg base "_law_plain" 1 I_l_plain) (G__law_hook : Fn P w K mg base "_law_hook" 2 I_l_hook) (G__law_hung : Fn P w K mg base "_law_hung" 2 I_l_hung) : FnE P w K mg base "_law_shortest" 3 (I_l_shortest K) := by
  refine ⟨f, fd, ["_law_pegs"], fn_okTr (N := NN_l_shortest) (en := fun E z => encX_l_shortest K E z) (n := 11) F sc_l_shortest (fun _ => rfl) rfl (fun _ => rfl) (fun _ _ => rfl) (fun _ _ => rfl) (fun cdv A' outer s H E hr => ⟨_, (pss_cons (ps_set (i := 1) sc_l_shortest.nd rfl (by first | exact Or.inl rfl | exact Or.inr rfl) (pe_dispT (Nat.lt_of_succ_lt (un1 hr.units)) (pps_cons (pe_fn G__law_plain (hr.mono (by decide)) (by rfl) (pa_cons (pv 0) pa_nil)) (pe_lst pa_nil) pps_nil))) (pss_cons (ps_set (i := 2) sc_l_shortest.nd rfl (by first | exact Or.inl rfl | exact Or.inr rfl) (pe_dispT (Nat.lt_of_succ_lt (un1 hr.units)) (pps_cons (pe_fn G__law_plain (hr.mono (by decide)) (by rfl) (pa_cons (pv 0) pa_nil)) (pe_tup (pa_cons (pe_lst pa_nil) (pa_cons (pe_lst pa_nil) pa_nil))) pps_nil))) (pss_cons (ps_set (i := 3) sc_l_shortest.nd rfl (by first | exact Or.inl rfl | exact Or.inr rfl) (pe_lst (pa_cons (pe_fn G__law_plain (hr.mono (by decide)) (by rfl) (pa_cons (pv 0) pa_nil)) pa_nil))) (pss_cons (ps_for (passes_of (by rfl)) rfl (pi_range1 (by rfl) T.range (pa_cons (pe_op op_mul (pv 0) (pv 0)) pa_nil)) (pg_name (i := 4) sc_l_shortest.nd rfl (by first | exact Or.inl rfl | exact Or.inr rfl)) (pss_cons (ps_set (i := 5) sc_l_shortest.nd rfl (by first | exact Or.inl rfl | exact Or.inr rfl) pe_dnewT) (pss_cons (ps_for (passes_of (by rfl)) rfl (pi_listK (K := K) (pv 3)) (pg_name (i := 6) sc_l_shortest.nd rfl (by first | exact Or.inl rfl | exact Or.inr rfl)) (pss_cons (ps_for (passes_of (by rfl)) rfl (pi_range1 (by rfl) T.range (pa_cons (pe_op op_sub (pv 0) pe_int) pa_nil)) (pg_name (i := 7) sc_l_shortest.nd rfl (by first | exact Or.inl rfl | exact Or.inr rfl)) (pss_cons (ps_set (i := 8) sc_l_shortest.nd rfl (by first | exact Or.inl rfl | exact Or.inr rfl) (pe_ix (ix_tupK (K := K)) (pe_fn G__law_hung (hr.mono (by decide)) (by rfl) (pa_cons (pv 6) (pa_cons (pe_fn G__law_hook (hr.mono (by decide)) (by rfl) (pa_cons (pv 0) (pa_cons (pv 7) pa_nil))) pa_nil))) pe_int (fun _ _ => rfl))) (pss_cons (ps_if (pt_cmp (pc_dnotin (un1 hr.units) (pv 8) (pv 1)) (by rfl)) (pss_cons (ps_dput (un1 hr.units) (pv 5) (pv 8) (pe_op op_cat (pe_dget2 (un1 hr.units) (pv 5) (pv 8) (pe_lst pa_nil) ⟨rfl, rfl, rfl, rfl⟩) (pe_lst (pa_cons (pe_tup (pa_cons (pe_op op_cat (pe_dget (un1 hr.units) (pv 1) (pv 6) (fun _ _ => rfl)) (pe_lst (pa_cons (pv 7) pa_nil))) (pa_cons (pe_ix (ix_tupK (K := K)) (pe_dget (un1 hr.units) (pv 2) (pv 6) (fun _ _ => rfl)) pe_int (fun _ _ => rfl)) pa_nil))) pa_nil))) (by rfl)) pss_nil) pss_nil) pss_nil))) pss_nil)) (pss_cons (ps_fz (ps_for (passes_of (by rfl)) rfl (pi_keys (pv 5)) (pg_name (i := 8) sc_l_shortest.nd rfl (by first | exact Or.inl rfl | exact Or.inr rfl)) (pss_cons (ps_dput (un1 hr.units) (pv 1) (pv 8) (pe_callB (call_minK (K := K) rfl hr.units) (by rfl) T.min (by decide +kernel) (pa_cons (pe_lc (own := [("_law_line", 10), ("_law_starts", 11)]) (tt := tYes) rfl sc_l_shortest.nd (pi_listK (K := K) (pe_dget (un1 hr.units) (pv 5) (pv 8) (fun _ _ => rfl))) (blkOk_by (N := NN_l_shortest) (sc := defScope st_l_shortest) (by decide +kernel)) (fun _ _ _ _ _ => (pg_tupK (K := K) (n := 2) (by rfl) (pgs_cons (pg_name (i := 10) sc_l_shortest.nd rfl (by first | exact Or.inl rfl | exact Or.inr rfl)) (pgs_cons (pg_name (i := 11) sc_l_shortest.nd rfl (by first | exact Or.inl rfl | exact Or.inr rfl)) pgs_nil)))) (fun _ _ _ _ _ => pts_nil) (fun _ _ _ _ _ => (pv 10))) pa_nil)) (by rfl)) (pss_cons (ps_setLc (i := 9) (own := [("_law_line", 10), ("_law_starts", 11)]) (tt := tYes) rfl sc_l_shortest.nd rfl rfl (sw_true rfl rfl rfl (by decide +kernel)) (pi_listK (K := K) (pe_dget (un1 hr.units) (pv 5) (pv 8) (fun _ _ => rfl))) (blkOk_by (N := NN_l_shortest) (sc := defScope st_l_shortest) (by decide +kernel)) (fun _ _ _ _ _ => (pg_tupK (K := K) (n := 2) (by rfl) (pgs_cons (pg_name (i := 10) sc_l_shortest.nd rfl (by first | exact Or.inl rfl | exact Or.inr rfl)) (pgs_cons (pg_name (i := 11) sc_l_shortest.nd rfl (by first | exact Or.inl rfl | exact Or.inr rfl)) pgs_nil)))) (fun _ _ _ _ _ => pts_nil) (fun _ _ _ _ _ => (pe_ix (ix_listK (K := K)) (pv 10) pe_int (fun _ _ => rfl)))) (pss_cons (ps_for (passes_of (by rfl)) rfl (pi_listK (K := K) (pe_dget (un1 hr.units) (pv 5) (pv 8) (fun _ _ => rfl))) (pg_tupK (K := K) (n := 2) (by rfl) (pgs_cons (pg_name (i := 10) sc_l_shortest.nd rfl (by first | exact Or.inl rfl | exact Or.inr rfl)) (pgs_cons (pg_name (i := 11) sc_l_shortest.nd rfl (by first | exact Or.inl rfl | exact Or.inr rfl)) pgs_nil))) (pss_cons (ps_set (i := 9) sc_l_shortest.nd rfl (by first | exact Or.inl rfl | exact Or.inr rfl) (pe_op op_cat (pv 9) (pv 11))) pss_nil)) (pss_cons (ps_dput (un1 hr.units) (pv 2) (pv 8) (pe_tup (pa_cons (pe_sortSet (K := K) rfl (by rfl) T.sorted (by rfl) T.set (pv 9)) (pa_cons (pe_sortSet (K := K) rfl (by rfl) T.sorted (by rfl) T.set (pe_lc (own := [("_law_line", 10), ("_law_starts", 11)]) (tt := tYes) rfl sc_l_shortest.nd (pi_listK (K := K) (pe_dget (un1 hr.units) (pv 5) (pv 8) (fun _ _ => rfl))) (blkOk_by (N := NN_l_shortest) (sc := defScope st_l_shortest) (by decide +kernel)) (fun _ _ _ _ _ => (pg_tupK (K := K) (n := 2) (by rfl) (pgs_cons (pg_name (i := 10) sc_l_shortest.nd rfl (by first | exact Or.inl rfl | exact Or.inr rfl)) (pgs_cons (pg_name (i := 11) sc_l_shortest.nd rfl (by first | exact Or.inl rfl | exact Or.inr rfl)) pgs_nil)))) (fun _ _ _ _ _ => pts_nil) (fun _ _ _ _ _ => (pe_ix (ix_listK (K := K)) (pv 10) (pe_un un_neg pe_int) (fun _ _ => rfl))))) pa_nil))) (by rfl)) pss_nil)))))) (pss_cons (ps_set (i := 3) sc_l_shortest.nd rfl (by first | exact Or.inl rfl | exact Or.inr rfl) (pe_callTy (call_listT rfl) (by rfl) T.list (by decide +kernel) (pa_cons (pv 5) pa_nil))) pss_nil))))) (pss_cons (ps_ret (pe_tup (pa_cons (pv 1) (pa_cons (pv 2) pa_nil)))) pss_never))))), fun v_pegs => ?_⟩), hg, F.kp, F.bindsN fun _ _ _ _ _ _ us hl => match us, hl with | [_], _ => rfl⟩
  refine bx_map (f := Except.ok) (enc := (encR_l_shortest K)) (m := (l_shortest v_pegs)) ?_ (fun _ => rfl)
  exact (show BX K _ [.sh (PyData.int v_pegs), .un, .un, .un, .un, .un, .un, .un, .un, .un, .un, .un] (encR_l_shortest K) (l_shortest v_pegs) from
   (bx_bind fun u1 hu1 => (bx_asgDt (j := 1) (a := ([(u1, ([] : (List Int)))] : (List ((List Int) × (List Int)))).map (kvE kT (eL PyData.int))) (ext_dispT1 (ks := kT u1) (ex_is (ex_call (ea_cons (ex_var (i := 0) rfl) ea_nil) ⟨v_pegs, u1, rfl, hu1, rfl⟩) (kT_tup _)) (EXw.sh (exw_lst (ds := (([] : (List Int)) : (List Int)).map PyData.int) ea_nil (Nat.le_of_ble_eq_true rfl)))) (bx_bind fun u2 hu2 => (bx_asgDt (j := 2) (a := ([(u2, (([] : (List Int)), ([] : (List Int))))] : (List ((List Int) × ((List Int) × (List Int))))).map (kvE kT (eP (eL PyData.int) (eL PyData.int)))) (ext_dispT1 (ks := kT u2) (ex_is (ex_call (ea_cons (ex_var (i := 0) rfl) ea_nil) ⟨v_pegs, u2, rfl, hu2, rfl⟩) (kT_tup _)) (ex_tup (ea_cons (EXw.sh (exw_lst (ds := (([] : (List Int)) : (List Int)).map PyData.int) ea_nil (Nat.le_of_ble_eq_true rfl))) (ea_cons (EXw.sh (exw_lst (ds := (([] : (List Int)) : (List Int)).map PyData.int) ea_nil (Nat.le_of_ble_eq_true rfl))) ea_nil)) (Nat.le_of_ble_eq_true rfl))) (bx_bind fun u3 hu3 => (bx_asgB (e := (eL (eT PyData.int))) (i := 3) (EXw.sh (exw_lst (ds := ([u3] : (List (List Int))).map (eT PyData.int)) (ea_cons (ex_call (ea_cons (ex_var (i := 0) rfl) ea_nil) ⟨v_pegs, u3, rfl, hu3, rfl⟩) ea_nil) (Nat.le_of_ble_eq_true rfl))) (fun v_layer_4 => (bx_bind fun g5 hg5 => (bx_bind fun g6 hg6 => (bx_then (envS := (fun (s_1 : (List ((List Int) × (List Int))) × (List ((List Int) × ((List Int) × (List Int)))) × (List (List Int))) => [.sh (PyData.int v_pegs), .dt (s_1.1.map (kvE kT (eL PyData.int))), .dt (s_1.2.1.map (kvE kT (eP (eL PyData.int) (eL PyData.int)))), .sh ((eL (eT PyData.int)) s_1.2.2), .un, .un, .un, .un, .un, .un, .un, .un])) (bx_forS (envS := (fun (s_1 : (List ((List Int) × (List Int))) × (List ((List Int) × ((List Int) × (List Int)))) × (List (List Int))) => [.sh (PyData.int v_pegs), .dt (s_1.1.map (kvE kT (eL PyData.int))), .dt (s_1.2.1.map (kvE kT (eP (eL PyData.int) (eL PyData.int)))), .sh ((eL (eT PyData.int)) s_1.2.2), .un, .un, .un, .un, .un, .un, .un, .un])) (e := PyData.int) (envB := (fun (s_1 : (List ((List Int) × (List Int))) × (List ((List Int) × ((List Int) × (List Int)))) × (List (List Int))) (x7 : Int) => [.sh (PyData.int v_pegs), .dt (s_1.1.map (kvE kT (eL PyData.int))), .dt (s_1.2.1.map (kvE kT (eP (eL PyData.int) (eL PyData.int)))), .sh ((eL (eT PyData.int)) s_1.2.2), .sh (PyData.int x7), .un, .un, .un, .un, .un, .un, .un])) (f := (l_shortest_for1 v_pegs)) (eis_rng1 (ex_mul (ex_var (i := 0) rfl) (ex_var (i := 0) rfl) (grd_ok hg5)) (grd_ok hg6)) (.same (.same (.same (.same (.un (.un (.un (.un (.un (.un (.un (.un .nil)))))))))))) (fun s_1 x7 _ => EGc.eg (vs := [4]) (egc_name (i := 4) (by decide))) (fun s_1 x7 _ => (bx_newT (kf := kT) (e := (eL (eP (eL PyData.int) (eL PyData.int)))) (β := (List ((List Int) × (List Int)))) (i := 5) (bx_then (envS := (fun (s_2 : (List ((List Int) × (List ((List Int) × (List Int)))))) => [.sh (PyData.int v_pegs), .dt (s_1.1.map (kvE kT (eL PyData.int))), .dt (s_1.2.1.map (kvE kT (eP (eL PyData.int) (eL PyData.int)))), .sh ((eL (eT PyData.int)) s_1.2.2), .sh (PyData.int x7), .dt (s_2.map (kvE kT (eL (eP (eL PyData.int) (eL PyData.int))))), .un, .un, .un, .un, .un, .un])) (bx_forS (envS := (fun (s_2 : (List ((List Int) × (List ((List Int) × (List Int)))))) => [.sh (PyData.int v_pegs), .dt (s_1.1.map (kvE kT (eL PyData.int))), .dt (s_1.2.1.map (kvE kT (eP (eL PyData.int) (eL PyData.int)))), .sh ((eL (eT PyData.int)) s_1.2.2), .sh (PyData.int x7), .dt (s_2.map (kvE kT (eL (eP (eL PyData.int) (eL PyData.int))))), .un, .un, .un, .un, .un, .un])) (e := (eT PyData.int)) (envB := (fun (s_2 : (List ((List Int) × (List ((List Int) × (List Int)))))) (x8 : (List Int)) => [.sh (PyData.int v_pegs), .dt (s_1.1.map (kvE kT (eL PyData.int))), .dt (s_1.2.1.map (kvE kT (eP (eL PyData.int) (eL PyData.int)))), .sh ((eL (eT PyData.int)) s_1.2.2), .sh (PyData.int x7), .dt (s_2.map (kvE kT (eL (eP (eL PyData.int) (eL PyData.int))))), .sh ((eT PyData.int) x8), .un, .un, .un, .un, .un])) (f := (l_shortest_for2 v_pegs s_1.1 s_1.2.1)) (eis_list (ex_var (i := 3) rfl)) (.same (.same (.same (.same (.same (.same (.un (.un (.un (.un (.un (.un .nil)))))))))))) (fun s_2 x8 _ => EGc.eg (vs := [6]) (egc_name (i := 6) (by decide))) (fun s_2 x8 _ => (bx_bind fun g9 hg9 => (bx_then (envS := (fun (s_3 : (List ((List Int) × (List ((List Int) × (List Int)))))) => [.sh (PyData.int v_pegs), .dt (s_1.1.map (kvE kT (eL PyData.int))), .dt (s_1.2.1.map (kvE kT (eP (eL PyData.int) (eL PyData.int)))), .sh ((eL (eT PyData.int)) s_1.2.2), .sh (PyData.int x7), .dt (s_3.map (kvE kT (eL (eP (eL PyData.int) (eL PyData.int))))), .sh ((eT PyData.int) x8), .un, .un, .un, .un, .un])) (bx_forS (envS := (fun (s_3 : (List ((List Int) × (List ((List Int) × (List Int)))))) => [.sh (PyData.int v_pegs), .dt (s_1.1.map (kvE kT (eL PyData.int))), .dt (s_1.2.1.map (kvE kT (eP (eL PyData.int) (eL PyData.int)))), .sh ((eL (eT PyData.int)) s_1.2.2), .sh (PyData.int x7), .dt (s_3.map (kvE kT (eL (eP (eL PyData.int) (eL PyData.int))))), .sh ((eT PyData.int) x8), .un, .un, .un, .un, .un])) (e := PyData.int) (envB := (fun (s_3 : (List ((List Int) × (List ((List Int) × (List Int)))))) (x10 : Int) => [.sh (PyData.int v_pegs), .dt (s_1.1.map (kvE kT (eL PyData.int))), .dt (s_1.2.1.map (kvE kT (eP (eL PyData.int) (eL PyData.int)))), .sh ((eL (eT PyData.int)) s_1.2.2), .sh (PyData.int x7), .dt (s_3.map (kvE kT (eL (eP (eL PyData.int) (eL PyData.int))))), .sh ((eT PyData.int) x8), .sh (PyData.int x10), .un, .un, .un, .un])) (f := (l_shortest_for3 v_pegs s_1.1 s_1.2.1 x8)) (eis_rng1 (ex_sub (ex_var (i := 0) rfl) ex_int) (grd_ok hg9)) (.same (.same (.same (.same (.same (.same (.same (.un (.un (.un (.un (.un .nil)))))))))))) (fun s_3 x10 _ => EGc.eg (vs := [7]) (egc_name (i := 7) (by decide))) (fun s_3 x10 _ => (bx_bind fun u11 hu11 => (bx_bind fun u12 hu12 => (bx_asg (d := (eT PyData.int) u12.1) (ex_ixT (ex_call (ea_cons (ex_var (i := 6) rfl) (ea_cons (ex_call (ea_cons (ex_var (i := 0) rfl) (ea_cons (ex_var (i := 7) rfl) ea_nil)) ⟨(v_pegs, x10), u11, rfl, hu11, rfl⟩) ea_nil)) ⟨(x8, u11), u12, rfl, hu12, rfl⟩) ex_int rfl) (EGc.eg (egc_name (i := 8) (vs := [8]) (by decide))) (bx_last (bx_if (et_B (ex_dninT kT_inj (e := (eL PyData.int)) (i := 1) rfl (ex_is (ex_var (i := 8) rfl) (kT_tup _)))) (fun _ => (bx_bind fun u13 hu13 => (bx_bind fun g14 hg14 => (bx_bind fun u15 hu15 => (bx_bind fun g16 hg16 => (bx_bind fun u17 hu17 => (bx_dputT kT_inj (e := (eL (eP (eL PyData.int) (eL PyData.int)))) (i := 5) rfl (EXw.sh (exw_catT (EX.l (ex_dget2T kT_inj (e := (eL (eP (eL PyData.int) (eL PyData.int)))) (i := 5) rfl (ex_is (ex_var (i := 8) rfl) (kT_tup _)) (EXw.sh (exw_lst (ds := (([] : (List ((List Int) × (List Int)))) : (List ((List Int) × (List Int)))).map (eP (eL PyData.int) (eL PyData.int))) ea_nil (Nat.le_of_ble_eq_true rfl))))) (EXw.l (exw_lst (ds := ([((u13 ++ ([x10])), u15.1)] : (List ((List Int) × (List Int)))).map (eP (eL PyData.int) (eL PyData.int))) (ea_cons (ex_tup (ea_cons (EXw.sh (exw_catT (EX.l (ex_dgetT kT_inj (e := (eL PyData.int)) (i := 1) rfl (ex_is (ex_var (i := 6) rfl) (kT_tup _)) hu13)) (EXw.l (exw_lst (ds := ([x10] : (List Int)).map PyData.int) (ea_cons (ex_var (i := 7) rfl) ea_nil) (Nat.le_of_ble_eq_true rfl))) (grd_ok hg14))) (ea_cons (ex_ixT (ex_dgetT kT_inj (e := (eP (eL PyData.int) (eL PyData.int))) (i := 2) rfl (ex_is (ex_var (i := 6) rfl) (kT_tup _)) hu15) ex_int rfl) ea_nil)) (Nat.le_of_ble_eq_true rfl)) ea_nil) (Nat.le_of_ble_eq_true rfl))) (grd_ok hg16))) (ex_is (ex_var (i := 8) rfl) (kT_tup _)) hu17 (bx_nx (.same (.same (.same (.same (.same (.same (.same (.un (.un (.un (.un (.un .nil)))))))))))) rfl)))))))) (fun _ => (bx_nx (.same (.same (.same (.same (.same (.same (.same (.un (.un (.un (.un (.un .nil)))))))))))) rfl))))))))) (fun s18 _ => (bx_nx (.same (.same (.same (.same (.same (.same (.un (.un (.un (.un (.un (.un .nil)))))))))))) rfl)))))) (fun s19 _ => (bx_fzT 5 rfl (bx_then (envS := (fun (s_4 : (List ((List Int) × (List Int))) × (List ((List Int) × ((List Int) × (List Int))))) => [.sh (PyData.int v_pegs), .dt (s_4.1.map (kvE kT (eL PyData.int))), .dt (s_4.2.map (kvE kT (eP (eL PyData.int) (eL PyData.int)))), .sh ((eL (eT PyData.int)) s_1.2.2), .sh (PyData.int x7), .ft (s19.map (kvE kT (eL (eP (eL PyData.int) (eL PyData.int))))), .un, .un, .un, .un, .un, .un])) (bx_forS (envS := (fun (s_4 : (List ((List Int) × (List Int))) × (List ((List Int) × ((List Int) × (List Int))))) => [.sh (PyData.int v_pegs), .dt (s_4.1.map (kvE kT (eL PyData.int))), .dt (s_4.2.map (kvE kT (eP (eL PyData.int) (eL PyData.int)))), .sh ((eL (eT PyData.int)) s_1.2.2), .sh (PyData.int x7), .ft (s19.map (kvE kT (eL (eP (eL PyData.int) (eL PyData.int))))), .un, .un, .un, .un, .un, .un])) (e := (eT PyData.int)) (envB := (fun (s_4 : (List ((List Int) × (List Int))) × (List ((List Int) × ((List Int) × (List Int))))) (x20 : (List Int)) => [.sh (PyData.int v_pegs), .dt (s_4.1.map (kvE kT (eL PyData.int))), .dt (s_4.2.map (kvE kT (eP (eL PyData.int) (eL PyData.int)))), .sh ((eL (eT PyData.int)) s_1.2.2), .sh (PyData.int x7), .ft (s19.map (kvE kT (eL (eP (eL PyData.int) (eL PyData.int))))), .un, .un, .sh ((eT PyData.int) x20), .un, .un, .un])) (f := (l_shortest_for4 s19)) (eis_keysFT (e := (eL (eP (eL PyData.int) (eL PyData.int)))) (xs := s19) (i := 5) rfl) (.same (.same (.same (.same (.same (.same (.un (.un (.un (.un (.un (.un .nil)))))))))))) (fun s_4 x20 _ => EGc.eg (vs := [8]) (egc_name (i := 8) (by decide))) (fun s_4 x20 _ => (bx_bind fun u21 hu21 => (bx_bind fun g23 hg23 => (bx_bind fun u24 hu24 => (bx_dputT kT_inj (e := (eL PyData.int)) (i := 1) rfl (ex_minLL (EXw.l (exw_lcm (e := (eP (eL PyData.int) (eL PyData.int))) (e' := (eL PyData.int)) (envB := (fun x22 => [.sh (PyData.int v_pegs), .dt (s_4.1.map (kvE kT (eL PyData.int))), .dt (s_4.2.map (kvE kT (eP (eL PyData.int) (eL PyData.int)))), .sh ((eL (eT PyData.int)) s_1.2.2), .sh (PyData.int x7), .ft (s19.map (kvE kT (eL (eP (eL PyData.int) (eL PyData.int))))), .un, .un, .sh ((eT PyData.int) x20), .un, .sh ((eL PyData.int) x22.1), .sh ((eL PyData.int) x22.2)])) (ei_list (EX.l (ex_dgetFT kT_inj (e := (eL (eP (eL PyData.int) (eL PyData.int)))) (i := 5) rfl (ex_is (ex_var (i := 8) rfl) (kT_tup _)) hu21))) (fun x22 _ => (egc_tup (egs_cons (egc_name (i := 10) (by decide)) (egs_cons (egc_name (i := 11) (by decide)) egs_nil)) rfl)) (fun x22 _ => (ex_var (i := 10) rfl)))) (grd_ok hg23)) (ex_is (ex_var (i := 8) rfl) (kT_tup _)) hu24 (bx_bind fun u25 hu25 => (bx_bind fun u28 hu28 => (bx_asg (d := (eL PyData.int) u28) (EXw.sh (exw_lc (e := (eP (eL PyData.int) (eL PyData.int))) (e' := PyData.int) (envB := (fun x26 => [.sh (PyData.int v_pegs), .dt (u24.map (kvE kT (eL PyData.int))), .dt (s_4.2.map (kvE kT (eP (eL PyData.int) (eL PyData.int)))), .sh ((eL (eT PyData.int)) s_1.2.2), .sh (PyData.int x7), .ft (s19.map (kvE kT (eL (eP (eL PyData.int) (eL PyData.int))))), .un, .un, .sh ((eT PyData.int) x20), .un, .sh ((eL PyData.int) x26.1), .sh ((eL PyData.int) x26.2)])) (ei_list (EX.l (ex_dgetFT kT_inj (e := (eL (eP (eL PyData.int) (eL PyData.int)))) (i := 5) rfl (ex_is (ex_var (i := 8) rfl) (kT_tup _)) hu25))) hu28 (fun x26 _ => (egc_tup (egs_cons (egc_name (i := 10) (by decide)) (egs_cons (egc_name (i := 11) (by decide)) egs_nil)) rfl)) (fun x26 _ => (eto_some et_yes)) (fun x26 _ => (exo_bind fun u27 hu27 => (exo_some (e := PyData.int) (ex_ixL (EX.l (ex_var (i := 10) rfl)) ex_int (atI_map hu27))))))) (EGc.eg (egc_name (i := 9) (vs := [9]) (by decide))) (bx_bind fun u29 hu29 => (bx_then (envS := (fun (s_5 : (List Int)) => [.sh (PyData.int v_pegs), .dt (u24.map (kvE kT (eL PyData.int))), .dt (s_4.2.map (kvE kT (eP (eL PyData.int) (eL PyData.int)))), .sh ((eL (eT PyData.int)) s_1.2.2), .sh (PyData.int x7), .ft (s19.map (kvE kT (eL (eP (eL PyData.int) (eL PyData.int))))), .un, .un, .sh ((eT PyData.int) x20), .sh ((eL PyData.int) s_5), .un, .un])) (bx_forS (envS := (fun (s_5 : (List Int)) => [.sh (PyData.int v_pegs), .dt (u24.map (kvE kT (eL PyData.int))), .dt (s_4.2.map (kvE kT (eP (eL PyData.int) (eL PyData.int)))), .sh ((eL (eT PyData.int)) s_1.2.2), .sh (PyData.int x7), .ft (s19.map (kvE kT (eL (eP (eL PyData.int) (eL PyData.int))))), .un, .un, .sh ((eT PyData.int) x20), .sh ((eL PyData.int) s_5), .un, .un])) (e := (eP (eL PyData.int) (eL PyData.int))) (envB := (fun (s_5 : (List Int)) (x30 : ((List Int) × (List Int))) => [.sh (PyData.int v_pegs), .dt (u24.map (kvE kT (eL PyData.int))), .dt (s_4.2.map (kvE kT (eP (eL PyData.int) (eL PyData.int)))), .sh ((eL (eT PyData.int)) s_1.2.2), .sh (PyData.int x7), .ft (s19.map (kvE kT (eL (eP (eL PyData.int) (eL PyData.int))))), .un, .un, .sh ((eT PyData.int) x20), .sh ((eL PyData.int) s_5), .sh ((eL PyData.int) x30.1), .sh ((eL PyData.int) x30.2)])) (f := l_shortest_for5) (eis_list (ex_dgetFT kT_inj (e := (eL (eP (eL PyData.int) (eL PyData.int)))) (i := 5) rfl (ex_is (ex_var (i := 8) rfl) (kT_tup _)) hu29)) (.same (.same (.same (.same (.same (.same (.un (.un (.same (.same (.un (.un .nil)))))))))))) (fun s_5 x30 _ => EGc.eg (vs := [10, 11]) (egc_tup (egs_cons (egc_name (i := 10) (by decide)) (egs_cons (egc_name (i := 11) (by decide)) egs_nil)) rfl)) (fun s_5 x30 _ => (bx_bind fun g31 hg31 => (bx_asgB (e := (eL PyData.int)) (i := 9) (EXw.sh (exw_catT (EX.l (ex_var (i := 9) rfl)) (EX.l (ex_var (i := 11) rfl)) (grd_ok hg31))) (fun v_heads_32 => (bx_nx (.same (.same (.same (.same (.same (.same (.un (.un (.same (.same (.un (.un .nil)))))))))))) rfl)))))) (fun s33 _ => (bx_bind fun g34 hg34 => (bx_bind fun u35 hu35 => (bx_bind fun u38 hu38 => (bx_bind fun g39 hg39 => (bx_bind fun u40 hu40 => (bx_dputT kT_inj (e := (eP (eL PyData.int) (eL PyData.int))) (i := 2) rfl (ex_tup (ea_cons (EXw.sh (exw_sortSet (EX.l (ex_var (i := 9) rfl)) (grd_ok hg34))) (ea_cons (EXw.sh (exw_sortSet (EXw.l (exw_lc (e := (eP (eL PyData.int) (eL PyData.int))) (e' := PyData.int) (envB := (fun x36 => [.sh (PyData.int v_pegs), .dt (u24.map (kvE kT (eL PyData.int))), .dt (s_4.2.map (kvE kT (eP (eL PyData.int) (eL PyData.int)))), .sh ((eL (eT PyData.int)) s_1.2.2), .sh (PyData.int x7), .ft (s19.map (kvE kT (eL (eP (eL PyData.int) (eL PyData.int))))), .un, .un, .sh ((eT PyData.int) x20), .sh ((eL PyData.int) s33), .sh ((eL PyData.int) x36.1), .sh ((eL PyData.int) x36.2)])) (ei_list (EX.l (ex_dgetFT kT_inj (e := (eL (eP (eL PyData.int) (eL PyData.int)))) (i := 5) rfl (ex_is (ex_var (i := 8) rfl) (kT_tup _)) hu35))) hu38 (fun x36 _ => (egc_tup (egs_cons (egc_name (i := 10) (by decide)) (egs_cons (egc_name (i := 11) (by decide)) egs_nil)) rfl)) (fun x36 _ => (eto_some et_yes)) (fun x36 _ => (exo_bind fun u37 hu37 => (exo_some (e := PyData.int) (ex_ixL (EX.l (ex_var (i := 10) rfl)) (ex_neg ex_int) (atI_map hu37))))))) (grd_ok hg39))) ea_nil)) (Nat.le_of_ble_eq_true rfl)) (ex_is (ex_var (i := 8) rfl) (kT_tup _)) hu40 (bx_nx (.same (.same (.same (.same (.same (.same (.un (.un (.un (.un (.un (.un .nil)))))))))))) rfl))))))))))))))))))) (fun s41 _ => (bx_asgB (e := (eL (eT PyData.int))) (i := 3) (EXw.sh (exw_listFT (e := (eL (eP (eL PyData.int) (eL PyData.int)))) (xs := s19) (i := 5) rfl)) (fun v_layer_42 => (bx_nx (.same (.same (.same (.same (.un (.un (.un (.un (.un (.un (.un (.un .nil)))))))))))) rfl))))))))))) (fun s43 _ => (bx_retTr (exe_pairDt (i := 1) (j := 2) (by decide) rfl rfl) rfl (.un (.un (.un (.un (.un (.un (.un (.un (.un (.un (.un (.un .nil)))))))))))))))))))))))))
abbrev encR_l_law (y : Bool) : Out := .rt (.sh (PyData.bool y))
abbrev st_l_law : Stmt := top 32
abbrev NN_l_law : List Str := ["_law_script", "_law_pegs", "_law_rows_of", "_law_begins", "_law_frame", "_law_again", "_law_found"]
theorem sc_l_law : FnScope NN_l_law ["_law_script"] (defScope st_l_law) := ⟨rfl, rfl, rfl, by decide +kernel, rfl, by decide +kernel, by decide +kernel⟩
theorem fn_law {P : Program} {w : World} {K : PySem.W.Frag} {mg : Str → Option Value} {base : Heap} {f : Addr} {fd : FuncData} (F : FunD K "law" "law" (defArgs st_l_law) (defBody st_l_law) (defScope st_l_law) [] [] f fd) (T : Tx K mg) (G__law_digits : Fn P w K mg base "_law_digits" 3 I_l_digits) (G__law_shortest : FnE P w K mg base "_law_shortest" 3 (I_l_shortest K)) (G_shortest_row : Fn P w K mg base "shortest_row" 5 I_p_shortest_row) (G__law_same : Fn P w K mg base "_law_same" 7 (I_l_same 6)) (G_length : Fn P w K mg base "length" 5 I_p_length) (G_firsts : Fn P w K mg base "firsts" 5 I_p_firsts) (G_lasts : Fn P w K mg base "lasts" 5 I_p_lasts) (ht : ∀ ns : List Int, ns.length ≤ 63 → l_law ns = some true) : FnOk P w K mg base CX0 8 f fd ["_law_script"] (spLaw K) := by
  refine law_ok (N := NN_l_law) F sc_l_law (fun cdv A' outer s H E hr => ⟨_, (pss_cons (ps_set (i := 0) sc_l_law.nd rfl (by first | exact Or.inl rfl | exact Or.inr rfl) (pe_slice (sl_listK (K := K)) (pv 0) po_none (po_some pe_int))) (pss_cons (ps_set (i := 1) sc_l_law.nd rfl (by first | exact Or.inl rfl | exact Or.inr rfl) (pe_op op_add pe_int (pe_ix (ix_listK (K := K)) (pe_fn G__law_digits (hr.mono (by decide)) (by rfl) (pa_cons (pv 0) (pa_cons pe_int (pa_cons (pe_lst (pa_cons pe_int pa_nil)) pa_nil)))) pe_int (fun _ _ => rfl)))) (pss_cons (ps_asg (pe_fnES (K := K) G__law_shortest (hr.mono (by decide)) (by rfl) (pa_cons (pv 1) pa_nil)) (pg_tupK (K := K) (n := 2) (by rfl) (pgs_cons (pg_name (i := 2) sc_l_law.nd rfl (by first | exact Or.inl rfl | exact Or.inr rfl)) (pgs_cons (pg_name (i := 3) sc_l_law.nd rfl (by first | exact Or.inl rfl | exact Or.inr rfl)) pgs_nil)))) (pss_cons (ps_if (pt_cmpR op_ne (pe_callB call_len_dT (by rfl) T.len (by decide +kernel) (pa_cons (pv 2) pa_nil)) (pe_ix (ix_listK (K := K)) (pe_lst (pa_cons pe_int (pa_cons pe_int (pa_cons pe_int (pa_cons pe_int (pa_cons pe_int pa_nil)))))) (pe_op op_sub (pv 1) pe_int) (fun _ _ => rfl)) (nomark _)) (pss_cons (ps_ret pe_bl) pss_never) pss_nil) (pss_cons (ps_fz (ps_for PassesOwn.never rfl (pi_keys (pv 2)) (pg_name (i := 4) sc_l_law.nd rfl (by first | exact Or.inl rfl | exact Or.inr rfl)) (pss_cons (ps_for PassesOwn.never rfl (pi_range1 (by rfl) T.range (pa_cons pe_int pa_nil)) (pg_name (i := 5) sc_l_law.nd rfl (by first | exact Or.inl rfl | exact Or.inr rfl)) (pss_cons (ps_set (i := 6) sc_l_law.nd rfl (by first | exact Or.inl rfl | exact Or.inr rfl) (pe_fn G_shortest_row (hr.mono (by decide)) (by rfl) (pa_cons (pv 4) pa_nil))) (pss_cons (ps_if (pt_not (pt_val (pe_fn G__law_same (hr.mono (by decide)) (by rfl) (pa_cons (pv 6) (pa_cons (pe_dget (un1 hr.units) (pv 2) (pv 4) (fun _ _ => rfl)) pa_nil))))) (pss_cons (ps_ret pe_bl) pss_never) pss_nil) (pss_cons (ps_expr (pe_bm PySem.F.plainAttrs_list PySem.F.slot_list_append PySem.F.type_list_append mt_append (pv 6) (pa_cons pe_int pa_nil))) pss_nil)))) (pss_cons (ps_if (pt_not (pt_val (pe_fn G__law_same (hr.mono (by decide)) (by rfl) (pa_cons (pe_fn G_length (hr.mono (by decide)) (by rfl) (pa_cons (pv 4) pa_nil)) (pa_cons (pe_callB (call_lenK (K := K)) (by rfl) T.len (by decide +kernel) (pa_cons (pe_dget (un1 hr.units) (pv 2) (pv 4) (fun _ _ => rfl)) pa_nil)) pa_nil))))) (pss_cons (ps_ret pe_bl) pss_never) pss_nil) (pss_cons (ps_if (pt_not (pt_val (pe_fn G__law_same (hr.mono (by decide)) (by rfl) (pa_cons (pe_lst (pa_cons (pe_fn G_firsts (hr.mono (by decide)) (by rfl) (pa_cons (pv 4) pa_nil)) (pa_cons (pe_fn G_lasts (hr.mono (by decide)) (by rfl) (pa_cons (pv 4) pa_nil)) pa_nil))) (pa_cons (pe_lst (pa_cons (pe_ix (ix_tupK (K := K)) (pe_dget (un1 hr.units) (pv 3) (pv 4) (fun _ _ => rfl)) pe_int (fun _ _ => rfl)) (pa_cons (pe_ix (ix_tupK (K := K)) (pe_dget (un1 hr.units) (pv 3) (pv 4) (fun _ _ => rfl)) pe_int (fun _ _ => rfl)) pa_nil))) pa_nil))))) (pss_cons (ps_ret pe_bl) pss_never) pss_nil) pss_nil))))) (pss_cons (ps_ret pe_bl) pss_never)))))), fun ns => ?_⟩) ht
  exact (show BX K _ [.sc (ns.map PyData.int), .un, .un, .un, .un, .un, .un] encR_l_law (l_law ns) from
   (bx_asgB (e := (eL PyData.int)) (i := 0) (EXw.sh (exw_slSc (i := 0) rfl eo_none (eo_some ex_int))) (fun ns_1 => (bx_bind fun u2 hu2 => (bx_bind fun u3 hu3 => (bx_asgB (e := PyData.int) (i := 1) (ex_add ex_int (ex_ixL (EXw.l (exw_call (ea_cons (ex_var (i := 0) rfl) (ea_cons ex_int (ea_cons (EXw.sh (exw_lst (ds := ([(5 : Int)] : (List Int)).map PyData.int) (ea_cons ex_int ea_nil) (Nat.le_of_ble_eq_true rfl))) ea_nil))) ⟨(ns_1, (0 : Int), ([(5 : Int)])), u2, rfl, hu2, rfl⟩)) ex_int (atI_map hu3))) (fun v_pegs_4 => (bx_bind fun u5 hu5 => (bx_unpDt (i := 2) (j := 3) (by decide) (ext_call0 (ss := ([.d (PyData.int v_pegs_4)] : List Sr)) (eag_d (ex_var (i := 1) rfl) eag_nil) (OkAll.at (ss := ([.d (PyData.int v_pegs_4)] : List Sr)) ⟨trivial, trivial⟩) (noMu_at (ss := ([.d (PyData.int v_pegs_4)] : List Sr)) rfl) ⟨v_pegs_4, .ok u5, rfl, ok_of hu5, rfl⟩) (bx_bind fun u6 hu6 => (bx_ifRet (et_of (ex_neI (ex_lenDT (i := 2) (kf := kT) (e := (eL PyData.int)) (xs := u5.1) rfl) (ex_ixL (EXw.l (exw_lst (ds := ([(1 : Int), (2 : Int), (5 : Int), (14 : Int), (42 : Int)] : (List Int)).map PyData.int) (ea_cons ex_int (ea_cons ex_int (ea_cons ex_int (ea_cons ex_int (ea_cons ex_int ea_nil))))) (Nat.le_of_ble_eq_true rfl))) (ex_sub (ex_var (i := 1) rfl) ex_int) (atI_map hu6)))) (fun _ => (bx_retS ex_bl rfl)) (fun _ _ _ h => nomatch h) (fun _ => (bx_fzT 2 rfl (bx_bindR (envS := (fun (s_1 : Unit) => [.sh ((eL PyData.int) ns_1), .sh (PyData.int v_pegs_4), .ft (u5.1.map (kvE kT (eL PyData.int))), .dt (u5.2.map (kvE kT (eP (eL PyData.int) (eL PyData.int)))), .un, .un, .un])) (encR := encR_l_law) (bx_forR (encR := encR_l_law) (envS := (fun (s_1 : Unit) => [.sh ((eL PyData.int) ns_1), .sh (PyData.int v_pegs_4), .ft (u5.1.map (kvE kT (eL PyData.int))), .dt (u5.2.map (kvE kT (eP (eL PyData.int) (eL PyData.int)))), .un, .un, .un])) (e := (eT PyData.int)) (envB := (fun (s_1 : Unit) (x7 : (List Int)) => [.sh ((eL PyData.int) ns_1), .sh (PyData.int v_pegs_4), .ft (u5.1.map (kvE kT (eL PyData.int))), .dt (u5.2.map (kvE kT (eP (eL PyData.int) (eL PyData.int)))), .sh ((eT PyData.int) x7), .un, .un])) (f := (l_law_for1 u5.1 u5.2)) (eis_keysFT (e := (eL PyData.int)) (xs := u5.1) (i := 2) rfl) (.same (.same (.same (.same (.un (.un (.un .nil))))))) (fun _ => trivial) (fun s_1 x7 _ => EGc.eg (vs := [4]) (egc_name (i := 4) (by decide))) (fun s_1 x7 _ => (bx_bindR (envS := (fun (s_2 : Unit) => [.sh ((eL PyData.int) ns_1), .sh (PyData.int v_pegs_4), .ft (u5.1.map (kvE kT (eL PyData.int))), .dt (u5.2.map (kvE kT (eP (eL PyData.int) (eL PyData.int)))), .sh ((eT PyData.int) x7), .un, .un])) (encR := encR_l_law) (bx_forR (encR := encR_l_law) (envS := (fun (s_2 : Unit) => [.sh ((eL PyData.int) ns_1), .sh (PyData.int v_pegs_4), .ft (u5.1.map (kvE kT (eL PyData.int))), .dt (u5.2.map (kvE kT (eP (eL PyData.int) (eL PyData.int)))), .sh ((eT PyData.int) x7), .un, .un])) (e := PyData.int) (envB := (fun (s_2 : Unit) (x8 : Int) => [.sh ((eL PyData.int) ns_1), .sh (PyData.int v_pegs_4), .ft (u5.1.map (kvE kT (eL PyData.int))), .dt (u5.2.map (kvE kT (eP (eL PyData.int) (eL PyData.int)))), .sh ((eT PyData.int) x7), .sh (PyData.int x8), .un])) (f := (l_law_for2 u5.1 x7)) (eis_rng1 ex_int (by decide)) (.same (.same (.same (.same (.same (.un (.un .nil))))))) (fun _ => trivial) (fun s_2 x8 _ => EGc.eg (vs := [5]) (egc_name (i := 5) (by decide))) (fun s_2 x8 _ => (bx_bind fun u9 hu9 => (bx_asgW (exw_call (ea_cons (ex_var (i := 4) rfl) ea_nil) ⟨x7, u9, rfl, hu9, rfl⟩) (bx_bind fun u10 hu10 => (bx_bind fun u11 hu11 => (bx_ifRetM (encR := encR_l_law) (et_not (et_B (ex_callQ (eaq_cons (EXl.q (exl_var (i := 6) rfl)) (eaq_cons (EX.q (ex_dgetFT kT_inj (e := (eL PyData.int)) (i := 2) rfl (ex_is (ex_var (i := 4) rfl) (kT_tup _)) hu10)) eaq_nil)) ⟨(((eL PyData.int) u9), ((eL PyData.int) u10)), u11, rfl, hu11, rfl⟩ (flat_bool _)))) (fun _ => (bx_retS ex_bl rfl)) (fun _ _ h => nomatch h) (fun _ => rfl) (fun _ => (bx_bind fun u12 hu12 => (bx_app (e := PyData.int) (x := (0 : Int)) rfl ex_int hu12 (bx_nx (.same (.same (.same (.same (.same (.un (.un .nil))))))) rfl))))))))))) (fun _ => rfl) (fun _ _ h => nomatch h) (fun s13 _ => (bx_bind fun u14 hu14 => (bx_bind fun u15 hu15 => (bx_bind fun u16 hu16 => (bx_ifRetM (encR := encR_l_law) (et_not (et_B (ex_call (ea_cons (ex_call (ea_cons (ex_var (i := 4) rfl) ea_nil) ⟨x7, u14, rfl, hu14, rfl⟩) (ea_cons (ex_lenL (EX.l (ex_dgetFT kT_inj (e := (eL PyData.int)) (i := 2) rfl (ex_is (ex_var (i := 4) rfl) (kT_tup _)) hu15))) ea_nil)) (by exact mk_l_same hu16)))) (fun _ => (bx_retS ex_bl rfl)) (fun _ _ h => nomatch h) (fun _ => rfl) (fun _ => (bx_bind fun u17 hu17 => (bx_bind fun u18 hu18 => (bx_bind fun u19 hu19 => (bx_bind fun u20 hu20 => (bx_bind fun u21 hu21 => (bx_ifRetM (encR := encR_l_law) (et_not (et_B (ex_call (ea_cons (EXw.sh (exw_lst (ds := ([u17, u18] : (List (List Int))).map (eL PyData.int)) (ea_cons (EXw.sh (exw_call (ea_cons (ex_var (i := 4) rfl) ea_nil) ⟨x7, u17, rfl, hu17, rfl⟩)) (ea_cons (EXw.sh (exw_call (ea_cons (ex_var (i := 4) rfl) ea_nil) ⟨x7, u18, rfl, hu18, rfl⟩)) ea_nil)) (Nat.le_of_ble_eq_true rfl))) (ea_cons (EXw.sh (exw_lst (ds := ([u19.1, u20.2] : (List (List Int))).map (eL PyData.int)) (ea_cons (ex_ixT (ex_dgetT kT_inj (e := (eP (eL PyData.int) (eL PyData.int))) (i := 3) rfl (ex_is (ex_var (i := 4) rfl) (kT_tup _)) hu19) ex_int rfl) (ea_cons (ex_ixT (ex_dgetT kT_inj (e := (eP (eL PyData.int) (eL PyData.int))) (i := 3) rfl (ex_is (ex_var (i := 4) rfl) (kT_tup _)) hu20) ex_int rfl) ea_nil)) (Nat.le_of_ble_eq_true rfl))) ea_nil)) (by exact mk_l_same hu21)))) (fun _ => (bx_retS ex_bl rfl)) (fun _ _ h => nomatch h) (fun _ => rfl) (fun _ => (bx_nx (.same (.same (.same (.same (.un (.un (.un .nil))))))) rfl))))))))))))))))) (fun _ => rfl) (fun _ _ h => nomatch h) (fun s22 _ => (bx_retS ex_bl rfl))))))))))))))))
end Rb.M_k26

set_option Elab.async false
set_option linter.all false
set_option maxRecDepth 100000
set_option maxHeartbeats 0
namespace Rb.M_k26
open PySem PySem.Spec PyProof.Rows L2 Rb
theorem t_x {P : Program} {w : World} {K : PySem.W.Frag} {h : Heap} {mg : Str → Option Value} (X : K.In h) (G : h.Ns mainGlobals mg) (c : He.SaysD fa fn K) : Tx K mg := ⟨trivial, He.free_ok X G (c.fact 26 (f := .free "all") rfl), He.free_ok X G (c.fact 27 (f := .free "bool") rfl), He.free_ok X G (c.fact 28 (f := .free "enumerate") rfl), He.free_ok X G (c.fact 29 (f := .free "int") rfl), He.free_ok X G (c.fact 30 (f := .free "isinstance") rfl), He.free_ok X G (c.fact 31 (f := .free "len") rfl), He.free_ok X G (c.fact 32 (f := .free "list") rfl), He.free_ok X G (c.fact 33 (f := .free "max") rfl), He.free_ok X G (c.fact 34 (f := .free "min") rfl), He.free_ok X G (c.fact 35 (f := .free "range") rfl), He.free_ok X G (c.fact 36 (f := .free "set") rfl), He.free_ok X G (c.fact 37 (f := .free "sorted") rfl), He.free_ok X G (c.fact 38 (f := .free "str") rfl), He.free_ok X G (c.fact 39 (f := .free "sum") rfl), He.free_ok X G (c.fact 40 (f := .free "tuple") rfl), He.free_ok X G (c.fact 41 (f := .free "zip") rfl), He.int_ok X G (c.fact 42 (f := .int "MOST_PEGS" 10) rfl)⟩
theorem hG_turned_round {P : Program} {w : World} {K : PySem.W.Frag} {h : Heap} {mg : Str → Option Value} (X : K.In h) (G : h.Ns mainGlobals mg) (c : He.SaysD fa fn K) (T : Tx K mg) (base : Heap) : Fn P w K mg base "turned_round" 1 I_p_turned_round := by
  obtain ⟨fd, F⟩ := c.def_ 0 (d := dD 5 "turned_round") rfl
  exact fn_p_turned_round (P := P) (w := w) (base := base) F (He.glo_ok X G (c.fact 0 (f := .glo "turned_round") rfl)) T 
theorem hG_in_round {P : Program} {w : World} {K : PySem.W.Frag} {h : Heap} {mg : Str → Option Value} (X : K.In h) (G : h.Ns mainGlobals mg) (c : He.SaysD fa fn K) (T : Tx K mg) (base : Heap) : Fn P w K mg base "in_round" 2 I_p_in_round := by
  obtain ⟨fd, F⟩ := c.def_ 1 (d := dD 6 "in_round") rfl
  exact fn_p_in_round (P := P) (w := w) (base := base) F (He.glo_ok X G (c.fact 1 (f := .glo "in_round") rfl)) T (hG_turned_round X G c T base)
theorem hG_in_round_L {P : Program} {w : World} {K : PySem.W.Frag} {h : Heap} {mg : Str → Option Value} (X : K.In h) (G : h.Ns mainGlobals mg) (c : He.SaysD fa fn K) (T : Tx K mg) (base : Heap) : Fn P w K mg base "in_round" 2 I_p_in_round_L := by
  obtain ⟨fd, F⟩ := c.def_ 1 (d := dD 6 "in_round") rfl
  exact fn_p_in_round_L (P := P) (w := w) (base := base) F (He.glo_ok X G (c.fact 1 (f := .glo "in_round") rfl)) T (hG_turned_round X G c T base)
theorem hG_are_ties {P : Program} {w : World} {K : PySem.W.Frag} {h : Heap} {mg : Str → Option Value} (X : K.In h) (G : h.Ns mainGlobals mg) (c : He.SaysD fa fn K) (T : Tx K mg) (base : Heap) : Fn P w K mg base "are_ties" 1 I_p_are_ties := by
  obtain ⟨fd, F⟩ := c.def_ 2 (d := dD 7 "are_ties") rfl
  exact fn_p_are_ties (P := P) (w := w) (base := base) F (He.glo_ok X G (c.fact 2 (f := .glo "are_ties") rfl)) T 
theorem hG_nested {P : Program} {w : World} {K : PySem.W.Frag} {h : Heap} {mg : Str → Option Value} (X : K.In h) (G : h.Ns mainGlobals mg) (c : He.SaysD fa fn K) (T : Tx K mg) (base : Heap) : Fn P w K mg base "nested" 1 I_p_nested := by
  obtain ⟨fd, F⟩ := c.def_ 3 (d := dD 8 "nested") rfl
  exact fn_p_nested (P := P) (w := w) (base := base) F (He.glo_ok X G (c.fact 3 (f := .glo "nested") rfl)) T 
theorem hG_is_frame {P : Program} {w : World} {K : PySem.W.Frag} {h : Heap} {mg : Str → Option Value} (X : K.In h) (G : h.Ns mainGlobals mg) (c : He.SaysD fa fn K) (T : Tx K mg) (base : Heap) : Fn P w K mg base "is_frame" 3 I_p_is_frame := by
  obtain ⟨fd, F⟩ := c.def_ 4 (d := dD 9 "is_frame") rfl
  exact fn_p_is_frame (P := P) (w := w) (base := base) F (He.glo_ok X G (c.fact 4 (f := .glo "is_frame") rfl)) T (hG_are_ties X G c T base) (hG_in_round X G c T base) (hG_nested X G c T base)
theorem hG_ask_frame {P : Program} {w : World} {K : PySem.W.Frag} {h : Heap} {mg : Str → Option Value} (X : K.In h) (G : h.Ns mainGlobals mg) (c : He.SaysD fa fn K) (T : Tx K mg) (base : Heap) : Fn P w K mg base "ask_frame" 4 I_p_ask_frame := by
  obtain ⟨fd, F⟩ := c.def_ 5 (d := dD 10 "ask_frame") rfl
  exact fn_p_ask_frame (P := P) (w := w) (base := base) F (He.glo_ok X G (c.fact 5 (f := .glo "ask_frame") rfl)) T (hG_is_frame X G c T base)
theorem hG_column {P : Program} {w : World} {K : PySem.W.Frag} {h : Heap} {mg : Str → Option Value} (X : K.In h) (G : h.Ns mainGlobals mg) (c : He.SaysD fa fn K) (T : Tx K mg) (base : Heap) : Fn P w K mg base "column" 1 I_p_column := by
  obtain ⟨fd, F⟩ := c.def_ 6 (d := dD 12 "column") rfl
  exact fn_p_column (P := P) (w := w) (base := base) F (He.glo_ok X G (c.fact 6 (f := .glo "column") rfl)) T 
theorem hG_seams_of {P : Program} {w : World} {K : PySem.W.Frag} {h : Heap} {mg : Str → Option Value} (X : K.In h) (G : h.Ns mainGlobals mg) (c : He.SaysD fa fn K) (T : Tx K mg) (base : Heap) : Fn P w K mg base "seams_of" 2 I_p_seams_of := by
  obtain ⟨fd, F⟩ := c.def_ 7 (d := dD 13 "seams_of") rfl
  exact fn_p_seams_of (P := P) (w := w) (base := base) F (He.glo_ok X G (c.fact 7 (f := .glo "seams_of") rfl)) T (hG_column X G c T base)
theorem hG_length_of {P : Program} {w : World} {K : PySem.W.Frag} {h : Heap} {mg : Str → Option Value} (X : K.In h) (G : h.Ns mainGlobals mg) (c : He.SaysD fa fn K) (T : Tx K mg) (base : Heap) : Fn P w K mg base "length_of" 3 I_p_length_of := by
  obtain ⟨fd, F⟩ := c.def_ 8 (d := dD 14 "length_of") rfl
  exact fn_p_length_of (P := P) (w := w) (base := base) F (He.glo_ok X G (c.fact 8 (f := .glo "length_of") rfl)) T (hG_seams_of X G c T base)
theorem hG_length {P : Program} {w : World} {K : PySem.W.Frag} {h : Heap} {mg : Str → Option Value} (X : K.In h) (G : h.Ns mainGlobals mg) (c : He.SaysD fa fn K) (T : Tx K mg) (base : Heap) : Fn P w K mg base "length" 5 I_p_length := by
  obtain ⟨fd, F⟩ := c.def_ 9 (d := dD 15 "length") rfl
  exact fn_p_length (P := P) (w := w) (base := base) F (He.glo_ok X G (c.fact 9 (f := .glo "length") rfl)) T (hG_ask_frame X G c T base) (hG_length_of X G c T base)
theorem hG_tied_beside {P : Program} {w : World} {K : PySem.W.Frag} {h : Heap} {mg : Str → Option Value} (X : K.In h) (G : h.Ns mainGlobals mg) (c : He.SaysD fa fn K) (T : Tx K mg) (base : Heap) : Fn P w K mg base "tied_beside" 1 I_p_tied_beside := by
  obtain ⟨fd, F⟩ := c.def_ 10 (d := dD 16 "tied_beside") rfl
  exact fn_p_tied_beside (P := P) (w := w) (base := base) F (He.glo_ok X G (c.fact 10 (f := .glo "tied_beside") rfl)) T 
theorem hG_firsts {P : Program} {w : World} {K : PySem.W.Frag} {h : Heap} {mg : Str → Option Value} (X : K.In h) (G : h.Ns mainGlobals mg) (c : He.SaysD fa fn K) (T : Tx K mg) (base : Heap) : Fn P w K mg base "firsts" 5 I_p_firsts := by
  obtain ⟨fd, F⟩ := c.def_ 11 (d := dD 17 "firsts") rfl
  exact fn_p_firsts (P := P) (w := w) (base := base) F (He.glo_ok X G (c.fact 11 (f := .glo "firsts") rfl)) T (hG_ask_frame X G c T base) (hG_tied_beside X G c T base)
theorem hG_lasts {P : Program} {w : World} {K : PySem.W.Frag} {h : Heap} {mg : Str → Option Value} (X : K.In h) (G : h.Ns mainGlobals mg) (c : He.SaysD fa fn K) (T : Tx K mg) (base : Heap) : Fn P w K mg base "lasts" 5 I_p_lasts := by
  obtain ⟨fd, F⟩ := c.def_ 12 (d := dD 18 "lasts") rfl
  exact fn_p_lasts (P := P) (w := w) (base := base) F (He.glo_ok X G (c.fact 12 (f := .glo "lasts") rfl)) T (hG_ask_frame X G c T base) (hG_tied_beside X G c T base)
theorem hG_tied_anew {P : Program} {w : World} {K : PySem.W.Frag} {h : Heap} {mg : Str → Option Value} (X : K.In h) (G : h.Ns mainGlobals mg) (c : He.SaysD fa fn K) (T : Tx K mg) (base : Heap) : Fn P w K mg base "tied_anew" 3 I_p_tied_anew := by
  obtain ⟨fd, F⟩ := c.def_ 13 (d := dD 19 "tied_anew") rfl
  exact fn_p_tied_anew (P := P) (w := w) (base := base) F (He.glo_ok X G (c.fact 13 (f := .glo "tied_anew") rfl)) T (hG_in_round_L X G c T base) (hG_nested X G c T base)
theorem hG_without_first {P : Program} {w : World} {K : PySem.W.Frag} {h : Heap} {mg : Str → Option Value} (X : K.In h) (G : h.Ns mainGlobals mg) (c : He.SaysD fa fn K) (T : Tx K mg) (base : Heap) : Fn P w K mg base "without_first" 4 I_p_without_first := by
  obtain ⟨fd, F⟩ := c.def_ 14 (d := dD 20 "without_first") rfl
  exact fn_p_without_first (P := P) (w := w) (base := base) F (He.glo_ok X G (c.fact 14 (f := .glo "without_first") rfl)) T (hG_length_of X G c T base) (hG_tied_anew X G c T base)
theorem hG_shortest_row {P : Program} {w : World} {K : PySem.W.Frag} {h : Heap} {mg : Str → Option Value} (X : K.In h) (G : h.Ns mainGlobals mg) (c : He.SaysD fa fn K) (T : Tx K mg) (base : Heap) : Fn P w K mg base "shortest_row" 5 I_p_shortest_row := by
  obtain ⟨fd, F⟩ := c.def_ 15 (d := dD 21 "shortest_row") rfl
  exact fn_p_shortest_row (P := P) (w := w) (base := base) F (He.glo_ok X G (c.fact 15 (f := .glo "shortest_row") rfl)) T (hG_ask_frame X G c T base) (hG_length_of X G c T base) (hG_tied_beside X G c T base) (hG_without_first X G c T base)
theorem hG__law_plain {P : Program} {w : World} {K : PySem.W.Frag} {h : Heap} {mg : Str → Option Value} (X : K.In h) (G : h.Ns mainGlobals mg) (c : He.SaysD fa fn K) (T : Tx K mg) (base : Heap) : Fn P w K mg base "_law_plain" 1 I_l_plain := by
  obtain ⟨fd, F⟩ := c.def_ 16 (d := dD 23 "_law_plain") rfl
  exact fn_l_plain (P := P) (w := w) (base := base) F (He.glo_ok X G (c.fact 16 (f := .glo "_law_plain") rfl)) T 
theorem hG__law_rings_by {P : Program} {w : World} {K : PySem.W.Frag} {h : Heap} {mg : Str → Option Value} (X : K.In h) (G : h.Ns mainGlobals mg) (c : He.SaysD fa fn K) (T : Tx K mg) (base : Heap) : Fn P w K mg base "_law_rings_by" 1 I_l_rings_by := by
  obtain ⟨fd, F⟩ := c.def_ 17 (d := dD 24 "_law_rings_by") rfl
  exact fn_l_rings_by (P := P) (w := w) (base := base) F (He.glo_ok X G (c.fact 17 (f := .glo "_law_rings_by") rfl)) T 
theorem hG__law_hung {P : Program} {w : World} {K : PySem.W.Frag} {h : Heap} {mg : Str → Option Value} (X : K.In h) (G : h.Ns mainGlobals mg) (c : He.SaysD fa fn K) (T : Tx K mg) (base : Heap) : Fn P w K mg base "_law_hung" 2 I_l_hung := by
  obtain ⟨fd, F⟩ := c.def_ 18 (d := dD 25 "_law_hung") rfl
  exact fn_l_hung (P := P) (w := w) (base := base) F (He.glo_ok X G (c.fact 18 (f := .glo "_law_hung") rfl)) T (hG__law_rings_by X G c T base)
theorem hG__law_hook {P : Program} {w : World} {K : PySem.W.Frag} {h : Heap} {mg : Str → Option Value} (X : K.In h) (G : h.Ns mainGlobals mg) (c : He.SaysD fa fn K) (T : Tx K mg) (base : Heap) : Fn P w K mg base "_law_hook" 2 I_l_hook := by
  obtain ⟨fd, F⟩ := c.def_ 19 (d := dD 26 "_law_hook") rfl
  exact fn_l_hook (P := P) (w := w) (base := base) F (He.glo_ok X G (c.fact 19 (f := .glo "_law_hook") rfl)) T (hG__law_plain X G c T base)
theorem hG__law_mix {P : Program} {w : World} {K : PySem.W.Frag} {h : Heap} {mg : Str → Option Value} (X : K.In h) (G : h.Ns mainGlobals mg) (c : He.SaysD fa fn K) (T : Tx K mg) (base : Heap) : Fn P w K mg base "_law_mix" 1 I_l_mix := by
  obtain ⟨fd, F⟩ := c.def_ 20 (d := dD 27 "_law_mix") rfl
  exact fn_l_mix (P := P) (w := w) (base := base) F (He.glo_ok X G (c.fact 20 (f := .glo "_law_mix") rfl)) T 
theorem hG__law_raw {P : Program} {w : World} {K : PySem.W.Frag} {h : Heap} {mg : Str → Option Value} (X : K.In h) (G : h.Ns mainGlobals mg) (c : He.SaysD fa fn K) (T : Tx K mg) (base : Heap) : Fn P w K mg base "_law_raw" 2 I_l_raw := by
  obtain ⟨fd, F⟩ := c.def_ 21 (d := dD 28 "_law_raw") rfl
  exact fn_l_raw (P := P) (w := w) (base := base) F (He.glo_ok X G (c.fact 21 (f := .glo "_law_raw") rfl)) T (hG__law_mix X G c T base)
theorem hG__law_digits {P : Program} {w : World} {K : PySem.W.Frag} {h : Heap} {mg : Str → Option Value} (X : K.In h) (G : h.Ns mainGlobals mg) (c : He.SaysD fa fn K) (T : Tx K mg) (base : Heap) : Fn P w K mg base "_law_digits" 3 I_l_digits := by
  obtain ⟨fd, F⟩ := c.def_ 22 (d := dD 29 "_law_digits") rfl
  exact fn_l_digits (P := P) (w := w) (base := base) F (He.glo_ok X G (c.fact 22 (f := .glo "_law_digits") rfl)) T (hG__law_raw X G c T base)
theorem hG__law_same {P : Program} {w : World} {K : PySem.W.Frag} {h : Heap} {mg : Str → Option Value} (X : K.In h) (G : h.Ns mainGlobals mg) (c : He.SaysD fa fn K) (T : Tx K mg) (base : Heap) : Fn P w K mg base "_law_same" 7 (I_l_same 6) := by
  obtain ⟨fd, F⟩ := c.def_ 23 (d := dD 30 "_law_same") rfl
  exact fn_l_same (P := P) (w := w) (base := base) F (He.glo_ok X G (c.fact 23 (f := .glo "_law_same") rfl)) T 
theorem hG__law_shortest {P : Program} {w : World} {K : PySem.W.Frag} {h : Heap} {mg : Str → Option Value} (X : K.In h) (G : h.Ns mainGlobals mg) (c : He.SaysD fa fn K) (T : Tx K mg) (base : Heap) : FnE P w K mg base "_law_shortest" 3 (I_l_shortest K) := by
  obtain ⟨fd, F⟩ := c.def_ 24 (d := dD 31 "_law_shortest") rfl
  exact fn_l_shortest (P := P) (w := w) (base := base) F (He.glo_ok X G (c.fact 24 (f := .glo "_law_shortest") rfl)) T (hG__law_plain X G c T base) (hG__law_hook X G c T base) (hG__law_hung X G c T base)
theorem facts (ht : ∀ ns : List Int, ns.length ≤ 63 → l_law ns = some true) {P : Program} {w : World} {K : PySem.W.Frag} {h : Heap} {mg : Str → Option Value} {f : Addr} (X : K.In h) (G : h.Ns mainGlobals mg) (hfa : mg ("law" : Str) = some (.ref f)) (c : He.SaysD fa fn K) :
    ∃ fd : FuncData, (∀ (s : Shared) (v : Value), BindsTo s fd ⟨[v], []⟩ [("_law_script", v)]) ∧ ∀ base : Heap, K.In base → base.Ns mainGlobals mg → FnOk P w K mg base CX0 8 f fd ["_law_script"] (spLaw K) := by
  obtain ⟨fd, F⟩ := c.def_ 25 (d := dD 32 "law") rfl
  have e := hfa.symm.trans (He.glo_ok X G (c.fact 25 (f := .glo "law") rfl))
  cases e
  have T : Tx K mg := t_x (P := P) (w := w) X G c
  refine ⟨fd, fun s v => FunD.bindsA (ps := ["_law_script"]) F (fun _ _ _ _ _ _ us hl => match us, hl with | [_], _ => rfl) s [v] rfl, fun base _ _ => ?_⟩
  exact fn_law F T (hG__law_digits X G c T base) (hG__law_shortest X G c T base) (hG_shortest_row X G c T base) (hG__law_same X G c T base) (hG_length X G c T base) (hG_firsts X G c T base) (hG_lasts X G c T base) ht
end Rb.M_k26
open PySem PySem.W PySem.Calls PyProof.Rows
set_option maxHeartbeats 0 in
theorem PySem.Challenge.cw_ribbonloft_k26_whole_no_row_is_shorter_holds : PySem.Challenge.rw_ribbonloft_k26_whole_no_row_is_shorter.Holds := by
  refine Rb.M_k26.z_law fun said => ?_
  refine HandSHeadRun.head_any (r := OpenLaw.row PySem.Challenge.rw_ribbonloft_k26_whole_no_row_is_shorter) (q := view (OpenLaw.row PySem.Challenge.rw_ribbonloft_k26_whole_no_row_is_shorter).prog [32]) (H := Rb.M_k26.hk) (ob := Rb.M_k26.ob) (M := 6000) (loose := Rb.M_k26.loose) (d := HandSHeadRun.topDef (OpenLaw.row PySem.Challenge.rw_ribbonloft_k26_whole_no_row_is_shorter).prog 32) (kwd := []) Rb.M_k26.ob_eq
    Rb.M_k26.z_e Rb.M_k26.z_f Rb.M_k26.run Rb.M_k26.z_def Rb.M_k26.z_p Rb.M_k26.z_k Rb.M_k26.z_wr said Rb.M_k26.z_ok Rb.M_k26.z_b ?hw ?hc
  case hw => w_witness2
  case hc =>
    refine L2.walk_ofE (l := PySem.Challenge.rw_ribbonloft_k26_whole_no_row_is_shorter) (n := 63) (k := 8) (x := "_law_script") (CX := L2.CX0) rfl (by decide) (by kernel_rfl) ⟨rfl, by decide, by decide⟩ ?F (fun _ _ _ _ z => z)
    intro w mg fa h Y G hmg0
    obtain ⟨K, KX, c⟩ := Y
    have hmg : mg ("law" : PySem.Str) = some (.ref fa) := by
      have e : (HandSHeadRun.topDef (OpenLaw.row PySem.Challenge.rw_ribbonloft_k26_whole_no_row_is_shorter).prog 32).name = ("law" : PySem.Str) := by kernel_rfl
      rw [← e]
      exact hmg0
    obtain ⟨fd, hb, hF⟩ := Rb.M_k26.facts Rb.M_k26.law_true (P := (PySem.Challenge.rw_ribbonloft_k26_whole_no_row_is_shorter).prog) (w := w) KX G hmg c
    exact ⟨K, fd, Rb.spLaw K, KX, hb, fun H a ns hl _ hS => ⟨a, ns, rfl, hS, hl, fun _ => rfl⟩, hF⟩

