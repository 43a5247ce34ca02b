import PyProof.Rows.All
import Wide.All
import OpenK.AllK
import Wide.FinOn
import HandS.ForMost
import HandS.Exc
import HandS.TryOnly
import HandS.ExcOwn
import HandS.WordsExc
import HandS.Defaults
import HandS.Evl
import HandS.Wide
import HandS.SetFor
import HandS.Walk
import HandS.Conv
import HandS.Zip
import HandS.HeadHook2
import KE.GoesEnum
import HandS.Style
import HandS.IsInst
import HandS.Dict
import HandS.SortInts
import HandS.HeadHook4
import HandS.ExcIs
import HandS.Text
import HandS.TryMany
import HandS.ExcCtx
import HandS.HotCalls
import KE.KExcIs
import HandS.ExcField
import HandS.ExcInit
import HandS.WordsDict
import HandS.TupLen
import HandS.Set
import HandS.Strs
import PyProof.Rows.SetFrom
import KE.KSortTup
import HandS.TupSets
import HandS.SortOrd
import PyProof.Rows.SortShellAny
import HandS.Deep
import HandS.More
import HandS.TupAny
import KE.KRevSl
import PySem.Challenge.RW_ribbonloft_k20_whole_two_halves_make_a_f
import KE.KStateDown
import Lean
import HandS.Head0
import HandS.Head1
import HandS.Head2
import HandS.HeadEnd
set_option Elab.async false
set_option linter.all false
set_option maxRecDepth 100000
set_option maxHeartbeats 2000000
/-! # A typed layer over the hand layer: environments of data, judgements without heaps -/
namespace Rb
open PySem PySem.Spec PyProof.Rows L2
abbrev Ex := Evl.Ex
abbrev Frag := PySem.W.Frag
def lim : Nat := 100000
theorem lim_le {n : Nat} (h : n ≤ lim) : n ≤ sizeLine := Nat.le_trans h (by decide)
theorem lim_lt {n : Nat} (h : n < lim) : n < sizeLine := Nat.lt_of_lt_of_le h (by decide)

/-! ### data that a value stands for -/
/-- a key as data -/
def kD : Key → PyData
  | .inl i => .int i
  | .inr s => .str s
def kvD (p : Key × PyData) : PyData × PyData := (kD p.1, p.2)
def kOk : Key → Prop
  | .inl _ => True
  | .inr s => s.length ≤ lim
/-- a dict is not too long, nor are its keys -/
def DtL (kvs : List (List Key × PyData)) : Prop := kvs.length ≤ lim ∧ ∀ p, p ∈ kvs → p.1.length ≤ lim
def DkL (kvs : List (Key × PyData)) : Prop := kvs.length ≤ lim ∧ ∀ p, p ∈ kvs → kOk p.1
mutual
inductive Dq (H : Hp) : V → PyData → Prop
  | non : Dq H .non .none
  | bl (b : Bool) : Dq H (.bl b) (.bool b)
  | int (i : Int) : Dq H (.int i) (.int i)
  | str (x : Str) : x.length ≤ lim → Dq H (.str x) (.str x)
  | lst {a : Addr} {xs : List V} {ds : List PyData} : H a = some (.lst xs) → DqAll H xs ds → ds.length ≤ lim → Dq H (.ref a) (.list ds)
  | tup {a : Addr} {xs : List V} {ds : List PyData} : H a = some (.tup xs) → DqAll H xs ds → ds.length ≤ lim → Dq H (.ref a) (.tuple ds)
  /-- a dict that never changes again -/
  | dct {a : Addr} {o : Obj} {xs : List (Key × V)} {kvs : List (Key × PyData)} {ps : List (PyData × PyData)} : H a = some (.frz o (.dK xs)) → xs.map (·.1) = kvs.map (·.1) → DqAll H (xs.map (·.2)) (kvs.map (·.2)) → DkL kvs → ps = kvs.map kvD → Dq H (.ref a) (.dict ps)
inductive DqAll (H : Hp) : List V → List PyData → Prop
  | nil : DqAll H [] []
  | cons {v : V} {vs : List V} {d : PyData} {ds : List PyData} : Dq H v d → DqAll H vs ds → DqAll H (v :: vs) (d :: ds)
end
mutual
theorem Dq.mono' {H H' : Hp} (e : Ex H H') : ∀ {d : PyData} {v : V}, Dq H v d → Dq H' v d
  | _, _, .non => .non
  | _, _, .bl b => .bl b
  | _, _, .int i => .int i
  | _, _, .str x z => .str x z
  | _, _, .lst h1 h2 h3 => .lst (e _ _ h1) (DqAll.mono' e h2) h3
  | _, _, .tup h1 h2 h3 => .tup (e _ _ h1) (DqAll.mono' e h2) h3
  | _, _, .dct h1 h2 h3 h4 h5 => .dct (e _ _ h1) h2 (DqAll.mono' e h3) h4 h5
theorem DqAll.mono' {H H' : Hp} (e : Ex H H') : ∀ {ds : List PyData} {vs : List V}, DqAll H vs ds → DqAll H' vs ds
  | _, _, .nil => .nil
  | _, _, .cons h1 h2 => .cons (Dq.mono' e h1) (DqAll.mono' e h2)
end
theorem Dq.mono {H H' : Hp} (e : Ex H H') (d : PyData) (v : V) (h : Dq H v d) : Dq H' v d := h.mono' e
theorem DqAll.mono {H H' : Hp} (e : Ex H H') (ds : List PyData) (vs : List V) (h : DqAll H vs ds) : DqAll H' vs ds := h.mono' e
mutual
theorem Dq.dp {K : Frag} {H : Hp} : ∀ (d : PyData) (v : V), PyData.canLay0 d = true → Dq H v d → Dp K H v d
  | .none, _, _, h => by cases h; exact .non
  | .bool b, _, _, h => by cases h; exact .bl b
  | .int i, _, _, h => by cases h; exact .int i
  | .str x, _, _, h => by cases h; exact .str x
  | .list ds, _, c, h => by cases h with | lst h1 h2 h3 => exact .lst (SqL.of h1) (DqAll.dp ds _ c h2)
  | .tuple ds, _, c, h => by cases h with | tup h1 h2 h3 => exact .tup (SqT.of h1) (DqAll.dp ds _ c h2)
  | .dict _, _, c, _ => by cases c
theorem DqAll.dp {K : Frag} {H : Hp} : ∀ (ds : List PyData) (vs : List V), PyData.canLayAll0 ds = true → DqAll H vs ds → DpAll K H vs ds
  | [], _, _, h => by cases h; exact .nil
  | d :: ds, _, c, h => by
    have c' : (PyData.canLay0 d && PyData.canLayAll0 ds) = true := c
    cases h with | cons h1 h2 => exact .cons (Dq.dp d _ (Bool.and_eq_true_iff.mp c').1 h1) (DqAll.dp ds _ (Bool.and_eq_true_iff.mp c').2 h2)
end
theorem DqAll.len {H : Hp} : ∀ {ds : List PyData} {vs : List V}, DqAll H vs ds → vs.length = ds.length
  | [], _, h => by cases h; rfl
  | d :: ds, _, h => by cases h with | cons h1 h2 => rw [List.length_cons, List.length_cons, h2.len]
theorem DqAll.get {H : Hp} : ∀ {ds : List PyData} {vs : List V} {i : Nat} {d : PyData}, DqAll H vs ds → ds[i]? = some d → ∃ v, vs[i]? = some v ∧ Dq H v d
  | [], _, _, _, _, e => by simp at e
  | d :: ds, _, 0, _, .cons h1 h2, e => by simp at e; subst e; exact ⟨_, rfl, h1⟩
  | d :: ds, _, i + 1, _, .cons h1 h2, e => by
    obtain ⟨v, e1, e2⟩ := DqAll.get h2 (by simpa using e)
    exact ⟨v, by simpa using e1, e2⟩
theorem DqAll.getV {H : Hp} : ∀ {ds : List PyData} {vs : List V} {i : Nat} {v : V}, DqAll H vs ds → vs[i]? = some v → ∃ d, ds[i]? = some d ∧ Dq H v d
  | [], _, _, _, .nil, e => by simp at e
  | d :: ds, _, 0, _, .cons h1 h2, e => by simp at e; subst e; exact ⟨_, rfl, h1⟩
  | d :: ds, _, i + 1, _, .cons h1 h2, e => by
    obtain ⟨v, e1, e2⟩ := DqAll.getV h2 (by simpa using e)
    exact ⟨v, by simpa using e1, e2⟩
theorem DqAll.app {H : Hp} : ∀ {ds es : List PyData} {vs ws : List V}, DqAll H vs ds → DqAll H ws es → DqAll H (vs ++ ws) (ds ++ es)
  | [], _, _, _, .nil, h => h
  | _ :: _, _, _, _, .cons h1 h2, h => .cons h1 (h2.app h)
theorem DqAll.take {H : Hp} : ∀ {ds : List PyData} {vs : List V} (n : Nat), DqAll H vs ds → DqAll H (vs.take n) (ds.take n)
  | _, _, 0, _ => .nil
  | [], _, _ + 1, .nil => .nil
  | _ :: _, _, n + 1, .cons h1 h2 => .cons h1 (h2.take n)
theorem DqAll.drop {H : Hp} : ∀ {ds : List PyData} {vs : List V} (n : Nat), DqAll H vs ds → DqAll H (vs.drop n) (ds.drop n)
  | _, _, 0, h => h
  | [], _, _ + 1, .nil => .nil
  | _ :: _, _, n + 1, .cons h1 h2 => h2.drop n
theorem DqAll.set {H : Hp} {v : V} {d : PyData} (h : Dq H v d) : ∀ {ds : List PyData} {vs : List V} (i : Nat), DqAll H vs ds → DqAll H (vs.set i v) (ds.set i d)
  | [], _, _, .nil => .nil
  | _ :: _, _, 0, .cons h1 h2 => .cons h h2
  | _ :: _, _, n + 1, .cons h1 h2 => .cons h1 (h2.set h n)
theorem DqAll.rev {H : Hp} : ∀ {ds : List PyData} {vs : List V}, DqAll H vs ds → DqAll H vs.reverse ds.reverse
  | [], _, .nil => .nil
  | _ :: _, _, .cons h1 h2 => by
    rw [List.reverse_cons, List.reverse_cons]
    exact h2.rev.app (.cons h1 .nil)
theorem DqAll.dropLast {H : Hp} {ds : List PyData} {vs : List V} (h : DqAll H vs ds) : DqAll H vs.dropLast ds.dropLast := by
  rw [List.dropLast_eq_take, List.dropLast_eq_take, h.len]
  exact h.take _
theorem DqAll.erase {H : Hp} : ∀ {ds : List PyData} {vs : List V} (i : Nat), DqAll H vs ds → DqAll H (vs.eraseIdx i) (ds.eraseIdx i)
  | [], _, _, .nil => .nil
  | _ :: _, _, 0, .cons h1 h2 => h2
  | _ :: _, _, n + 1, .cons h1 h2 => .cons h1 (h2.erase n)
theorem DqAll.ints {H : Hp} : ∀ {ns : List Int} {vs : List V}, DqAll H vs (ns.map PyData.int) → vs = ns.map V.int
  | [], _, h => by cases h; rfl
  | n :: ns, _, h => by
    cases h with
    | cons h1 h2 =>
      cases h1
      rw [List.map_cons, h2.ints]
theorem DqAll.ints' {H : Hp} : ∀ (ns : List Int), DqAll H (ns.map V.int) (ns.map PyData.int)
  | [] => .nil
  | n :: ns => .cons (.int n) (DqAll.ints' ns)
theorem DqAll.bls {H : Hp} : ∀ {ns : List Bool} {vs : List V}, DqAll H vs (ns.map PyData.bool) → vs = ns.map V.bl
  | [], _, h => by cases h; rfl
  | n :: ns, _, h => by
    cases h with
    | cons h1 h2 =>
      cases h1
      rw [List.map_cons, h2.bls]
theorem DqAll.strs {H : Hp} : ∀ {ns : List Str} {vs : List V}, DqAll H vs (ns.map PyData.str) → vs = ns.map V.str
  | [], _, h => by cases h; rfl
  | n :: ns, _, h => by
    cases h with
    | cons h1 h2 =>
      cases h1
      rw [List.map_cons, h2.strs]
theorem DqAll.rep {H : Hp} {v : V} {d : PyData} (h : Dq H v d) : ∀ n, DqAll H (List.replicate n v) (List.replicate n d)
  | 0 => .nil
  | n + 1 => .cons h (DqAll.rep h n)

/-! ### a step of the two heaps: F what is settled for ever, H all that stands -/
/-- no tuple -/
def NoTup (o : HO) : Prop := ∀ xs, o ≠ .tup xs
structure Fz (F H F' H' : Hp) : Prop where
  f : Ex F F'
  fh : Ex F' H'
  own' : ∀ p o, H p = some o → F p = none → (NoTup o → F' p = none) ∧ H' p = some o
theorem Fz.own {F H F' H' : Hp} (z : Fz F H F' H') (p : Addr) (o : HO) (h : H p = some o) (n : F p = none) (nt : NoTup o := by exact fun _ z => nomatch z) : F' p = none ∧ H' p = some o := ⟨(z.own' p o h n).1 nt, (z.own' p o h n).2⟩
theorem Fz.refl {F H : Hp} (e : Ex F H) : Fz F H F H := ⟨Evl.Ex.refl F, e, fun _ _ h n => ⟨fun _ => n, h⟩⟩
theorem Fz.trans {F H F1 H1 F2 H2 : Hp} (a : Fz F H F1 H1) (b : Fz F1 H1 F2 H2) : Fz F H F2 H2 :=
  ⟨a.f.trans b.f, b.fh, fun p o h n => by
    obtain ⟨x, y⟩ := a.own' p o h n
    cases r : F1 p with
    | none => exact b.own' p o y r
    | some u =>
      have e := a.fh p u r
      rw [y] at e
      cases e
      exact ⟨fun z => (by rw [x z] at r; cases r), b.fh p _ (b.f p _ r)⟩⟩
theorem Fz.hh {F H F' H' : Hp} (e : Ex F H) (a : Fz F H F' H') : Ex H H' := fun p o h => by
  cases q : F p with
  | none => exact (a.own' p o h q).2
  | some u =>
    have e1 := e p u q
    rw [h] at e1
    cases e1
    exact a.fh p o (a.f p o q)
theorem Fz.hn {F H F' H' : Hp} (z : Fz F H F' H') {p : Addr} (h : H' p = none) : H p = none := by
  cases q : H p with
  | none => rfl
  | some o =>
    cases r : F p with
    | none => rw [(z.own' p o q r).2] at h; cases h
    | some u => rw [z.fh p u (z.f p u r)] at h; cases h
/-- a tuple is settled -/
theorem Fz.tup {F H : Hp} {p : Addr} {xs : List V} (e : Ex F H) (h : H p = some (.tup xs)) : ∃ F', Fz F H F' H ∧ F' p = some (.tup xs) := by
  cases r : F p with
  | some u =>
    have e1 := e p u r
    rw [h] at e1
    cases e1
    exact ⟨F, Fz.refl e, r⟩
  | none =>
    refine ⟨upd F p (.tup xs), ⟨Evl.Ex.new r, fun a u q => ?_, fun a u q n => ⟨fun nt => ?_, q⟩⟩, upd_same⟩
    · by_cases z : a = p
      · subst z; rw [upd_same] at q; rw [h]; exact q
      · rw [upd_ne z] at q; exact e a u q
    · by_cases z : a = p
      · subst z; rw [h] at q; cases q; exact absurd rfl (nt xs)
      · rw [upd_ne z]; exact n
/-- a new settled object -/
theorem Fz.new {F H : Hp} {p : Addr} {o : HO} (e : Ex F H) (h : H p = none) : Fz F H (upd F p o) (upd H p o) := by
  have hF : F p = none := Evl.fresh_back e h
  refine ⟨Evl.Ex.new hF, fun a u q => ?_, fun a u q n => ?_⟩
  · by_cases z : a = p
    · subst z; rw [upd_same] at q ⊢; exact q
    · rw [upd_ne z] at q ⊢; exact e a u q
  · have z := ne_of_none q h
    rw [upd_ne z, upd_ne z]
    exact ⟨fun _ => n, q⟩
/-- a new object that is not settled -/
theorem Fz.add {F H : Hp} {p : Addr} {o : HO} (e : Ex F H) (h : H p = none) : Fz F H F (upd H p o) := by
  refine ⟨Evl.Ex.refl F, fun a u q => ?_, fun a u q n => ?_⟩
  · rw [upd_ne (ne_of_none (e a u q) h)]; exact e a u q
  · rw [upd_ne (ne_of_none q h)]; exact ⟨fun _ => n, q⟩
/-- a new object is settled later -/
theorem Fz.settle {F H F1 H1 : Hp} {p : Addr} {o : HO} (a : Fz F H F1 H1) (h : H p = none) (h1 : H1 p = some o) (f1 : F1 p = none) : Fz F H (upd F1 p o) H1 := by
  refine ⟨a.f.trans (Evl.Ex.new f1), fun b u q => ?_, fun b u q n => ?_⟩
  · by_cases z : b = p
    · subst z; rw [upd_same] at q; rw [h1]; exact q
    · rw [upd_ne z] at q; exact a.fh b u q
  · rw [upd_ne (ne_of_none q h)]; exact a.own' b u q n

/-! ### things with parts of their own -/
def KvOk {κ : Type} (F : Hp) (xs : List (κ × V)) (ys : List (κ × PyData)) : Prop := xs.map (·.1) = ys.map (·.1) ∧ DqAll F (xs.map (·.2)) (ys.map (·.2))
theorem KvOk.mono {κ : Type} {F F' : Hp} {xs : List (κ × V)} {ys : List (κ × PyData)} (e : Ex F F') (h : KvOk F xs ys) : KvOk F' xs ys := ⟨h.1, DqAll.mono e _ _ h.2⟩
inductive OT where
  /-- settled data -/
  | d (d : PyData)
  /-- a list of settled data -/
  | lst (ds : List PyData)
  /-- a dict of settled data -/
  | dk (kvs : List (Key × PyData))
  /-- an instance of the class at C -/
  | obj (C : Addr) (ns : List Str) (ts : List OT)
  /-- a dict whose values are such things -/
  | rc (ns : List Key) (ts : List OT)
  /-- a list of such things -/
  | arr (ts : List OT)
mutual
/-- the thing t stands at v, its own objects are those at A -/
inductive Tr (F H : Hp) : V → OT → List Addr → Prop
  | d {v : V} {d : PyData} : Dq F v d → Tr F H v (.d d) []
  | lst {p : Addr} {vs : List V} {ds : List PyData} : H p = some (.lst vs) → DqAll F vs ds → ds.length ≤ lim → Tr F H (.ref p) (.lst ds) [p]
  | dk {p : Addr} {xs : List (Key × V)} {kvs : List (Key × PyData)} : H p = some (.dK xs) → KvOk F xs kvs → DkL kvs → Tr F H (.ref p) (.dk kvs) [p]
  | obj {p C dx : Addr} {fs : List (Str × V)} {ns : List Str} {ts : List OT} {A : List Addr} : H p = some (.ins C dx fs) → H dx = some (.own p) → fs.map (·.1) = ns → TrAll F H (fs.map (·.2)) ts A → Tr F H (.ref p) (.obj C ns ts) (p :: dx :: A)
  | rc {p : Addr} {xs : List (Key × V)} {ns : List Key} {ts : List OT} {A : List Addr} : H p = some (.dK xs) → xs.map (·.1) = ns → TrAll F H (xs.map (·.2)) ts A → Tr F H (.ref p) (.rc ns ts) (p :: A)
  | arr {p : Addr} {vs : List V} {ts : List OT} {A : List Addr} : H p = some (.lst vs) → TrAll F H vs ts A → ts.length ≤ lim → Tr F H (.ref p) (.arr ts) (p :: A)
inductive TrAll (F H : Hp) : List V → List OT → List Addr → Prop
  | nil : TrAll F H [] [] []
  | cons {v : V} {vs : List V} {t : OT} {ts : List OT} {A B : List Addr} : Tr F H v t A → TrAll F H vs ts B → TrAll F H (v :: vs) (t :: ts) (A ++ B)
end
mutual
theorem Tr.keep {F H F' H' : Hp} (e : Ex F F') : ∀ {v : V} {t : OT} {A : List Addr}, Tr F H v t A → (∀ a, a ∈ A → ∀ u, H a = some u → H' a = some u) → Tr F' H' v t A
  | _, _, _, .d h, _ => .d (h.mono' e)
  | _, _, _, .lst h1 h2 h3, k => .lst (k _ List.mem_cons_self _ h1) (h2.mono' e) h3
  | _, _, _, .dk h1 h2 h3, k => .dk (k _ List.mem_cons_self _ h1) (h2.mono e) h3
  | _, _, _, .obj h1 h2 h3 h4, k => .obj (k _ List.mem_cons_self _ h1) (k _ (List.mem_cons_of_mem _ List.mem_cons_self) _ h2) h3 (h4.keep e fun a ha => k a (List.mem_cons_of_mem _ (List.mem_cons_of_mem _ ha)))
  | _, _, _, .rc h1 h2 h3, k => .rc (k _ List.mem_cons_self _ h1) h2 (h3.keep e fun a ha => k a (List.mem_cons_of_mem _ ha))
  | _, _, _, .arr h1 h2 h3, k => .arr (k _ List.mem_cons_self _ h1) (h2.keep e fun a ha => k a (List.mem_cons_of_mem _ ha)) h3
theorem TrAll.keep {F H F' H' : Hp} (e : Ex F F') : ∀ {vs : List V} {ts : List OT} {A : List Addr}, TrAll F H vs ts A → (∀ a, a ∈ A → ∀ u, H a = some u → H' a = some u) → TrAll F' H' vs ts A
  | _, _, _, .nil, _ => .nil
  | _, _, _, .cons h1 h2, k => .cons (h1.keep e fun a ha => k a (List.mem_append_left _ ha)) (h2.keep e fun a ha => k a (List.mem_append_right _ ha))
end
/-- what no exception's dict is -/
def NoXd (o : HO) : Prop := (∀ fs, o ≠ .xd fs) ∧ NoTup o
mutual
theorem Tr.at {F H : Hp} : ∀ {v : V} {t : OT} {A : List Addr}, Tr F H v t A → ∀ a, a ∈ A → ∃ u, H a = some u ∧ NoXd u
  | _, _, _, .d _, a, h => by cases h
  | _, _, _, .lst h1 _ _, a, h => by
    rcases List.mem_cons.mp h with rfl | h
    · exact ⟨_, h1, ⟨fun _ z => (nomatch z), fun _ z => (nomatch z)⟩⟩
    · cases h
  | _, _, _, .dk h1 _ _, a, h => by
    rcases List.mem_cons.mp h with rfl | h
    · exact ⟨_, h1, ⟨fun _ z => (nomatch z), fun _ z => (nomatch z)⟩⟩
    · cases h
  | _, _, _, .obj h1 h2 _ h4, a, h => by
    rcases List.mem_cons.mp h with rfl | h
    · exact ⟨_, h1, ⟨fun _ z => (nomatch z), fun _ z => (nomatch z)⟩⟩
    · rcases List.mem_cons.mp h with rfl | h
      · exact ⟨_, h2, ⟨fun _ z => (nomatch z), fun _ z => (nomatch z)⟩⟩
      · exact h4.at a h
  | _, _, _, .rc h1 _ h3, a, h => by
    rcases List.mem_cons.mp h with rfl | h
    · exact ⟨_, h1, ⟨fun _ z => (nomatch z), fun _ z => (nomatch z)⟩⟩
    · exact h3.at a h
  | _, _, _, .arr h1 h2 _, a, h => by
    rcases List.mem_cons.mp h with rfl | h
    · exact ⟨_, h1, ⟨fun _ z => (nomatch z), fun _ z => (nomatch z)⟩⟩
    · exact h2.at a h
theorem TrAll.at {F H : Hp} : ∀ {vs : List V} {ts : List OT} {A : List Addr}, TrAll F H vs ts A → ∀ a, a ∈ A → ∃ u, H a = some u ∧ NoXd u
  | _, _, _, .nil, a, h => by cases h
  | _, _, _, .cons h1 h2, a, h => by
    rcases List.mem_append.mp h with h | h
    · exact h1.at a h
    · exact h2.at a h
end
/-! ### environments -/
inductive Sl where
  /-- nothing is known -/
  | un
  /-- settled data -/
  | sh (d : PyData)
  /-- a list of this frame's own, which it may change -/
  | ow (ds : List PyData)
  /-- a list that is only read -/
  | sc (ds : List PyData)
  /-- a dict of this frame's own: keys ints and texts; keys tuples of these -/
  | dk (kvs : List (Key × PyData))
  | dt (kvs : List (List Key × PyData))
  /-- a dict with such keys that never changes again -/
  | ft (kvs : List (List Key × PyData))
  /-- this very address (a caught exception's), with its dict of one field -/
  | xo (a : Addr) (d : Option (Addr × Str × PyData))
  /-- a thing of this frame's own; one that is lent, at p; one that is only looked at -/
  | tr (t : OT)
  | tb (p : Addr) (t : OT)
  | ro (t : OT)
def Sl.owned : Sl → Bool
  | .ow _ => true
  | .dk _ => true
  | .dt _ => true
  | _ => false
/-- the dict of an exception stands -/
def XdOk (F H : Hp) : Option (Addr × Str × PyData) → Prop
  | none => True
  | some (dd, f, q) => ∃ v, Dq F v q ∧ ((F dd = some (.xd [(f, v)])) ∨ (F dd = none ∧ H dd = some (.xd [(f, v)])))
theorem XdOk.at {F H : Hp} {dd : Addr} {f : Str} {q : PyData} (e : Ex F H) : XdOk F H (some (dd, f, q)) → ∃ v, Dq F v q ∧ H dd = some (.xd [(f, v)])
  | ⟨v, a, b⟩ => ⟨v, a, by
    rcases b with b | b
    · exact e _ _ b
    · exact b.2⟩
theorem XdOk.of {F H : Hp} {dd : Addr} {f : Str} {q : PyData} {v : V} (e : Ex F H) (a : Dq F v q) (h : H dd = some (.xd [(f, v)])) : XdOk F H (some (dd, f, q)) := ⟨v, a, by
  cases r : F dd with
  | none => exact .inr ⟨rfl, h⟩
  | some u =>
    rw [e _ _ r] at h
    exact .inl h⟩
def SlOk (K : Frag) (H0 F H : Hp) (o : Option V) : Sl → Prop
  | .un => True
  | .sh d => ∃ v, o = some v ∧ Dq F v d
  | .ow ds => ∃ p vs, o = some (.ref p) ∧ H0 p = none ∧ F p = none ∧ H p = some (.lst vs) ∧ DqAll F vs ds ∧ ds.length ≤ lim
  | .sc ds => ∃ p vs, o = some (.ref p) ∧ SqL K F p vs ∧ DqAll F vs ds ∧ ds.length ≤ lim
  | .dk kvs => ∃ p xs, o = some (.ref p) ∧ H0 p = none ∧ F p = none ∧ H p = some (.dK xs) ∧ KvOk F xs kvs ∧ DkL kvs
  | .dt kvs => ∃ p xs, o = some (.ref p) ∧ H0 p = none ∧ F p = none ∧ H p = some (.dT xs) ∧ KvOk F xs kvs ∧ DtL kvs
  | .ft kvs => ∃ p ob xs, o = some (.ref p) ∧ F p = some (.frz ob (.dT xs)) ∧ KvOk F xs kvs ∧ DtL kvs
  | .xo a d => o = some (.ref a) ∧ XdOk F H d
  | .tr t => ∃ v A, o = some v ∧ Tr F H v t A ∧ A.Nodup ∧ ∀ a, a ∈ A → F a = none ∧ H0 a = none
  | .tb p t => ∃ A, o = some (.ref p) ∧ Tr F H (.ref p) t A ∧ A.Nodup ∧ ∀ a, a ∈ A → F a = none ∧ H0 a = none
  | .ro t => ∃ v A, o = some v ∧ Tr F H v t A ∧ ∀ a, a ∈ A → F a = none ∧ ∃ u, H0 a = some u
/-- the same, with the list A of what is owned -/
def SlA (K : Frag) (H0 F H : Hp) (o : Option V) (A : List Addr) : Sl → Prop
  | .ow ds => ∃ p vs, o = some (.ref p) ∧ H0 p = none ∧ F p = none ∧ H p = some (.lst vs) ∧ DqAll F vs ds ∧ ds.length ≤ lim ∧ A = [p]
  | .dk kvs => ∃ p xs, o = some (.ref p) ∧ H0 p = none ∧ F p = none ∧ H p = some (.dK xs) ∧ KvOk F xs kvs ∧ DkL kvs ∧ A = [p]
  | .dt kvs => ∃ p xs, o = some (.ref p) ∧ H0 p = none ∧ F p = none ∧ H p = some (.dT xs) ∧ KvOk F xs kvs ∧ DtL kvs ∧ A = [p]
  | .tr t => ∃ v, o = some v ∧ Tr F H v t A ∧ A.Nodup ∧ ∀ a, a ∈ A → F a = none ∧ H0 a = none
  | .tb p t => o = some (.ref p) ∧ Tr F H (.ref p) t A ∧ A.Nodup ∧ ∀ a, a ∈ A → F a = none ∧ H0 a = none
  | s => SlOk K H0 F H o s ∧ A = []
theorem SlA.ok {K : Frag} {H0 F H : Hp} {o : Option V} {A : List Addr} : ∀ {s : Sl}, SlA K H0 F H o A s → SlOk K H0 F H o s
  | .un, h => h.1
  | .sh _, h => h.1
  | .sc _, h => h.1
  | .ft _, h => h.1
  | .xo _ _, h => h.1
  | .ro _, h => h.1
  | .ow _, ⟨p, vs, a, b, c, d, e, f, _⟩ => ⟨p, vs, a, b, c, d, e, f⟩
  | .dk _, ⟨p, vs, a, b, c, d, e, f, _⟩ => ⟨p, vs, a, b, c, d, e, f⟩
  | .dt _, ⟨p, vs, a, b, c, d, e, f, _⟩ => ⟨p, vs, a, b, c, d, e, f⟩
  | .tr _, ⟨v, a, b, c⟩ => ⟨v, A, a, b, c⟩
  | .tb _ _, ⟨a, b, c⟩ => ⟨A, a, b, c⟩
theorem SlOk.a {K : Frag} {H0 F H : Hp} {o : Option V} : ∀ {s : Sl}, SlOk K H0 F H o s → ∃ A, SlA K H0 F H o A s
  | .un, h => ⟨[], h, rfl⟩
  | .sh _, h => ⟨[], h, rfl⟩
  | .sc _, h => ⟨[], h, rfl⟩
  | .ft _, h => ⟨[], h, rfl⟩
  | .xo _ _, h => ⟨[], h, rfl⟩
  | .ro _, h => ⟨[], h, rfl⟩
  | .ow _, ⟨p, vs, a, b, c, d, e, f⟩ => ⟨[p], p, vs, a, b, c, d, e, f, rfl⟩
  | .dk _, ⟨p, vs, a, b, c, d, e, f⟩ => ⟨[p], p, vs, a, b, c, d, e, f, rfl⟩
  | .dt _, ⟨p, vs, a, b, c, d, e, f⟩ => ⟨[p], p, vs, a, b, c, d, e, f, rfl⟩
  | .tr _, ⟨v, A, a, b, c⟩ => ⟨A, v, a, b, c⟩
  | .tb _ _, ⟨A, a, b, c⟩ => ⟨A, a, b, c⟩
theorem SlA.free {K : Frag} {H0 F H : Hp} {o : Option V} {A : List Addr} : ∀ {s : Sl}, SlA K H0 F H o A s → ∀ a, a ∈ A → F a = none ∧ H0 a = none ∧ ∃ u, H a = some u ∧ NoXd u
  | .un, h, a, m => by rw [h.2] at m; cases m
  | .sh _, h, a, m => by rw [h.2] at m; cases m
  | .sc _, h, a, m => by rw [h.2] at m; cases m
  | .ft _, h, a, m => by rw [h.2] at m; cases m
  | .xo _ _, h, a, m => by rw [h.2] at m; cases m
  | .ro _, h, a, m => by rw [h.2] at m; cases m
  | .ow _, ⟨p, vs, _, b, c, d, _, _, e⟩, a, m => by
    rw [e] at m
    obtain rfl := List.mem_singleton.mp m
    exact ⟨c, b, _, d, ⟨fun _ z => (nomatch z), fun _ z => (nomatch z)⟩⟩
  | .dk _, ⟨p, vs, _, b, c, d, _, _, e⟩, a, m => by
    rw [e] at m
    obtain rfl := List.mem_singleton.mp m
    exact ⟨c, b, _, d, ⟨fun _ z => (nomatch z), fun _ z => (nomatch z)⟩⟩
  | .dt _, ⟨p, vs, _, b, c, d, _, _, e⟩, a, m => by
    rw [e] at m
    obtain rfl := List.mem_singleton.mp m
    exact ⟨c, b, _, d, ⟨fun _ z => (nomatch z), fun _ z => (nomatch z)⟩⟩
  | .tr _, ⟨v, _, b, _, c⟩, a, m => ⟨(c a m).1, (c a m).2, b.at a m⟩
  | .tb _ _, ⟨_, b, _, c⟩, a, m => ⟨(c a m).1, (c a m).2, b.at a m⟩
theorem sq_mono {K : Frag} {F F' : Hp} {p : Addr} {vs : List V} (e : Ex F F') (h : SqL K F p vs) : SqL K F' p vs := Evl.ex_l e h
theorem both {p q r : Prop} (h : (p → q) ∧ r) (x : p) : q ∧ r := ⟨h.1 x, h.2⟩
/-- F grows, H changes at C alone -/
theorem SlA.keep {K : Frag} {H0 F H F' H' : Hp} {o : Option V} {A C : List Addr} (e : Ex F F') (k : ∀ a u, H a = some u → F a = none → a ∉ C → (NoTup u → F' a = none) ∧ H' a = some u) (cz : ∀ a, a ∈ C → H0 a = none ∧ ∀ u, H a = some u → NoXd u) :
    ∀ {s : Sl}, SlA K H0 F H o A s → (∀ a, a ∈ A → a ∉ C) → SlA K H0 F' H' o A s
  | .un, h, _ => h
  | .sh d, ⟨⟨v, h1, h2⟩, h3⟩, _ => ⟨⟨v, h1, h2.mono' e⟩, h3⟩
  | .sc ds, ⟨⟨p, vs, h1, h2, h3, h4⟩, h5⟩, _ => ⟨⟨p, vs, h1, sq_mono e h2, h3.mono' e, h4⟩, h5⟩
  | .ft kvs, ⟨⟨p, ob, xs, h1, h2, h3, h4⟩, h5⟩, _ => ⟨⟨p, ob, xs, h1, e _ _ h2, h3.mono e, h4⟩, h5⟩
  | .xo a none, ⟨⟨h1, _⟩, h3⟩, _ => ⟨⟨h1, trivial⟩, h3⟩
  | .xo a (some (dd, f, q)), ⟨⟨h1, v, h4, h5⟩, h3⟩, _ => ⟨⟨h1, v, h4.mono' e, by
    rcases h5 with b | ⟨b1, b2⟩
    · exact .inl (e _ _ b)
    · exact .inr (both (k _ _ b2 b1 fun z => ((cz _ z).2 _ b2).1 _ rfl) fun _ z => nomatch z)⟩, h3⟩
  | .ro t, ⟨⟨v, B, h1, h2, h3⟩, h4⟩, _ => by
    have kk : ∀ a, a ∈ B → F' a = none ∧ ∀ u, H a = some u → H' a = some u := fun a ha => by
      obtain ⟨f0, u0, hu0⟩ := h3 a ha
      obtain ⟨u, hu, nx⟩ := h2.at a ha
      have nc : a ∉ C := fun z => by rw [(cz a z).1] at hu0; cases hu0
      exact ⟨(k a u hu f0 nc).1 nx.2, fun u' hu' => (k a u' hu' f0 nc).2⟩
    exact ⟨⟨v, B, h1, h2.keep e fun a ha => (kk a ha).2, fun a ha => ⟨(kk a ha).1, (h3 a ha).2⟩⟩, h4⟩
  | .ow ds, ⟨p, vs, a, b, c, d, f, g, h⟩, n => by
    have nc := n p (by rw [h]; exact List.mem_singleton.mpr rfl)
    exact ⟨p, vs, a, b, (k _ _ d c nc).1 (fun _ z => nomatch z), (k _ _ d c nc).2, f.mono' e, g, h⟩
  | .dk ds, ⟨p, vs, a, b, c, d, f, g, h⟩, n => by
    have nc := n p (by rw [h]; exact List.mem_singleton.mpr rfl)
    exact ⟨p, vs, a, b, (k _ _ d c nc).1 (fun _ z => nomatch z), (k _ _ d c nc).2, f.mono e, g, h⟩
  | .dt ds, ⟨p, vs, a, b, c, d, f, g, h⟩, n => by
    have nc := n p (by rw [h]; exact List.mem_singleton.mpr rfl)
    exact ⟨p, vs, a, b, (k _ _ d c nc).1 (fun _ z => nomatch z), (k _ _ d c nc).2, f.mono e, g, h⟩
  | .tr t, ⟨v, a, b, c, d⟩, n => by
    have kk : ∀ a, a ∈ A → F' a = none ∧ ∀ u, H a = some u → H' a = some u := fun a ha => by
      obtain ⟨u, hu, nx⟩ := b.at a ha
      exact ⟨(k a u hu (d a ha).1 (n a ha)).1 nx.2, fun u' hu' => (k a u' hu' (d a ha).1 (n a ha)).2⟩
    exact ⟨v, a, b.keep e fun a ha => (kk a ha).2, c, fun a ha => ⟨(kk a ha).1, (d a ha).2⟩⟩
  | .tb p t, ⟨a, b, c, d⟩, n => by
    have kk : ∀ a, a ∈ A → F' a = none ∧ ∀ u, H a = some u → H' a = some u := fun a ha => by
      obtain ⟨u, hu, nx⟩ := b.at a ha
      exact ⟨(k a u hu (d a ha).1 (n a ha)).1 nx.2, fun u' hu' => (k a u' hu' (d a ha).1 (n a ha)).2⟩
    exact ⟨a, b.keep e fun a ha => (kk a ha).2, c, fun a ha => ⟨(kk a ha).1, (d a ha).2⟩⟩
structure EnvOk (K : Frag) (F0 H0 F H : Hp) (σ : List (Option V)) (env : List Sl) : Prop where
  z : Fz F0 H0 F H
  len : σ.length = env.length
  as : ∃ As : Nat → List Addr, (∀ (i : Nat) (s : Sl), env[i]? = some s → ∃ o : Option V, σ[i]? = some o ∧ SlA K H0 F H o (As i) s) ∧ ∀ (i j : Nat) (s t : Sl) (a : Addr), env[i]? = some s → env[j]? = some t → a ∈ As i → a ∈ As j → i = j
section
variable {K : Frag} {F0 H0 F H F' H' : Hp} {σ : List (Option V)} {env env' : List Sl}
theorem EnvOk.fh (E : EnvOk K F0 H0 F H σ env) : Ex F H := E.z.fh
theorem EnvOk.sl (E : EnvOk K F0 H0 F H σ env) (i : Nat) (s : Sl) (h : env[i]? = some s) : ∃ o : Option V, σ[i]? = some o ∧ SlOk K H0 F H o s := by
  obtain ⟨As, a, _⟩ := E.as
  obtain ⟨o, h1, h2⟩ := a i s h
  exact ⟨o, h1, h2.ok⟩
theorem EnvOk.lt (E : EnvOk K F0 H0 F H σ env) {i : Nat} {s : Sl} (h : env[i]? = some s) : i < σ.length := by
  rw [E.len]; exact (List.getElem?_eq_some_iff.mp h).1
/-- all that is not owned anywhere -/
theorem EnvOk.flat (z : Fz F0 H0 F H) (l : σ.length = env.length) (h : ∀ (i : Nat) (s : Sl), env[i]? = some s → ∃ o : Option V, σ[i]? = some o ∧ SlA K H0 F H o [] s) : EnvOk K F0 H0 F H σ env :=
  ⟨z, l, fun _ => [], h, fun i j s t a _ _ m _ => by cases m⟩
theorem EnvOk.step (E : EnvOk K F0 H0 F H σ env) (z : Fz F H F' H') : EnvOk K F0 H0 F' H' σ env := by
  obtain ⟨As, a, b⟩ := E.as
  refine ⟨E.z.trans z, E.len, As, fun i s h => ?_, b⟩
  obtain ⟨o, h1, h2⟩ := a i s h
  exact ⟨o, h1, h2.keep (C := []) z.f (fun p u hp hf _ => z.own' p u hp hf) (fun _ m => by cases m) fun _ _ m => by cases m⟩
theorem set_env {i j : Nat} {s t : Sl} (h : (env.set i s)[j]? = some t) : (j = i ∧ t = s ∧ i < env.length) ∨ (j ≠ i ∧ env[j]? = some t) := by
  rw [List.getElem?_set] at h
  by_cases e : i = j
  · subst e
    rw [if_pos rfl] at h
    by_cases l : i < env.length
    · rw [if_pos l] at h; cases h; exact .inl ⟨rfl, rfl, l⟩
    · rw [if_neg l] at h; cases h
  · rw [if_neg e] at h
    exact .inr ⟨fun z => e z.symm, h⟩
/-- slot i holds another thing: its own objects are new or were its own; H changes at what was its own alone -/
theorem EnvOk.put (E : EnvOk K F0 H0 F H σ env) (i : Nat) (v : Option V) {t : Sl} {B C : List Addr} (e : Ex F F') (fh : Ex F' H') (k : ∀ a u, H a = some u → F a = none → a ∉ C → (NoTup u → F' a = none) ∧ H' a = some u)
    (hc : C = [] ∨ ∃ s o, env[i]? = some s ∧ σ[i]? = some o ∧ ∀ A, SlA K H0 F H o A s → ∀ c, c ∈ C → c ∈ A)
    (hb : ∀ b, b ∈ B → H b = none ∨ b ∈ C) (ht : SlA K H0 F' H' v B t) : EnvOk K F0 H0 F' H' (σ.set i v) (env.set i t) := by
  obtain ⟨As, a, d⟩ := E.as
  have cA : ∀ c, c ∈ C → i < env.length ∧ c ∈ As i ∧ F c = none ∧ H0 c = none ∧ ∃ u, H c = some u ∧ NoXd u := fun c m => by
    rcases hc with rfl | ⟨s, o, e1, e2, h⟩
    · cases m
    · obtain ⟨o', h1, h2⟩ := a i s e1
      rw [e2] at h1
      cases h1
      have := h _ h2 c m
      exact ⟨(List.getElem?_eq_some_iff.mp e1).1, this, h2.free c this⟩
  refine ⟨⟨E.z.f.trans e, fh, fun p u q n => ?_⟩, by rw [List.length_set, List.length_set, E.len], fun j => if j = i then B else As j, fun j s h => ?_, fun j l s u p hj hl mj ml => ?_⟩
  · obtain ⟨x, y⟩ := E.z.own' p u q n
    cases r : F p with
    | none => exact k p u y r fun m => by rw [(cA p m).2.2.2.1] at q; cases q
    | some w =>
      have e1 := E.z.fh p w r
      rw [y] at e1
      cases e1
      exact ⟨fun nt => (by rw [x nt] at r; cases r), fh p _ (e p _ r)⟩
  · rcases set_env h with ⟨rfl, rfl, l⟩ | ⟨n, h⟩
    · refine ⟨v, ?_, ?_⟩
      · rw [List.getElem?_set, if_pos rfl, if_pos (by rw [E.len]; exact l)]
      · dsimp only; rw [if_pos rfl]; exact ht
    · obtain ⟨o, h1, h2⟩ := a j s h
      refine ⟨o, ?_, ?_⟩
      · rw [List.getElem?_set, if_neg fun z => n z.symm]; exact h1
      · dsimp only; rw [if_neg n]
        refine h2.keep e k (fun c m => ⟨(cA c m).2.2.2.1, fun u hu => ?_⟩) fun c m mc => ?_
        · obtain ⟨_, _, _, _, u', hu', nx⟩ := cA c m
          rw [hu] at hu'; cases hu'
          exact nx
        · obtain ⟨l, mi, _⟩ := cA c mc
          exact n (d j i s env[i] c h (List.getElem?_eq_getElem l) m mi)
  · have ne : ∀ {j : Nat} {s : Sl}, j ≠ i → env[j]? = some s → p ∈ B → p ∈ As j → False := fun {j s} n h mb mj => by
      obtain ⟨o, h1, h2⟩ := a j s h
      rcases hb p mb with z | z
      · obtain ⟨_, _, u, hu, _⟩ := h2.free p mj
        rw [z] at hu; cases hu
      · obtain ⟨l, mi, _⟩ := cA p z
        exact n (d j i s env[i] p h (List.getElem?_eq_getElem l) mj mi)
    dsimp only at mj ml
    rcases set_env hj with ⟨ej, _, lj⟩ | ⟨nj, hj'⟩
    · rcases set_env hl with ⟨el, _, ll⟩ | ⟨nl, hl'⟩
      · rw [ej, el]
      · rw [if_pos ej] at mj
        rw [if_neg nl] at ml
        exact (ne nl hl' mj ml).elim
    · rw [if_neg nj] at mj
      rcases set_env hl with ⟨el, _, ll⟩ | ⟨nl, hl'⟩
      · rw [if_pos el] at ml
        exact (ne nj hj' ml mj).elim
      · rw [if_neg nl] at ml
        exact d j l s u p hj' hl' mj ml
theorem set_self {α : Type} {xs : List α} {i : Nat} {x : α} (h : xs[i]? = some x) : xs.set i x = xs := by
  refine List.ext_getElem? fun j => ?_
  rw [List.getElem?_set]
  by_cases e : i = j
  · subst e
    rw [if_pos rfl, if_pos (List.getElem?_eq_some_iff.mp h).1, h]
  · rw [if_neg e]
/-- a slot is stored with what owns nothing -/
theorem EnvOk.set0 (E : EnvOk K F0 H0 F H σ env) (i : Nat) (v : Option V) {s : Sl} (hs : SlA K H0 F H v [] s) : EnvOk K F0 H0 F H (σ.set i v) (env.set i s) :=
  E.put i v (B := []) (C := []) (Evl.Ex.refl F) E.fh (fun _ _ h f _ => ⟨fun _ => f, h⟩) (.inl rfl) (fun _ m => by cases m) hs
theorem EnvOk.setS (E : EnvOk K F0 H0 F H σ env) (i : Nat) {v : V} {d : PyData} (h : Dq F v d) : EnvOk K F0 H0 F H (σ.set i (some v)) (env.set i (.sh d)) :=
  E.set0 i _ ⟨⟨v, rfl, h⟩, rfl⟩
/-- a slot is stored with anything -/
theorem EnvOk.setU (E : EnvOk K F0 H0 F H σ env) (i : Nat) {v : V} : EnvOk K F0 H0 F H (σ.set i (some v)) (env.set i .un) :=
  E.set0 i _ ⟨trivial, rfl⟩
theorem EnvOk.forget (E : EnvOk K F0 H0 F H σ env) (i : Nat) (o : Option V) : EnvOk K F0 H0 F H (σ.set i o) (env.set i .un) := E.set0 i _ ⟨trivial, rfl⟩
/-- a new own thing (new ahead of the last step) goes into slot i -/
theorem EnvOk.setN (E : EnvOk K F0 H0 F H σ env) {F' H' : Hp} (z : Fz F H F' H') (i : Nat) {v : V} {s : Sl} {B : List Addr} (hn : ∀ b, b ∈ B → H b = none) (hs : SlA K H0 F' H' (some v) B s) : EnvOk K F0 H0 F' H' (σ.set i (some v)) (env.set i s) :=
  E.put i _ (B := B) (C := []) z.f z.fh (fun a u h f _ => z.own' a u h f) (.inl rfl) (fun b m => .inl (hn b m)) hs
theorem EnvOk.setO (E : EnvOk K F0 H0 F H σ env) {F' H' : Hp} (z : Fz F H F' H') (i : Nat) {p : Addr} {s : Sl} (hn : H p = none) (hs : SlOk K H0 F' H' (Option.some (.ref p)) s) (os : s.owned = true := by rfl) : EnvOk K F0 H0 F' H' (σ.set i (Option.some (.ref p))) (env.set i s) := by
  obtain ⟨B, hB⟩ := hs.a
  refine E.setN z i (fun b m => ?_) hB
  have : B = [p] := by
    cases s with
    | ow ds => obtain ⟨_, _, e, _, _, _, _, _, h⟩ := hB; cases e; exact h
    | dk ds => obtain ⟨_, _, e, _, _, _, _, _, h⟩ := hB; cases e; exact h
    | dt ds => obtain ⟨_, _, e, _, _, _, _, _, h⟩ := hB; cases e; exact h
    | _ => cases os
  rw [this] at m
  obtain rfl := List.mem_singleton.mp m
  exact hn
/-- an own thing changes -/
theorem EnvOk.mutT (E : EnvOk K F0 H0 F H σ env) {i : Nat} {s t : Sl} {o : Option V} {A B : List Addr} (fh : Ex F' H') (e : Ex F F') (hs : env[i]? = some s) (hi : σ[i]? = some o) (hA : ∀ A', SlA K H0 F H o A' s → ∀ c, c ∈ A → c ∈ A') (k : ∀ a u, H a = some u → F a = none → a ∉ A → (NoTup u → F' a = none) ∧ H' a = some u)
    (hb : ∀ b, b ∈ B → H b = none ∨ b ∈ A) (ht : SlA K H0 F' H' o B t) : EnvOk K F0 H0 F' H' σ (env.set i t) := by
  have := E.put i o (B := B) (C := A) e fh k (.inr ⟨s, o, hs, hi, hA⟩) hb ht
  rw [set_self hi] at this
  exact this
theorem owned_at {s : Sl} {p : Addr} (os : s.owned = true) {A : List Addr} (h : SlA K H0 F H (some (.ref p)) A s) : A = [p] := by
  cases s with
  | ow ds => obtain ⟨_, _, e, _, _, _, _, _, h⟩ := h; cases e; exact h
  | dk ds => obtain ⟨_, _, e, _, _, _, _, _, h⟩ := h; cases e; exact h
  | dt ds => obtain ⟨_, _, e, _, _, _, _, _, h⟩ := h; cases e; exact h
  | _ => cases os
theorem EnvOk.mut (E : EnvOk K F0 H0 F H σ env) {i : Nat} {p : Addr} {s t : Sl} {o : HO} (hs : env[i]? = some s) (os : s.owned = true) (hi : σ[i]? = Option.some (Option.some (.ref p))) (ht : SlOk K H0 F (upd H p o) (Option.some (.ref p)) t) (ot : t.owned = true) :
    EnvOk K F0 H0 F (upd H p o) σ (env.set i t) := by
  obtain ⟨B, hB⟩ := ht.a
  have eB := owned_at ot hB
  subst eB
  have hF : F p = none := (hB.free p (List.mem_singleton.mpr rfl)).1
  refine E.mutT (A := [p]) (B := [p]) (fun a u q => ?_) (Evl.Ex.refl F) hs hi (fun A' h c m => by rw [owned_at os h]; exact m) (fun a u h f n => ⟨fun _ => f, ?_⟩) (fun b m => .inr m) hB
  · rw [upd_ne (ne_of_none q hF)]; exact E.fh a u q
  · rw [upd_ne fun z => n (by rw [z]; exact List.mem_singleton.mpr rfl)]; exact h
/-- an own list is settled -/
theorem EnvOk.freeze {ds : List PyData} (E : EnvOk K F0 H0 F H σ env) {i : Nat} (hs : env[i]? = some (.ow ds)) : ∃ F', EnvOk K F0 H0 F' H σ (env.set i (.sh (.list ds))) := by
  obtain ⟨o, e1, p, vs, e, h0, f, h, a, l⟩ := E.sl i _ hs
  subst e
  have m := Evl.Ex.new (o := HO.lst vs) f
  refine ⟨upd F p (.lst vs), E.mutT (s := .ow ds) (A := [p]) (B := []) (fun a u q => ?_) m hs e1 (fun A' h c m => by rw [owned_at rfl h]; exact m) (fun a u h f n => ⟨fun _ => ?_, h⟩) (fun b m => by cases m) ⟨⟨_, rfl, .lst upd_same (a.mono' m) l⟩, rfl⟩⟩
  · by_cases z : a = p
    · subst z; rw [upd_same] at q; rw [h]; exact q
    · rw [upd_ne z] at q; exact E.fh a u q
  · rw [upd_ne fun z => n (by rw [z]; exact List.mem_singleton.mpr rfl)]; exact f
/-- less is known -/
inductive Wk : List Sl → List Sl → Prop
  | nil : Wk [] []
  | same {s : Sl} {e e' : List Sl} : Wk e e' → Wk (s :: e) (s :: e')
  | un {s : Sl} {e e' : List Sl} : Wk e e' → Wk (s :: e) (.un :: e')
  | tb {p : Addr} {t : OT} {e e' : List Sl} : Wk e e' → Wk (.tb p t :: e) (.tr t :: e')
theorem Wk.get : ∀ {e e' : List Sl} {i : Nat} {s : Sl}, Wk e e' → e'[i]? = some s → s = .un ∧ i < e.length ∨ e[i]? = some s ∨ ∃ p t, s = .tr t ∧ e[i]? = some (.tb p t)
  | _, _, _, _, .nil, h => by simp at h
  | _, _, 0, _, .same _, h => .inr (.inl (by simpa using h))
  | _, _, i + 1, _, .same w, h => by
    rcases w.get (i := i) (by simpa using h) with ⟨a, b⟩ | a | ⟨p, t, a, b⟩
    · exact .inl ⟨a, by rw [List.length_cons]; omega⟩
    · exact .inr (.inl (by simpa using a))
    · exact .inr (.inr ⟨p, t, a, by simpa using b⟩)
  | _, _, 0, _, .un _, h => .inl ⟨by simp at h; exact h.symm, by simp⟩
  | _, _, i + 1, _, .un w, h => by
    rcases w.get (i := i) (by simpa using h) with ⟨a, b⟩ | a | ⟨p, t, a, b⟩
    · exact .inl ⟨a, by rw [List.length_cons]; omega⟩
    · exact .inr (.inl (by simpa using a))
    · exact .inr (.inr ⟨p, t, a, by simpa using b⟩)
  | _, _, 0, _, .tb (p := p) (t := t) _, h => .inr (.inr ⟨p, t, by simp at h; exact h.symm, by simp⟩)
  | _, _, i + 1, _, .tb w, h => by
    rcases w.get (i := i) (by simpa using h) with ⟨a, b⟩ | a | ⟨p, t, a, b⟩
    · exact .inl ⟨a, by rw [List.length_cons]; omega⟩
    · exact .inr (.inl (by simpa using a))
    · exact .inr (.inr ⟨p, t, a, by simpa using b⟩)
theorem Wk.len : ∀ {e e' : List Sl}, Wk e e' → e.length = e'.length
  | _, _, .nil => rfl
  | _, _, .same w => by rw [List.length_cons, List.length_cons, w.len]
  | _, _, .un w => by rw [List.length_cons, List.length_cons, w.len]
  | _, _, .tb w => by rw [List.length_cons, List.length_cons, w.len]
theorem EnvOk.weak (E : EnvOk K F0 H0 F H σ env) (w : Wk env env') : EnvOk K F0 H0 F H σ env' := by
  obtain ⟨As, a, b⟩ := E.as
  have key : ∀ i s, env'[i]? = some s → ∃ s', env[i]? = some s' ∧ ∀ o, SlA K H0 F H o (As i) s' → ∃ A, SlA K H0 F H o A s ∧ (A = [] ∨ A = As i) := fun i s h => by
    rcases w.get h with ⟨rfl, l⟩ | h' | ⟨p, t, rfl, h'⟩
    · exact ⟨_, List.getElem?_eq_getElem l, fun o _ => ⟨[], ⟨trivial, rfl⟩, .inl rfl⟩⟩
    · exact ⟨s, h', fun o x => ⟨_, x, .inr rfl⟩⟩
    · refine ⟨_, h', fun o x => ?_⟩
      have x : o = some (.ref p) ∧ Tr F H (.ref p) t (As i) ∧ (As i).Nodup ∧ ∀ a, a ∈ As i → F a = none ∧ H0 a = none := x
      exact ⟨As i, ⟨_, x.1, x.2⟩, .inr rfl⟩
  have : ∀ i, ∃ A, (A = [] ∨ A = As i) ∧ ∀ s, env'[i]? = some s → ∃ o, σ[i]? = some o ∧ SlA K H0 F H o A s := fun i => by
    by_cases l : i < env'.length
    · obtain ⟨s', h1, h2⟩ := key i _ (List.getElem?_eq_getElem l)
      obtain ⟨o, h3, h4⟩ := a i s' h1
      obtain ⟨A, h5, h6⟩ := h2 o h4
      refine ⟨A, h6, fun s hs => ⟨o, h3, ?_⟩⟩
      rw [List.getElem?_eq_getElem l] at hs
      cases hs
      exact h5
    · exact ⟨[], .inl rfl, fun s hs => absurd (List.getElem?_eq_some_iff.mp hs).1 l⟩
  refine ⟨E.z, by rw [E.len, w.len], fun i => (this i).choose, fun i s h => (this i).choose_spec.2 s h, fun i j s t p hi hj mi mj => ?_⟩
  obtain ⟨s', h1, _⟩ := key i s hi
  obtain ⟨t', h2, _⟩ := key j t hj
  have sub : ∀ i, p ∈ (this i).choose → p ∈ As i := fun i m => by
    rcases (this i).choose_spec.1 with z | z
    · rw [z] at m; cases m
    · rw [z] at m; exact m
  exact b i j s' t' p h1 h2 (sub i mi) (sub j mj)
end
/-- the frame's start, moved on -/
theorem Fz.base {F H F1 H1 F2 H2 : Hp} (z : Fz F H F1 H1) (f : Ex F1 F2) (z2 : Fz F H F2 H2) : Fz F1 H F2 H2 := ⟨f, z2.fh, fun p o h n => z2.own' p o h (by
  cases r : F p with
  | none => rfl
  | some u => rw [z.f p u r] at n; cases n)⟩
theorem Fz.back {F H F1 H1 F2 H2 : Hp} (z : Fz F H F1 H1) (z2 : Fz F1 H F2 H2) : Fz F H F2 H2 := ⟨z.f.trans z2.f, z2.fh, fun p o h n => by
  obtain ⟨x, y⟩ := z.own' p o h n
  cases r : F1 p with
  | none => exact z2.own' p o h r
  | some u =>
    have e := z.fh p u r
    rw [y] at e
    cases e
    exact ⟨fun nt => (by rw [x nt] at r; cases r), z2.fh p _ (z2.f p _ r)⟩⟩
theorem EnvOk.base {K : Frag} {F0 H0 F H : Hp} {σ : List (Option V)} {env : List Sl} (E : EnvOk K F0 H0 F H σ env) : EnvOk K F H0 F H σ env := ⟨E.z.base (Evl.Ex.refl F) E.z, E.len, E.as⟩
theorem EnvOk.back {K : Frag} {F0 H0 F H F1 H1 : Hp} {σ : List (Option V)} {env : List Sl} (z : Fz F0 H0 F1 H1) (E : EnvOk K F1 H0 F H σ env) : EnvOk K F0 H0 F H σ env := ⟨z.back E.z, E.len, E.as⟩
end Rb

set_option Elab.async false
set_option linter.all false
set_option maxRecDepth 100000
set_option maxHeartbeats 2000000
namespace Rb
open PySem PySem.Spec PyProof.Rows L2
theorem lay_of {d : PyData} (h : SeqAt.shaped d = true) : PyData.canLay0 d = true := (Bool.and_eq_true_iff.mp h).1
/-! ### what evaluates to which data -/
def EX (K : Frag) (te : TE) (env : List Sl) (d : PyData) : Prop := ∀ ⦃F0 H0 F H : Hp⦄ ⦃σ : List (Option V)⦄, EnvOk K F0 H0 F H σ env → ∀ Q : VK, (∀ v F' H', Fz F H F' H' → Dq F' v d → Q v H') → te σ H Q
/-- a list that is looked at -/
def EXl (K : Frag) (te : TE) (env : List Sl) (ds : List PyData) : Prop := ∀ ⦃F0 H0 F H : Hp⦄ ⦃σ : List (Option V)⦄, EnvOk K F0 H0 F H σ env → ∀ Q : VK, (∀ p vs F' H', Fz F H F' H' → H' p = some (.lst vs) → DqAll F' vs ds → ds.length ≤ lim → Q (.ref p) H') → te σ H Q
/-- a new list -/
def EXw (K : Frag) (te : TE) (env : List Sl) (ds : List PyData) : Prop := ∀ ⦃F0 H0 F H : Hp⦄ ⦃σ : List (Option V)⦄, EnvOk K F0 H0 F H σ env → ∀ Q : VK, (∀ p vs F' H', Fz F H F' H' → H p = none → F' p = none → H' p = some (.lst vs) → DqAll F' vs ds → ds.length ≤ lim → Q (.ref p) H') → te σ H Q
/-- data that is compared -/
def EXq (K : Frag) (te : TE) (env : List Sl) (d : PyData) : Prop := ∀ ⦃F0 H0 F H : Hp⦄ ⦃σ : List (Option V)⦄, EnvOk K F0 H0 F H σ env → ∀ Q : VK, (∀ v F' H', Fz F H F' H' → Dq H' v d → Q v H') → te σ H Q
def ET (K : Frag) (tt : TT) (env : List Sl) (b : Bool) : Prop := ∀ ⦃F0 H0 F H : Hp⦄ ⦃σ : List (Option V)⦄, EnvOk K F0 H0 F H σ env → ∀ Q : Bool → Hp → Prop, (∀ F' H', Fz F H F' H' → Q b H') → tt σ H Q
def EA (K : Frag) (ta : TA) (env : List Sl) (ds : List PyData) : Prop := ∀ ⦃F0 H0 F H : Hp⦄ ⦃σ : List (Option V)⦄, EnvOk K F0 H0 F H σ env → ∀ Q : List V → Hp → Prop, (∀ vs F' H', Fz F H F' H' → DqAll F' vs ds → Q vs H') → ta σ H Q
def EO (K : Frag) (to : TO) (env : List Sl) (o : Option Int) : Prop := ∀ ⦃F0 H0 F H : Hp⦄ ⦃σ : List (Option V)⦄, EnvOk K F0 H0 F H σ env → ∀ Q : Option Int → Hp → Prop, (∀ F' H', Fz F H F' H' → Q o H') → to σ H Q
/-- the same, of a value that may lack -/
def EXo (K : Frag) (te : TE) (env : List Sl) {α : Type} (e : α → PyData) (m : Option α) : Prop := ∀ x, m = some x → EX K te env (e x)
def ETo (K : Frag) (tt : TT) (env : List Sl) (m : Option Bool) : Prop := ∀ x, m = some x → ET K tt env x

section
variable {K : Frag} {env : List Sl} {ta tb tc te : TE} {t u : TT} {d e : PyData} {ds es : List PyData} {α β : Type}
theorem EX.l (h : EX K te env (.list ds)) : EXl K te env ds := fun F0 H0 F H σ E Q q => h E Q fun v F' H' z hv => by
  cases hv with
  | lst h1 h2 h3 => exact q _ _ F' H' z (z.fh _ _ h1) h2 h3
theorem EXw.l (h : EXw K te env ds) : EXl K te env ds := fun F0 H0 F H σ E Q q => h E Q fun p vs F' H' z _ _ h1 h2 h3 => q p vs F' H' z h1 h2 h3
theorem EXw.sh (h : EXw K te env ds) : EX K te env (.list ds) := fun F0 H0 F H σ E Q q => h E Q fun p vs F' H' z hn hf h1 h2 h3 =>
  q _ _ H' (z.settle hn h1 hf) (.lst upd_same (DqAll.mono (Evl.Ex.new hf) _ _ h2) h3)
theorem EX.q (h : EX K te env d) : EXq K te env d := fun F0 H0 F H σ E Q q => h E Q fun v F' H' z hv => q v F' H' z (Dq.mono z.fh _ _ hv)
theorem EXl.q (h : EXl K te env ds) : EXq K te env (.list ds) := fun F0 H0 F H σ E Q q => h E Q fun p vs F' H' z h1 h2 h3 => q _ F' H' z (.lst h1 (DqAll.mono z.fh _ _ h2) h3)
theorem exo_bind {e : β → PyData} {m : Option α} {k : α → Option β} (h : ∀ x, m = some x → EXo K te env e (k x)) : EXo K te env e (m.bind k) := fun y hy => by
  obtain ⟨x, h1, h2⟩ := Option.bind_eq_some_iff.mp hy
  exact h x h1 y h2
theorem exo_some {e : α → PyData} {x : α} (h : EX K te env (e x)) : EXo K te env e (some x) := fun y hy => by cases hy; exact h
theorem exo_none {e : α → PyData} : EXo K te env e none := fun y hy => by cases hy
theorem exo_ite {e : α → PyData} {b : Bool} {m n : Option α} (h1 : b = true → EXo K te env e m) (h2 : b = false → EXo K te env e n) : EXo K te env e (if b = true then m else n) := by
  cases b with
  | true => exact h1 rfl
  | false => exact h2 rfl
theorem eto_bind {m : Option α} {k : α → Option Bool} (h : ∀ x, m = some x → ETo K t env (k x)) : ETo K t env (m.bind k) := fun y hy => by
  obtain ⟨x, h1, h2⟩ := Option.bind_eq_some_iff.mp hy
  exact h x h1 y h2
theorem eto_some {b : Bool} (h : ET K t env b) : ETo K t env (some b) := fun y hy => by cases hy; exact h

/-! ### names, constants -/
theorem ex_var {i : Nat} (h : env[i]? = some (.sh d)) : EX K (tVar i) env d := fun F0 H0 F H σ E Q q => by
  obtain ⟨o, h1, v, h2, h3⟩ := E.sl i _ h
  subst h2
  exact ⟨v, h1, q v F H (Fz.refl E.fh) h3⟩
theorem exl_var {i : Nat} (h : env[i]? = some (.ow ds)) : EXl K (tVar i) env ds := fun F0 H0 F H σ E Q q => by
  obtain ⟨o, h1, p, vs, h2, h3, h4, h5, h6, h7⟩ := E.sl i _ h
  subst h2
  exact ⟨_, h1, q p vs F H (Fz.refl E.fh) h5 h6 h7⟩
theorem ex_int {i : Int} : EX K (tC (.int i)) env (.int i) := fun F0 H0 F H σ E Q q => q _ F H (Fz.refl E.fh) (.int i)
theorem ex_bl {b : Bool} : EX K (tC (.bl b)) env (.bool b) := fun F0 H0 F H σ E Q q => q _ F H (Fz.refl E.fh) (.bl b)
theorem ex_non : EX K (tC .non) env .none := fun F0 H0 F H σ E Q q => q _ F H (Fz.refl E.fh) .non
theorem ex_str {x : Str} (h : x.length ≤ lim) : EX K (tC (.str x)) env (.str x) := fun F0 H0 F H σ E Q q => q _ F H (Fz.refl E.fh) (.str x h)

/-! ### operators -/
theorem ex_i0 {g : Int → Int → V} {i j : Int} (ha : EX K ta env (.int i)) (hb : EX K tb env (.int j)) (hd : ∀ F, Dq F (g i j) d) : EX K (tOp (rI0 g) ta tb) env d := fun F0 H0 F H σ E Q q =>
  ha E _ fun v F1 H1 z1 h1 => hb (E.step z1) _ fun w F2 H2 z2 h2 => by
    cases h1; cases h2
    exact ⟨i, j, rfl, rfl, q _ F2 H2 (z1.trans z2) (hd F2)⟩
theorem ex_iC {C : Int → Int → Prop} {g : Int → Int → V} {i j : Int} (ha : EX K ta env (.int i)) (hb : EX K tb env (.int j)) (hc : C i j) (hd : ∀ F, Dq F (g i j) d) : EX K (tOp (rI C g) ta tb) env d := fun F0 H0 F H σ E Q q =>
  ha E _ fun v F1 H1 z1 h1 => hb (E.step z1) _ fun w F2 H2 z2 h2 => by
    cases h1; cases h2
    exact ⟨i, j, rfl, rfl, hc, q _ F2 H2 (z1.trans z2) (hd F2)⟩
theorem ex_add {i j : Int} (ha : EX K ta env (.int i)) (hb : EX K tb env (.int j)) : EX K (tOp (rI0 fun i j => .int (i + j)) ta tb) env (.int (i + j)) := ex_i0 ha hb fun _ => .int _
theorem ex_sub {i j : Int} (ha : EX K ta env (.int i)) (hb : EX K tb env (.int j)) : EX K (tOp (rI0 fun i j => .int (i - j)) ta tb) env (.int (i - j)) := ex_i0 ha hb fun _ => .int _
theorem ex_mul {i j : Int} (ha : EX K ta env (.int i)) (hb : EX K tb env (.int j)) (hc : CMul i j) : EX K (tOp (rI CMul fun i j => .int (i * j)) ta tb) env (.int (i * j)) := ex_iC ha hb hc fun _ => .int _
theorem ex_mod {i j : Int} (ha : EX K ta env (.int i)) (hb : EX K tb env (.int j)) (hc : 0 < j) : EX K (tOp (rI (fun _ j => 0 < j) fun i j => .int (i % j)) ta tb) env (.int (i % j)) := ex_iC ha hb hc fun _ => .int _
theorem ex_fdiv {i j : Int} (ha : EX K ta env (.int i)) (hb : EX K tb env (.int j)) (hc : CDivW i j) : EX K (tOp (rI CDivW fun i j => .int (i / j)) ta tb) env (.int (i / j)) := ex_iC ha hb hc fun _ => .int _
theorem ex_pow {i j : Int} (ha : EX K ta env (.int i)) (hb : EX K tb env (.int j)) (hc : CPow i j) : EX K (tOp (rI CPow fun i j => .int (i ^ j.toNat)) ta tb) env (.int (i ^ j.toNat)) := ex_iC ha hb hc fun _ => .int _
theorem ex_lt {i j : Int} (ha : EX K ta env (.int i)) (hb : EX K tb env (.int j)) : EX K (tOp (rI0 fun i j => .bl (decide (i < j))) ta tb) env (.bool (decide (i < j))) := ex_i0 ha hb fun _ => .bl _
theorem ex_le {i j : Int} (ha : EX K ta env (.int i)) (hb : EX K tb env (.int j)) : EX K (tOp (rI0 fun i j => .bl (decide (i ≤ j))) ta tb) env (.bool (decide (i ≤ j))) := ex_i0 ha hb fun _ => .bl _
theorem ex_gt {i j : Int} (ha : EX K ta env (.int i)) (hb : EX K tb env (.int j)) : EX K (tOp (rI0 fun i j => .bl (decide (j < i))) ta tb) env (.bool (decide (j < i))) := ex_i0 ha hb fun _ => .bl _
theorem ex_ge {i j : Int} (ha : EX K ta env (.int i)) (hb : EX K tb env (.int j)) : EX K (tOp (rI0 fun i j => .bl (decide (j ≤ i))) ta tb) env (.bool (decide (j ≤ i))) := ex_i0 ha hb fun _ => .bl _
theorem ex_neg {i : Int} (ha : EX K ta env (.int i)) : EX K (tUn (rU fun i => .int (-i)) ta) env (.int (-i)) := fun F0 H0 F H σ E Q q =>
  ha E _ fun v F1 H1 z1 h1 => by
    cases h1
    exact ⟨i, rfl, q _ F1 H1 z1 (.int _)⟩
theorem ex_eqI {i j : Int} (ha : EX K ta env (.int i)) (hb : EX K tb env (.int j)) : EX K (tOp rEq ta tb) env (.bool (decide (i = j))) := fun F0 H0 F H σ E Q q =>
  ha E _ fun v F1 H1 z1 h1 => hb (E.step z1) _ fun w F2 H2 z2 h2 => by
    cases h1; cases h2
    have e : decide (V.int i = V.int j) = decide (i = j) := by
      by_cases c : i = j
      · rw [decide_eq_true c, c, decide_eq_true rfl]
      · rw [decide_eq_false c, decide_eq_false fun z => c (V.int.inj z)]
    refine ⟨rfl, ?_⟩
    rw [e]
    exact q _ F2 H2 (z1.trans z2) (.bl _)
theorem ex_neI {i j : Int} (ha : EX K ta env (.int i)) (hb : EX K tb env (.int j)) : EX K (tOp rNe ta tb) env (.bool (!decide (i = j))) := fun F0 H0 F H σ E Q q =>
  ha E _ fun v F1 H1 z1 h1 => hb (E.step z1) _ fun w F2 H2 z2 h2 => by
    cases h1; cases h2
    have e : decide (V.int i = V.int j) = decide (i = j) := by
      by_cases c : i = j
      · rw [decide_eq_true c, c, decide_eq_true rfl]
      · rw [decide_eq_false c, decide_eq_false fun z => c (V.int.inj z)]
    refine ⟨rfl, ?_⟩
    rw [e]
    exact q _ F2 H2 (z1.trans z2) (.bl _)
theorem ex_eqS {x y : Str} (ha : EX K ta env (.str x)) (hb : EX K tb env (.str y)) : EX K (tOp rEq ta tb) env (.bool (decide (x = y))) := fun F0 H0 F H σ E Q q =>
  ha E _ fun v F1 H1 z1 h1 => hb (E.step z1) _ fun w F2 H2 z2 h2 => by
    cases h1; cases h2
    have e : decide (V.str x = V.str y) = decide (x = y) := by
      by_cases c : x = y
      · rw [decide_eq_true c, c, decide_eq_true rfl]
      · rw [decide_eq_false c, decide_eq_false fun z => c (V.str.inj z)]
    refine ⟨rfl, ?_⟩
    rw [e]
    exact q _ F2 H2 (z1.trans z2) (.bl _)
theorem ex_neS {x y : Str} (ha : EX K ta env (.str x)) (hb : EX K tb env (.str y)) : EX K (tOp rNe ta tb) env (.bool (!decide (x = y))) := fun F0 H0 F H σ E Q q =>
  ha E _ fun v F1 H1 z1 h1 => hb (E.step z1) _ fun w F2 H2 z2 h2 => by
    cases h1; cases h2
    have e : decide (V.str x = V.str y) = decide (x = y) := by
      by_cases c : x = y
      · rw [decide_eq_true c, c, decide_eq_true rfl]
      · rw [decide_eq_false c, decide_eq_false fun z => c (V.str.inj z)]
    refine ⟨rfl, ?_⟩
    rw [e]
    exact q _ F2 H2 (z1.trans z2) (.bl _)
theorem ex_eqB {x y : Bool} (ha : EX K ta env (.bool x)) (hb : EX K tb env (.bool y)) : EX K (tOp rEq ta tb) env (.bool (x == y)) := fun F0 H0 F H σ E Q q =>
  ha E _ fun v F1 H1 z1 h1 => hb (E.step z1) _ fun w F2 H2 z2 h2 => by
    cases h1; cases h2
    refine ⟨rfl, ?_⟩
    have e : decide (V.bl x = V.bl y) = (x == y) := by cases x <;> cases y <;> rfl
    rw [e]
    exact q _ F2 H2 (z1.trans z2) (.bl _)
theorem ex_neB {x y : Bool} (ha : EX K ta env (.bool x)) (hb : EX K tb env (.bool y)) : EX K (tOp rNe ta tb) env (.bool (!(x == y))) := fun F0 H0 F H σ E Q q =>
  ha E _ fun v F1 H1 z1 h1 => hb (E.step z1) _ fun w F2 H2 z2 h2 => by
    cases h1; cases h2
    refine ⟨rfl, ?_⟩
    have e : decide (V.bl x = V.bl y) = (x == y) := by cases x <;> cases y <;> rfl
    rw [e]
    exact q _ F2 H2 (z1.trans z2) (.bl _)
theorem ex_eqD {x : Bool} (ha : EXq K ta env d) (hb : EXq K tb env e) (sd : SeqAt.shaped d = true) (se : SeqAt.shaped e = true) (hv : PyData.eqv d e = x) : EX K (tOp (rEqD K) ta tb) env (.bool x) := fun F0 H0 F H σ E Q q =>
  ha E _ fun v F1 H1 z1 h1 => hb (E.step z1) _ fun w F2 H2 z2 h2 => by
    subst hv
    exact ⟨d, e, Dq.dp _ _ (lay_of sd) (Dq.mono (z2.hh (E.step z1).fh) _ _ h1), Dq.dp _ _ (lay_of se) h2, sd, se, q _ F2 H2 (z1.trans z2) (.bl _)⟩
theorem ex_neD {x : Bool} (ha : EXq K ta env d) (hb : EXq K tb env e) (sd : SeqAt.shaped d = true) (se : SeqAt.shaped e = true) (hv : PyData.eqv d e = x) : EX K (tOp (rNeD K) ta tb) env (.bool (!x)) := fun F0 H0 F H σ E Q q =>
  ha E _ fun v F1 H1 z1 h1 => hb (E.step z1) _ fun w F2 H2 z2 h2 => by
    subst hv
    exact ⟨d, e, Dq.dp _ _ (lay_of sd) (Dq.mono (z2.hh (E.step z1).fh) _ _ h1), Dq.dp _ _ (lay_of se) h2, sd, se, q _ F2 H2 (z1.trans z2) (.bl _)⟩
theorem ex_addS {x y : Str} (ha : EX K ta env (.str x)) (hb : EX K tb env (.str y)) (hl : (x ++ y).length ≤ lim) (hl2 : x.length + y.length ≤ lim) : EX K (tOp (fun x y H Q => ∃ i j, x = .str i ∧ y = .str j ∧ i.length + j.length ≤ sizeLine ∧ Q (.str (i ++ j)) H) ta tb) env (.str (x ++ y)) := fun F0 H0 F H σ E Q q =>
  ha E _ fun v F1 H1 z1 h1 => hb (E.step z1) _ fun w F2 H2 z2 h2 => by
    cases h1; cases h2
    exact ⟨x, y, rfl, rfl, lim_le hl2, q _ F2 H2 (z1.trans z2) (.str _ hl)⟩
/-- is None, is not None -/
def isNone : PyData → Bool
  | .none => true
  | _ => false
theorem ex_isN (ha : EX K ta env d) : EX K (tOp (fun x y H Q => y = .non ∧ Q (.bl (decide (x = .non))) H) ta (tC .non)) env (.bool (isNone d)) := fun F0 H0 F H σ E Q q =>
  ha E _ fun v F1 H1 z1 h1 => by
    refine ⟨rfl, ?_⟩
    have e : decide (v = V.non) = isNone d := by cases h1 <;> rfl
    rw [e]
    exact q _ F1 H1 z1 (.bl _)
theorem ex_notN (ha : EX K ta env d) : EX K (tOp (fun x y H Q => y = .non ∧ Q (.bl (!decide (x = .non))) H) ta (tC .non)) env (.bool (!isNone d)) := fun F0 H0 F H σ E Q q =>
  ha E _ fun v F1 H1 z1 h1 => by
    refine ⟨rfl, ?_⟩
    have e : decide (v = V.non) = isNone d := by cases h1 <;> rfl
    rw [e]
    exact q _ F1 H1 z1 (.bl _)
/-! ### indices -/
theorem atI_map {f : α → β} {xs : List α} {i : Int} {x : α} (h : atI xs i = some x) : atI (xs.map f) i = some (f x) := by
  unfold atI at h ⊢
  obtain ⟨j, h1, h2⟩ := Option.bind_eq_some_iff.mp h
  rw [List.length_map, h1]
  show (xs.map f)[j]? = _
  rw [List.getElem?_map, h2]
  rfl
theorem DqAll.atI {H : Hp} {ds : List PyData} {vs : List V} {i : Int} (a : DqAll H vs ds) (h : L2.atI ds i = some d) : ∃ v, L2.atI vs i = some v ∧ Dq H v d := by
  unfold L2.atI at h ⊢
  obtain ⟨j, h1, h2⟩ := Option.bind_eq_some_iff.mp h
  rw [a.len, h1]
  exact a.get h2
theorem ex_ixL {i : Int} (ha : EXl K ta env ds) (hb : EX K tb env (.int i)) (h : atI ds i = some d) : EX K (tOp (rIxL K) ta tb) env d := fun F0 H0 F H σ E Q q =>
  ha E _ fun p vs F1 H1 z1 h1 a1 l1 => hb (E.step z1) _ fun w F2 H2 z2 h2 => by
    cases h2
    obtain ⟨v, e1, e2⟩ := a1.atI h
    exact ⟨p, vs, i, v, rfl, rfl, SqL.of (z2.hh (E.step z1).fh _ _ h1), e1, q _ F2 H2 (z1.trans z2) (Dq.mono z2.f _ _ e2)⟩
theorem ex_ixT {i : Int} (ha : EX K ta env (.tuple ds)) (hb : EX K tb env (.int i)) (h : atI ds i = some d) : EX K (tOp (rIxT K) ta tb) env d := fun F0 H0 F H σ E Q q =>
  ha E _ fun p F1 H1 z1 h1 => hb (E.step z1) _ fun w F2 H2 z2 h2 => by
    cases h2
    cases h1 with
    | tup h1 a1 l1 =>
    obtain ⟨v, e1, e2⟩ := a1.atI h
    exact ⟨_, _, i, v, rfl, rfl, SqT.of (z2.fh _ _ (z2.f _ _ h1)), e1, q _ F2 H2 (z1.trans z2) (Dq.mono z2.f _ _ e2)⟩
theorem ex_ixS {z : Str} {i : Int} {c : Nat} (ha : EX K ta env (.str z)) (hb : EX K tb env (.int i)) (h : atI z.cps.toList i = some c) : EX K (tOp rIxS ta tb) env (.str ⟨#[c]⟩) := fun F0 H0 F H σ E Q q =>
  ha E _ fun p F1 H1 z1 h1 => hb (E.step z1) _ fun w F2 H2 z2 h2 => by
    cases h2
    cases h1 with
    | str _ l => exact ⟨z, i, c, rfl, rfl, lim_le l, h, q _ F2 H2 (z1.trans z2) (.str _ (by show 1 ≤ lim; decide))⟩
/-! ### displays -/
theorem ea_nil : EA K tNil env [] := fun F0 H0 F H σ E Q q => q [] F H (Fz.refl E.fh) .nil
theorem ea_cons {tr : TA} (ha : EX K ta env d) (hr : EA K tr env ds) : EA K (tCons ta tr) env (d :: ds) := fun F0 H0 F H σ E Q q =>
  ha E _ fun v F1 H1 z1 h1 => hr (E.step z1) _ fun vs F2 H2 z2 h2 => q _ F2 H2 (z1.trans z2) (.cons (Dq.mono z2.f _ _ h1) h2)
theorem ex_tup {tr : TA} (ha : EA K tr env ds) (hl : ds.length ≤ lim) : EX K (tTup tr) env (.tuple ds) := fun F0 H0 F H σ E Q q =>
  ha E _ fun vs F1 H1 z1 h1 => ⟨by rw [h1.len]; exact lim_le hl, fun p hp => q _ (upd F1 p (.tup vs)) _ (z1.trans (Fz.new (E.step z1).fh hp)) (.tup upd_same (DqAll.mono (Evl.Ex.new (Evl.fresh_back (E.step z1).fh hp)) _ _ h1) hl)⟩
theorem fresh0 {F H F1 H1 : Hp} {p : Addr} (e : Ex F H) (z : Fz F H F1 H1) (h : H1 p = none) : H p = none := Evl.fresh_back (z.hh e) h
theorem exw_lst {tr : TA} (ha : EA K tr env ds) (hl : ds.length ≤ lim) : EXw K (tLst tr) env ds := fun F0 H0 F H σ E Q q =>
  ha E _ fun vs F1 H1 z1 h1 => ⟨by rw [h1.len]; exact lim_le hl, fun p hp => q p vs F1 _ (z1.trans (Fz.add (E.step z1).fh hp)) (fresh0 E.fh z1 hp) (Evl.fresh_back (E.step z1).fh hp) upd_same h1 hl⟩
theorem exw_cat (ha : EXl K ta env ds) (hb : EXl K tb env es) (hl : (ds ++ es).length ≤ lim) : EXw K (tOp rCat ta tb) env (ds ++ es) := fun F0 H0 F H σ E Q q =>
  ha E _ fun p vs F1 H1 z1 h1 a1 l1 => hb (E.step z1) _ fun r ws F2 H2 z2 h2 a2 l2 => by
    have E2 := (E.step z1).step z2
    refine ⟨p, r, vs, ws, rfl, rfl, z2.hh (E.step z1).fh _ _ h1, h2, ?_, fun o ho => ?_⟩
    · rw [a1.len, a2.len, ← List.length_append]; exact lim_le hl
    · exact q o _ F2 _ ((z1.trans z2).trans (Fz.add E2.fh ho)) (fresh0 E.fh (z1.trans z2) ho) (Evl.fresh_back E2.fh ho) upd_same ((DqAll.mono z2.f _ _ a1).app a2) hl
theorem exw_rep {k : Int} (ha : EXl K ta env ds) (hb : EX K tb env (.int k)) (hk : k < 2 ^ 62 ∧ -(2 ^ 62) ≤ k) (hl : ds.length * k.toNat ≤ lim) (hr : es = (List.replicate k.toNat ds).flatten) : EXw K (tOp rRep ta tb) env es := fun F0 H0 F H σ E Q q =>
  ha E _ fun p vs F1 H1 z1 h1 a1 l1 => hb (E.step z1) _ fun w F2 H2 z2 h2 => by
    have E2 := (E.step z1).step z2
    cases h2
    have a2 := DqAll.mono z2.f _ _ a1
    have all : ∀ n, DqAll F2 (List.replicate n vs).flatten (List.replicate n ds).flatten := fun n => by
      induction n with
      | zero => exact .nil
      | succ n ih =>
        rw [List.replicate_succ, List.replicate_succ, List.flatten_cons, List.flatten_cons]
        exact a2.app ih
    refine ⟨p, k, vs, rfl, rfl, z2.hh (E.step z1).fh _ _ h1, by omega, by omega, by rw [a1.len]; exact lim_le hl, fun o ho => ?_⟩
    subst hr
    refine q o _ F2 _ ((z1.trans z2).trans (Fz.add E2.fh ho)) (fresh0 E.fh (z1.trans z2) ho) (Evl.fresh_back E2.fh ho) upd_same (all k.toNat) ?_
    rw [List.length_flatten, List.map_replicate, List.sum_replicate_nat, Nat.mul_comm]
    exact hl
/-! ### tests -/
theorem et_of (h : EX K te env (.bool b)) : ET K (tTest te) env b := fun F0 H0 F H σ E Q q => h E _ fun v F1 H1 z1 h1 => by
  cases h1
  exact ⟨b, rfl, q F1 H1 z1⟩
theorem et_B {b : Bool} (h : EX K te env (.bool b)) : ET K (tB te) env b := fun F0 H0 F H σ E Q q => h E _ fun v F1 H1 z1 h1 => by
  cases h1
  exact ⟨b, rfl, q F1 H1 z1⟩
theorem eto_of {m : Option Bool} (h : EXo K te env .bool m) : ETo K (tTest te) env m := fun x e => et_of (h x e)
theorem eto_B {m : Option Bool} (h : EXo K te env .bool m) : ETo K (tB te) env m := fun x e => et_B (h x e)
theorem eto_not {m : Option Bool} (h : ETo K t env m) : ETo K (tNot t) env (m.map (!·)) := fun x e => by
  obtain ⟨b, h1, h2⟩ := Option.map_eq_some_iff.mp e
  subst h2
  exact fun F0 H0 F H σ E Q q => h b h1 E _ fun F1 H1 z1 => q F1 H1 z1
theorem et_not {b : Bool} (h : ET K t env b) : ET K (tNot t) env (!b) := fun F0 H0 F H σ E Q q => h E _ fun F1 H1 z1 => q F1 H1 z1
theorem eto_and {m n : Option Bool} (h1 : ETo K t env m) (h2 : ETo K u env n) : ETo K (tAnd t u) env (m.bind fun a => if a = true then n else some false) := fun x e => by
  obtain ⟨a, e1, e2⟩ := Option.bind_eq_some_iff.mp e
  intro F0 H0 F H σ E Q q
  refine h1 a e1 E _ fun F1 H1 z1 => ?_
  cases a with
  | true =>
    show u σ H1 Q
    exact h2 x e2 (E.step z1) _ fun F2 H2 z2 => q F2 H2 (z1.trans z2)
  | false =>
    cases e2
    exact q F1 H1 z1
theorem eto_or {m n : Option Bool} (h1 : ETo K t env m) (h2 : ETo K u env n) : ETo K (tOr t u) env (m.bind fun a => if a = true then some true else n) := fun x e => by
  obtain ⟨a, e1, e2⟩ := Option.bind_eq_some_iff.mp e
  intro F0 H0 F H σ E Q q
  refine h1 a e1 E _ fun F1 H1 z1 => ?_
  cases a with
  | true =>
    cases e2
    exact q F1 H1 z1
  | false =>
    show u σ H1 Q
    exact h2 x e2 (E.step z1) _ fun F2 H2 z2 => q F2 H2 (z1.trans z2)
theorem et_and {a b : Bool} (h1 : ET K t env a) (h2 : ET K u env b) : ET K (tAnd t u) env (a && b) := fun F0 H0 F H σ E Q q => h1 E _ fun F1 H1 z1 => by
  cases a with
  | true => exact h2 (E.step z1) _ fun F2 H2 z2 => q F2 H2 (z1.trans z2)
  | false => exact q F1 H1 z1
theorem et_or {a b : Bool} (h1 : ET K t env a) (h2 : ET K u env b) : ET K (tOr t u) env (a || b) := fun F0 H0 F H σ E Q q => h1 E _ fun F1 H1 z1 => by
  cases a with
  | true => exact q F1 H1 z1
  | false => exact h2 (E.step z1) _ fun F2 H2 z2 => q F2 H2 (z1.trans z2)
/-- values: and, or, not -/
theorem exo_and {m n : Option Bool} (h1 : EXo K ta env .bool m) (h2 : EXo K tb env .bool n) : EXo K (tAndV ta tb) env .bool (m.bind fun a => if a = true then n else some false) := fun x e => by
  obtain ⟨a, e1, e2⟩ := Option.bind_eq_some_iff.mp e
  intro F0 H0 F H σ E Q q
  refine h1 a e1 E _ fun v F1 H1 z1 hv => ?_
  cases hv
  refine ⟨a, rfl, ?_⟩
  cases a with
  | true =>
    show tb σ H1 Q
    exact h2 x e2 (E.step z1) _ fun v F2 H2 z2 hv => q v F2 H2 (z1.trans z2) hv
  | false =>
    cases e2
    exact q _ F1 H1 z1 (.bl false)
theorem exo_or {m n : Option Bool} (h1 : EXo K ta env .bool m) (h2 : EXo K tb env .bool n) : EXo K (tOrV ta tb) env .bool (m.bind fun a => if a = true then some true else n) := fun x e => by
  obtain ⟨a, e1, e2⟩ := Option.bind_eq_some_iff.mp e
  intro F0 H0 F H σ E Q q
  refine h1 a e1 E _ fun v F1 H1 z1 hv => ?_
  cases hv
  refine ⟨a, rfl, ?_⟩
  cases a with
  | true =>
    cases e2
    exact q _ F1 H1 z1 (.bl true)
  | false =>
    show tb σ H1 Q
    exact h2 x e2 (E.step z1) _ fun v F2 H2 z2 hv => q v F2 H2 (z1.trans z2) hv
theorem ex_andV {a b : Bool} (h1 : EX K ta env (.bool a)) (h2 : EX K tb env (.bool b)) : EX K (tAndV ta tb) env (.bool (a && b)) := by
  have h := exo_and (exo_some (e := PyData.bool) h1) (exo_some (e := PyData.bool) h2) (a && b) (by cases a <;> rfl)
  exact h
theorem ex_orV {a b : Bool} (h1 : EX K ta env (.bool a)) (h2 : EX K tb env (.bool b)) : EX K (tOrV ta tb) env (.bool (a || b)) := by
  have h := exo_or (exo_some (e := PyData.bool) h1) (exo_some (e := PyData.bool) h2) (a || b) (by cases a <;> rfl)
  exact h
theorem ex_notV {a : Bool} (h1 : EX K ta env (.bool a)) : EX K (tNotV ta) env (.bool (!a)) := fun F0 H0 F H σ E Q q => h1 E _ fun v F1 H1 z1 hv => by
  cases hv
  exact ⟨a, rfl, q _ F1 H1 z1 (.bl _)⟩
theorem exo_if {c : Bool} {e : α → PyData} {m n : Option α} (hc : ET K t env c) (h1 : c = true → EXo K ta env e m) (h2 : c = false → EXo K tb env e n) : EXo K (tIf t ta tb) env e (if c = true then m else n) := fun x ex => by
  intro F0 H0 F H σ E Q q
  refine hc E _ fun F1 H1 z1 => ?_
  cases c with
  | true => exact h1 rfl x ex (E.step z1) _ fun v F2 H2 z2 hv => q v F2 H2 (z1.trans z2) hv
  | false => exact h2 rfl x ex (E.step z1) _ fun v F2 H2 z2 hv => q v F2 H2 (z1.trans z2) hv
theorem ex_if {c : Bool} {e : α → PyData} {x y : α} (hc : ET K t env c) (h1 : EX K ta env (e x)) (h2 : EX K tb env (e y)) : EX K (tIf t ta tb) env (e (if c = true then x else y)) := by
  have h := exo_if (e := e) hc (fun _ => exo_some h1) (fun _ => exo_some h2) (if c = true then x else y) (by cases c <;> rfl)
  exact h
theorem exl_if {c : Bool} {e : α → PyData} {xs ys : List α} (hc : ET K t env c) (h1 : EXl K ta env (xs.map e)) (h2 : EXl K tb env (ys.map e)) : EXl K (tIf t ta tb) env ((if c = true then xs else ys).map e) := fun F0 H0 F H σ E Q q => by
  refine hc E _ fun F1 H1 z1 => ?_
  cases c with
  | true => exact h1 (E.step z1) _ fun p vs F2 H2 z2 => q p vs F2 H2 (z1.trans z2)
  | false => exact h2 (E.step z1) _ fun p vs F2 H2 z2 => q p vs F2 H2 (z1.trans z2)
/-- chains of two comparisons of ints: the third is asked only where the first holds -/
theorem exo_chain {g g' : Int → Int → V} {p p' : Int → Int → Bool} {i j : Int} {m : Option Int} (hg : ∀ i j, g i j = .bl (p i j)) (hg' : ∀ i j, g' i j = .bl (p' i j)) (ha : EX K ta env (.int i)) (hb : EX K tb env (.int j)) (hc : EXo K tc env .int m) :
    EXo K (tChain (rI0 g) (rI0 g') ta tb tc) env .bool (if p i j = true then m.map (p' j) else some false) := fun x ex => by
  intro F0 H0 F H σ E Q q
  refine ha E _ fun v F1 H1 z1 h1 => hb (E.step z1) _ fun w F2 H2 z2 h2 => ?_
  cases h1; cases h2
  refine ⟨i, j, rfl, rfl, p i j, hg i j, ?_⟩
  cases hp : p i j with
  | true =>
    rw [hp, if_pos rfl] at ex
    obtain ⟨k, e1, e2⟩ := Option.map_eq_some_iff.mp ex
    rw [if_pos rfl]
    refine hc k e1 ((E.step z1).step z2) _ fun u F3 H3 z3 h3 => ?_
    cases h3
    refine ⟨j, k, rfl, rfl, ?_⟩
    rw [hg', e2]
    exact q _ F3 H3 ((z1.trans z2).trans z3) (.bl _)
  | false =>
    rw [hp, if_neg Bool.false_ne_true] at ex
    cases ex
    rw [if_neg Bool.false_ne_true]
    exact q _ F2 H2 (z1.trans z2) (.bl _)
theorem ex_chain {g g' : Int → Int → V} {p p' : Int → Int → Bool} {i j k : Int} (hg : ∀ i j, g i j = .bl (p i j)) (hg' : ∀ i j, g' i j = .bl (p' i j)) (ha : EX K ta env (.int i)) (hb : EX K tb env (.int j)) (hc : EX K tc env (.int k)) :
    EX K (tChain (rI0 g) (rI0 g') ta tb tc) env (.bool (p i j && p' j k)) :=
  exo_chain hg hg' ha hb (exo_some (e := PyData.int) hc) (p i j && p' j k) (by cases p i j <;> rfl)
end
end Rb

set_option Elab.async false
set_option linter.all false
set_option maxRecDepth 100000
set_option maxHeartbeats 2000000
namespace Rb
open PySem PySem.Spec PyProof.Rows L2
/-! ### what is walked: P holds while the source stands -/
structure IterP (J : It) (P : Hp → Hp → Prop) (ds : List PyData) : Prop where
  go : ∀ F H i d, P F H → Ex F H → ds[i]? = some d → J.go i H ∧ ∀ x H', J.yld i H x H' → ∃ F', Fz F H F' H' ∧ Dq F' x d
  stop : ∀ F H, P F H → Ex F H → J.stop ds.length H
/-- a settled source -/
def EIs (K : Frag) (wi : TI) (env : List Sl) (ds : List PyData) : Prop := ∀ ⦃F0 H0 F H : Hp⦄ ⦃σ : List (Option V)⦄, EnvOk K F0 H0 F H σ env → ∀ R : It → Hp → Prop, (∀ J F' H', Fz F H F' H' → ds.length ≤ lim → IterP J (fun F1 H1 => Ex F' F1) ds → R J H') → wi σ H R
/-- any source -/
def EI (K : Frag) (wi : TI) (env : List Sl) (ds : List PyData) : Prop := ∀ ⦃F0 H0 F H : Hp⦄ ⦃σ : List (Option V)⦄, EnvOk K F0 H0 F H σ env → ∀ R : It → Hp → Prop, (∀ J F' H', Fz F H F' H' → ds.length ≤ lim → IterP J (fun F1 H1 => Fz F' H' F1 H1) ds → R J H') → wi σ H R
section
variable {K : Frag} {env : List Sl} {ta tb tc te tl : TE} {d e : PyData} {ds es : List PyData} {α β : Type} {wi : TI}
theorem EIs.i (h : EIs K wi env ds) : EI K wi env ds := fun F0 H0 F H σ E R r => h E R fun J F' H' z l p => r J F' H' z l ⟨fun F1 H1 i d p1 => p.go F1 H1 i d p1.f, fun F1 H1 p1 => p.stop F1 H1 p1.f⟩
theorem itl {a : Addr} {vs : List V} {P : Hp → Hp → Prop} (hP : ∀ F H, P F H → Ex F H → H a = some (.lst vs) ∧ DqAll F vs ds) : IterP (Itl K a) P ds := by
  refine ⟨fun F H i d p e hd => ?_, fun F H p e => ?_⟩
  · obtain ⟨h1, h2⟩ := hP F H p e
    obtain ⟨v, hv, dv⟩ := h2.get hd
    refine ⟨⟨vs, v, SqL.of h1, hv⟩, fun x H' y => ?_⟩
    obtain ⟨rfl, y⟩ := y
    have e1 := (y vs (SqL.of h1)).symm.trans hv
    cases e1
    exact ⟨F, Fz.refl e, dv⟩
  · obtain ⟨h1, h2⟩ := hP F H p e
    exact ⟨vs, SqL.of h1, Nat.le_of_eq h2.len⟩
theorem itt {a : Addr} {vs : List V} {P : Hp → Hp → Prop} (hP : ∀ F H, P F H → Ex F H → H a = some (.tup vs) ∧ DqAll F vs ds) : IterP (Itt K a) P ds := by
  refine ⟨fun F H i d p e hd => ?_, fun F H p e => ?_⟩
  · obtain ⟨h1, h2⟩ := hP F H p e
    obtain ⟨v, hv, dv⟩ := h2.get hd
    refine ⟨⟨vs, v, SqT.of h1, hv⟩, fun x H' y => ?_⟩
    obtain ⟨rfl, y⟩ := y
    have e1 := (y vs (SqT.of h1)).symm.trans hv
    cases e1
    exact ⟨F, Fz.refl e, dv⟩
  · obtain ⟨h1, h2⟩ := hP F H p e
    exact ⟨vs, SqT.of h1, Nat.le_of_eq h2.len⟩
theorem eis_list (h : EX K tl env (.list ds)) : EIs K (iList K tl) env ds := fun F0 H0 F H σ E R r => h E _ fun v F' H' z hv => by
  cases hv with
  | lst h1 h2 h3 => exact ⟨_, rfl, ⟨_, SqL.of (z.fh _ _ h1)⟩, r _ F' H' z h3 (itl fun F1 H1 p e => ⟨e _ _ (p _ _ h1), DqAll.mono p _ _ h2⟩)⟩
theorem ei_list (h : EXl K tl env ds) : EI K (iList K tl) env ds := fun F0 H0 F H σ E R r => h E _ fun p vs F' H' z h1 h2 h3 =>
  ⟨p, rfl, ⟨vs, SqL.of h1⟩, r _ F' H' z h3 (itl fun F1 H1 q e => ⟨q.hh z.fh _ _ h1, DqAll.mono q.f _ _ h2⟩)⟩
theorem eis_tup (h : EX K tl env (.tuple ds)) : EIs K (iTup K tl) env ds := fun F0 H0 F H σ E R r => h E _ fun v F' H' z hv => by
  cases hv with
  | tup h1 h2 h3 => exact ⟨_, rfl, ⟨_, SqT.of (z.fh _ _ h1)⟩, r _ F' H' z h3 (itt fun F1 H1 p e => ⟨e _ _ (p _ _ h1), DqAll.mono p _ _ h2⟩)⟩
/-- lo, lo + 1, .. below hi -/
def rng (lo hi : Int) : List Int := (List.range (hi - lo).toNat).map fun (i : Nat) => lo + (i : Int)
theorem rng_len (lo hi : Int) : (rng lo hi).length = (hi - lo).toNat := by unfold rng; rw [List.length_map, List.length_range]
theorem itr {lo : Int} {n : Nat} {P : Hp → Hp → Prop} : IterP (Itr lo n) P (((List.range n).map fun (i : Nat) => lo + (i : Int)).map PyData.int) := by
  refine ⟨fun F H i d p e hd => ?_, fun F H p e => ?_⟩
  · rw [List.map_map, List.getElem?_map] at hd
    obtain ⟨j, h1, h2⟩ := Option.map_eq_some_iff.mp hd
    obtain ⟨h3, h4⟩ := List.getElem?_eq_some_iff.mp h1
    rw [List.getElem_range] at h4
    rw [List.length_range] at h3
    subst h4; subst h2
    refine ⟨h3, fun x H' y => ?_⟩
    obtain ⟨rfl, rfl⟩ := y
    exact ⟨F, Fz.refl e, .int _⟩
  · show n ≤ _
    rw [List.length_map, List.length_map, List.length_range]
    exact Nat.le_refl _
def rngOk (n : Int) : Prop := -50000 ≤ n ∧ n ≤ 50000
instance (n : Int) : Decidable (rngOk n) := inferInstanceAs (Decidable (_ ∧ _))
theorem rng_lim {m n : Int} (hm : rngOk m) (hn : rngOk n) : ((rng m n).map PyData.int).length ≤ lim := by
  unfold rngOk at hm hn
  unfold lim
  rw [List.length_map, rng_len]
  omega
theorem eis_rng1 {n : Int} (h : EX K ta env (.int n)) (hn : rngOk n) : EIs K (iRng1 (tCons ta tNil)) env ((rng 0 n).map PyData.int) := fun F0 H0 F H σ E R r => h E _ fun v F' H' z hv => by
  cases hv
  have l := rng_lim (m := 0) (by decide) hn
  unfold rngOk at hn
  refine ⟨n, rfl, by omega, by omega, r _ F' H' z l ?_⟩
  have e : (n - 0).toNat = n.toNat := by rw [Int.sub_zero]
  unfold rng
  rw [e]
  exact itr
theorem eis_rng2 {m n : Int} (ha : EX K ta env (.int m)) (hb : EX K tb env (.int n)) (hm : rngOk m) (hn : rngOk n) : EIs K (iRng2 (tCons ta (tCons tb tNil))) env ((rng m n).map PyData.int) := fun F0 H0 F H σ E R r => ha E _ fun v F1 H1 z1 hv => hb (E.step z1) _ fun w F2 H2 z2 hw => by
  cases hv; cases hw
  have l := rng_lim hm hn
  unfold rngOk at hm hn
  exact ⟨m, n, rfl, ⟨by omega, by omega, by omega, by omega⟩, r _ F2 H2 (z1.trans z2) l itr⟩
/-- with a step -/
def rng3N (lo hi c : Int) : Nat := if 0 < c then (if lo < hi then ((hi - lo - 1) / c + 1).toNat else 0) else (if hi < lo then ((lo - hi - 1) / (-c) + 1).toNat else 0)
def rng3 (lo hi c : Int) : List Int := (List.range (rng3N lo hi c)).map fun (i : Nat) => lo + (i : Int) * c
theorem itc {lo c : Int} {n : Nat} {P : Hp → Hp → Prop} : IterP (Itc lo c n) P (((List.range n).map fun (i : Nat) => lo + (i : Int) * c).map PyData.int) := by
  refine ⟨fun F H i d p e hd => ?_, fun F H p e => ?_⟩
  · rw [List.map_map, List.getElem?_map] at hd
    obtain ⟨j, h1, h2⟩ := Option.map_eq_some_iff.mp hd
    obtain ⟨h3, h4⟩ := List.getElem?_eq_some_iff.mp h1
    rw [List.getElem_range] at h4
    rw [List.length_range] at h3
    subst h4; subst h2
    refine ⟨h3, fun x H' y => ?_⟩
    obtain ⟨rfl, rfl⟩ := y
    exact ⟨F, Fz.refl e, .int _⟩
  · show n ≤ _
    rw [List.length_map, List.length_map, List.length_range]
    exact Nat.le_refl _
theorem div_bnd {q c : Int} (hq : 0 ≤ q) (hc : 0 < c) : 0 ≤ q / c ∧ q / c ≤ q := ⟨Int.ediv_nonneg hq (by omega), Int.ediv_le_self c hq⟩
theorem rngC_ok {i j c : Int} (hc : c ≠ 0) (h1 : c.natAbs < 1000000000) (hi : i < 2 ^ 60 ∧ -(2 ^ 60) ≤ i) (hj : j < 2 ^ 60 ∧ -(2 ^ 60) ≤ j) : RgC i j c (rng3N i j c) := by
  have key : Builtin.Range.rangeSize i j c = rng3N i j c ∧ (rng3N i j c : Int) ≤ 2 ^ 61 := by
    unfold Builtin.Range.rangeSize rng3N
    by_cases c0 : 0 < c
    · rw [if_pos c0, if_pos (show c > 0 from c0)]
      by_cases c1 : i < j
      · rw [if_pos c1, if_pos c1]
        have := div_bnd (q := j - i - 1) (c := c) (by omega) c0
        generalize (j - i - 1) / c = q at this ⊢
        omega
      · rw [if_neg c1, if_neg c1]
        exact ⟨rfl, by decide⟩
    · rw [if_neg c0, if_neg (show ¬ c > 0 from c0)]
      by_cases c1 : j < i
      · rw [if_pos c1, if_pos (show i > j from c1)]
        have := div_bnd (q := i - j - 1) (c := -c) (by omega) (by omega)
        generalize (i - j - 1) / -c = q at this ⊢
        omega
      · rw [if_neg c1, if_neg (show ¬ i > j from c1)]
        exact ⟨rfl, by decide⟩
  refine ⟨hc, by omega, ?_, key.1⟩
  unfold Builtin.Range.small
  rw [key.1]
  have := key.2
  generalize rng3N i j c = q at this ⊢
  simp only [Builtin.Range.rangeFitsLong, Bool.and_eq_true, Bool.or_eq_true, decide_eq_true_eq, beq_iff_eq]
  by_cases c0 : c > 0
  · simp only [c0, if_true, Bool.and_eq_true, decide_eq_true_eq]
    omega
  · simp only [c0, if_false, Bool.and_eq_true, decide_eq_true_eq]
    omega
theorem rng3N_le {m n c : Int} (hm : rngOk m) (hn : rngOk n) (h0 : c ≠ 0) : rng3N m n c ≤ lim := by
  unfold rngOk at hm hn
  unfold rng3N lim
  by_cases c0 : 0 < c
  · rw [if_pos c0]
    by_cases c1 : m < n
    · rw [if_pos c1]
      have := div_bnd (q := n - m - 1) (c := c) (by omega) c0
      omega
    · rw [if_neg c1]; omega
  · rw [if_neg c0]
    by_cases c1 : n < m
    · rw [if_pos c1]
      have := div_bnd (q := m - n - 1) (c := -c) (by omega) (by omega)
      omega
    · rw [if_neg c1]; omega
theorem eis_rng3 {m n c : Int} (ha : EX K ta env (.int m)) (hb : EX K tb env (.int n)) (hc : EX K tc env (.int c)) (hm : rngOk m) (hn : rngOk n) (h0 : c ≠ 0) (h1 : c.natAbs < 1000000000) :
    EIs K (iRng3 (tCons ta (tCons tb (tCons tc tNil)))) env ((rng3 m n c).map PyData.int) := fun F0 H0 F H σ E R r => ha E _ fun v F1 H1 z1 hv => hb (E.step z1) _ fun w F2 H2 z2 hw => hc ((E.step z1).step z2) _ fun u F3 H3 z3 hu => by
  cases hv; cases hw; cases hu
  have l := rng3N_le hm hn h0
  unfold rngOk at hm hn
  refine ⟨m, n, c, _, rfl, rngC_ok h0 h1 (by omega) (by omega), r _ F3 H3 ((z1.trans z2).trans z3) ?_ itc⟩
  unfold rng3
  rw [List.length_map, List.length_map, List.length_range]
  exact l
end
end Rb

set_option Elab.async false
set_option linter.all false
set_option maxRecDepth 100000
set_option maxHeartbeats 2000000
namespace Rb
open PySem PySem.Spec PyProof.Rows L2
/-! ### targets -/
def EG (K : Frag) (g : TG) (env : List Sl) (d : PyData) (env' : List Sl) : Prop := ∀ ⦃F0 H0 F H : Hp⦄ ⦃σ : List (Option V)⦄ ⦃v : V⦄, EnvOk K F0 H0 F H σ env → Dq F v d → ∀ Q : L2.St → Hp → Prop, (∀ σ' F' H', EnvOk K F0 H0 F' H' σ' env' → Q σ' H') → g v σ H Q
/-- names alone: the heap stays, the slots vs alone change -/
def EGc (K : Frag) (g : TG) (env : List Sl) (d : PyData) (env' : List Sl) (vs : List Nat) : Prop := ∀ ⦃F0 H0 F H : Hp⦄ ⦃σ : List (Option V)⦄ ⦃v : V⦄, EnvOk K F0 H0 F H σ env → Dq F v d → ∀ Q : L2.St → Hp → Prop, (∀ σ', EnvOk K F0 H0 F H σ' env' → wipe σ' vs = wipe σ vs → Q σ' H) → g v σ H Q
def EGs (K : Frag) (g : TGs) (env : List Sl) (ds : List PyData) (env' : List Sl) (vs : List Nat) : Prop := ∀ ⦃F0 H0 F H : Hp⦄ ⦃σ : List (Option V)⦄ ⦃ws : List V⦄, EnvOk K F0 H0 F H σ env → DqAll F ws ds → ∀ Q : L2.St → Hp → Prop, (∀ σ', EnvOk K F0 H0 F H σ' env' → wipe σ' vs = wipe σ vs → Q σ' H) → g ws σ H Q
theorem wipe_set {σ : List (Option V)} {i : Nat} {x : Option V} : ∀ {vs : List Nat}, i ∈ vs → wipe (σ.set i x) vs = wipe σ vs
  | [], h => by cases h
  | v :: vs, h => by
    unfold wipe
    by_cases m : i ∈ vs
    · rw [wipe_set m]
    · have e : i = v := by
        rcases List.mem_cons.mp h with z | z
        · exact z
        · exact absurd z m
      subst e
      have : ∀ vs : List Nat, i ∉ vs → wipe (σ.set i x) vs = (wipe σ vs).set i x := fun vs => by
        induction vs with
        | nil => intro _; rfl
        | cons w ws ih =>
          intro hm
          unfold wipe
          rw [ih fun z => hm (List.mem_cons_of_mem _ z), List.set_comm]
          exact fun z => hm (z ▸ List.mem_cons_self)
      rw [this vs m, List.set_set]
section
variable {K : Frag} {env env' env1 : List Sl} {d : PyData} {ds : List PyData} {g : TG} {gs : TGs} {vs : List Nat} {te ti : TE} {α β S R O : Type}
theorem EGc.eg (h : EGc K g env d env' vs) : EG K g env d env' := fun F0 H0 F H σ v E hv Q q => h E hv Q fun σ' E' _ => q σ' F H E'
theorem egc_name {i : Nat} (hi : i ∈ vs) : EGc K (gName i) env d (env.set i (.sh d)) vs := fun F0 H0 F H σ v E hv Q q => q _ (E.setS i hv) (wipe_set hi)
theorem egc_un {i : Nat} (hi : i ∈ vs) : EGc K (gName i) env d (env.set i .un) vs := fun F0 H0 F H σ v E hv Q q => q _ (E.setU i) (wipe_set hi)
theorem egs_nil : EGs K gNil env [] env vs := fun F0 H0 F H σ v E hv Q q => by
  cases hv
  exact ⟨rfl, q σ E rfl⟩
theorem egs_cons (h1 : EGc K g env d env1 vs) (h2 : EGs K gs env1 ds env' vs) : EGs K (gCons g gs) env (d :: ds) env' vs := fun F0 H0 F H σ v E hv Q q => by
  cases hv with
  | cons a b => exact ⟨_, _, rfl, h1 E a _ fun σ1 E1 w1 => h2 E1 b _ fun σ2 E2 w2 => q σ2 E2 (w2.trans w1)⟩
theorem egc_tup {n : Nat} (h : EGs K gs env ds env' vs) (hn : ds.length = n) : EGc K (gTup K n gs) env (.tuple ds) env' vs := fun F0 H0 F H σ v E hv Q q => by
  cases hv with
  | tup h1 h2 h3 => exact ⟨_, _, rfl, SqT.of (E.fh _ _ h1), by rw [h2.len, hn], h E h2 _ q⟩
theorem egc_lst {n : Nat} (h : EGs K gs env ds env' vs) (hn : ds.length = n) : EGc K (gLst K n gs) env (.list ds) env' vs := fun F0 H0 F H σ v E hv Q q => by
  cases hv with
  | lst h1 h2 h3 => exact ⟨_, _, rfl, SqL.of (E.fh _ _ h1), by rw [h2.len, hn], h E h2 _ q⟩
/-- found[i] = e, found a list of the frame's own -/
theorem eg_sub {k : Nat} {i : Int} {j : Nat} {ds' : List PyData} (hk : env[k]? = some (.ow ds)) (hi : EX K ti env (.int i)) (hj : ixN ds.length i = some j) (hd : ds' = ds.set j d) : EG K (gSub (tVar k) ti rSetL) env d (env.set k (.ow ds')) := fun F0 H0 F H σ v E hv Q q => by
  obtain ⟨o, h1, p, vs, h2, h3, h4, h5, h6, h7⟩ := E.sl k _ hk
  subst h2
  refine ⟨_, h1, hi E _ fun w F1 H1 z1 hw => ?_⟩
  cases hw
  have E1 := E.step z1
  obtain ⟨f1, hh1⟩ := z1.own p _ h5 h4
  have a1 := DqAll.mono z1.f _ _ h6
  subst hd
  refine ⟨p, vs, i, j, rfl, rfl, hh1, by rw [a1.len]; exact hj, q _ F1 _ (E1.mut hk rfl h1 ⟨p, _, rfl, h3, f1, upd_same, a1.set (Dq.mono z1.f _ _ hv) j, by rw [List.length_set]; exact h7⟩ rfl)⟩
/-! ### outcomes -/
/-- an exception: its class by name, its one field -/
structure Exn where
  name : Str
  arg : Option (Str × PyData)
/-- it meets a wish -/
def exW (K : Frag) (x : Exn) (F H : Hp) (C : Value → Option Addr → Prop) : Prop := match x.arg with
  | none => C (.ref (He.ga K x.name)) none
  | some q => ∀ dd v, H dd = some (.xd [(q.1, v)]) → Dq F v q.2 → C (.ref (He.ga K x.name)) (some dd)
theorem exW.imp {K : Frag} {x : Exn} {F H : Hp} {C C' : Value → Option Addr → Prop} (h : exW K x F H C) (i : ∀ c d, C c d → C' c d) : exW K x F H C' := by
  unfold exW at h ⊢
  split
  · rename_i e; rw [e] at h; exact i _ _ h
  · rename_i q e; rw [e] at h; exact fun dd v a b => i _ _ (h dd v a b)
inductive Rv where
  | sh (d : PyData)
  | fr (ds : List PyData)
inductive Out where
  | nx (env : List Sl)
  | bk (env : List Sl)
  | ct (env : List Sl)
  | rt (r : Rv)
  | ex (env : List Sl) (x : Exn) (W : WX)
def Out.fin : Out → Prop
  | .rt _ => True
  | .ex _ _ _ => True
  | _ => False
/-- what a def hands back reaches Q -/
def RetOk (F0 H0 : Hp) (Q : VK) : Rv → Prop
  | .sh d => ∀ F H v, Fz F0 H0 F H → Dq F v d → Q v H
  | .fr ds => ∀ F H p vs, Fz F0 H0 F H → H0 p = none → F p = none → H p = some (.lst vs) → DqAll F vs ds → ds.length ≤ lim → Q (.ref p) H
def Cont (K : Frag) (F0 H0 : Hp) (D : Ends) : Out → Prop
  | .nx env => ∀ F H σ, EnvOk K F0 H0 F H σ env → D.nx σ H
  | .bk env => ∀ F H σ, EnvOk K F0 H0 F H σ env → D.bk σ H
  | .ct env => ∀ F H σ, EnvOk K F0 H0 F H σ env → D.ct σ H
  | .rt r => RetOk F0 H0 D.rt r
  | .ex env x W => ∀ F H σ, EnvOk K F0 H0 F H σ env → exW K x F H fun c d => W c d σ H
theorem RetOk.base {F0 H0 F1 H1 : Hp} {Q : VK} (z : Fz F0 H0 F1 H1) : ∀ {r : Rv}, RetOk F0 H0 Q r → RetOk F1 H0 Q r
  | .sh d, h => fun F H v z2 hv => h F H v (z.back z2) hv
  | .fr ds, h => fun F H p vs z2 a b c d l => h F H p vs (z.back z2) a b c d l
theorem Cont.base {K : Frag} {F0 H0 F1 H1 : Hp} {D : Ends} (z : Fz F0 H0 F1 H1) : ∀ {o : Out}, Cont K F0 H0 D o → Cont K F1 H0 D o
  | .nx env, h => fun F H σ E => h F H σ (E.back z)
  | .bk env, h => fun F H σ E => h F H σ (E.back z)
  | .ct env, h => fun F H σ E => h F H σ (E.back z)
  | .rt r, h => RetOk.base z h
  | .ex env x W, h => fun F H σ E => h F H σ (E.back z)
theorem Cont.fin {K : Frag} {F0 H0 : Hp} {D D' : Ends} (e : D'.rt = D.rt) : ∀ {o : Out}, o.fin → Cont K F0 H0 D o → Cont K F0 H0 D' o
  | .rt r, _, h => by show RetOk F0 H0 D'.rt r; rw [e]; exact h
  | .ex env x W, _, h => h
theorem Out.fin_ne {o : Out} (h : o.fin) (e : List Sl) : o ≠ .nx e := fun z => by subst z; exact h
def BX (K : Frag) (ts : TS) (env : List Sl) {O : Type} (enc : O → Out) (m : Option O) : Prop := ∀ o, m = some o → ∀ ⦃F0 H0 F H : Hp⦄ ⦃σ : List (Option V)⦄ (D : Ends), EnvOk K F0 H0 F H σ env → Cont K F0 H0 D (enc o) → ts D σ H
variable {ts tu tw : TS} {tt : TT} {enc : O → Out} {m n : Option O}
theorem bx_bind {k : α → Option O} {m : Option α} (h : ∀ x, m = some x → BX K ts env enc (k x)) : BX K ts env enc (m.bind k) := fun o ho => by
  obtain ⟨x, h1, h2⟩ := Option.bind_eq_some_iff.mp ho
  exact h x h1 o h2
theorem bx_none : BX K ts env enc none := fun o ho => by cases ho
theorem bx_map {O' : Type} {enc' : O' → Out} {f : O → O'} (h : BX K ts env enc m) (he : ∀ o, enc' (f o) = enc o) : BX K ts env enc' (m.map f) := fun o ho => by
  obtain ⟨x, h1, h2⟩ := Option.map_eq_some_iff.mp ho
  subst h2
  rw [he]
  exact h x h1
theorem bx_weak (w : Wk env env') (h : BX K ts env' enc m) : BX K ts env enc m := fun o ho F0 H0 F H σ D E c => h o ho D (E.weak w) c
theorem bx_freeze (i : Nat) (hs : env[i]? = some (.ow ds)) (h : BX K ts (env.set i (.sh (.list ds))) enc m) : BX K ts env enc m := fun o ho F0 H0 F H σ D E c => by
  obtain ⟨F', E'⟩ := E.freeze hs
  exact h o ho D E' c
theorem bx_ret {o : O} {d : PyData} (h : EX K te env d) (he : enc o = .rt (.sh d)) : BX K (tRet te) env enc (some o) := fun o' ho F0 H0 F H σ D E c => by
  cases ho
  rw [he] at c
  exact h E _ fun v F' H' z hv => c F' H' v (E.z.trans z) hv
theorem bx_retW {o : O} {ds : List PyData} (h : EXw K te env ds) (he : enc o = .rt (.fr ds)) : BX K (tRet te) env enc (some o) := fun o' ho F0 H0 F H σ D E c => by
  cases ho
  rw [he] at c
  exact h E _ fun p vs F' H' z hn hf h1 h2 h3 => c F' H' p vs (E.z.trans z) (E.z.hn hn) hf h1 h2 h3
end
end Rb

set_option Elab.async false
set_option linter.all false
set_option maxRecDepth 100000
set_option maxHeartbeats 2000000
namespace Rb
open PySem PySem.Spec PyProof.Rows L2
inductive Lp (S R : Type) where
  | nx (s : S)
  | bk (s : S)
  | rt (r : R)
section
variable {K : Frag} {env env' env1 env2 : List Sl} {d : PyData} {ds : List PyData} {g : TG} {gs : TGs} {vs : List Nat} {te ti ta tb : TE} {wi : TI} {α β S R O O1 : Type}
variable {ts tu tw : TS} {tt : TT} {enc : O → Out} {enc1 : O1 → Out} {m n : Option O} {m1 : Option O1}
/-! ### assignments -/
theorem bx_asg (he : EX K te env d) (hg : EG K g env d env1) (h : BX K tu env1 enc m) : BX K (tSeq (tAsg te g) tu) env enc m := fun o ho F0 H0 F H σ D E c =>
  he E _ fun v F1 H1 z1 hv => hg (E.step z1) hv _ fun σ2 F2 H2 E2 => h o ho D E2 c
/-- the last statement of a block -/
theorem bx_asg1 {o : O} (he : EX K te env d) (hg : EG K g env d env1) (hw : Wk env1 env') (hn : enc o = .nx env') : BX K (tAsg te g) env enc (some o) := fun o' ho F0 H0 F H σ D E c => by
  cases ho
  rw [hn] at c
  exact he E _ fun v F1 H1 z1 hv => hg (E.step z1) hv _ fun σ2 F2 H2 E2 => c F2 H2 σ2 (E2.weak hw)
theorem bx_asgW {i : Nat} (he : EXw K te env ds) (h : BX K tu (env.set i (.ow ds)) enc m) : BX K (tSeq (tAsg te (gName i)) tu) env enc m := fun o ho F0 H0 F H σ D E c =>
  he E _ fun p vs F1 H1 z1 hn hf h1 h2 h3 => h o ho D (E.setO z1 i hn (s := .ow ds) ⟨p, vs, rfl, E.z.hn hn, hf, h1, h2, h3⟩) c
theorem bx_asgW1 {i : Nat} {o : O} (he : EXw K te env ds) (hw : Wk (env.set i (.ow ds)) env') (hn : enc o = .nx env') : BX K (tAsg te (gName i)) env enc (some o) := fun o' ho F0 H0 F H σ D E c => by
  cases ho
  rw [hn] at c
  exact he E _ fun p vs F1 H1 z1 hn hf h1 h2 h3 => c F1 H1 _ ((E.setO z1 i hn (s := .ow ds) ⟨p, vs, rfl, E.z.hn hn, hf, h1, h2, h3⟩).weak hw)
/-- a, b = e, f -/
theorem bx_par {i j : Nat} {d e : PyData} (ha : EX K ta env d) (hb : EX K tb env e) (h : BX K tu ((env.set i (.sh d)).set j (.sh e)) enc m) : BX K (tSeq (tPar i j (tCons ta (tCons tb tNil))) tu) env enc m := fun o ho F0 H0 F H σ D E c =>
  ha E _ fun v F1 H1 z1 hv => hb (E.step z1) _ fun w F2 H2 z2 hw => ⟨v, w, rfl, h o ho D ((((E.step z1).step z2).setS i (Dq.mono z2.f _ _ hv)).setS j hw) c⟩
/-- an expression alone -/
theorem bx_drop (he : EX K te env d) (h : BX K tu env enc m) : BX K (tSeq (tDrop te) tu) env enc m := fun o ho F0 H0 F H σ D E c =>
  he E _ fun v F1 H1 z1 hv => h o ho D (E.step z1) c
theorem bx_drop1 {o : O} (he : EX K te env d) (hw : Wk env env') (hn : enc o = .nx env') : BX K (tDrop te) env enc (some o) := fun o' ho F0 H0 F H σ D E c => by
  cases ho
  rw [hn] at c
  exact he E _ fun v F1 H1 z1 hv => c F1 H1 σ ((E.step z1).weak hw)
/-! ### own lists changed -/
def app? (xs : List α) (x : α) : Option (List α) := if xs.length < lim then some (xs ++ [x]) else none
theorem app_some {xs ys : List α} {x : α} (h : app? xs x = some ys) : xs.length < lim ∧ ys = xs ++ [x] := by
  unfold app? at h
  by_cases c : xs.length < lim
  · rw [if_pos c] at h; cases h; exact ⟨c, rfl⟩
  · rw [if_neg c] at h; cases h
theorem s_app {e : α → PyData} {i : Nat} {xs ys : List α} {x : α} (hi : env[i]? = some (.ow (xs.map e))) (hx : EX K te env (e x)) (hy : app? xs x = some ys) {F0 H0 F H : Hp} {σ : List (Option V)} {D : Ends} (E : EnvOk K F0 H0 F H σ env)
    (k : ∀ F' H', EnvOk K F0 H0 F' H' σ (env.set i (.ow (ys.map e))) → D.nx σ H') : tDrop (tBM K "list" rAppend (tVar i) (tCons te tNil)) D σ H := by
  obtain ⟨hl, rfl⟩ := app_some hy
  obtain ⟨o, h1, p, vs, h2, h3, h4, h5, h6, h7⟩ := E.sl i _ hi
  subst h2
  refine ⟨_, h1, .inl ⟨rfl, vs, SqL.of h5⟩, hx E _ fun w F1 H1 z1 hw => ?_⟩
  obtain ⟨f1, hh1⟩ := z1.own p _ h5 h4
  have a1 := DqAll.mono z1.f _ _ h6
  have hlen := a1.len
  rw [List.length_map] at hlen
  refine ⟨p, vs, w, rfl, rfl, hh1, by rw [hlen]; exact lim_lt hl, k F1 _ ((E.step z1).mut hi rfl h1 ⟨p, _, rfl, h3, f1, upd_same, ?_, ?_⟩ rfl)⟩
  · rw [List.map_append]
    exact a1.app (.cons hw .nil)
  · rw [List.length_map, List.length_append]
    exact hl
theorem bx_app {e : α → PyData} {i : Nat} {xs ys : List α} {x : α} (hi : env[i]? = some (.ow (xs.map e))) (hx : EX K te env (e x)) (hy : app? xs x = some ys) (h : BX K tu (env.set i (.ow (ys.map e))) enc m) :
    BX K (tSeq (tDrop (tBM K "list" rAppend (tVar i) (tCons te tNil))) tu) env enc m := fun o ho F0 H0 F H σ D E c => s_app (D := { D with nx := tu D }) hi hx hy E fun F' H' E' => h o ho D E' c
theorem bx_app1 {e : α → PyData} {i : Nat} {xs ys : List α} {x : α} {o : O} (hi : env[i]? = some (.ow (xs.map e))) (hx : EX K te env (e x)) (hy : app? xs x = some ys) (hw : Wk (env.set i (.ow (ys.map e))) env') (hn : enc o = .nx env') :
    BX K (tDrop (tBM K "list" rAppend (tVar i) (tCons te tNil))) env enc (some o) := fun o' ho F0 H0 F H σ D E c => by
  cases ho
  rw [hn] at c
  exact s_app hi hx hy E fun F' H' E' => c F' H' σ (E'.weak hw)
/-- extend by a list that is looked at -/
def ext? (xs ys : List α) : Option (List α) := if xs.length + ys.length ≤ lim then some (xs ++ ys) else none
theorem ext_some {xs ys zs : List α} (h : ext? xs ys = some zs) : xs.length + ys.length ≤ lim ∧ zs = xs ++ ys := by
  unfold ext? at h
  by_cases c : xs.length + ys.length ≤ lim
  · rw [if_pos c] at h; cases h; exact ⟨c, rfl⟩
  · rw [if_neg c] at h; cases h
theorem s_ext {e : α → PyData} {i : Nat} {xs ys zs : List α} (hi : env[i]? = some (.ow (xs.map e))) (hx : EXl K te env (ys.map e)) (hy : ext? xs ys = some zs) {F0 H0 F H : Hp} {σ : List (Option V)} {D : Ends} (E : EnvOk K F0 H0 F H σ env)
    (k : ∀ F' H', EnvOk K F0 H0 F' H' σ (env.set i (.ow (zs.map e))) → D.nx σ H') : tDrop (tBM K "list" rExtend (tVar i) (tCons te tNil)) D σ H := by
  obtain ⟨hl, rfl⟩ := ext_some hy
  obtain ⟨o, h1, p, vs, h2, h3, h4, h5, h6, h7⟩ := E.sl i _ hi
  subst h2
  refine ⟨_, h1, .inl ⟨rfl, vs, SqL.of h5⟩, hx E _ fun q ws F1 H1 z1 hq aq lq => ?_⟩
  obtain ⟨f1, hh1⟩ := z1.own p _ h5 h4
  have a1 := DqAll.mono z1.f _ _ h6
  have hlen := a1.len
  rw [List.length_map] at hlen
  have hlen2 := aq.len
  rw [List.length_map] at hlen2
  refine ⟨p, q, vs, ws, rfl, rfl, hh1, hq, by rw [hlen, hlen2]; exact lim_le hl, k F1 _ ((E.step z1).mut hi rfl h1 ⟨p, _, rfl, h3, f1, upd_same, ?_, ?_⟩ rfl)⟩
  · rw [List.map_append]
    exact a1.app aq
  · rw [List.length_map, List.length_append]
    exact hl
theorem bx_ext {e : α → PyData} {i : Nat} {xs ys zs : List α} (hi : env[i]? = some (.ow (xs.map e))) (hx : EXl K te env (ys.map e)) (hy : ext? xs ys = some zs) (h : BX K tu (env.set i (.ow (zs.map e))) enc m) :
    BX K (tSeq (tDrop (tBM K "list" rExtend (tVar i) (tCons te tNil))) tu) env enc m := fun o ho F0 H0 F H σ D E c => s_ext (D := { D with nx := tu D }) hi hx hy E fun F' H' E' => h o ho D E' c
theorem bx_ext1 {e : α → PyData} {i : Nat} {xs ys zs : List α} {o : O} (hi : env[i]? = some (.ow (xs.map e))) (hx : EXl K te env (ys.map e)) (hy : ext? xs ys = some zs) (hw : Wk (env.set i (.ow (zs.map e))) env') (hn : enc o = .nx env') :
    BX K (tDrop (tBM K "list" rExtend (tVar i) (tCons te tNil))) env enc (some o) := fun o' ho F0 H0 F H σ D E c => by
  cases ho
  rw [hn] at c
  exact s_ext hi hx hy E fun F' H' E' => c F' H' σ (E'.weak hw)
/-- remove of a whole number -/
def rem? (xs : List Int) (x : Int) : Option (List Int) := if x ∈ xs then some (xs.erase x) else none
theorem erase_idx : ∀ {xs : List Int} {x : Int}, x ∈ xs → ∃ j, xs[j]? = some x ∧ (∀ m : Nat, m < j → xs[m]? ≠ some x) ∧ xs.erase x = xs.eraseIdx j
  | [], _, h => by cases h
  | y :: ys, x, h => by
    by_cases e : y = x
    · subst e
      exact ⟨0, rfl, fun m hm => absurd hm (Nat.not_lt_zero _), by simp⟩
    · have h' : x ∈ ys := by
        rcases List.mem_cons.mp h with z | z
        · exact absurd z.symm e
        · exact z
      obtain ⟨j, h1, h2, h3⟩ := erase_idx h'
      refine ⟨j + 1, by simpa using h1, fun m hm => ?_, ?_⟩
      · cases m with
        | zero => simpa using e
        | succ m => simpa using h2 m (by omega)
      · rw [List.erase_cons_tail (by simpa using e), h3]
        rfl
theorem s_rem {i : Nat} {xs ys : List Int} {x : Int} (hi : env[i]? = some (.ow (xs.map PyData.int))) (hx : EX K te env (.int x)) (hy : rem? xs x = some ys) {F0 H0 F H : Hp} {σ : List (Option V)} {D : Ends} (E : EnvOk K F0 H0 F H σ env)
    (k : ∀ F' H', EnvOk K F0 H0 F' H' σ (env.set i (.ow (ys.map PyData.int))) → D.nx σ H') : tDrop (tBM K "list" rRemI (tVar i) (tCons te tNil)) D σ H := by
  unfold rem? at hy
  by_cases c : x ∈ xs
  · rw [if_pos c] at hy; cases hy
    obtain ⟨j, j1, j2, j3⟩ := erase_idx c
    obtain ⟨o, h1, p, vs, h2, h3, h4, h5, h6, h7⟩ := E.sl i _ hi
    subst h2
    refine ⟨_, h1, .inl ⟨rfl, vs, SqL.of h5⟩, hx E _ fun w F1 H1 z1 hw => ?_⟩
    cases hw
    obtain ⟨f1, hh1⟩ := z1.own p _ h5 h4
    have a1 := DqAll.mono z1.f _ _ h6
    have ev := a1.ints
    subst ev
    refine ⟨p, xs, x, j, rfl, rfl, hh1, j1, j2, k F1 _ ((E.step z1).mut hi rfl h1 ⟨p, _, rfl, h3, f1, upd_same, ?_, ?_⟩ rfl)⟩
    · rw [j3]; exact DqAll.ints' _
    · rw [List.length_map] at h7 ⊢
      exact Nat.le_trans (List.length_erase_le) h7
  · rw [if_neg c] at hy; cases hy
theorem bx_rem {i : Nat} {xs ys : List Int} {x : Int} (hi : env[i]? = some (.ow (xs.map PyData.int))) (hx : EX K te env (.int x)) (hy : rem? xs x = some ys) (h : BX K tu (env.set i (.ow (ys.map PyData.int))) enc m) :
    BX K (tSeq (tDrop (tBM K "list" rRemI (tVar i) (tCons te tNil))) tu) env enc m := fun o ho F0 H0 F H σ D E c => s_rem (D := { D with nx := tu D }) hi hx hy E fun F' H' E' => h o ho D E' c
theorem bx_rem1 {i : Nat} {xs ys : List Int} {x : Int} {o : O} (hi : env[i]? = some (.ow (xs.map PyData.int))) (hx : EX K te env (.int x)) (hy : rem? xs x = some ys) (hw : Wk (env.set i (.ow (ys.map PyData.int))) env') (hn : enc o = .nx env') :
    BX K (tDrop (tBM K "list" rRemI (tVar i) (tCons te tNil))) env enc (some o) := fun o' ho F0 H0 F H σ D E c => by
  cases ho
  rw [hn] at c
  exact s_rem hi hx hy E fun F' H' E' => c F' H' σ (E'.weak hw)
/-- x = xs.pop() -/
def pop? (xs : List α) : Option (α × List α) := xs.getLast?.map fun x => (x, xs.dropLast)
theorem s_pop {e : α → PyData} {i : Nat} {xs ys : List α} {x : α} (hi : env[i]? = some (.ow (xs.map e))) (hy : pop? xs = some (x, ys)) {F0 H0 F H : Hp} {σ : List (Option V)} (E : EnvOk K F0 H0 F H σ env) {Q : VK}
    (k : ∀ v H', EnvOk K F0 H0 F H' σ (env.set i (.ow (ys.map e))) → Dq F v (e x) → Q v H') : tBM0 K "list" rPop (tVar i) σ H Q := by
  unfold pop? at hy
  obtain ⟨x', e1, e2⟩ := Option.map_eq_some_iff.mp hy
  cases e2
  obtain ⟨o, h1, p, vs, h2, h3, h4, h5, h6, h7⟩ := E.sl i _ hi
  subst h2
  have hlast : (xs.map e)[vs.length - 1]? = some (e x) := by
    rw [h6.len, List.length_map, List.getElem?_map, ← List.getLast?_eq_getElem?, e1]
    rfl
  obtain ⟨v, e3, e4⟩ := h6.get hlast
  refine ⟨_, h1, .inl ⟨rfl, vs, SqL.of h5⟩, p, vs, v, rfl, rfl, h5, e3, k v _ (E.mut hi rfl h1 ⟨p, _, rfl, h3, h4, upd_same, ?_, ?_⟩ rfl) e4⟩
  · have k2 : (xs.map e).dropLast = xs.dropLast.map e := by rw [List.dropLast_eq_take, List.dropLast_eq_take, List.length_map, List.map_take]
    rw [← k2]
    exact h6.dropLast
  · rw [List.length_map, List.length_dropLast]
    rw [List.length_map] at h7
    omega
theorem bx_pop {e : α → PyData} {i j : Nat} {xs ys : List α} {x : α} (hi : env[i]? = some (.ow (xs.map e))) (hy : pop? xs = some (x, ys)) (h : BX K tu ((env.set i (.ow (ys.map e))).set j (.sh (e x))) enc m) :
    BX K (tSeq (tAsg (tBM0 K "list" rPop (tVar i)) (gName j)) tu) env enc m := fun o ho F0 H0 F H σ D E c => s_pop hi hy E fun v H' E' hv => h o ho D (E'.setS j hv) c
/-- clear, reverse -/
theorem s_clear {i : Nat} (hi : env[i]? = some (.ow ds)) {F0 H0 F H : Hp} {σ : List (Option V)} {D : Ends} (E : EnvOk K F0 H0 F H σ env)
    (k : ∀ F' H', EnvOk K F0 H0 F' H' σ (env.set i (.ow [])) → D.nx σ H') : tDrop (tBM0 K "list" rClear (tVar i)) D σ H := by
  obtain ⟨o, h1, p, vs, h2, h3, h4, h5, h6, h7⟩ := E.sl i _ hi
  subst h2
  exact ⟨_, h1, .inl ⟨rfl, vs, SqL.of h5⟩, p, vs, rfl, rfl, h5, k F _ (E.mut hi rfl h1 ⟨p, _, rfl, h3, h4, upd_same, .nil, Nat.zero_le _⟩ rfl)⟩
theorem bx_clear {i : Nat} (hi : env[i]? = some (.ow ds)) (h : BX K tu (env.set i (.ow [])) enc m) : BX K (tSeq (tDrop (tBM0 K "list" rClear (tVar i))) tu) env enc m := fun o ho F0 H0 F H σ D E c => s_clear (D := { D with nx := tu D }) hi E fun F' H' E' => h o ho D E' c
theorem bx_clear1 {i : Nat} {o : O} (hi : env[i]? = some (.ow ds)) (hw : Wk (env.set i (.ow [])) env') (hn : enc o = .nx env') : BX K (tDrop (tBM0 K "list" rClear (tVar i))) env enc (some o) := fun o' ho F0 H0 F H σ D E c => by
  cases ho
  rw [hn] at c
  exact s_clear hi E fun F' H' E' => c F' H' σ (E'.weak hw)
/-! ### blocks -/
theorem bx_nx {o : O} (hw : Wk env env') (hn : enc o = .nx env') : BX K tNext env enc (some o) := fun o' ho F0 H0 F H σ D E c => by
  cases ho
  rw [hn] at c
  exact c F H σ (E.weak hw)
theorem bx_bk {o : O} (hw : Wk env env') (hn : enc o = .bk env') : BX K tBreak env enc (some o) := fun o' ho F0 H0 F H σ D E c => by
  cases ho
  rw [hn] at c
  exact c F H σ (E.weak hw)
/-- t, then u: t's outcomes that go on lead to u -/
theorem bx_seq {k : O1 → Option O} (h1 : BX K ts env enc1 m1) (h2 : ∀ o1, m1 = some o1 → (∃ env', enc1 o1 = .nx env' ∧ BX K tu env' enc (k o1)) ∨ (∃ o, k o1 = some o ∧ enc o = enc1 o1 ∧ ∀ e, enc1 o1 ≠ .nx e)) : BX K (tSeq ts tu) env enc (m1.bind k) := fun o ho F0 H0 F H σ D E c => by
  obtain ⟨o1, e1, e2⟩ := Option.bind_eq_some_iff.mp ho
  refine h1 o1 e1 { D with nx := tu D } E ?_
  rcases h2 o1 e1 with ⟨env', a, b⟩ | ⟨o', a, b, nn⟩
  · rw [a]
    exact fun F1 H1 σ1 E1 => b o e2 D E1 c
  · rw [a] at e2; cases e2
    rw [b] at c
    cases q : enc1 o1 with
    | nx e => exact absurd q (nn e)
    | bk e => rw [q] at c; exact c
    | ct e => rw [q] at c; exact c
    | rt r => rw [q] at c; exact c
    | ex e x W => rw [q] at c; exact c
/-- t only goes on -/
theorem bx_then {envS : O1 → List Sl} {k : O1 → Option O} (h1 : BX K ts env (fun s => .nx (envS s)) m1) (h2 : ∀ s, m1 = some s → BX K tu (envS s) enc (k s)) : BX K (tSeq ts tu) env enc (m1.bind k) :=
  bx_seq h1 fun s e => .inl ⟨envS s, rfl, h2 s e⟩
/-- t goes on, or ends -/
theorem bx_thenR {envS : S → List Sl} {f : R → Out} {g : R → O} {mm : Option (S ⊕ R)} {k : S → Option O} (h1 : BX K ts env (fun x : S ⊕ R => match x with | .inl s => .nx (envS s) | .inr r => f r) mm) (hg : ∀ r, enc (g r) = f r) (hf : ∀ r e, f r ≠ .nx e) (h2 : ∀ s, mm = some (.inl s) → BX K tu (envS s) enc (k s)) :
    BX K (tSeq ts tu) env enc (mm.bind fun x => match x with | .inl s => k s | .inr r => some (g r)) :=
  bx_seq h1 fun x e => by
    cases x with
    | inl s => exact .inl ⟨envS s, rfl, h2 s e⟩
    | inr r => exact .inr ⟨g r, rfl, hg r, hf r⟩
/-- if -/
theorem bx_if {b : Bool} (ht : ET K tt env b) (h1 : b = true → BX K ts env enc m) (h2 : b = false → BX K tu env enc n) : BX K (tIfS tt ts tu) env enc (if b = true then m else n) := fun o ho F0 H0 F H σ D E c =>
  ht E _ fun F1 H1 z1 => by
    cases b with
    | true => exact h1 rfl o ho D (E.step z1) c
    | false => exact h2 rfl o ho D (E.step z1) c
/-- if without else, its branch never goes on; the rest -/
theorem bx_ifRet {b : Bool} (ht : ET K tt env b) (h1 : b = true → BX K ts env enc m) (hn : ∀ o e, m = some o → enc o ≠ .nx e) (h2 : b = false → BX K tu env enc n) : BX K (tSeq (tIfS tt ts tNext) tu) env enc (if b = true then m else n) := fun o ho F0 H0 F H σ D E c =>
  ht E _ fun F1 H1 z1 => by
    cases b with
    | true =>
      refine h1 rfl o ho { D with nx := tu D } (E.step z1) ?_
      cases q : enc o with
      | nx e => exact absurd q (hn o e ho)
      | bk e => rw [q] at c; exact c
      | ct e => rw [q] at c; exact c
      | rt r => rw [q] at c; exact c
      | ex e x W => rw [q] at c; exact c
    | false => exact h2 rfl o ho D (E.step z1) c
/-- the branch can't be -/
theorem bx_ifNo {b : Bool} (ht : ET K tt env b) (h2 : b = false → BX K tu env enc n) : BX K (tSeq (tIfS tt ts tNext) tu) env enc (if b = true then none else n) := fun o ho F0 H0 F H σ D E c =>
  ht E _ fun F1 H1 z1 => by
    cases b with
    | true => cases ho
    | false => exact h2 rfl o ho D (E.step z1) c
theorem bx_ifNo1 {b : Bool} {o : O} (ht : ET K tt env b) (hw : Wk env env') (hn : enc o = .nx env') : BX K (tIfS tt ts tNext) env enc (if b = true then none else some o) := fun o' ho F0 H0 F H σ D E c =>
  ht E _ fun F1 H1 z1 => by
    cases b with
    | true => cases ho
    | false =>
      cases ho
      rw [hn] at c
      exact c F1 H1 σ ((E.step z1).weak hw)
/-! ### loops -/
def forL (f : S → α → Option (Lp S R)) : S → List α → Option (S ⊕ R)
  | s, [] => some (.inl s)
  | s, x :: xs => (f s x).bind fun o => match o with
    | .nx s' => forL f s' xs
    | .bk s' => some (.inl s')
    | .rt r => some (.inr r)
def encL (envS : S → List Sl) (encR : R → Out) : Lp S R → Out
  | .nx s => .nx (envS s)
  | .bk s => .bk (envS s)
  | .rt r => encR r
def encE (envS : S → List Sl) (encR : R → Out) : S ⊕ R → Out
  | .inl s => .nx (envS s)
  | .inr r => encR r
theorem bx_forL {envS : S → List Sl} {encR : R → Out} {e : α → PyData} {envB : S → α → List Sl} {f : S → α → Option (Lp S R)} {s0 : S} {xs : List α} (hi : EIs K wi env (xs.map e)) (hw : Wk env (envS s0)) (hr : ∀ r, (encR r).fin)
    (hg : ∀ s x, x ∈ xs → EG K g (envS s) (e x) (envB s x)) (hb : ∀ s x, x ∈ xs → BX K ts (envB s x) (encL envS encR) (f s x)) : BX K (tFor wi g ts) env (encE envS encR) (forL f s0 xs) := fun o ho F0 H0 F H σ D E c =>
  hi E _ fun J F1 H1 z1 hl it => by
    have z01 := E.z.trans z1
    refine ⟨fun i m σ' H' => ∃ s F', EnvOk K F1 H0 F' H' σ' (envS s) ∧ m = xs.length - i ∧ i ≤ xs.length ∧ forL f s (xs.drop i) = some o, ⟨xs.length, s0, F1, (E.step z1).base.weak hw, rfl, Nat.zero_le _, ho⟩, ?_⟩
    rintro i m σ' H' ⟨s, F', E', rfl, hi', hf⟩
    by_cases hlt : i < xs.length
    · refine .inr ?_
      have hd : (xs.map e)[i]? = some (e xs[i]) := by rw [List.getElem?_map, List.getElem?_eq_getElem hlt]; rfl
      obtain ⟨g1, g2⟩ := it.go F' H' i _ E'.z.f E'.fh hd
      rw [List.drop_eq_getElem_cons hlt] at hf
      obtain ⟨o1, f1, f2⟩ := Option.bind_eq_some_iff.mp hf
      refine ⟨g1, fun σ2 H2 => ∃ s2 F2, EnvOk K F1 H0 F2 H2 σ2 (envS s2) ∧ o1 = .nx s2, ?_, fun x H2 y => ?_⟩
      · rintro σ2 H2 ⟨s2, F2, E2, rfl⟩
        exact ⟨xs.length - (i + 1), by omega, s2, F2, E2, rfl, hlt, f2⟩
      · obtain ⟨F2, z2, hx⟩ := g2 x H2 y
        refine hg s xs[i] (List.getElem_mem hlt) (E'.step z2) hx _ fun σ3 F3 H3 E3 => ?_
        refine hb s xs[i] (List.getElem_mem hlt) o1 f1 _ E3 ?_
        cases o1 with
        | nx s2 => exact fun F4 H4 σ4 E4 => ⟨s2, F4, E4, rfl⟩
        | bk s2 =>
          cases f2
          exact fun F4 H4 σ4 E4 => c F4 H4 σ4 (E4.back z01)
        | rt r =>
          cases f2
          show Cont K F1 H0 _ (encR r)
          have c' : Cont K F0 H0 D (encR r) := c
          exact Cont.fin (D := D) (by rfl) (hr r) (Cont.base z01 c')
    · have hi2 : i = xs.length := by omega
      subst hi2
      rw [List.drop_length] at hf
      cases hf
      refine .inl ⟨?_, c F' H' σ' (E'.back z01)⟩
      have := it.stop F' H' E'.z.f E'.fh
      rw [List.length_map] at this
      exact this
/-- a body that always goes on -/
def forS (f : S → α → Option S) : S → List α → Option S
  | s, [] => some s
  | s, x :: xs => (f s x).bind fun s' => forS f s' xs
theorem forS_L {f : S → α → Option S} : ∀ {xs : List α} {s : S}, forL (R := Empty) (fun s x => (f s x).map Lp.nx) s xs = (forS f s xs).map Sum.inl
  | [], s => rfl
  | x :: xs, s => by
    unfold forL forS
    cases q : f s x with
    | none => rfl
    | some s' => exact forS_L (xs := xs) (s := s')
theorem bx_forS {envS : S → List Sl} {e : α → PyData} {envB : S → α → List Sl} {f : S → α → Option S} {s0 : S} {xs : List α} (hi : EIs K wi env (xs.map e)) (hw : Wk env (envS s0))
    (hg : ∀ s x, x ∈ xs → EG K g (envS s) (e x) (envB s x)) (hb : ∀ s x, x ∈ xs → BX K ts (envB s x) (fun s' => .nx (envS s')) (f s x)) : BX K (tFor wi g ts) env (fun s => .nx (envS s)) (forS f s0 xs) := fun o ho => by
  have h := bx_forL (R := Empty) (encR := fun r => nomatch r) (f := fun s x => (f s x).map Lp.nx) hi hw (fun r => nomatch r) hg (fun s x hx => bx_map (hb s x hx) fun o => rfl)
  rw [forS_L] at h
  exact h (.inl o) (by rw [ho]; rfl)
/-- a body that goes on or ends the def -/
def forR (f : S → α → Option (S ⊕ R)) : S → List α → Option (S ⊕ R)
  | s, [] => some (.inl s)
  | s, x :: xs => (f s x).bind fun o => match o with
    | .inl s' => forR f s' xs
    | .inr r => some (.inr r)
def toLp : S ⊕ R → Lp S R
  | .inl s => .nx s
  | .inr r => .rt r
theorem forR_L {f : S → α → Option (S ⊕ R)} : ∀ {xs : List α} {s : S}, forL (fun s x => (f s x).map toLp) s xs = forR f s xs
  | [], s => rfl
  | x :: xs, s => by
    unfold forL forR
    cases q : f s x with
    | none => rfl
    | some s' =>
      cases s' with
      | inl s' => exact forR_L (xs := xs) (s := s')
      | inr r => rfl
theorem bx_forR {envS : S → List Sl} {encR : R → Out} {e : α → PyData} {envB : S → α → List Sl} {f : S → α → Option (S ⊕ R)} {s0 : S} {xs : List α} (hi : EIs K wi env (xs.map e)) (hw : Wk env (envS s0)) (hr : ∀ r, (encR r).fin)
    (hg : ∀ s x, x ∈ xs → EG K g (envS s) (e x) (envB s x)) (hb : ∀ s x, x ∈ xs → BX K ts (envB s x) (encE envS encR) (f s x)) : BX K (tFor wi g ts) env (encE envS encR) (forR f s0 xs) := by
  have h := bx_forL (encR := encR) (f := fun s x => (f s x).map toLp) hi hw hr hg (fun s x hx => bx_map (hb s x hx) fun o => by cases o <;> rfl)
  rw [forR_L] at h
  exact h
/-- while -/
def whR (c : S → Option Bool) (f : S → Option (S ⊕ R)) : Nat → S → Option (S ⊕ R)
  | 0, _ => none
  | n + 1, s => (c s).bind fun b => if b = true then (f s).bind fun o => match o with
    | .inl s' => whR c f n s'
    | .inr r => some (.inr r) else some (.inl s)
def whS (c : S → Option Bool) (f : S → Option S) : Nat → S → Option S
  | 0, _ => none
  | n + 1, s => (c s).bind fun b => if b = true then (f s).bind fun s' => whS c f n s' else some s
theorem bx_whR {envS : S → List Sl} {encR : R → Out} {cc : S → Option Bool} {f : S → Option (S ⊕ R)} {s0 : S} {n : Nat} (hw : Wk env (envS s0)) (hr : ∀ r, (encR r).fin)
    (hc : ∀ s, ETo K tt (envS s) (cc s)) (hb : ∀ s, BX K ts (envS s) (encE envS encR) (f s)) : BX K (tWhile tt ts) env (encE envS encR) (whR cc f n s0) := fun o ho F0 H0 F H σ D E c => by
  refine ⟨fun m σ' H' => ∃ s F', EnvOk K F0 H0 F' H' σ' (envS s) ∧ whR cc f m s = some o, ⟨n, s0, F, E.weak hw, ho⟩, ?_⟩
  rintro m σ' H' ⟨s, F', E', hf⟩
  cases m with
  | zero => cases hf
  | succ m =>
    obtain ⟨b, e1, e2⟩ := Option.bind_eq_some_iff.mp hf
    refine hc s b e1 E' _ fun F1 H1 z1 => ?_
    cases b with
    | true =>
      rw [if_pos rfl] at e2 ⊢
      obtain ⟨o1, f1, f2⟩ := Option.bind_eq_some_iff.mp e2
      refine ⟨fun σ2 H2 => ∃ s2 F2, EnvOk K F0 H0 F2 H2 σ2 (envS s2) ∧ o1 = .inl s2, ?_, ?_⟩
      · rintro σ2 H2 ⟨s2, F2, E2, rfl⟩
        exact ⟨m, Nat.lt_succ_self _, s2, F2, E2, f2⟩
      · refine hb s o1 f1 _ (E'.step z1) ?_
        cases o1 with
        | inl s2 => exact fun F4 H4 σ4 E4 => ⟨s2, F4, E4, rfl⟩
        | inr r =>
          cases f2
          show Cont K F0 H0 _ (encR r)
          have c' : Cont K F0 H0 D (encR r) := c
          exact Cont.fin (D := D) (by rfl) (hr r) c'
    | false =>
      rw [if_neg Bool.false_ne_true] at e2 ⊢
      cases e2
      exact c F1 H1 σ' (E'.step z1)
theorem whS_R {cc : S → Option Bool} {f : S → Option S} : ∀ {n : Nat} {s : S}, whR (R := Empty) cc (fun s => (f s).map Sum.inl) n s = (whS cc f n s).map Sum.inl
  | 0, s => rfl
  | n + 1, s => by
    unfold whR whS
    cases q : cc s with
    | none => rfl
    | some b =>
      cases b with
      | false => rfl
      | true =>
        show ((Option.map Sum.inl (f s)).bind _) = Option.map _ ((f s).bind _)
        cases q2 : f s with
        | none => rfl
        | some s' => exact whS_R (n := n) (s := s')
theorem bx_whS {envS : S → List Sl} {cc : S → Option Bool} {f : S → Option S} {s0 : S} {n : Nat} (hw : Wk env (envS s0))
    (hc : ∀ s, ETo K tt (envS s) (cc s)) (hb : ∀ s, BX K ts (envS s) (fun s' => .nx (envS s')) (f s)) : BX K (tWhile tt ts) env (fun s => .nx (envS s)) (whS cc f n s0) := fun o ho => by
  have h := bx_whR (R := Empty) (encR := fun r => nomatch r) (f := fun s => (f s).map Sum.inl) (n := n) hw (fun r => nomatch r) hc (fun s => bx_map (hb s) fun o => rfl)
  rw [whS_R] at h
  exact h (.inl o) (by rw [ho]; rfl)
end
end Rb

set_option Elab.async false
set_option linter.all false
set_option maxRecDepth 100000
set_option maxHeartbeats 2000000
namespace Rb
open PySem PySem.Spec PyProof.Rows L2
/-! ### comprehensions -/
def wipeE (env : List Sl) : List Nat → List Sl
  | [] => env
  | v :: vs => (wipeE env vs).set v .un
theorem EnvOk.wipe {K : Frag} {F0 H0 F H : Hp} {σ : List (Option V)} {env : List Sl} (E : EnvOk K F0 H0 F H σ env) : ∀ vs : List Nat, EnvOk K F0 H0 F H (L2.wipe σ vs) (wipeE env vs)
  | [] => E
  | v :: vs => (E.wipe vs).forget v none
theorem wipe_sub {σ : List (Option V)} {vs : List Nat} : ∀ {ws : List Nat}, (∀ w ∈ ws, w ∈ vs) → wipe (wipe σ ws) vs = wipe σ vs
  | [], _ => rfl
  | w :: ws, h => by
    show wipe ((wipe σ ws).set w none) vs = wipe σ vs
    rw [wipe_set (h w List.mem_cons_self), wipe_sub fun x hx => h x (List.mem_cons_of_mem _ hx)]
theorem Fz.mutNew {F H F' H' : Hp} {p : Addr} {o : HO} (z : Fz F H F' H') (hn : H p = none) (hf : F' p = none) : Fz F H F' (upd H' p o) := by
  refine ⟨z.f, fun a u q => ?_, fun a u q n => ?_⟩
  · rw [upd_ne (ne_of_none q hf)]; exact z.fh a u q
  · rw [upd_ne (ne_of_none q hn)]; exact z.own' a u q n
section
variable {K : Frag} {env env' env1 env2 : List Sl} {d : PyData} {ds es : List PyData} {g : TG} {gs : TGs} {vs : List Nat} {te ti ta tb tl : TE} {wi : TI} {α β S R O O1 : Type} {tt : TT}
def compM (t : α → Option Bool) (f : α → Option β) : List α → Option (List β)
  | [] => some []
  | x :: xs => (t x).bind fun b => if b = true then (f x).bind fun y => (compM t f xs).bind fun ys => some (y :: ys) else compM t f xs
theorem exw_lc {e : α → PyData} {e' : β → PyData} {t : α → Option Bool} {f : α → Option β} {xs : List α} {ys : List β} {envB : α → List Sl} (hi : EI K wi env (xs.map e)) (hm : compM t f xs = some ys) (hg : ∀ x, x ∈ xs → EGc K g (wipeE env vs) (e x) (envB x) vs)
    (ht : ∀ x, x ∈ xs → ETo K tt (envB x) (t x)) (he : ∀ x, x ∈ xs → EXo K te (envB x) e' (f x)) : EXw K (tLc wi g tt te vs) env (ys.map e') := fun F0 H0 F H σ E Q q =>
  hi E _ fun J F1 H1 z1 hl it D hD => by
    have hFD : F1 D = none := Evl.fresh_back z1.fh hD
    refine ⟨fun i m H' => ∃ F' done rest acc, Fz F1 H1 F' H' ∧ F' D = none ∧ H' D = some (.lst acc) ∧ DqAll F' acc (done.map e') ∧ compM t f (xs.drop i) = some rest ∧ ys = done ++ rest ∧ done.length ≤ i ∧ m = xs.length - i ∧ i ≤ xs.length,
      ⟨xs.length, F1, [], ys, [], Fz.add z1.fh hD, hFD, upd_same, .nil, hm, rfl, Nat.le_refl _, rfl, Nat.zero_le _⟩, ?_⟩
    rintro i m H' ⟨F', done, rest, acc, zz, fD, hD', ha, hc, hy, hdl, rfl, hi'⟩
    by_cases hlt : i < xs.length
    · refine .inr ?_
      have hd : (xs.map e)[i]? = some (e xs[i]) := by rw [List.getElem?_map, List.getElem?_eq_getElem hlt]; rfl
      obtain ⟨g1, g2⟩ := it.go F' H' i _ zz zz.fh hd
      rw [List.drop_eq_getElem_cons hlt] at hc
      obtain ⟨b, c1, c2⟩ := Option.bind_eq_some_iff.mp hc
      refine ⟨g1, fun H2 => ∃ F' done rest acc, Fz F1 H1 F' H2 ∧ F' D = none ∧ H2 D = some (.lst acc) ∧ DqAll F' acc (done.map e') ∧ compM t f (xs.drop (i + 1)) = some rest ∧ ys = done ++ rest ∧ done.length ≤ i + 1, ?_, fun x H2 y => ?_⟩
      · rintro H2 ⟨F2, done2, rest2, acc2, z2, f2, h2, a2, k2, y2, l2⟩
        exact ⟨xs.length - (i + 1), by omega, F2, done2, rest2, acc2, z2, f2, h2, a2, k2, y2, l2, rfl, hlt⟩
      · obtain ⟨F2, z2, hx⟩ := g2 x H2 y
        have mem := List.getElem_mem hlt
        have E2 := ((E.step (z1.trans (zz.trans z2))).wipe vs)
        refine hg xs[i] mem E2 hx _ fun σ3 E3 w3 => ⟨w3.trans (wipe_sub fun _ h => h), ?_⟩
        refine ht xs[i] mem b c1 E3 _ fun F4 H4 z4 => ?_
        obtain ⟨d1, d2⟩ := (z2.trans z4).own D _ hD' fD
        cases b with
        | true =>
          rw [if_pos rfl] at c2 ⊢
          obtain ⟨yv, c3, c4⟩ := Option.bind_eq_some_iff.mp c2
          obtain ⟨rest', c5, c6⟩ := Option.bind_eq_some_iff.mp c4
          cases c6
          refine he xs[i] mem yv c3 (E3.step z4) _ fun v F5 H5 z5 hv => ?_
          obtain ⟨d3, d4⟩ := z5.own D _ d2 d1
          have hlen := ha.len
          rw [List.length_map] at hlen
          rw [List.length_map] at hl
          refine ⟨acc, d4, lim_lt (by omega), F5, done ++ [yv], rest', acc ++ [v], (((zz.trans z2).trans z4).trans z5).mutNew hD d3, d3, upd_same, ?_, c5, by rw [hy]; simp, by rw [List.length_append]; exact Nat.succ_le_succ hdl⟩
          rw [List.map_append]
          exact (DqAll.mono ((z2.f.trans z4.f).trans z5.f) _ _ ha).app (.cons hv .nil)
        | false =>
          rw [if_neg Bool.false_ne_true] at c2 ⊢
          exact ⟨F4, done, rest, acc, (zz.trans z2).trans z4, d1, d2, DqAll.mono (z2.f.trans z4.f) _ _ ha, c2, hy, Nat.le_succ_of_le hdl⟩
    · have hi2 : i = xs.length := by omega
      subst hi2
      rw [List.drop_length] at hc
      cases hc
      refine .inl ⟨?_, ?_⟩
      · have := it.stop F' H' zz zz.fh
        rw [List.length_map] at this
        exact this
      · rw [List.append_nil] at hy
        subst hy
        refine q D acc F' H' (z1.trans zz) (z1.hn hD) fD hD' ha ?_
        rw [List.length_map] at hl ⊢
        exact Nat.le_trans hdl hl
/-! ### defs -/
/-- what goes in, what comes out -/
def Prom (I : List PyData → Rv → Prop) : Sp := fun vs H Q _ => ∃ F ds r, Ex F H ∧ DqAll F vs ds ∧ I ds r ∧ RetOk F H Q r
def Im {A R : Type} (ea : A → List PyData) (er : R → Rv) (f : A → Option R) : List PyData → Rv → Prop := fun ds r => ∃ a y, ds = ea a ∧ f a = some y ∧ r = er y
theorem ex_call {I : List PyData → Rv → Prop} {tr : TA} {E : XK} (ha : EA K tr env ds) (hI : I ds (.sh d)) : EX K (tCall (Prom I) [] E tr) env d := fun F0 H0 F H σ E Q q =>
  ha E _ fun vs F1 H1 z1 a1 => by
    rw [List.append_nil]
    exact ⟨F1, ds, _, (E.step z1).fh, a1, hI, fun F2 H2 v z2 hv => q v F2 H2 (z1.trans z2) hv⟩
theorem exw_call {I : List PyData → Rv → Prop} {tr : TA} {E : XK} (ha : EA K tr env ds) (hI : I ds (.fr es)) : EXw K (tCall (Prom I) [] E tr) env es := fun F0 H0 F H σ E Q q =>
  ha E _ fun vs F1 H1 z1 a1 => by
    rw [List.append_nil]
    exact ⟨F1, ds, _, (E.step z1).fh, a1, hI, fun F2 H2 p vs z2 hn hf h1 h2 h3 => q p vs F2 H2 (z1.trans z2) (z1.hn hn) hf h1 h2 h3⟩
def startE (N : List Str) (ds : List PyData) : List Sl := ds.map .sh ++ List.replicate (N.length - ds.length) .un
theorem start_ok {K : Frag} {N : List Str} {ws : List V} {F H : Hp} (e : Ex F H) (a : DqAll F ws ds) : EnvOk K F H F H (L2.start N ws) (startE N ds) := by
  have hl := a.len
  refine EnvOk.flat (Fz.refl e) ?_ fun i s h => ?_
  · unfold L2.start startE
    simp only [List.length_append, List.length_map, List.length_replicate, hl]
  · unfold L2.start
    unfold startE at h
    by_cases c : i < ds.length
    · rw [List.getElem?_append_left (by rw [List.length_map]; exact c), List.getElem?_map] at h
      rw [List.getElem?_append_left (by rw [List.length_map, hl]; exact c), List.getElem?_map]
      obtain ⟨d, h1, h2⟩ := Option.map_eq_some_iff.mp h
      subst h2
      obtain ⟨v, h3, h4⟩ := a.get h1
      rw [h3]
      exact ⟨_, rfl, ⟨v, rfl, h4⟩, rfl⟩
    · rw [List.getElem?_append_right (by rw [List.length_map]; omega), List.length_map] at h
      rw [List.getElem?_append_right (by rw [List.length_map, hl]; omega), List.length_map, hl]
      obtain ⟨h1, h2⟩ := List.getElem?_eq_some_iff.mp h
      rw [List.getElem_replicate] at h2
      subst h2
      rw [List.length_replicate] at h1
      refine ⟨none, ?_, trivial, rfl⟩
      rw [List.getElem?_replicate, if_pos h1]
theorem fn_ok {A R : Type} {P : Program} {w : World} {mg : Str → Option Value} {base : Heap} {x qual : Str} {params : Arguments} {body : List Stmt} {scope : Scope} {f : Addr} {fd : FuncData} {N ps : List Str} {k : Nat} {ea : A → List PyData} {er : R → Rv} {fm : A → Option R} {en : R → Out}
    (F : FunD K x qual params body scope [] [] f fd) (S : FnScope N ps scope) (hl : ∀ a, (ea a).length = ps.length) (hn : ∀ y, en y = .rt (er y) ∨ (er y = .sh .none ∧ ∃ e, en y = .nx e))
    (hb : ∀ (cdv : Value) (A' : Around) (outer : List Env) (s : Shared) (H : Hp) (E : XK), Room k (A'.deeper (envOfC qual scope s.heap.objs.size f cdv)) →
      ∃ t, PSs (cxOf CX0 P w K mg base N qual scope f cdv A' outer s H E).nox body t ∧ ∀ a, BX K t (startE N (ea a)) en (fm a)) : FnOk P w K mg base CX0 (k + 1) f fd ps (Prom (Im ea er fm)) := by
  refine F.ok S (fun vs H Q E h => ?_) (fun cdv A' outer s H vs Q E hr h => ?_)
  · obtain ⟨F, ds, r, e, a, ⟨a', y, rfl, _, _⟩, _⟩ := h
    rw [a.len, hl]
  · obtain ⟨F, ds, r, e, a, ⟨a', y, rfl, hy, rfl⟩, q⟩ := h
    obtain ⟨t, p, b⟩ := hb cdv A' outer s H E hr
    refine ⟨t, PSs.nox p, b a' y hy _ (start_ok e a) ?_⟩
    rcases hn y with hn | ⟨hn, e', he⟩
    · rw [hn]; exact q
    · rw [he]
      rw [hn] at q
      exact fun F1 H1 σ1 E1 => q F1 H1 .non E1.z .non
/-! ### built-ins -/
theorem ex_lenL {e : α → PyData} {xs : List α} (ha : EXl K ta env (xs.map e)) : EX K (tCB (fun ws H Q => ∃ x n, ws = [x] ∧ LenV K x H n ∧ Q (.int n) H) (tCons ta tNil)) env (.int (xs.length : Int)) := fun F0 H0 F H σ E Q q =>
  ha E _ fun p vs F1 H1 z1 h1 a1 l1 => by
    have := a1.len
    rw [List.length_map] at this
    exact ⟨_, xs.length, rfl, .inl ⟨vs, SqL.of h1, this.symm⟩, q _ F1 H1 z1 (.int _)⟩
theorem ex_lenT {e : α → PyData} {xs : List α} (ha : EX K ta env (.tuple (xs.map e))) : EX K (tCB (fun ws H Q => ∃ x n, ws = [x] ∧ LenV K x H n ∧ Q (.int n) H) (tCons ta tNil)) env (.int (xs.length : Int)) := fun F0 H0 F H σ E Q q =>
  ha E _ fun v F1 H1 z1 hv => by
    cases hv with
    | tup h1 a1 l1 =>
    have := a1.len
    rw [List.length_map] at this
    exact ⟨_, xs.length, rfl, .inr ⟨_, SqT.of (z1.fh _ _ h1), this.symm⟩, q _ F1 H1 z1 (.int _)⟩
theorem ex_lenS {x : Str} (ha : EX K ta env (.str x)) : EX K (tCB (fun ws H Q => ∃ x n, ws = [x] ∧ LenV K x H n ∧ Q (.int n) H) (tCons ta tNil)) env (.int (x.length : Int)) := fun F0 H0 F H σ E Q q =>
  ha E _ fun v F1 H1 z1 hv => by
    cases hv with
    | str _ l => exact ⟨_, x.length, rfl, ⟨lim_le l, rfl⟩, q _ F1 H1 z1 (.int _)⟩
theorem exw_listL (ha : EXl K ta env ds) : EXw K (tCB (fun xs H Q => ∃ p ys, xs = [.ref p] ∧ (SqL K H p ys ∨ SqT K H p ys) ∧ ∀ l, H l = none → Q (.ref l) (upd H l (.lst ys))) (tCons ta tNil)) env ds := fun F0 H0 F H σ E Q q =>
  ha E _ fun p vs F1 H1 z1 h1 a1 l1 => ⟨p, vs, rfl, .inl (SqL.of h1), fun l hl => q l vs F1 _ (z1.trans (Fz.add z1.fh hl)) (z1.hn hl) (Evl.fresh_back z1.fh hl) upd_same a1 l1⟩
theorem exw_listT (ha : EX K ta env (.tuple ds)) : EXw K (tCB (fun xs H Q => ∃ p ys, xs = [.ref p] ∧ (SqL K H p ys ∨ SqT K H p ys) ∧ ∀ l, H l = none → Q (.ref l) (upd H l (.lst ys))) (tCons ta tNil)) env ds := fun F0 H0 F H σ E Q q =>
  ha E _ fun v F1 H1 z1 hv => by
    cases hv with
    | tup h1 a1 l1 => exact ⟨_, _, rfl, .inr (SqT.of (z1.fh _ _ h1)), fun l hl => q l _ F1 _ (z1.trans (Fz.add z1.fh hl)) (z1.hn hl) (Evl.fresh_back z1.fh hl) upd_same a1 l1⟩
theorem ex_tupL (ha : EXl K ta env ds) : EX K (tCB (fun xs H Q => ∃ p ys, xs = [.ref p] ∧ ((SqL K H p ys ∧ ∀ l, H l = none → Q (.ref l) (upd H l (.tup ys))) ∨ (SqT K H p ys ∧ Q (.ref p) H))) (tCons ta tNil)) env (.tuple ds) := fun F0 H0 F H σ E Q q =>
  ha E _ fun p vs F1 H1 z1 h1 a1 l1 => ⟨p, vs, rfl, .inl ⟨SqL.of h1, fun l hl => q _ (upd F1 l (.tup vs)) _ (z1.trans (Fz.new z1.fh hl)) (.tup upd_same (DqAll.mono (Evl.Ex.new (Evl.fresh_back z1.fh hl)) _ _ a1) l1)⟩⟩
theorem ex_tupT (ha : EX K ta env (.tuple ds)) : EX K (tCB (fun xs H Q => ∃ p ys, xs = [.ref p] ∧ ((SqL K H p ys ∧ ∀ l, H l = none → Q (.ref l) (upd H l (.tup ys))) ∨ (SqT K H p ys ∧ Q (.ref p) H))) (tCons ta tNil)) env (.tuple ds) := fun F0 H0 F H σ E Q q =>
  ha E _ fun v F1 H1 z1 hv => by
    cases hv with
    | tup h1 a1 l1 => exact ⟨_, _, rfl, .inr ⟨SqT.of (z1.fh _ _ h1), q _ F1 H1 z1 (.tup h1 a1 l1)⟩⟩
theorem ex_sum {ns : List Int} (ha : EXl K ta env (ns.map PyData.int)) : EX K (tCB (rSum K) (tCons ta tNil)) env (.int ns.sum) := fun F0 H0 F H σ E Q q =>
  ha E _ fun p vs F1 H1 z1 h1 a1 l1 => by
    have := a1.ints
    subst this
    exact ⟨p, ns, rfl, SqL.of h1, q _ F1 H1 z1 (.int _)⟩
theorem ex_any {bs : List Bool} (ha : EXl K ta env (bs.map PyData.bool)) : EX K (tCB (rAny K) (tCons ta tNil)) env (.bool (bs.any id)) := fun F0 H0 F H σ E Q q =>
  ha E _ fun p vs F1 H1 z1 h1 a1 l1 => by
    have := a1.bls
    subst this
    exact ⟨p, bs, rfl, SqL.of h1, q _ F1 H1 z1 (.bl _)⟩
theorem ex_all {bs : List Bool} (ha : EXl K ta env (bs.map PyData.bool)) : EX K (tCB (rAll K) (tCons ta tNil)) env (.bool (bs.all id)) := fun F0 H0 F H σ E Q q =>
  ha E _ fun p vs F1 H1 z1 h1 a1 l1 => by
    have := a1.bls
    subst this
    exact ⟨p, bs, rfl, SqL.of h1, q _ F1 H1 z1 (.bl _)⟩
theorem ex_abs {i : Int} (ha : EX K ta env (.int i)) : EX K (tCB (fun xs H Q => ∃ i, xs = [.int i] ∧ Q (.int (if i < 0 then -i else i)) H) (tCons ta tNil)) env (.int (if i < 0 then -i else i)) := fun F0 H0 F H σ E Q q =>
  ha E _ fun v F1 H1 z1 hv => by
    cases hv
    exact ⟨i, rfl, q _ F1 H1 z1 (.int _)⟩
theorem ex_max {i j : Int} (ha : EX K ta env (.int i)) (hb : EX K tb env (.int j)) : EX K (tCB (fun xs H Q => ∃ i j, xs = [.int i, .int j] ∧ Q (.int (if j > i then j else i)) H) (tCons ta (tCons tb tNil))) env (.int (if j > i then j else i)) := fun F0 H0 F H σ E Q q =>
  ha E _ fun v F1 H1 z1 hv => hb (E.step z1) _ fun w F2 H2 z2 hw => by
    cases hv; cases hw
    exact ⟨i, j, rfl, q _ F2 H2 (z1.trans z2) (.int _)⟩
theorem ex_min {i j : Int} (ha : EX K ta env (.int i)) (hb : EX K tb env (.int j)) : EX K (tCB (fun xs H Q => ∃ i j, xs = [.int i, .int j] ∧ Q (.int (if j < i then j else i)) H) (tCons ta (tCons tb tNil))) env (.int (if j < i then j else i)) := fun F0 H0 F H σ E Q q =>
  ha E _ fun v F1 H1 z1 hv => hb (E.step z1) _ fun w F2 H2 z2 hw => by
    cases hv; cases hw
    exact ⟨i, j, rfl, q _ F2 H2 (z1.trans z2) (.int _)⟩
theorem ex_intB {b : Bool} (ha : EX K ta env (.bool b)) : EX K (tCB (fun xs H Q => (∃ i, xs = [.int i] ∧ Q (.int i) H) ∨ ∃ k, xs = [.bl k] ∧ Q (.int (if k then 1 else 0)) H) (tCons ta tNil)) env (.int (if b then 1 else 0)) := fun F0 H0 F H σ E Q q =>
  ha E _ fun v F1 H1 z1 hv => by
    cases hv
    exact .inr ⟨b, rfl, q _ F1 H1 z1 (.int _)⟩
theorem inV_ints {i : Int} : ∀ {ns : List Int}, inV (.int i) (ns.map V.int) = decide (i ∈ ns)
  | [] => rfl
  | n :: ns => by
    have ih := inV_ints (i := i) (ns := ns)
    unfold inV at ih ⊢
    rw [List.map_cons, List.any_cons, ih]
    show ((n == i) || decide (i ∈ ns)) = decide (i ∈ n :: ns)
    by_cases c : n = i
    · subst c; simp
    · have c' : ¬ i = n := fun z => c z.symm
      simp [c, c']
theorem flat_ints : ∀ {ns : List Int}, (ns.map V.int).all flatV = true
  | [] => rfl
  | n :: ns => by rw [List.map_cons, List.all_cons, flat_ints]; rfl
theorem ex_inL {i : Int} {ns : List Int} (ha : EX K ta env (.int i)) (hb : EXl K tb env (ns.map PyData.int)) : EX K (tOp (rIn K false) ta tb) env (.bool (decide (i ∈ ns))) := fun F0 H0 F H σ E Q q =>
  ha E _ fun v F1 H1 z1 hv => hb (E.step z1) _ fun p ws F2 H2 z2 h1 a1 l1 => by
    cases hv
    have := a1.ints
    subst this
    refine ⟨p, _, rfl, .inl (SqL.of h1), rfl, flat_ints, ?_⟩
    rw [inV_ints]
    exact q _ F2 H2 (z1.trans z2) (.bl _)
theorem ex_ninL {i : Int} {ns : List Int} (ha : EX K ta env (.int i)) (hb : EXl K tb env (ns.map PyData.int)) : EX K (tOp (rIn K true) ta tb) env (.bool (!decide (i ∈ ns))) := fun F0 H0 F H σ E Q q =>
  ha E _ fun v F1 H1 z1 hv => hb (E.step z1) _ fun p ws F2 H2 z2 h1 a1 l1 => by
    cases hv
    have := a1.ints
    subst this
    refine ⟨p, _, rfl, .inl (SqL.of h1), rfl, flat_ints, ?_⟩
    rw [inV_ints]
    exact q _ F2 H2 (z1.trans z2) (.bl _)
/-! ### slices -/
def cutA (xs : List α) (lo hi : Option Int) : List α := (xs.drop (HT.sIx xs.length 0 lo)).take (HT.sIx xs.length xs.length hi - HT.sIx xs.length 0 lo)
theorem cutA_map {f : α → β} {xs : List α} {lo hi : Option Int} : cutA (xs.map f) lo hi = (cutA xs lo hi).map f := by
  unfold cutA
  rw [List.length_map, List.map_take, List.map_drop]
theorem cutA_len {xs : List α} {lo hi : Option Int} : (cutA xs lo hi).length ≤ xs.length := by
  unfold cutA
  rw [List.length_take, List.length_drop]
  omega
theorem DqAll.cut {H : Hp} {ws : List V} {lo hi : Option Int} (a : DqAll H ws ds) : DqAll H (cutV ws lo hi) (cutA ds lo hi) := by
  unfold cutV cutA
  rw [a.len]
  exact (a.drop _).take _
theorem eo_none : EO K tNoPart env none := fun F0 H0 F H σ E Q q => q F H (Fz.refl E.fh)
theorem eo_some {i : Int} (h : EX K te env (.int i)) : EO K (tPart te) env (some i) := fun F0 H0 F H σ E Q q => h E _ fun v F1 H1 z1 hv => by
  cases hv
  exact ⟨i, rfl, q F1 H1 z1⟩
theorem exw_sl {tl th : TO} {lo hi : Option Int} {e : α → PyData} {xs : List α} (h : EXl K te env (xs.map e)) (hl : EO K tl env lo) (hh : EO K th env hi) : EXw K (tSl (rSlL K) te tl th) env ((cutA xs lo hi).map e) := fun F0 H0 F H σ E Q q =>
  h E _ fun p vs F1 H1 z1 h1 a1 l1 => hl (E.step z1) _ fun F2 H2 z2 => hh ((E.step z1).step z2) _ fun F3 H3 z3 => by
    have z := (z1.trans z2).trans z3
    refine ⟨p, vs, rfl, SqL.of ((z2.trans z3).hh z1.fh _ _ h1), fun r hr => q r _ F3 _ (z.trans (Fz.add z.fh hr)) (z.hn hr) (Evl.fresh_back z.fh hr) upd_same ?_ ?_⟩
    · rw [← cutA_map]; exact (DqAll.mono (z2.f.trans z3.f) _ _ a1).cut
    · rw [← cutA_map]; exact Nat.le_trans cutA_len l1
theorem exw_slSc {tl th : TO} {lo hi : Option Int} {e : α → PyData} {xs : List α} {i : Nat} (h : env[i]? = some (.sc (xs.map e))) (hl : EO K tl env lo) (hh : EO K th env hi) : EXw K (tSl (rSlL K) (tVar i) tl th) env ((cutA xs lo hi).map e) := fun F0 H0 F H σ E Q q => by
  obtain ⟨o, h1, p, vs, h2, h3, h4, h5⟩ := E.sl i _ h
  subst h2
  refine ⟨_, h1, hl E _ fun F2 H2 z2 => hh (E.step z2) _ fun F3 H3 z3 => ?_⟩
  have z := z2.trans z3
  refine ⟨p, vs, rfl, sq_mono z.fh (sq_mono z.f h3), fun r hr => q r _ F3 _ (z.trans (Fz.add z.fh hr)) (z.hn hr) (Evl.fresh_back z.fh hr) upd_same ?_ ?_⟩
  · rw [← cutA_map]; exact (DqAll.mono z.f _ _ h4).cut
  · rw [← cutA_map]; exact Nat.le_trans cutA_len h5
/-! ### list(range(..)) -/
theorem exw_listRg1 {n : Int} (h : EX K ta env (.int n)) (hn : rngOk n) : EXw K (tLstRg (tRg1 ta)) env ((rng 0 n).map PyData.int) := fun F0 H0 F H σ E Q q => h E _ fun v F1 H1 z1 hv => by
  cases hv
  have l := rng_lim (m := 0) (by decide) hn
  have e : rgV 0 n = (rng 0 n).map V.int := by unfold rgV rng; rw [List.map_map]; rfl
  unfold rngOk at hn
  refine ⟨n, rfl, ⟨by omega, by omega, by omega, by omega, by omega⟩, fun r hr => q r _ F1 _ (z1.trans (Fz.add z1.fh hr)) (z1.hn hr) (Evl.fresh_back z1.fh hr) upd_same ?_ l⟩
  rw [e]
  exact DqAll.ints' _
theorem exw_listRg2 {m n : Int} (ha : EX K ta env (.int m)) (hb : EX K tb env (.int n)) (hm : rngOk m) (hn : rngOk n) : EXw K (tLstRg (tRg2 ta tb)) env ((rng m n).map PyData.int) := fun F0 H0 F H σ E Q q => ha E _ fun v F1 H1 z1 hv => hb (E.step z1) _ fun w F2 H2 z2 hw => by
  cases hv; cases hw
  have l := rng_lim hm hn
  have e : rgV m n = (rng m n).map V.int := by unfold rgV rng; rw [List.map_map]; rfl
  unfold rngOk at hm hn
  have z := z1.trans z2
  refine ⟨m, n, rfl, rfl, ⟨by omega, by omega, by omega, by omega, by omega⟩, fun r hr => q r _ F2 _ (z.trans (Fz.add z.fh hr)) (z.hn hr) (Evl.fresh_back z.fh hr) upd_same ?_ l⟩
  rw [e]
  exact DqAll.ints' _
end
end Rb

set_option Elab.async false
set_option linter.all false
set_option maxRecDepth 100000
set_option maxHeartbeats 2000000
namespace Rb
open PySem PySem.Spec PyProof.Rows L2
/-! ### words for the texts that a program prints -/
abbrev eL {α : Type} (e : α → PyData) (xs : List α) : PyData := .list (xs.map e)
abbrev eT {α : Type} (e : α → PyData) (xs : List α) : PyData := .tuple (xs.map e)
abbrev eN (_ : Unit) : PyData := .none
abbrev eP {α β : Type} (e : α → PyData) (f : β → PyData) (x : α × β) : PyData := .tuple [e x.1, f x.2]
abbrev eP3 {α β γ : Type} (e : α → PyData) (f : β → PyData) (g : γ → PyData) (x : α × β × γ) : PyData := .tuple [e x.1, f x.2.1, g x.2.2]
abbrev eP4 {α β γ δ : Type} (e : α → PyData) (f : β → PyData) (g : γ → PyData) (h : δ → PyData) (x : α × β × γ × δ) : PyData := .tuple [e x.1, f x.2.1, g x.2.2.1, h x.2.2.2]
def eO {α : Type} (e : α → PyData) : Option α → PyData
  | none => .none
  | some x => e x
def grd (p : Prop) [Decidable p] : Option Unit := if p then some () else none
theorem grd_ok {p : Prop} [Decidable p] {u : Unit} (h : grd p = some u) : p := by
  unfold grd at h
  by_cases c : p
  · exact c
  · rw [if_neg c] at h; cases h
theorem grd_true {p : Prop} [Decidable p] (h : p) : grd p = some () := by unfold grd; rw [if_pos h]
instance (i j : Int) : Decidable (CMul i j) := inferInstanceAs (Decidable (_ ∨ _))
instance (i j : Int) : Decidable (CDivW i j) := inferInstanceAs (Decidable (_ ∧ _))
instance (i j : Int) : Decidable (CPow i j) := inferInstanceAs (Decidable (_ ∧ _))
def fuel : Nat := 1000
section
variable {K : Frag} {env env' env1 env2 : List Sl} {d : PyData} {ds es : List PyData} {g : TG} {gs : TGs} {vs : List Nat} {te ti ta tb tl : TE} {wi : TI} {α β S R O O1 : Type} {tt : TT} {ts tu tw : TS} {enc : O → Out} {enc1 : O1 → Out} {m n : Option O} {m1 : Option O1}
theorem compM_pure {t : α → Bool} {f : α → β} : ∀ xs : List α, compM (fun x => some (t x)) (fun x => some (f x)) xs = some ((xs.filter t).map f)
  | [] => rfl
  | x :: xs => by
    unfold compM
    rw [compM_pure xs]
    show (if t x = true then _ else _) = _
    cases h : t x
    · rw [if_neg Bool.false_ne_true, List.filter_cons_of_neg (by rw [h]; exact Bool.false_ne_true)]
    · rw [if_pos rfl, List.filter_cons_of_pos h]; rfl
theorem compM_map {f : α → β} : ∀ xs : List α, compM (fun _ => some true) (fun x => some (f x)) xs = some (xs.map f)
  | [] => rfl
  | x :: xs => by
    unfold compM
    rw [compM_map xs]
    rfl
/-- pure comprehensions -/
theorem exw_lcp {e : α → PyData} {e' : β → PyData} {t : α → Bool} {f : α → β} {xs : List α} {envB : α → List Sl} (hi : EI K wi env (xs.map e)) (hg : ∀ x, x ∈ xs → EGc K g (wipeE env vs) (e x) (envB x) vs)
    (ht : ∀ x, x ∈ xs → ET K tt (envB x) (t x)) (he : ∀ x, x ∈ xs → EX K te (envB x) (e' (f x))) : EXw K (tLc wi g tt te vs) env (((xs.filter t).map f).map e') :=
  exw_lc (t := fun x => some (t x)) (f := fun x => some (f x)) hi (compM_pure xs) hg (fun x h => eto_some (ht x h)) (fun x h => exo_some (e := e') (he x h))
theorem et_yes : ET K tYes env true := fun F0 H0 F H σ E Q q => q F H (Fz.refl E.fh)
theorem exw_lcm {e : α → PyData} {e' : β → PyData} {f : α → β} {xs : List α} {envB : α → List Sl} (hi : EI K wi env (xs.map e)) (hg : ∀ x, x ∈ xs → EGc K g (wipeE env vs) (e x) (envB x) vs)
    (he : ∀ x, x ∈ xs → EX K te (envB x) (e' (f x))) : EXw K (tLc wi g tYes te vs) env ((xs.map f).map e') :=
  exw_lc (t := fun x => some true) (f := fun x => some (f x)) hi (compM_map xs) hg (fun x h => eto_some et_yes) (fun x h => exo_some (e := e') (he x h))
def bindR (mm : Option (S ⊕ R)) (k : S → Option O) (g : R → O) : Option O := mm.bind fun x => match x with
  | .inl s => k s
  | .inr r => some (g r)
theorem bx_bindR {envS : S → List Sl} {encR : R → Out} {g : R → O} {mm : Option (S ⊕ R)} {k : S → Option O} (h1 : BX K ts env (encE envS encR) mm) (hg : ∀ r, enc (g r) = encR r) (hf : ∀ r e, encR r ≠ .nx e) (h2 : ∀ s, mm = some (.inl s) → BX K tu (envS s) enc (k s)) :
    BX K (tSeq ts tu) env enc (bindR mm k g) :=
  bx_seq h1 fun x e => by
    cases x with
    | inl s => exact .inl ⟨envS s, rfl, h2 s e⟩
    | inr r => exact .inr ⟨g r, rfl, hg r, hf r⟩
theorem bx_retS {o : O} {d : PyData} (h : EX K te env d) (he : enc o = .rt (.sh d)) : BX K (tSeq (tRet te) tu) env enc (some o) := fun o' ho F0 H0 F H σ D E c => bx_ret h he o' ho { D with nx := tu D } E (by
  cases ho
  rw [he] at c ⊢
  exact c)
theorem bx_retSW {o : O} {ds : List PyData} (h : EXw K te env ds) (he : enc o = .rt (.fr ds)) : BX K (tSeq (tRet te) tu) env enc (some o) := fun o' ho F0 H0 F H σ D E c => bx_retW h he o' ho { D with nx := tu D } E (by
  cases ho
  rw [he] at c ⊢
  exact c)
/-- an own list handed back as it is -/
theorem bx_retO {o : O} {i : Nat} {ds : List PyData} (h : env[i]? = some (.ow ds)) (he : enc o = .rt (.fr ds)) : BX K (tSeq (tRet (tVar i)) tu) env enc (some o) := fun o' ho F0 H0 F H σ D E c => by
  cases ho
  rw [he] at c
  obtain ⟨o1, h1, p, vs, h2, h3, h4, h5, h6, h7⟩ := E.sl i _ h
  subst h2
  exact ⟨_, h1, c F H p vs E.z h3 h4 h5 h6 h7⟩
theorem bx_brk {o : O} (hw : Wk env env') (hn : enc o = .bk env') : BX K (tSeq tBreak tu) env enc (some o) := fun o' ho F0 H0 F H σ D E c => by
  cases ho
  rw [hn] at c
  exact c F H σ (E.weak hw)
/-- a conditional at a block's end -/
theorem bx_last (h : BX K ts env enc m) : BX K (tSeq ts tNext) env enc m := h
/-- where a list is popped in a test: if xs.pop() != e -/
theorem bx_ifPopNe {e : α → PyData} {i : Nat} {xs ys : List α} {x : Int} {y : Int} {xs' : List Int} (hi : env[i]? = some (.ow (xs'.map PyData.int))) {ys' : List Int} (hy : pop? xs' = some (x, ys')) (he : EX K te (env.set i (.ow (ys'.map PyData.int))) (.int y))
    (h1 : BX K ts (env.set i (.ow (ys'.map PyData.int))) enc m) (h2 : BX K tu (env.set i (.ow (ys'.map PyData.int))) enc n) : BX K (tIfS (tTest (tOp rNe (tBM0 K "list" rPop (tVar i)) te)) ts tu) env enc (if (!decide (x = y)) = true then m else n) := fun o ho F0 H0 F H σ D E c =>
  s_pop hi hy E fun v H' E' hv => he E' _ fun w F2 H2 z2 hw => by
    cases hv; cases hw
    have e : decide (V.int x = V.int y) = decide (x = y) := by
      by_cases c : x = y
      · rw [decide_eq_true c, c, decide_eq_true rfl]
      · rw [decide_eq_false c, decide_eq_false fun z => c (V.int.inj z)]
    refine ⟨rfl, _, rfl, ?_⟩
    rw [e]
    cases q : (!decide (x = y)) with
    | true => rw [q] at ho; exact h1 o ho D (E'.step z2) c
    | false => rw [q] at ho; exact h2 o ho D (E'.step z2) c
end
/-! ### a def that stands, with its promise -/
structure Fn (P : Program) (w : World) (K : Frag) (mg : Str → Option Value) (base : Heap) (x : Str) (k : Nat) (I : List PyData → Rv → Prop) : Prop where
  ex : ∃ f fd ps, FnOk P w K mg base CX0 k f fd ps (Prom I) ∧ mg x = some (.ref f) ∧ PySem.W.keepIn K (.ref f) = true ∧ Binds K fd ps []
/-- the reading of a call does not tell where the def stands -/
theorem pe_fn {X : Cx} {x : Str} {k : Nat} {I : List PyData → Rv → Prop} {e : Expr} {es : List Expr} {t : TA} {p pos : Pos} (G : Fn X.prog X.w X.K X.mg X.base x k I) (hr : Room k X.A) (hg : Gl X x) (ha : PA X (e :: es) t)
    (hs : starEach (e :: es) X.env = (false, eval e X.env) :: starEach es X.env := by rfl) (hpl : (backTo pos (starEach es X.env)).any (·.1) = false := by rfl) (hd : (x == ("__debug__" : Str)) = false := by decide) : PE X (.Call (.Name x p) (e :: es) [] pos) (tCall (Prom I) [] E0 t) := by
  obtain ⟨f, fd, ps, F, hm, hk, hb⟩ := G.ex
  exact pe_call F hr hg hm hk hb .nil pass0 ha hd hs hpl
theorem pe_const {X : Cx} {x : Str} {i : Int} {pos : Pos} (hg : Gl X x) (h : ∃ t, X.mg x = some (.int i t)) (hd : (x == ("__debug__" : Str)) = false := by decide) : PE X (.Name x pos) (tC (.int i)) := by
  obtain ⟨t, h⟩ := h
  exact pe_glob hg h ⟨t, rfl⟩ hd
/-! ### rules whose reading names K outright -/
section
variable {X : Cx} {K : Frag} {tg e e2 l : Expr} {ta tl te : TE} {tA : TA}
theorem ix_listK (h : X.K = K := by rfl) : IxR X (rIxL K) := by subst h; exact ix_list
theorem ix_tupK (h : X.K = K := by rfl) : IxR X (rIxT K) := by subst h; exact ix_tup
theorem op_inK (h : X.K = K := by rfl) : OpR X (compareOp .In) (rIn K false) := by subst h; exact op_in_seq
theorem op_notInK (h : X.K = K := by rfl) : OpR X (compareOp .NotIn) (rIn K true) := by subst h; exact op_notIn_seq
theorem op_eqDK (hu : X.A.units + 64 < cLine) (h : X.K = K := by rfl) : OpR X (compareOp .Eq) (rEqD K) := by subst h; exact op_eqD hu
theorem op_neDK (hu : X.A.units + 64 < cLine) (h : X.K = K := by rfl) : OpR X (compareOp .NotEq) (rNeD K) := by subst h; exact op_neD hu
theorem call_lenK (h : X.K = K := by rfl) : CallR X (.builtin "len") (fun xs H Q => ∃ x n, xs = [x] ∧ LenV K x H n ∧ Q (.int n) H) := by subst h; exact call_len
theorem call_listK (h : X.K = K := by rfl) : CallR X (.type "list") (fun xs H Q => ∃ p ys, xs = [.ref p] ∧ (SqL K H p ys ∨ SqT K H p ys) ∧ ∀ l, H l = none → Q (.ref l) (upd H l (.lst ys))) := by subst h; exact call_list_of
theorem call_tupleK (h : X.K = K := by rfl) : CallR X (.type "tuple") (fun xs H Q => ∃ p ys, xs = [.ref p] ∧ ((SqL K H p ys ∧ ∀ l, H l = none → Q (.ref l) (upd H l (.tup ys))) ∨ (SqT K H p ys ∧ Q (.ref p) H))) := by subst h; exact call_tuple_of
theorem cr_sumK (hc : X.calm = true) (h : X.K = K := by rfl) : CallR X (.builtin "sum") (rSum K) := by subst h; exact cr_sum hc
theorem cr_anyK (hc : X.calm = true) (h : X.K = K := by rfl) : CallR X (.builtin "any") (rAny K) := by subst h; exact cr_any hc
theorem cr_allK (hc : X.calm = true) (h : X.K = K := by rfl) : CallR X (.builtin "all") (rAll K) := by subst h; exact cr_all hc
theorem sl_listK (h : X.K = K := by rfl) : SlR X (rSlL K) := by subst h; exact sl_list
theorem pi_listK (hl : PE X l tl) (h : X.K = K := by rfl) : PI X tg l (iList K tl) := by subst h; exact pi_list hl
theorem pi_tupK (hl : PE X l tl) (h : X.K = K := by rfl) : PI X tg l (iTup K tl) := by subst h; exact pi_tup hl
theorem pg_tupK {pos : Pos} {es : List Expr} {k : Nat} {t : TGs} {n : Nat} (hc : X.calm = true) (hh : PGs X es t) (hn : (assignEach es X.env).length = n := by rfl) (hst : (assignEach es X.env).findIdx? (·.1) = none := by rfl) (h : X.K = K := by rfl) : PG X (.Tuple es k pos) (gTup K n t) := by
  subst h; exact pg_tup hc hh hn hst
theorem pg_lstK {pos : Pos} {es : List Expr} {k : Nat} {t : TGs} {n : Nat} (hc : X.calm = true) (hh : PGs X es t) (hn : (assignEach es X.env).length = n := by rfl) (hst : (assignEach es X.env).findIdx? (·.1) = none := by rfl) (h : X.K = K := by rfl) : PG X (.Tuple es k pos) (gLst K n t) := by
  subst h; exact pg_lst hc hh hn hst
theorem pi_enumK {p pos tpos : Pos} {elts : List Expr} {kk : Nat} (hg : Gl X "enumerate") (hm : X.mg "enumerate" = none) (ha : PA X [e] tA) (hs : starEach [e] X.env = [(false, eval e X.env)] := by rfl) (h : X.K = K := by rfl) :
    PI X (.Tuple elts kk tpos) (.Call (.Name "enumerate" p) [e] [] pos) (iEnum K tA) := by subst h; exact pi_enum hg hm ha hs
end
end Rb

set_option Elab.async false
set_option linter.all false
set_option maxRecDepth 100000
set_option maxHeartbeats 2000000
namespace Rb
open PySem PySem.Spec PyProof.Rows L2
/-! ### == of data by types -/
structure EnOk {α : Type} [DecidableEq α] (e : α → PyData) (n : Nat) : Prop where
  lay : ∀ x, (e x).canLay0 = true
  dep : ∀ x, (e x).depth ≤ n
  eq : ∀ x y, PyData.eqv (e x) (e y) = decide (x = y)
theorem beq_dec {α : Type} [BEq α] [LawfulBEq α] [DecidableEq α] (x y : α) : (x == y) = decide (x = y) := by
  by_cases c : x = y
  · subst c; simp
  · rw [decide_eq_false c]; simpa using c
theorem EnOk.int : EnOk PyData.int 0 := ⟨fun x => rfl, fun x => Nat.le_refl _, fun x y => by
  show (x == y) = _
  exact beq_dec x y⟩
theorem EnOk.bool : EnOk PyData.bool 0 := ⟨fun x => rfl, fun x => Nat.le_refl _, fun x y => by
  show (x == y) = _
  exact beq_dec x y⟩
theorem EnOk.unit : EnOk eN 0 := ⟨fun x => rfl, fun x => Nat.le_refl _, fun x y => rfl⟩
section
variable {α β γ δ : Type} [DecidableEq α] [DecidableEq β] [DecidableEq γ] [DecidableEq δ] {e : α → PyData} {f : β → PyData} {g : γ → PyData} {k : δ → PyData} {n m l j : Nat}
theorem EnOk.layAll (h : EnOk e n) : ∀ xs : List α, PyData.canLayAll0 (xs.map e) = true
  | [] => rfl
  | x :: xs => by
    rw [List.map_cons]
    show (PyData.canLay0 (e x) && PyData.canLayAll0 (xs.map e)) = true
    rw [h.lay, h.layAll xs]; rfl
theorem EnOk.depAll (h : EnOk e n) : ∀ xs : List α, PyData.depthAll (xs.map e) ≤ n
  | [] => Nat.zero_le _
  | x :: xs => by
    rw [List.map_cons]
    show max (PyData.depth (e x)) (PyData.depthAll (xs.map e)) ≤ n
    exact Nat.max_le.mpr ⟨h.dep x, h.depAll xs⟩
theorem EnOk.eqAll (h : EnOk e n) : ∀ xs ys : List α, PyData.eqvAll (xs.map e) (ys.map e) = decide (xs = ys)
  | [], [] => rfl
  | [], y :: ys => rfl
  | x :: xs, [] => rfl
  | x :: xs, y :: ys => by
    rw [List.map_cons, List.map_cons]
    show (PyData.eqv (e x) (e y) && PyData.eqvAll (xs.map e) (ys.map e)) = _
    rw [h.eq, h.eqAll xs ys]
    by_cases c : x = y
    · by_cases c2 : xs = ys
      · subst c; subst c2; simp
      · simp [c, c2]
    · simp [c]
theorem EnOk.list (h : EnOk e n) : EnOk (eL e) (n + 1) := ⟨fun x => h.layAll x, fun x => Nat.succ_le_succ (h.depAll x), fun x y => h.eqAll x y⟩
theorem EnOk.tup (h : EnOk e n) : EnOk (eT e) (n + 1) := ⟨fun x => h.layAll x, fun x => Nat.succ_le_succ (h.depAll x), fun x y => h.eqAll x y⟩
theorem EnOk.pair (h : EnOk e n) (h2 : EnOk f m) : EnOk (eP e f) (max n m + 1) := ⟨fun x => by
    show (PyData.canLay0 (e x.1) && (PyData.canLay0 (f x.2) && true)) = true
    rw [h.lay, h2.lay]; rfl, fun x => by
    show max (PyData.depth (e x.1)) (max (PyData.depth (f x.2)) 0) + 1 ≤ _
    have := h.dep x.1
    have := h2.dep x.2
    omega, fun x y => by
    show (PyData.eqv (e x.1) (e y.1) && (PyData.eqv (f x.2) (f y.2) && true)) = _
    rw [h.eq, h2.eq]
    obtain ⟨a, b⟩ := x
    obtain ⟨c, d⟩ := y
    by_cases c1 : a = c <;> by_cases c2 : b = d <;> simp [c1, c2]⟩
theorem EnOk.pair3 (h : EnOk e n) (h2 : EnOk f m) (h3 : EnOk g l) : EnOk (eP3 e f g) (max n (max m l) + 1) := ⟨fun x => by
    show (PyData.canLay0 (e x.1) && (PyData.canLay0 (f x.2.1) && (PyData.canLay0 (g x.2.2) && true))) = true
    rw [h.lay, h2.lay, h3.lay]; rfl, fun x => by
    show max (PyData.depth (e x.1)) (max (PyData.depth (f x.2.1)) (max (PyData.depth (g x.2.2)) 0)) + 1 ≤ _
    have := h.dep x.1
    have := h2.dep x.2.1
    have := h3.dep x.2.2
    omega, fun x y => by
    show (PyData.eqv (e x.1) (e y.1) && (PyData.eqv (f x.2.1) (f y.2.1) && (PyData.eqv (g x.2.2) (g y.2.2) && true))) = _
    rw [h.eq, h2.eq, h3.eq]
    obtain ⟨a, b, b'⟩ := x
    obtain ⟨c, d, d'⟩ := y
    by_cases c1 : a = c <;> by_cases c2 : b = d <;> by_cases c3 : b' = d' <;> simp [c1, c2, c3]⟩
theorem EnOk.opt (h : EnOk e n) (hn : ∀ x, isNone (e x) = false := by intro _; rfl) : EnOk (eO e) n := ⟨fun x => by
    cases x with
    | none => rfl
    | some x => exact h.lay x, fun x => by
    cases x with
    | none => exact Nat.zero_le _
    | some x => exact h.dep x, fun x y => by
    cases x with
    | none =>
      cases y with
      | none => rfl
      | some y =>
        show PyData.eqv .none (e y) = _
        have := hn y
        cases q : e y <;> first | rfl | (rw [q] at this; cases this)
    | some x =>
      cases y with
      | none =>
        show PyData.eqv (e x) .none = _
        have := hn x
        cases q : e x <;> first | rfl | (rw [q] at this; cases this)
      | some y =>
        show PyData.eqv (e x) (e y) = _
        rw [h.eq]
        by_cases c : x = y <;> simp [c]⟩
theorem EnOk.shaped (h : EnOk e n) (hn : n ≤ 64) (x : α) : SeqAt.shaped (e x) = true := by
  unfold SeqAt.shaped
  rw [h.lay x, decide_eq_true (Nat.le_trans (h.dep x) hn)]; rfl
end
section
variable {K : Frag} {env env' env1 env2 : List Sl} {d d' : PyData} {ds es : List PyData} {g : TG} {gs : TGs} {vs : List Nat} {te ti ta tb tl tc : TE} {wi : TI} {α β S R O O1 : Type} {tt : TT} {ts tu tw : TS} {enc : O → Out} {enc1 : O1 → Out} {m n : Option O} {m1 : Option O1}
theorem ex_eqT [DecidableEq α] {e : α → PyData} {k : Nat} {x y : α} (h : EnOk e k) (ha : EXq K ta env (e x)) (hb : EXq K tb env (e y)) (hk : k ≤ 64 := by decide) : EX K (tOp (rEqD K) ta tb) env (.bool (decide (x = y))) := ex_eqD ha hb (h.shaped hk x) (h.shaped hk y) (h.eq x y)
theorem ex_neT [DecidableEq α] {e : α → PyData} {k : Nat} {x y : α} (h : EnOk e k) (ha : EXq K ta env (e x)) (hb : EXq K tb env (e y)) (hk : k ≤ 64 := by decide) : EX K (tOp (rNeD K) ta tb) env (.bool (!decide (x = y))) := ex_neD ha hb (h.shaped hk x) (h.shaped hk y) (h.eq x y)
theorem ex_is (h : EX K te env d) (e : d = d') : EX K te env d' := by rw [← e]; exact h
theorem exw_catT {e : α → PyData} {xs ys : List α} (ha : EXl K ta env (xs.map e)) (hb : EXl K tb env (ys.map e)) (hl : (xs ++ ys).length ≤ lim) : EXw K (tOp rCat ta tb) env ((xs ++ ys).map e) := by
  rw [List.map_append]
  exact exw_cat ha hb (by rw [← List.map_append, List.length_map]; exact hl)
theorem str_app_len (x y : Str) : (x ++ y).length = x.length + y.length := by
  show (x.cps ++ y.cps).size = x.cps.size + y.cps.size
  exact Array.size_append
theorem ex_addST {x y : Str} (ha : EX K ta env (.str x)) (hb : EX K tb env (.str y)) (hl : x.length + y.length ≤ lim) : EX K (tOp (fun x y H Q => ∃ i j, x = .str i ∧ y = .str j ∧ i.length + j.length ≤ sizeLine ∧ Q (.str (i ++ j)) H) ta tb) env (.str (x ++ y)) :=
  ex_addS ha hb (by rw [str_app_len]; exact hl) hl
def set? (xs : List α) (i : Int) (x : α) : Option (List α) := (ixN xs.length i).map fun j => xs.set j x
theorem eg_setI {e : α → PyData} {k : Nat} {xs ys : List α} {x : α} {i : Int} (hk : env[k]? = some (.ow (xs.map e))) (hi : EX K ti env (.int i)) (h : set? xs i x = some ys) : EG K (gSub (tVar k) ti rSetL) env (e x) (env.set k (.ow (ys.map e))) := by
  unfold set? at h
  obtain ⟨j, h1, h2⟩ := Option.map_eq_some_iff.mp h
  subst h2
  refine eg_sub (j := j) hk hi (by rw [List.length_map]; exact h1) ?_
  rw [List.map_set]
/-- the items of a list of so many -/
def unp2 : List α → Option (α × α)
  | [a, b] => some (a, b)
  | _ => none
def unp3 : List α → Option (α × α × α)
  | [a, b, c] => some (a, b, c)
  | _ => none
def unp4 : List α → Option (α × α × α × α)
  | [a, b, c, d] => some (a, b, c, d)
  | _ => none
def unp5 : List α → Option (α × α × α × α × α)
  | [a, b, c, d, e] => some (a, b, c, d, e)
  | _ => none
def unp6 : List α → Option (α × α × α × α × α × α)
  | [a, b, c, d, e, f] => some (a, b, c, d, e, f)
  | _ => none
def unp7 : List α → Option (α × α × α × α × α × α × α)
  | [a, b, c, d, e, f, g] => some (a, b, c, d, e, f, g)
  | _ => none
theorem unp2_ok {xs : List α} {q : α × α} (h : unp2 xs = some q) : xs = [q.1, q.2] := by
  unfold unp2 at h; split at h
  · cases h; rfl
  · cases h
theorem unp3_ok {xs : List α} {q : α × α × α} (h : unp3 xs = some q) : xs = [q.1, q.2.1, q.2.2] := by
  unfold unp3 at h; split at h
  · cases h; rfl
  · cases h
theorem unp4_ok {xs : List α} {q : α × α × α × α} (h : unp4 xs = some q) : xs = [q.1, q.2.1, q.2.2.1, q.2.2.2] := by
  unfold unp4 at h; split at h
  · cases h; rfl
  · cases h
theorem unp5_ok {xs : List α} {q : α × α × α × α × α} (h : unp5 xs = some q) : xs = [q.1, q.2.1, q.2.2.1, q.2.2.2.1, q.2.2.2.2] := by
  unfold unp5 at h; split at h
  · cases h; rfl
  · cases h
theorem unp6_ok {xs : List α} {q : α × α × α × α × α × α} (h : unp6 xs = some q) : xs = [q.1, q.2.1, q.2.2.1, q.2.2.2.1, q.2.2.2.2.1, q.2.2.2.2.2] := by
  unfold unp6 at h; split at h
  · cases h; rfl
  · cases h
theorem unp7_ok {xs : List α} {q : α × α × α × α × α × α × α} (h : unp7 xs = some q) : xs = [q.1, q.2.1, q.2.2.1, q.2.2.2.1, q.2.2.2.2.1, q.2.2.2.2.2.1, q.2.2.2.2.2.2] := by
  unfold unp7 at h; split at h
  · cases h; rfl
  · cases h
/-- a value that is given a name -/
theorem bx_asgB {e : α → PyData} {i : Nat} {x : α} {k : α → Option O} (he : EX K te env (e x)) (h : ∀ v, BX K tu (env.set i (.sh (e v))) enc (k v)) : BX K (tSeq (tAsg te (gName i)) tu) env enc (Option.bind (some x) k) :=
  bx_asg he (EGc.eg (egc_name (i := i) (vs := [i]) List.mem_cons_self)) (h x)
theorem bx_asgWB {e : α → PyData} {i : Nat} {x : List α} {k : List α → Option O} (he : EXw K te env (x.map e)) (h : ∀ v, BX K tu (env.set i (.ow (v.map e))) enc (k v)) : BX K (tSeq (tAsg te (gName i)) tu) env enc (Option.bind (some x) k) := bx_asgW he (h x)
/-- a branch that ends the def -/
theorem bx_ifRetM {encR : R → Out} {g : R → O} {mr : Option R} {b : Bool} (ht : ET K tt env b) (h1 : b = true → BX K ts env encR mr) (hf : ∀ r e, encR r ≠ .nx e) (hg : ∀ r, enc (g r) = encR r) (h2 : b = false → BX K tu env enc n) : BX K (tSeq (tIfS tt ts tNext) tu) env enc (if b = true then mr.map g else n) := fun o ho F0 H0 F H σ D E c =>
  ht E _ fun F1 H1 z1 => by
    cases b with
    | true =>
      obtain ⟨r, e1, e2⟩ := Option.map_eq_some_iff.mp ho
      subst e2
      rw [hg] at c
      refine h1 rfl r e1 { D with nx := tu D } (E.step z1) ?_
      cases q : encR r with
      | nx e => exact absurd q (hf r e)
      | bk e => rw [q] at c; exact c
      | ct e => rw [q] at c; exact c
      | rt r => rw [q] at c; exact c
      | ex e x W => rw [q] at c; exact c
    | false => exact h2 rfl o ho D (E.step z1) c
theorem ex_inT {i : Int} {ns : List Int} (ha : EX K ta env (.int i)) (hb : EX K tb env (eT PyData.int ns)) : EX K (tOp (rIn K false) ta tb) env (.bool (decide (i ∈ ns))) := fun F0 H0 F H σ E Q q =>
  ha E _ fun v F1 H1 z1 hv => hb (E.step z1) _ fun w F2 H2 z2 hw => by
    cases hv
    cases hw with
    | tup h1 a1 l1 =>
    have := a1.ints
    subst this
    refine ⟨_, _, rfl, .inr (SqT.of (z2.fh _ _ h1)), rfl, flat_ints, ?_⟩
    rw [inV_ints]
    exact q _ F2 H2 (z1.trans z2) (.bl _)
theorem ex_ninT {i : Int} {ns : List Int} (ha : EX K ta env (.int i)) (hb : EX K tb env (eT PyData.int ns)) : EX K (tOp (rIn K true) ta tb) env (.bool (!decide (i ∈ ns))) := fun F0 H0 F H σ E Q q =>
  ha E _ fun v F1 H1 z1 hv => hb (E.step z1) _ fun w F2 H2 z2 hw => by
    cases hv
    cases hw with
    | tup h1 a1 l1 =>
    have := a1.ints
    subst this
    refine ⟨_, _, rfl, .inr (SqT.of (z2.fh _ _ h1)), rfl, flat_ints, ?_⟩
    rw [inV_ints]
    exact q _ F2 H2 (z1.trans z2) (.bl _)
/-! ### the law's own end -/
def spLaw (K : Frag) : Sp := fun vs H Q _ => ∃ (a : Addr) (ns : List Int), vs = [.ref a] ∧ SqL K H a (ns.map V.int) ∧ ns.length ≤ 63 ∧ ∀ H', Q (.bl true) H'
theorem law_ok {P : Program} {w : World} {mg : Str → Option Value} {base : Heap} {x qual : Str} {params : Arguments} {body : List Stmt} {scope : Scope} {f : Addr} {fd : FuncData} {N : List Str} {x0 : Str} {k : Nat} {fm : List Int → Option Bool}
    (F : FunD K x qual params body scope [] [] f fd) (S : FnScope N [x0] scope)
    (hb : ∀ (cdv : Value) (A' : Around) (outer : List Env) (s : Shared) (H : Hp) (E : XK), Room k (A'.deeper (envOfC qual scope s.heap.objs.size f cdv)) →
      ∃ t, PSs (cxOf CX0 P w K mg base N qual scope f cdv A' outer s H E).nox body t ∧ ∀ ns, BX K t (.sc (ns.map PyData.int) :: List.replicate (N.length - 1) .un) (fun b : Bool => .rt (.sh (.bool b))) (fm ns))
    (ht : ∀ ns : List Int, ns.length ≤ 63 → fm ns = some true) : FnOk P w K mg base CX0 (k + 1) f fd [x0] (spLaw K) := by
  refine F.ok S (fun vs H Q E h => ?_) (fun cdv A' outer s H vs Q E hr h => ?_)
  · obtain ⟨a, ns, rfl, _⟩ := h
    rfl
  · obtain ⟨a, ns, rfl, hS, hl, q⟩ := h
    obtain ⟨t, p, b⟩ := hb cdv A' outer s H E hr
    refine ⟨t, PSs.nox p, b ns true (ht ns hl) (F0 := H) (H0 := H) (F := H) (H := H) _ (EnvOk.flat (Fz.refl (Evl.Ex.refl H)) ?_ fun i sl h => ?_) ?_⟩
    · show _ = _
      unfold L2.start
      simp only [List.length_append, List.length_map, List.length_cons, List.length_nil, List.length_replicate]
      omega
    · unfold L2.start
      cases i with
      | zero =>
        simp at h
        subst h
        refine ⟨_, rfl, ⟨a, _, rfl, hS, DqAll.ints' ns, ?_⟩, rfl⟩
        rw [List.length_map]
        exact Nat.le_trans hl (by decide)
      | succ i =>
        rw [List.getElem?_cons_succ] at h
        obtain ⟨h1, h2⟩ := List.getElem?_eq_some_iff.mp h
        rw [List.getElem_replicate] at h2
        subst h2
        rw [List.length_replicate] at h1
        refine ⟨none, ?_, trivial, rfl⟩
        show (some (V.ref a) :: List.replicate (N.length - 1) none)[i + 1]? = _
        rw [List.getElem?_cons_succ, List.getElem?_replicate, if_pos h1]
    · exact fun F1 H1 v z hv => by
        cases hv
        exact q H1
end
end Rb

set_option Elab.async false
set_option linter.all false
set_option maxRecDepth 100000
set_option maxHeartbeats 2000000
namespace Rb
open PySem PySem.Spec PyProof.Rows L2
/-! ### dicts of the frame's own -/
section
variable {κ β γ : Type} [DecidableEq κ]
def lookA (kvs : List (κ × β)) (k : κ) : Option β := (kvs.find? fun kv => decide (kv.1 = k)).map (·.2)
def putA (kvs : List (κ × β)) (k : κ) (v : β) : List (κ × β) := if (kvs.any fun kv => decide (kv.1 = k)) = true then kvs.map (fun kv => if kv.1 = k then (kv.1, v) else kv) else kvs ++ [(k, v)]
theorem lookA_nil {k : κ} : lookA ([] : List (κ × β)) k = none := rfl
theorem lookA_cons {p : κ × β} {r : List (κ × β)} {k : κ} : lookA (p :: r) k = if p.1 = k then some p.2 else lookA r k := by
  unfold lookA
  rw [List.find?_cons]
  by_cases c : p.1 = k
  · simp [c]
  · simp [c]
theorem putA_len {kvs : List (κ × β)} {k : κ} {v : β} : (putA kvs k v).length ≤ kvs.length + 1 := by
  unfold putA
  split
  · rw [List.length_map]; omega
  · rw [List.length_append]; simp
theorem KvOk.look {F : Hp} : ∀ {ws : List (κ × V)} {kvs : List (κ × PyData)} {k : κ} {d : PyData}, KvOk F ws kvs → lookA kvs k = some d → ∃ v, valV ws k = some v ∧ Dq F v d
  | [], [], k, d, _, h => by cases h
  | [], _ :: _, _, _, h, _ => by have := h.1; simp at this
  | _ :: _, [], _, _, h, _ => by have := h.1; simp at this
  | p :: ws, q :: kvs, k, d, h, hl => by
    obtain ⟨h1, h2⟩ := h
    rw [List.map_cons, List.map_cons] at h1 h2
    injection h1 with e1 e2
    cases h2 with
    | cons a b =>
      rw [lookA_cons] at hl
      by_cases c : q.1 = k
      · rw [if_pos c] at hl; cases hl
        exact ⟨p.2, valV_pos (e1.trans c), a⟩
      · rw [if_neg c] at hl
        obtain ⟨v, h3, h4⟩ := KvOk.look (ws := ws) (kvs := kvs) ⟨e2, b⟩ hl
        exact ⟨v, by rw [valV_neg (by rw [e1]; exact c)]; exact h3, h4⟩
theorem KvOk.none {F : Hp} : ∀ {ws : List (κ × V)} {kvs : List (κ × PyData)} {k : κ}, KvOk F ws kvs → lookA kvs k = none → valV ws k = none
  | [], [], k, _, h => rfl
  | [], _ :: _, _, h, _ => by have := h.1; simp at this
  | _ :: _, [], _, h, _ => by have := h.1; simp at this
  | p :: ws, q :: kvs, k, h, hl => by
    obtain ⟨h1, h2⟩ := h
    rw [List.map_cons, List.map_cons] at h1 h2
    injection h1 with e1 e2
    cases h2 with
    | cons a b =>
      rw [lookA_cons] at hl
      by_cases c : q.1 = k
      · rw [if_pos c] at hl; cases hl
      · rw [if_neg c] at hl
        rw [valV_neg (by rw [e1]; exact c)]
        exact KvOk.none (ws := ws) (kvs := kvs) ⟨e2, b⟩ hl
theorem any_keys : ∀ {ws : List (κ × V)} {kvs : List (κ × PyData)} {k : κ}, ws.map (·.1) = kvs.map (·.1) → (ws.any fun kv => decide (kv.1 = k)) = (kvs.any fun kv => decide (kv.1 = k))
  | [], [], k, _ => rfl
  | [], _ :: _, _, h => by simp at h
  | _ :: _, [], _, h => by simp at h
  | p :: ws, q :: kvs, k, h => by
    rw [List.map_cons, List.map_cons] at h
    injection h with e1 e2
    rw [List.any_cons, List.any_cons, any_keys e2, e1]
theorem map_put {F : Hp} {v : V} {d : PyData} (hv : Dq F v d) (k : κ) : ∀ {ws : List (κ × V)} {kvs : List (κ × PyData)}, KvOk F ws kvs → KvOk F (ws.map fun kv => if kv.1 = k then (kv.1, v) else kv) (kvs.map fun kv => if kv.1 = k then (kv.1, d) else kv)
  | [], [], h => h
  | [], _ :: _, h => by have := h.1; simp at this
  | _ :: _, [], h => by have := h.1; simp at this
  | p :: ws, q :: kvs, h => by
    obtain ⟨h1, h2⟩ := h
    rw [List.map_cons, List.map_cons] at h1 h2
    injection h1 with e1 e2
    cases h2 with
    | cons a b =>
      obtain ⟨i1, i2⟩ := map_put hv k (ws := ws) (kvs := kvs) ⟨e2, b⟩
      refine ⟨?_, ?_⟩
      · simp only [List.map_cons]
        rw [i1]
        congr 1
        by_cases c : q.1 = k
        · rw [if_pos c, if_pos (by rw [e1]; exact c)]; exact e1
        · rw [if_neg c, if_neg (by rw [e1]; exact c)]; exact e1
      · simp only [List.map_cons]
        refine .cons ?_ i2
        by_cases c : q.1 = k
        · rw [if_pos c, if_pos (by rw [e1]; exact c)]; exact hv
        · rw [if_neg c, if_neg (by rw [e1]; exact c)]; exact a
theorem KvOk.put {F : Hp} {ws : List (κ × V)} {kvs : List (κ × PyData)} {k : κ} {v : V} {d : PyData} (h : KvOk F ws kvs) (hv : Dq F v d) : KvOk F (putK ws k v) (putA kvs k d) := by
  unfold putK putA
  rw [any_keys h.1]
  split
  · exact map_put hv k h
  · refine ⟨?_, ?_⟩
    · rw [List.map_append, List.map_append, h.1]; rfl
    · rw [List.map_append, List.map_append]; exact h.2.app (.cons hv .nil)
theorem KvOk.len {F : Hp} {ws : List (κ × V)} {kvs : List (κ × PyData)} (h : KvOk F ws kvs) : ws.length = kvs.length := by
  have := congrArg List.length h.1
  rw [List.length_map, List.length_map] at this
  exact this
/-- keys and values by types -/
def kvE {α : Type} (kf : α → κ) (e : β → γ) (p : α × β) : κ × γ := (kf p.1, e p.2)
theorem lookA_map {α : Type} [DecidableEq α] {kf : α → κ} (inj : ∀ a b, kf a = kf b → a = b) {e : β → γ} {k : α} : ∀ {xs : List (α × β)}, lookA (xs.map (kvE kf e)) (kf k) = (lookA xs k).map e
  | [] => rfl
  | p :: xs => by
    rw [List.map_cons, lookA_cons, lookA_cons]
    show (if kf p.1 = kf k then some (e p.2) else _) = _
    by_cases c : p.1 = k
    · rw [if_pos c, if_pos (by rw [c])]; rfl
    · rw [if_neg c, if_neg fun z => c (inj _ _ z), lookA_map inj]
theorem any_map {α : Type} [DecidableEq α] {kf : α → κ} (inj : ∀ a b, kf a = kf b → a = b) {e : β → γ} {k : α} : ∀ {xs : List (α × β)}, ((xs.map (kvE kf e)).any fun kv => decide (kv.1 = kf k)) = (xs.any fun kv => decide (kv.1 = k))
  | [] => rfl
  | p :: xs => by
    rw [List.map_cons, List.any_cons, List.any_cons, any_map inj]
    congr 1
    show decide (kf p.1 = kf k) = _
    by_cases c : p.1 = k
    · simp [c]
    · have : ¬ kf p.1 = kf k := fun z => c (inj _ _ z)
      simp [c, this]
theorem putA_map {α : Type} [DecidableEq α] {kf : α → κ} (inj : ∀ a b, kf a = kf b → a = b) {e : β → γ} {k : α} {x : β} {xs : List (α × β)} : putA (xs.map (kvE kf e)) (kf k) (e x) = (putA xs k x).map (kvE kf e) := by
  unfold putA
  rw [any_map inj]
  split
  · rw [List.map_map, List.map_map]
    apply List.map_congr_left
    intro p hp
    show (if kf p.1 = kf k then (kf p.1, e x) else (kf p.1, e p.2)) = kvE kf e (if p.1 = k then (p.1, x) else p)
    by_cases c : p.1 = k
    · rw [if_pos c, if_pos (by rw [c])]; rfl
    · rw [if_neg c, if_neg fun z => c (inj _ _ z)]; rfl
  · rw [List.map_append]; rfl
end
theorem kD_V {F : Hp} {k : Key} {v : V} (h : Dq F v (kD k)) : v = kV k := by
  cases k with
  | inl i => cases h; rfl
  | inr s => cases h; rfl
theorem kD_all {F : Hp} : ∀ {ks : List Key} {vs : List V}, DqAll F vs (ks.map kD) → vs = ks.map kV
  | [], _, h => by cases h; rfl
  | k :: ks, _, h => by
    cases h with
    | cons a b => rw [List.map_cons, kD_V a, kD_all b]
abbrev kI (i : Int) : Key := .inl i
abbrev kS (s : Str) : Key := .inr s
abbrev kT (xs : List Int) : List Key := xs.map Sum.inl
abbrev kP (p : Str × Int) : List Key := [.inr p.1, .inl p.2]
abbrev kB (p : Int × Int) : List Key := [.inl p.1, .inl p.2]
theorem kI_inj (a b : Int) (h : kI a = kI b) : a = b := Sum.inl.inj h
theorem kS_inj (a b : Str) (h : kS a = kS b) : a = b := Sum.inr.inj h
theorem kT_inj : ∀ (a b : List Int) (h : kT a = kT b), a = b
  | [], [], _ => rfl
  | [], _ :: _, h => by cases h
  | _ :: _, [], h => by cases h
  | x :: a, y :: b, h => by
    have h' : Sum.inl x :: kT a = (Sum.inl y :: kT b : List Key) := h
    injection h' with h1 h2
    rw [Sum.inl.inj h1, kT_inj a b h2]
theorem kP_inj (a b : Str × Int) (h : kP a = kP b) : a = b := by
  obtain ⟨a1, a2⟩ := a
  obtain ⟨b1, b2⟩ := b
  have h' : [Sum.inr a1, Sum.inl a2] = ([Sum.inr b1, Sum.inl b2] : List Key) := h
  injection h' with h1 h2
  injection h2 with h3 _
  rw [Sum.inr.inj h1, Sum.inl.inj h3]
theorem kB_inj (a b : Int × Int) (h : kB a = kB b) : a = b := by
  obtain ⟨a1, a2⟩ := a
  obtain ⟨b1, b2⟩ := b
  have h' : [Sum.inl a1, Sum.inl a2] = ([Sum.inl b1, Sum.inl b2] : List Key) := h
  injection h' with h1 h2
  injection h2 with h3 _
  rw [Sum.inl.inj h1, Sum.inl.inj h3]
def put? {κ β : Type} [DecidableEq κ] (d : List (κ × β)) (k : κ) (v : β) : Option (List (κ × β)) := if d.length < lim then some (putA d k v) else none
theorem put_some {κ β : Type} [DecidableEq κ] {d d' : List (κ × β)} {k : κ} {v : β} (h : put? d k v = some d') : d.length < lim ∧ d' = putA d k v := by
  unfold put? at h
  by_cases c : d.length < lim
  · rw [if_pos c] at h; cases h; exact ⟨c, rfl⟩
  · rw [if_neg c] at h; cases h
section
variable {K : Frag} {env env' : List Sl} {d : PyData} {te ty ta tb tv : TE} {α β O : Type} [DecidableEq α] {tu : TS} {enc : O → Out} {m : Option O} {i : Nat} {e : β → PyData}
/-- a new dict -/
theorem bx_newK {kf : α → Key} (h : BX K tu (env.set i (.dk (([] : List (α × β)).map (kvE kf e)))) enc m) : BX K (tSeq (tAsg tDNewK (gName i)) tu) env enc m := fun o ho F0 H0 F H σ D E c p hp =>
  h o ho D (E.setO (Fz.add E.fh hp) i hp (s := .dk _) ⟨p, [], rfl, E.z.hn hp, Evl.fresh_back E.fh hp, upd_same, ⟨rfl, .nil⟩, Nat.zero_le _, fun p m => by cases m⟩) c
theorem bx_newT {kf : α → List Key} (h : BX K tu (env.set i (.dt (([] : List (α × β)).map (kvE kf e)))) enc m) : BX K (tSeq (tAsg tDNewT (gName i)) tu) env enc m := fun o ho F0 H0 F H σ D E c p hp =>
  h o ho D (E.setO (Fz.add E.fh hp) i hp (s := .dt _) ⟨p, [], rfl, E.z.hn hp, Evl.fresh_back E.fh hp, upd_same, ⟨rfl, .nil⟩, Nat.zero_le _, fun p m => by cases m⟩) c
/-- d[k], there -/
theorem ex_dgetK {kf : α → Key} (inj : ∀ a b, kf a = kf b → a = b) {xs : List (α × β)} {k : α} {x : β} (hi : env[i]? = some (.dk (xs.map (kvE kf e)))) (hk : EX K ty env (kD (kf k))) (hx : lookA xs k = some x) : EX K (tDGet (tVar i) ty) env (e x) := fun F0 H0 F H σ E Q q => by
  obtain ⟨o, h1, p, ws, h2, h3, h4, h5, h6, h7⟩ := E.sl i _ hi
  subst h2
  refine ⟨_, h1, hk E _ fun w F1 H1 z1 hw => ?_⟩
  obtain ⟨f1, hh1⟩ := z1.own p _ h5 h4
  have hl : lookA (xs.map (kvE kf e)) (kf k) = some (e x) := by rw [lookA_map inj, hx]; rfl
  obtain ⟨v, hv1, hv2⟩ := (h6.mono z1.f).look hl
  rw [kD_V hw]
  refine ⟨p, v, rfl, ?_, q v F1 H1 z1 hv2⟩
  rw [← hv1]
  exact DGet.k hh1
theorem ex_dgetT {kf : α → List Key} (inj : ∀ a b, kf a = kf b → a = b) {xs : List (α × β)} {k : α} {x : β} (hi : env[i]? = some (.dt (xs.map (kvE kf e)))) (hk : EX K ty env (.tuple ((kf k).map kD))) (hx : lookA xs k = some x) : EX K (tDGet (tVar i) ty) env (e x) := fun F0 H0 F H σ E Q q => by
  obtain ⟨o, h1, p, ws, h2, h3, h4, h5, h6, h7⟩ := E.sl i _ hi
  subst h2
  refine ⟨_, h1, hk E _ fun w F1 H1 z1 hw => ?_⟩
  obtain ⟨f1, hh1⟩ := z1.own p _ h5 h4
  have hl : lookA (xs.map (kvE kf e)) (kf k) = some (e x) := by rw [lookA_map inj, hx]; rfl
  obtain ⟨v, hv1, hv2⟩ := (h6.mono z1.f).look hl
  cases hw with
  | tup t1 t2 t3 =>
    rw [kD_all t2] at t1
    refine ⟨p, v, rfl, ?_, q v F1 H1 z1 hv2⟩
    rw [← hv1]
    exact DGet.t hh1 (z1.fh _ _ t1)
theorem look_isSome {κ : Type} [DecidableEq κ] {F : Hp} {ws : List (κ × V)} {kvs : List (κ × PyData)} {k : κ} (h : KvOk F ws kvs) : (valV ws k).isSome = (lookA kvs k).isSome := by
  cases q : lookA kvs k with
  | none => rw [h.none q]; rfl
  | some d =>
    obtain ⟨v, h1, _⟩ := h.look q
    rw [h1]; rfl
theorem ex_dinK {kf : α → Key} (inj : ∀ a b, kf a = kf b → a = b) {xs : List (α × β)} {k : α} (hi : env[i]? = some (.dk (xs.map (kvE kf e)))) (hk : EX K ty env (kD (kf k))) : EX K (tDIn ty (tVar i)) env (.bool (lookA xs k).isSome) := fun F0 H0 F H σ E Q q => by
  refine hk E _ fun w F1 H1 z1 hw => ?_
  obtain ⟨o, h1, p, ws, h2, h3, h4, h5, h6, h7⟩ := (E.step z1).sl i _ hi
  subst h2
  refine ⟨_, h1, p, _, rfl, by rw [kD_V hw]; exact DGet.k h5, ?_⟩
  have e1 : (valV ws (kf k)).isSome = (lookA xs k).isSome := by rw [look_isSome h6, lookA_map inj]; simp
  rw [e1]
  exact q _ F1 H1 z1 (.bl _)
theorem ex_dninK {kf : α → Key} (inj : ∀ a b, kf a = kf b → a = b) {xs : List (α × β)} {k : α} (hi : env[i]? = some (.dk (xs.map (kvE kf e)))) (hk : EX K ty env (kD (kf k))) : EX K (tDNotIn ty (tVar i)) env (.bool (!(lookA xs k).isSome)) := fun F0 H0 F H σ E Q q => by
  refine hk E _ fun w F1 H1 z1 hw => ?_
  obtain ⟨o, h1, p, ws, h2, h3, h4, h5, h6, h7⟩ := (E.step z1).sl i _ hi
  subst h2
  refine ⟨_, h1, p, _, rfl, by rw [kD_V hw]; exact DGet.k h5, ?_⟩
  have e1 : (valV ws (kf k)).isSome = (lookA xs k).isSome := by rw [look_isSome h6, lookA_map inj]; simp
  rw [e1]
  exact q _ F1 H1 z1 (.bl _)
theorem ex_dinT {kf : α → List Key} (inj : ∀ a b, kf a = kf b → a = b) {xs : List (α × β)} {k : α} (hi : env[i]? = some (.dt (xs.map (kvE kf e)))) (hk : EX K ty env (.tuple ((kf k).map kD))) : EX K (tDIn ty (tVar i)) env (.bool (lookA xs k).isSome) := fun F0 H0 F H σ E Q q => by
  refine hk E _ fun w F1 H1 z1 hw => ?_
  obtain ⟨o, h1, p, ws, h2, h3, h4, h5, h6, h7⟩ := (E.step z1).sl i _ hi
  subst h2
  cases hw with
  | tup t1 t2 t3 =>
    rw [kD_all t2] at t1
    refine ⟨_, h1, p, _, rfl, DGet.t h5 (z1.fh _ _ t1), ?_⟩
    have e1 : (valV ws (kf k)).isSome = (lookA xs k).isSome := by rw [look_isSome h6, lookA_map inj]; simp
    rw [e1]
    exact q _ F1 H1 z1 (.bl _)
/-- d[k] = v -/
theorem kOk_of {F : Hp} {k : Key} {v : V} (h : Dq F v (kD k)) : kOk k := by
  cases k with
  | inl i => trivial
  | inr s => cases h with | str _ l => exact l
theorem putA_ok {κ β : Type} [DecidableEq κ] {P : κ → Prop} {kvs : List (κ × β)} {k : κ} {v : β} (h : ∀ p, p ∈ kvs → P p.1) (hk : P k) : ∀ p, p ∈ putA kvs k v → P p.1 := fun p hp => by
  unfold putA at hp
  split at hp
  · obtain ⟨q, hq, e⟩ := List.mem_map.mp hp
    subst e
    split
    · exact h q hq
    · exact h q hq
  · rcases List.mem_append.mp hp with z | z
    · exact h p z
    · rw [List.mem_singleton.mp z]; exact hk
theorem bx_dputK {kf : α → Key} (inj : ∀ a b, kf a = kf b → a = b) {xs ys : List (α × β)} {k : α} {x : β} (hi : env[i]? = some (.dk (xs.map (kvE kf e)))) (hv : EX K tv env (e x)) (hk : EX K ty env (kD (kf k))) (hy : put? xs k x = some ys)
    (h : BX K tu (env.set i (.dk (ys.map (kvE kf e)))) enc m) : BX K (tSeq (sDPut (tVar i) ty tv) tu) env enc m := fun o ho F0 H0 F H σ D E c => by
  refine hv E _ fun v F1 H1 z1 hv1 => ?_
  have E1 := E.step z1
  obtain ⟨o1, h1, p, ws, h2, h3, h4, h5, h6, h7⟩ := E1.sl i _ hi
  subst h2
  refine ⟨_, h1, hk E1 _ fun w F2 H2 z2 hw => ?_⟩
  obtain ⟨f2, hh2⟩ := z2.own p _ h5 h4
  obtain ⟨hl, rfl⟩ := put_some hy
  have h6' := (h6.mono z2.f).put (k := kf k) (Dq.mono z2.f _ _ hv1)
  have ln : ws.length < lim := by rw [h6.len, List.length_map]; exact hl
  have ok := kOk_of hw
  rw [kD_V hw]
  refine ⟨p, _, rfl, DPut.k hh2 (lim_lt ln), h o ho D ((E1.step z2).mut hi rfl h1 (t := .dk _) ⟨p, _, rfl, h3, f2, upd_same, ?_, ?_⟩ rfl) c⟩
  · rw [← putA_map inj]; exact h6'
  · refine ⟨by rw [List.length_map]; exact Nat.le_trans putA_len hl, fun q hq => ?_⟩
    rw [← putA_map inj] at hq
    exact putA_ok h7.2 ok q hq
theorem bx_dputT {kf : α → List Key} (inj : ∀ a b, kf a = kf b → a = b) {xs ys : List (α × β)} {k : α} {x : β} (hi : env[i]? = some (.dt (xs.map (kvE kf e)))) (hv : EX K tv env (e x)) (hk : EX K ty env (.tuple ((kf k).map kD))) (hy : put? xs k x = some ys)
    (h : BX K tu (env.set i (.dt (ys.map (kvE kf e)))) enc m) : BX K (tSeq (sDPut (tVar i) ty tv) tu) env enc m := fun o ho F0 H0 F H σ D E c => by
  refine hv E _ fun v F1 H1 z1 hv1 => ?_
  have E1 := E.step z1
  obtain ⟨o1, h1, p, ws, h2, h3, h4, h5, h6, h7⟩ := E1.sl i _ hi
  subst h2
  refine ⟨_, h1, hk E1 _ fun w F2 H2 z2 hw => ?_⟩
  obtain ⟨f2, hh2⟩ := z2.own p _ h5 h4
  obtain ⟨hl, rfl⟩ := put_some hy
  have h6' := (h6.mono z2.f).put (k := kf k) (Dq.mono z2.f _ _ hv1)
  have ln : ws.length < lim := by rw [h6.len, List.length_map]; exact hl
  cases hw with
  | tup t1 t2 t3 =>
    rw [kD_all t2] at t1
    refine ⟨p, _, rfl, DPut.t hh2 (z2.fh _ _ t1) (lim_lt ln), h o ho D ((E1.step z2).mut hi rfl h1 (t := .dt _) ⟨p, _, rfl, h3, f2, upd_same, ?_, ?_⟩ rfl) c⟩
    · rw [← putA_map inj]; exact h6'
    · refine ⟨by rw [List.length_map]; exact Nat.le_trans putA_len hl, fun q hq => ?_⟩
      rw [← putA_map inj] at hq
      exact putA_ok (P := fun k => k.length ≤ lim) h7.2 (by rw [List.length_map] at t3; exact t3) q hq
end
end Rb

set_option Elab.async false
set_option linter.all false
set_option maxRecDepth 100000
set_option maxHeartbeats 2000000
namespace Rb
open PySem PySem.Spec PyProof.Rows L2
/-! ### enumerate(tuple), enumerate(text) -/
def IteT (K : Frag) (a : Addr) : It :=
  ⟨fun i H => ∃ (xs : List V) (x : V), SqT K H a xs ∧ xs[i]? = some x, fun i H v H' => ∃ T x, v = .ref T ∧ H T = none ∧ H' = upd H T (.tup [.int (i : Nat), x]) ∧ ∀ xs, SqT K H a xs → xs[i]? = some x, fun i H => ∃ xs : List V, SqT K H a xs ∧ xs.length = i⟩
def IteS (x : Str) : It := ⟨fun i _ => i < x.cps.size, fun i H v H' => ∃ T c, v = .ref T ∧ H T = none ∧ H' = upd H T (.tup [.int (i : Nat), .str ⟨#[c]⟩]) ∧ x.cps[i]? = some c, fun i _ => i = x.cps.size⟩
theorem turn_enumT {P : Program} {w : World} {K : Frag} {elts : List Expr} {kk : Nat} {tpos : Pos} (a e it : Addr) :
    Turn P w K (.Tuple elts kk tpos) (IteT K a) [e, it] e (fun i h => (∃ old, IsEnum h e it ((i : Nat) : Int) old) ∧ h.IsTupleIter it a i ∧ e ≠ it ∧ a ≠ it ∧ a ≠ e) where
  mem := by simp
  obj := fun i h st b hb => by
    obtain ⟨⟨old, he⟩, ⟨o, ho, hc, hd⟩, _⟩ := st
    have e' : b = e ∨ b = it := by simpa using hb
    rcases e' with z | z
    · rw [z]; exact ⟨_, he, fun v q => nomatch q⟩
    · rw [z]; exact ⟨o, ho, fun v q => by rw [hd] at q; cases q⟩
  keep := fun i h h' st k => let ⟨⟨old, he⟩, hi, hne⟩ := st; ⟨⟨old, k e (by simp) _ he⟩, hi.at fun o q => k it (by simp) o q, hne⟩
  item := by
    intro X hP hw hK hc i pins s σ H E I hf st hg
    subst hP hw hK
    obtain ⟨⟨old, he⟩, hit, hne, na, nb⟩ := st
    obtain ⟨xs, x, hq, hx⟩ := hg
    obtain ⟨its, rv, p, hz⟩ := I.tuple hq
    obtain ⟨u, hu, ru⟩ := rv.get hx
    have p' : s.heap.IsTuple a its.toArray := p
    have hel : e < s.heap.objs.size := Heap.lt_size he
    have hil : it < s.heap.objs.size := by obtain ⟨_, q, _⟩ := hit; exact Heap.lt_size q
    have D := Draws.tuple (prog := X.prog) (w := X.w) (A := X.A.in1) (I.ok.hd hc) it a na its.toArray
    refine wpAny_pyNext_enum_itemD (n := its.toArray.size) D he (i := i) ⟨hit, p'⟩ (by have := (List.getElem?_eq_some_iff.mp hu).1; simpa using this) hne (by simp; exact ⟨hne, fun z => nb z.symm⟩) fun y h' tk hy ho hit' hT hsz hk => ?_
    have hyu : y = u := by
      have h1 : its.toArray[i]? = some y := hy
      have h2 : its.toArray[i]? = some u := by simpa using hu
      rw [h1] at h2; exact Option.some.inj h2
    subst hyu
    refine ⟨_, rfl, wpAny_letOwnedTupleGo_enum (s := { s with heap := h', toks := tk + 1 }) ho fun h'' he' sb => ?_⟩
    have hT2 : h''.get? s.heap.objs.size = some { cls := .type "tuple", data := .seq #[.int i tk, y] } := (sb.2 _ (Nat.ne_of_gt hel)).trans hT
    have new : ObjOk X.prog X.w (upd H s.heap.objs.size (.tup [.int (i : Nat), x])) h'' s.heap.objs.size (.tup [.int (i : Nat), x]) :=
      ⟨by show 2 ≤ sizeLine; decide, [.int i tk, y], .cons ⟨_, rfl⟩ (.cons ru .nil), ⟨_, hT2, rfl, _, rfl⟩⟩
    have I1 : Inv X pins σ (upd H s.heap.objs.size (.tup [.int (i : Nat), x])) { s with heap := h'', toks := tk + 1 } :=
      I.turnedNew (ch := [e, it]) (fun b ob hb q => (sb.2 b (fun z => hb (by simp [z]))).trans (hk b ob (fun z => hb (by simp [z])) (fun z => hb (by simp [z])) q)) hf (Nat.le_refl _) new
    refine ⟨.ref s.heap.objs.size, _, I1, rfl, ⟨_, x, rfl, I.hok.fresh (Nat.le_refl _), rfl, fun ys hy => by rw [I.tuple_inj hy hq]; exact hx⟩, ⟨⟨y, ?_⟩, hit'.1.at fun o q => (sb.2 it (Ne.symm hne)).trans q, hne, na, nb⟩, fun b hb => ?_⟩
    · have e1 : ((i + 1 : Nat) : Int) = (i : Int) + 1 := by omega
      rw [e1]; exact he'
    · have hb' : b < s.heap.objs.size := by
        have e' : b = e ∨ b = it := by simpa using hb
        rcases e' with z | z
        · rw [z]; exact hel
        · rw [z]; exact hil
      rw [upd_ne (Nat.ne_of_lt hb')]
      exact (hf b hb).1
  done := by
    intro X hP hw hK hc i pins s σ H E I hf st hg
    subst hP hw hK
    obtain ⟨⟨old, he⟩, hit, hne, na, nb⟩ := st
    obtain ⟨xs, hq, hx⟩ := hg
    obtain ⟨its, rv, p, hz⟩ := I.tuple hq
    have p' : s.heap.IsTuple a its.toArray := p
    obtain ⟨f0, f1, f2, f3, f4, f5⟩ := hf it (by simp)
    have hl := rv.length
    have D := Draws.tuple (prog := X.prog) (w := X.w) (A := X.A.in1) (I.ok.hd hc) it a na its.toArray
    have hi : its.toArray.size = i := by simp; omega
    exact wpAny_pyNext_enum_endD (n := its.toArray.size) D he ⟨by rw [hi]; exact hit, p'⟩ fun h' eb => ⟨rfl, I.turned (t' := s.toks) (fun b o hb q => eb b o hb q) f0 f1 f3 f4 f5⟩
  self := fun A i s Q E st h => let ⟨⟨_, he⟩, _⟩ := st; wpAny_pyIter_enum he h
theorem turn_enumS {P : Program} {w : World} {K : Frag} {elts : List Expr} {kk : Nat} {tpos : Pos} (x : Str) (t : Tok) (e it : Addr) :
    Turn P w K (.Tuple elts kk tpos) (IteS x) [e, it] e (fun i h => (∃ old, IsEnum h e it ((i : Nat) : Int) old) ∧ h.IsStrIter it (strIterType x) x t i ∧ e ≠ it) where
  mem := by simp
  obj := fun i h st b hb => by
    obtain ⟨⟨old, he⟩, ⟨o, ho, hc, hd⟩, _⟩ := st
    have e' : b = e ∨ b = it := by simpa using hb
    rcases e' with z | z
    · rw [z]; exact ⟨_, he, fun v q => nomatch q⟩
    · rw [z]; exact ⟨o, ho, fun v q => by rw [hd] at q; cases q⟩
  keep := fun i h h' st k => let ⟨⟨old, he⟩, ⟨o, ho, r⟩, hne⟩ := st; ⟨⟨old, k e (by simp) _ he⟩, ⟨o, k it (by simp) o ho, r⟩, hne⟩
  item := by
    intro X hP hw hK hc i pins s σ H E I hf st hg
    subst hP hw hK
    obtain ⟨⟨old, he⟩, hit, hne⟩ := st
    have hel : e < s.heap.objs.size := Heap.lt_size he
    have hil : it < s.heap.objs.size := by obtain ⟨_, q, _⟩ := hit; exact Heap.lt_size q
    have D := Draws.text (prog := X.prog) (w := X.w) (A := X.A.in1) (I.ok.hd hc) it x t
    refine wpAny_pyNext_enum_itemD (n := x.cps.size) D he (i := i) hit hg hne (by simp; exact hne) fun y h' tk hy ho hit' hT hsz hk => ?_
    obtain ⟨c, u, hcx, rfl⟩ := hy
    refine ⟨_, rfl, wpAny_letOwnedTupleGo_enum (s := { s with heap := h', toks := tk + 1 }) ho fun h'' he' sb => ?_⟩
    have hT2 := (sb.2 _ (Nat.ne_of_gt hel)).trans hT
    have new : ObjOk X.prog X.w (upd H s.heap.objs.size (.tup [.int (i : Nat), .str ⟨#[c]⟩])) h'' s.heap.objs.size (.tup [.int (i : Nat), .str ⟨#[c]⟩]) :=
      ⟨by show 2 ≤ sizeLine; decide, _, .cons ⟨_, rfl⟩ (.cons ⟨_, rfl⟩ .nil), ⟨_, hT2, rfl, _, rfl⟩⟩
    have I1 : Inv X pins σ (upd H s.heap.objs.size (.tup [.int (i : Nat), .str ⟨#[c]⟩])) { s with heap := h'', toks := tk + 1 } :=
      I.turnedNew (ch := [e, it]) (fun b ob hb q => (sb.2 b (fun z => hb (by simp [z]))).trans (hk b ob (fun z => hb (by simp [z])) (fun z => hb (by simp [z])) q)) hf (Nat.le_refl _) new
    obtain ⟨oi, hoi, ri⟩ := hit'
    refine ⟨.ref s.heap.objs.size, _, I1, rfl, ⟨_, c, rfl, I.hok.fresh (Nat.le_refl _), rfl, hcx⟩, ⟨⟨.str ⟨#[c]⟩ u, ?_⟩, ⟨oi, (sb.2 it (Ne.symm hne)).trans hoi, ri⟩, hne⟩, fun b hb => ?_⟩
    · have e1 : ((i + 1 : Nat) : Int) = (i : Int) + 1 := by omega
      rw [e1]; exact he'
    · have hb' : b < s.heap.objs.size := by
        have e' : b = e ∨ b = it := by simpa using hb
        rcases e' with z | z
        · rw [z]; exact hel
        · rw [z]; exact hil
      rw [upd_ne (Nat.ne_of_lt hb')]
      exact (hf b hb).1
  done := by
    intro X hP hw hK hc i pins s σ H E I hf st hg
    subst hP hw hK
    obtain ⟨⟨old, he⟩, hit, hne⟩ := st
    obtain ⟨f0, f1, f2, f3, f4, f5⟩ := hf it (by simp)
    have D := Draws.text (prog := X.prog) (w := X.w) (A := X.A.in1) (I.ok.hd hc) it x t
    have hg' : i = x.cps.size := hg
    exact wpAny_pyNext_enum_endD (n := x.cps.size) D he (by rw [← hg']; exact hit) fun h' eb => ⟨rfl, I.turned (t' := s.toks) (fun b o hb q => eb b o hb q) f0 f1 f3 f4 f5⟩
  self := fun A i s Q E st h => let ⟨⟨_, he⟩, _⟩ := st; wpAny_pyIter_enum he h
set_option maxHeartbeats 1000000 in
theorem meets_enumerate_newB1 {v : Value} {o : Obj} {H : Heap → Prop} (B : Begins v o H) :
    Meets (Builtin.«enumerate.__new__» ⟨[.type "enumerate", v], []⟩) (fun _ R s => H s.heap ∧
      R (.ok (.ret (.ref (s.heap.push o).objs.size))) { s with heap := (s.heap.push o).push { cls := .type "enumerate", data := .fields #[.none, .bool false, .ref s.heap.objs.size, rawInt 0, .none, .none] } }) :=
  .of_wp fun prog w A R s h => by
    obtain ⟨hp, g, d, tk, os⟩ := s; obtain ⟨h1, h⟩ := h
    have hsub := sub_enumerate
    have q1 : ∀ {A' : Around} {E : Value → Shared → Prop} {Q : Value → Shared → Prop}, Q (.ref hp.objs.size) ⟨hp.push o, g, d, tk, os⟩ → wpAny (model prog w) A' (pyIter v) Q E ⟨hp, g, d, tk, os⟩ :=
      fun q => B.iter prog w _ _ ⟨hp, g, d, tk, os⟩ _ h1 q
    wp_walk using q1
    refine wpAny_stack_any fun st => wpAny_pure ?_
    split
    · rename_i c _ _ _ _ _
      cases (c == Value.type "enumerate")
      · wp_walk using q1
        exact ⟨_, rfl, h⟩
      · wp_walk using q1
        exact ⟨_, rfl, h⟩
    · wp_walk using q1
      exact ⟨_, rfl, h⟩
theorem enum_begins1 {prog : Program} {w : World} {A : Around} {E : Value → Shared → Prop} {s : Shared} {v : Value} {o : Obj} {H : Heap → Prop} {Q : Value → Shared → Prop} (B : Begins v o H) (h1 : H s.heap)
    (h : ∀ h', IsEnum h' (s.heap.objs.size + 1) s.heap.objs.size 0 .none → h'.get? s.heap.objs.size = some o → h'.objs.size = s.heap.objs.size + 2 →
      (∀ b o, s.heap.get? b = some o → h'.get? b = some o) → Q (.ref (s.heap.objs.size + 1)) { s with heap := h' }) :
    wpAny (model prog w) A (call (.type "enumerate") [v]) Q E s := by
  refine callType_new F.called_enumerate (by decide) (F.typeCall_enumerate_1 _) (F.newCall_enumerate_1 _) (fun obj => F.args_object_init_2 obj _) F.entry_enumerate_new
    (meets_enumerate_newB1 B) ⟨h1, ?_⟩
  have hz : (s.heap.push o).objs.size = s.heap.objs.size + 1 := Heap.size_push ..
  show _ ∧ _
  rw [hz]
  have he : IsEnum ((s.heap.push o).push { cls := .type "enumerate", data := .fields #[.none, .bool false, .ref s.heap.objs.size, rawInt 0, .none, .none] }) (s.heap.objs.size + 1) s.heap.objs.size 0 .none := by
    have := Heap.get?_push_size (s.heap.push o) (o := { cls := .type "enumerate", data := .fields #[.none, .bool false, .ref s.heap.objs.size, rawInt 0, .none, .none] }) rfl
    rw [hz] at this; exact this
  refine ⟨⟨_, he, rfl⟩, h _ he (Heap.get?_push_of_some _ (Heap.get?_push_size _ B.free)) (by rw [Heap.size_push, hz]) fun b o x => Heap.get?_push_of_some _ (Heap.get?_push_of_some _ x)⟩
def iEnumT (K : Frag) (ta : TA) : TI := fun σ H R => ta σ H fun vs H1 => ∃ a xs, vs = [.ref a] ∧ SqT K H1 a xs ∧ R (IteT K a) H1
def iEnumS (ta : TA) : TI := fun σ H R => ta σ H fun vs H1 => ∃ x, vs = [.str x] ∧ R (IteS x) H1
section
variable {X : Cx} {K : Frag} {e : Expr} {ta : TA} {p pos tpos : Pos} {elts : List Expr} {kk : Nat}
theorem pi_enumT' (hg : Gl X "enumerate") (hm : X.mg "enumerate" = none) (ha : PA X [e] ta) (hs : starEach [e] X.env = [(false, eval e X.env)] := by rfl) :
    PI X (.Tuple elts kk tpos) (.Call (.Name "enumerate" p) [e] [] pos) (iEnumT X.K ta) := by
  refine ⟨fun pins s σ H R I h => ?_⟩
  refine Call_ (ld_blt I hg hm boot_enumerate (PyProof.Rows.callWith_type1 (thn (ha.run pos pins s σ H _ I h) fun us s1 ⟨vs, H1, I1, r1, q1⟩ => ?_) hs rfl))
  obtain ⟨a, xs, ex, hq, q⟩ := q1
  subst ex
  cases r1 with
  | cons r rr =>
    cases rr
    cases r
    obtain ⟨its, rv, p', hz⟩ := I1.tuple hq
    have p2 : s1.heap.IsTuple a its.toArray := p'
    refine enum_begins1 (begins_tuple a its.toArray) p2 fun h' he hit hsz hk => wpAny_pyIter_enum he ?_
    have I2 : Inv X pins σ H1 { s1 with heap := h' } := I1.kept (t' := s1.toks) hk
    have hal : a < s1.heap.objs.size := p'.lt
    refine ⟨s1.heap.objs.size + 1, [s1.heap.objs.size + 1, s1.heap.objs.size], _, _, H1, rfl, I2, turn_enumT a (s1.heap.objs.size + 1) s1.heap.objs.size, ⟨⟨.none, he⟩, ⟨_, hit, rfl, rfl⟩, Nat.succ_ne_self _, Nat.ne_of_lt hal, Nat.ne_of_lt (Nat.lt_succ_of_lt hal)⟩, fun b hb => ?_, q⟩
    have e' : b = s1.heap.objs.size + 1 ∨ b = s1.heap.objs.size := by simpa using hb
    have hle : s1.heap.objs.size ≤ b := by
      rcases e' with z | z
      · rw [z]; exact Nat.le_add_right _ _
      · rw [z]; exact Nat.le_refl _
    exact I1.fpOk hle (I1.hok.fresh hle)
theorem pi_enumT (hg : Gl X "enumerate") (hm : X.mg "enumerate" = none) (ha : PA X [e] ta) (hs : starEach [e] X.env = [(false, eval e X.env)] := by rfl) (h : X.K = K := by rfl) :
    PI X (.Tuple elts kk tpos) (.Call (.Name "enumerate" p) [e] [] pos) (iEnumT K ta) := by subst h; exact pi_enumT' hg hm ha hs
theorem pi_enumS (hg : Gl X "enumerate") (hm : X.mg "enumerate" = none) (ha : PA X [e] ta) (hs : starEach [e] X.env = [(false, eval e X.env)] := by rfl) :
    PI X (.Tuple elts kk tpos) (.Call (.Name "enumerate" p) [e] [] pos) (iEnumS ta) := by
  refine ⟨fun pins s σ H R I h => ?_⟩
  refine Call_ (ld_blt I hg hm boot_enumerate (PyProof.Rows.callWith_type1 (thn (ha.run pos pins s σ H _ I h) fun us s1 ⟨vs, H1, I1, r1, q1⟩ => ?_) hs rfl))
  obtain ⟨x, ex, q⟩ := q1
  subst ex
  cases r1 with
  | cons r rr =>
    cases rr
    obtain ⟨t, rfl⟩ := r
    refine enum_begins1 (begins_text x t) trivial fun h' he hit hsz hk => wpAny_pyIter_enum he ?_
    have I2 : Inv X pins σ H1 { s1 with heap := h' } := I1.kept (t' := s1.toks) hk
    refine ⟨s1.heap.objs.size + 1, [s1.heap.objs.size + 1, s1.heap.objs.size], _, _, H1, rfl, I2, turn_enumS x t (s1.heap.objs.size + 1) s1.heap.objs.size, ⟨⟨.none, he⟩, ⟨_, hit, rfl, rfl⟩, Nat.succ_ne_self _⟩, fun b hb => ?_, q⟩
    have e' : b = s1.heap.objs.size + 1 ∨ b = s1.heap.objs.size := by simpa using hb
    have hle : s1.heap.objs.size ≤ b := by
      rcases e' with z | z
      · rw [z]; exact Nat.le_add_right _ _
      · rw [z]; exact Nat.le_refl _
    exact I1.fpOk hle (I1.hok.fresh hle)
end
/-! ### the items with their places -/
section
variable {K : Frag} {env : List Sl} {ta tb tl te tc : TE} {α β : Type} {e : α → PyData} {f : β → PyData}
def enumF : Int → List α → List (Int × α)
  | _, [] => []
  | i, x :: xs => (i, x) :: enumF (i + 1) xs
def enumI (xs : List α) : List (Int × α) := enumF 0 xs
theorem enumF_len : ∀ (i : Int) (xs : List α), (enumF i xs).length = xs.length
  | _, [] => rfl
  | i, x :: xs => by unfold enumF; rw [List.length_cons, List.length_cons, enumF_len]
theorem enumF_get : ∀ (i : Int) (xs : List α) (j : Nat), (enumF i xs)[j]? = xs[j]?.map fun x => (i + j, x)
  | _, [], j => by simp [enumF]
  | i, x :: xs, 0 => by simp [enumF]
  | i, x :: xs, j + 1 => by
    unfold enumF
    rw [List.getElem?_cons_succ, List.getElem?_cons_succ, enumF_get]
    congr 1
    funext y
    have : i + 1 + (j : Int) = i + ((j + 1 : Nat) : Int) := by omega
    rw [this]
theorem enumI_get (xs : List α) (j : Nat) : (enumI xs)[j]? = xs[j]?.map fun x => ((j : Int), x) := by
  unfold enumI
  rw [enumF_get]
  congr 1
  funext y
  rw [Int.zero_add]
theorem pair_ok {F H : Hp} {T : Addr} {x : V} {d d1 : PyData} {y : V} (e : Ex F H) (hT : H T = none) (hx : Dq F x d) (hy : Dq F y d1) : Fz F H (upd F T (.tup [y, x])) (upd H T (.tup [y, x])) ∧ Dq (upd F T (.tup [y, x])) (.ref T) (.tuple [d1, d]) := by
  have hF : F T = none := Evl.fresh_back e hT
  refine ⟨Fz.new e hT, .tup upd_same (.cons (Dq.mono (Evl.Ex.new hF) _ _ hy) (.cons (Dq.mono (Evl.Ex.new hF) _ _ hx) .nil)) (by show 2 ≤ lim; decide)⟩
theorem iteL {a : Addr} {vs : List V} {ds : List α} {P : Hp → Hp → Prop} (hP : ∀ F H, P F H → Ex F H → H a = some (.lst vs) ∧ DqAll F vs (ds.map e)) : IterP (Ite K a) P ((enumI ds).map (eP PyData.int e)) := by
  refine ⟨fun F H i d p ex hd => ?_, fun F H p ex => ?_⟩
  · obtain ⟨h1, h2⟩ := hP F H p ex
    rw [List.getElem?_map, enumI_get] at hd
    obtain ⟨q, hq, rfl⟩ := Option.map_eq_some_iff.mp hd
    obtain ⟨x, hx, rfl⟩ := Option.map_eq_some_iff.mp hq
    obtain ⟨v, hv, dv⟩ := h2.get (i := i) (d := e x) (by rw [List.getElem?_map, hx]; rfl)
    refine ⟨⟨vs, v, SqL.of h1, hv⟩, fun y H' yy => ?_⟩
    obtain ⟨T, x', rfl, hT, rfl, hx'⟩ := yy
    have e1 := (hx' vs (SqL.of h1)).symm.trans hv
    cases e1
    exact ⟨_, (pair_ok ex hT dv (.int _)).1, (pair_ok ex hT dv (.int _)).2⟩
  · obtain ⟨h1, h2⟩ := hP F H p ex
    refine ⟨vs, SqL.of h1, ?_⟩
    rw [List.length_map]
    unfold enumI
    rw [enumF_len, h2.len, List.length_map]
    exact Nat.le_refl _
theorem iteT {a : Addr} {vs : List V} {ds : List α} {P : Hp → Hp → Prop} (hP : ∀ F H, P F H → Ex F H → H a = some (.tup vs) ∧ DqAll F vs (ds.map e)) : IterP (IteT K a) P ((enumI ds).map (eP PyData.int e)) := by
  refine ⟨fun F H i d p ex hd => ?_, fun F H p ex => ?_⟩
  · obtain ⟨h1, h2⟩ := hP F H p ex
    rw [List.getElem?_map, enumI_get] at hd
    obtain ⟨q, hq, rfl⟩ := Option.map_eq_some_iff.mp hd
    obtain ⟨x, hx, rfl⟩ := Option.map_eq_some_iff.mp hq
    obtain ⟨v, hv, dv⟩ := h2.get (i := i) (d := e x) (by rw [List.getElem?_map, hx]; rfl)
    refine ⟨⟨vs, v, SqT.of h1, hv⟩, fun y H' yy => ?_⟩
    obtain ⟨T, x', rfl, hT, rfl, hx'⟩ := yy
    have e1 := (hx' vs (SqT.of h1)).symm.trans hv
    cases e1
    exact ⟨_, (pair_ok ex hT dv (.int _)).1, (pair_ok ex hT dv (.int _)).2⟩
  · obtain ⟨h1, h2⟩ := hP F H p ex
    refine ⟨vs, SqT.of h1, ?_⟩
    rw [List.length_map]
    unfold enumI
    rw [enumF_len, h2.len, List.length_map]
theorem enum_lim {xs : List α} (h : (xs.map e).length ≤ lim) : ((enumI xs).map (eP PyData.int e)).length ≤ lim := by
  rw [List.length_map] at h ⊢
  unfold enumI
  rw [enumF_len]
  exact h
theorem eis_enumL {xs : List α} (h : EX K tl env (eL e xs)) : EIs K (iEnum K (tCons tl tNil)) env ((enumI xs).map (eP PyData.int e)) := fun F0 H0 F H σ E R r => h E _ fun v F' H' z hv => by
  cases hv with
  | lst h1 h2 h3 => exact ⟨_, _, rfl, SqL.of (z.fh _ _ h1), r _ F' H' z (enum_lim h3) (iteL fun F1 H1 p ex => ⟨ex _ _ (p _ _ h1), DqAll.mono p _ _ h2⟩)⟩
theorem ei_enumL {xs : List α} (h : EXl K tl env (xs.map e)) : EI K (iEnum K (tCons tl tNil)) env ((enumI xs).map (eP PyData.int e)) := fun F0 H0 F H σ E R r => h E _ fun p vs F' H' z h1 h2 h3 =>
  ⟨p, vs, rfl, SqL.of h1, r _ F' H' z (enum_lim h3) (iteL fun F1 H1 q ex => ⟨q.hh z.fh _ _ h1, DqAll.mono q.f _ _ h2⟩)⟩
theorem eis_enumT {xs : List α} (h : EX K tl env (eT e xs)) : EIs K (iEnumT K (tCons tl tNil)) env ((enumI xs).map (eP PyData.int e)) := fun F0 H0 F H σ E R r => h E _ fun v F' H' z hv => by
  cases hv with
  | tup h1 h2 h3 => exact ⟨_, _, rfl, SqT.of (z.fh _ _ h1), r _ F' H' z (enum_lim h3) (iteT fun F1 H1 p ex => ⟨ex _ _ (p _ _ h1), DqAll.mono p _ _ h2⟩)⟩
/-- the signs of a text -/
def chrs (x : Str) : List Str := x.cps.toList.map fun c => ⟨#[c]⟩
theorem chrs_len (x : Str) : (chrs x).length = x.length := by unfold chrs; rw [List.length_map, Array.length_toList]; rfl
theorem chrs_get {x : Str} {i : Nat} {s : Str} (h : (chrs x)[i]? = some s) : ∃ c, x.cps[i]? = some c ∧ s = ⟨#[c]⟩ := by
  unfold chrs at h
  rw [List.getElem?_map, Array.getElem?_toList] at h
  obtain ⟨c, h1, h2⟩ := Option.map_eq_some_iff.mp h
  exact ⟨c, h1, h2.symm⟩
theorem eis_enumS {x : Str} (h : EX K tl env (.str x)) : EIs K (iEnumS (tCons tl tNil)) env ((enumI (chrs x)).map (eP PyData.int PyData.str)) := fun F0 H0 F H σ E R r => h E _ fun v F' H' z hv => by
  cases hv with
  | str _ l =>
    refine ⟨x, rfl, r _ F' H' z (enum_lim (by rw [List.length_map, chrs_len]; exact l)) ⟨fun F1 H1 i d p ex hd => ?_, fun F1 H1 p ex => ?_⟩⟩
    · rw [List.getElem?_map, enumI_get] at hd
      obtain ⟨q, hq, rfl⟩ := Option.map_eq_some_iff.mp hd
      obtain ⟨s, hs, rfl⟩ := Option.map_eq_some_iff.mp hq
      obtain ⟨c, hc, rfl⟩ := chrs_get hs
      have hlt : i < x.cps.size := (Array.getElem?_eq_some_iff.mp hc).1
      refine ⟨hlt, fun y H' yy => ?_⟩
      obtain ⟨T, c', rfl, hT, rfl, hc'⟩ := yy
      rw [hc] at hc'; cases hc'
      have dv : Dq F1 (.str ⟨#[c]⟩) (.str ⟨#[c]⟩) := .str _ (by show 1 ≤ lim; decide)
      exact ⟨_, (pair_ok ex hT dv (.int _)).1, (pair_ok ex hT dv (.int _)).2⟩
    · show _ = x.cps.size
      rw [List.length_map]
      unfold enumI
      rw [enumF_len, chrs_len]
      rfl
theorem eis_str {x : Str} (h : EX K te env (.str x)) : EIs K (iStr te) env ((chrs x).map PyData.str) := fun F0 H0 F H σ E R r => h E _ fun v F' H' z hv => by
  cases hv with
  | str _ l =>
    refine ⟨x, rfl, r _ F' H' z (by rw [List.length_map, chrs_len]; exact l) ⟨fun F1 H1 i d p ex hd => ?_, fun F1 H1 p ex => ?_⟩⟩
    · rw [List.getElem?_map] at hd
      obtain ⟨s, hs, rfl⟩ := Option.map_eq_some_iff.mp hd
      obtain ⟨c, hc, rfl⟩ := chrs_get hs
      refine ⟨(Array.getElem?_eq_some_iff.mp hc).1, fun y H' yy => ?_⟩
      obtain ⟨rfl, c', hc', rfl⟩ := yy
      rw [hc] at hc'; cases hc'
      exact ⟨F1, Fz.refl ex, .str _ (by show 1 ≤ lim; decide)⟩
    · show x.cps.size ≤ _
      rw [List.length_map, chrs_len]
      exact Nat.le_refl _
/-! ### zip -/
theorem zip_get {xs : List α} {ys : List β} {i : Nat} {p : α × β} (h : (xs.zip ys)[i]? = some p) : xs[i]? = some p.1 ∧ ys[i]? = some p.2 := by
  rw [List.getElem?_zip_eq_some] at h
  exact h
theorem zip_lim {xs : List α} {ys : List β} (h : (xs.map e).length ≤ lim) : ((xs.zip ys).map (eP e f)).length ≤ lim := by
  rw [List.length_map] at h ⊢
  rw [List.length_zip]
  omega
theorem itzL {a b : Addr} {vs ws : List V} {xs : List α} {ys : List β} {P : Hp → Hp → Prop} (hP : ∀ F H, P F H → Ex F H → H a = some (.lst vs) ∧ DqAll F vs (xs.map e) ∧ H b = some (.lst ws) ∧ DqAll F ws (ys.map f)) : IterP (Itz K a b) P ((xs.zip ys).map (eP e f)) := by
  refine ⟨fun F H i d p ex hd => ?_, fun F H p ex => ?_⟩
  · obtain ⟨h1, h2, h3, h4⟩ := hP F H p ex
    rw [List.getElem?_map] at hd
    obtain ⟨q, hq, rfl⟩ := Option.map_eq_some_iff.mp hd
    obtain ⟨hx, hy⟩ := zip_get hq
    obtain ⟨v, hv, dv⟩ := h2.get (i := i) (d := e q.1) (by rw [List.getElem?_map, hx]; rfl)
    obtain ⟨w, hw, dw⟩ := h4.get (i := i) (d := f q.2) (by rw [List.getElem?_map, hy]; rfl)
    refine ⟨⟨vs, ws, v, w, SqL.of h1, SqL.of h3, hv, hw⟩, fun y H' yy => ?_⟩
    obtain ⟨T, x', y', rfl, hT, rfl, hx', hy'⟩ := yy
    have e1 := (hx' vs (SqL.of h1)).symm.trans hv
    have e2 := (hy' ws (SqL.of h3)).symm.trans hw
    cases e1; cases e2
    exact ⟨_, (pair_ok ex hT dw dv).1, (pair_ok ex hT dw dv).2⟩
  · obtain ⟨h1, h2, h3, h4⟩ := hP F H p ex
    refine ⟨vs, ws, SqL.of h1, SqL.of h3, ?_⟩
    have l1 := h2.len
    have l2 := h4.len
    rw [List.length_map] at l1 l2
    rw [List.length_map, List.length_zip]
    omega
theorem itzT {a b : Addr} {vs ws : List V} {xs : List α} {ys : List β} {P : Hp → Hp → Prop} (hP : ∀ F H, P F H → Ex F H → H a = some (.tup vs) ∧ DqAll F vs (xs.map e) ∧ H b = some (.tup ws) ∧ DqAll F ws (ys.map f)) : IterP (RZ.ItzT K a b) P ((xs.zip ys).map (eP e f)) := by
  refine ⟨fun F H i d p ex hd => ?_, fun F H p ex => ?_⟩
  · obtain ⟨h1, h2, h3, h4⟩ := hP F H p ex
    rw [List.getElem?_map] at hd
    obtain ⟨q, hq, rfl⟩ := Option.map_eq_some_iff.mp hd
    obtain ⟨hx, hy⟩ := zip_get hq
    obtain ⟨v, hv, dv⟩ := h2.get (i := i) (d := e q.1) (by rw [List.getElem?_map, hx]; rfl)
    obtain ⟨w, hw, dw⟩ := h4.get (i := i) (d := f q.2) (by rw [List.getElem?_map, hy]; rfl)
    refine ⟨⟨vs, ws, v, w, SqT.of h1, SqT.of h3, hv, hw⟩, fun y H' yy => ?_⟩
    obtain ⟨T, x', y', rfl, hT, rfl, hx', hy'⟩ := yy
    have e1 := (hx' vs (SqT.of h1)).symm.trans hv
    have e2 := (hy' ws (SqT.of h3)).symm.trans hw
    cases e1; cases e2
    exact ⟨_, (pair_ok ex hT dw dv).1, (pair_ok ex hT dw dv).2⟩
  · obtain ⟨h1, h2, h3, h4⟩ := hP F H p ex
    refine ⟨vs, ws, SqT.of h1, SqT.of h3, ?_⟩
    have l1 := h2.len
    have l2 := h4.len
    rw [List.length_map] at l1 l2
    rw [List.length_map, List.length_zip]
    omega
theorem eis_zipL {xs : List α} {ys : List β} (ha : EX K ta env (eL e xs)) (hb : EX K tb env (eL f ys)) : EIs K (RZ.iZipA K (tCons ta (tCons tb tNil))) env ((xs.zip ys).map (eP e f)) := fun F0 H0 F H σ E R r => ha E _ fun v F1 H1 z1 hv => hb (E.step z1) _ fun w F2 H2 z2 hw => by
  cases hv with
  | lst h1 h2 h3 =>
    cases hw with
    | lst h4 h5 h6 =>
      exact ⟨_, _, _, _, rfl, .inl ⟨SqL.of (z2.fh _ _ (z2.f _ _ h1)), SqL.of (z2.fh _ _ h4), r _ F2 H2 (z1.trans z2) (zip_lim h3) (itzL fun F3 H3 p ex => ⟨ex _ _ (p _ _ (z2.f _ _ h1)), DqAll.mono (z2.f.trans p) _ _ h2, ex _ _ (p _ _ h4), DqAll.mono p _ _ h5⟩)⟩⟩
theorem ei_zipL {xs : List α} {ys : List β} (ha : EXl K ta env (xs.map e)) (hb : EXl K tb env (ys.map f)) : EI K (RZ.iZipA K (tCons ta (tCons tb tNil))) env ((xs.zip ys).map (eP e f)) := fun F0 H0 F H σ E R r => ha E _ fun p vs F1 H1 z1 h1 h2 h3 => hb (E.step z1) _ fun p' ws F2 H2 z2 h4 h5 h6 =>
  ⟨p, p', vs, ws, rfl, .inl ⟨SqL.of (z2.hh z1.fh _ _ h1), SqL.of h4, r _ F2 H2 (z1.trans z2) (zip_lim h3) (itzL fun F3 H3 q ex => ⟨q.hh z2.fh _ _ (z2.hh z1.fh _ _ h1), DqAll.mono (z2.f.trans q.f) _ _ h2, q.hh z2.fh _ _ h4, DqAll.mono q.f _ _ h5⟩)⟩⟩
theorem eis_zipT {xs : List α} {ys : List β} (ha : EX K ta env (eT e xs)) (hb : EX K tb env (eT f ys)) : EIs K (RZ.iZipA K (tCons ta (tCons tb tNil))) env ((xs.zip ys).map (eP e f)) := fun F0 H0 F H σ E R r => ha E _ fun v F1 H1 z1 hv => hb (E.step z1) _ fun w F2 H2 z2 hw => by
  cases hv with
  | tup h1 h2 h3 =>
    cases hw with
    | tup h4 h5 h6 =>
      exact ⟨_, _, _, _, rfl, .inr ⟨SqT.of (z2.fh _ _ (z2.f _ _ h1)), SqT.of (z2.fh _ _ h4), r _ F2 H2 (z1.trans z2) (zip_lim h3) (itzT fun F3 H3 p ex => ⟨ex _ _ (p _ _ (z2.f _ _ h1)), DqAll.mono (z2.f.trans p) _ _ h2, ex _ _ (p _ _ h4), DqAll.mono p _ _ h5⟩)⟩⟩
/-! ### list(range(a, b, c)) -/
def tLstRg3 (ta tb tc : TE) : TE := fun σ H Q => ta σ H fun x H1 => tb σ H1 fun y H2 => tc σ H2 fun z H3 => ∃ i j c : Int, x = .int i ∧ y = .int j ∧ z = .int c ∧ RgC i j c (rng3N i j c) ∧ rng3N i j c ≤ lim ∧ ∀ q, H3 q = none → Q (.ref q) (upd H3 q (.lst ((rng3 i j c).map V.int)))
end
theorem pe_listRg3 {X : Cx} {a b c : Expr} {ta tb tc : TE} {p pos p2 pos2 : Pos} (hc : X.calm = true) (hg : Gl X "list") (hm : X.mg "list" = none) (hg2 : Gl X "range") (hm2 : X.mg "range" = none) (ha : PE X a ta) (hb : PE X b tb) (hcc : PE X c tc)
    (na : starEach [a, b, c] X.env = (false, eval a X.env) :: starEach [b, c] X.env := by rfl) (nb : starEach [b, c] X.env = (false, eval b X.env) :: starEach [c] X.env := by rfl) (nc : starEach [c] X.env = (false, eval c X.env) :: starEach [] X.env := by rfl)
    (hp : (backTo pos2 (starEach [b, c] X.env)).any (·.1) = false := by rfl) (ne : starEach [.Call (.Name "range" p2) [a, b, c] [] pos2] X.env = (false, eval (.Call (.Name "range" p2) [a, b, c] [] pos2) X.env) :: starEach [] X.env := by rfl) :
    PE X (.Call (.Name "list" p) [.Call (.Name "range" p2) [a, b, c] [] pos2] [] pos) (tLstRg3 ta tb tc) := by
  refine ⟨fun pins s σ H Q I h => ?_⟩
  refine Call_ (ld_blt I hg hm boot_list (PyProof.Rows.callWith_type1 (args_cons ?_ ne) ne))
  refine Call_ (ld_blt I hg2 hm2 boot_range (PyProof.Rows.callWith_type1 (args_cons (thn (ha.run pins s σ H _ I h) fun v s1 ⟨x, H1, I1, r1, q1⟩ => args_cons (thn (hb.run pins s1 σ H1 _ I1 q1) fun u s2 ⟨y, H2, I2, r2, q2⟩ => one_arg hcc I2 q2 (fun u3 s3 z H3 I3 r3 q3 => ?_) nc) nb) na) na hp))
  obtain ⟨i, j, k, rfl, rfl, rfl, ⟨c0, c1, c2, c3⟩, hl, q⟩ := q3
  obtain ⟨t, rfl⟩ := r1
  obtain ⟨t', rfl⟩ := r2
  obtain ⟨t'', rfl⟩ := r3
  refine call_range_3 c0 ?_ (.inl (PyProof.noPylong_small c1))
  have I4 : Inv X pins σ H3 { s3 with heap := s3.heap.push { cls := .type "range", data := .fields #[.int i t, .int j t', .int k t''] } } := I3.kept (t' := s3.toks) fun b o e => Heap.get?_push_of_some _ e
  refine args_nil ?_
  refine call_list_range (n := rng3N i j k) (I3.ok.hd hc) (IsRange.new _ _ _ _ _ _ _) c2 c3 (by unfold lim at hl; omega) fun h' tk acc c' hk e' hi => ?_
  have hv : Vals ((rng3 i j k).map V.int) acc.toList := by
    have e : acc.toList.length = rng3N i j k := by rw [Array.length_toList]; exact hi.1
    unfold rng3
    rw [← e, List.map_map]
    refine vals_of_get acc.toList _ fun m u hm => ?_
    obtain ⟨t, rfl⟩ := hi.2 m u (by rw [← hm, Array.getElem?_toList])
    exact ⟨t, rfl⟩
  refine ⟨.ref _, upd H3 _ (.lst ((rng3 i j k).map V.int)), I4.laid hk (Nat.le_refl _) (show ObjOk X.prog X.w _ _ _ (.lst ((rng3 i j k).map V.int)) from ⟨?_, acc.toList, c', hv, ?_⟩), rfl, q _ (I4.hok.fresh (Nat.le_refl _))⟩
  · unfold rng3
    rw [List.length_map, List.length_map, List.length_range]
    exact lim_le hl
  · rw [Array.toArray_toList]; exact e'
section
variable {K : Frag} {env : List Sl} {ta tb tl te tc : TE} {α β : Type} {e : α → PyData}
theorem exw_listRg3 {m n c : Int} (ha : EX K ta env (.int m)) (hb : EX K tb env (.int n)) (hc : EX K tc env (.int c)) (hm : rngOk m) (hn : rngOk n) (h0 : c ≠ 0) (h1 : c.natAbs < 1000000000) : EXw K (tLstRg3 ta tb tc) env ((rng3 m n c).map PyData.int) := fun F0 H0 F H σ E Q q =>
  ha E _ fun v F1 H1 z1 hv => hb (E.step z1) _ fun w F2 H2 z2 hw => hc ((E.step z1).step z2) _ fun u F3 H3 z3 hu => by
    cases hv; cases hw; cases hu
    have z := (z1.trans z2).trans z3
    have l := rng3N_le hm hn h0
    unfold rngOk at hm hn
    refine ⟨m, n, c, rfl, rfl, rfl, rngC_ok h0 h1 (by omega) (by omega), l, fun r hr => q r _ F3 _ (z.trans (Fz.add z.fh hr)) (z.hn hr) (Evl.fresh_back z.fh hr) upd_same (DqAll.ints' _) ?_⟩
    unfold rng3
    rw [List.length_map, List.length_map, List.length_range]
    exact l
/-! ### len(set(ints)) -/
def distinct (ns : List Int) : List Int := PyProof.Rows.firstMet (fun i => ns.getD i 0) ns.length
def tLenSetN (K : Frag) (ta : TE) : TE := fun σ H Q => ta σ H fun x H1 => ∃ (l : Addr) (ns : List Int), x = V.ref l ∧ SqL K H1 l (ns.map V.int) ∧ ns.length < 60 ∧ Q (.int ((distinct ns).length : Int)) H1
theorem pe_lenSetN' {X : Cx} {a : Expr} {ta : TE} {p p2 q pos : Pos} (hc : X.calm = true) (hg : Gl X "len") (hm : X.mg "len" = none) (hg2 : Gl X "set") (hm2 : X.mg "set" = none) (ha : PE X a ta)
    (na : starEach [a] X.env = (false, eval a X.env) :: starEach [] X.env := by rfl) : PE X (.Call (.Name "len" p) [.Call (.Name "set" p2) [a] [] q] [] pos) (tLenSetN X.K ta) := by
  refine ⟨fun pins s σ H Q I h => ?_⟩
  refine Call_ (ld_blt I hg hm PySem.boot_len ?_)
  refine PyProof.Rows.callWith_builtin1 (PyProof.Rows.args_cons ?_ rfl) rfl rfl
  refine Call_ (ld_blt I hg2 hm2 PyProof.Rows.boot_set ?_)
  refine PyProof.Rows.callWith_type1 (PyProof.Rows.args_cons (thn (ha.run pins s σ H _ I h) fun v s1 ⟨x, H1, I1, r1, q1⟩ => PyProof.Rows.args_nil ?_) na) na rfl
  obtain ⟨l, ns, rfl, hq, h1, q1⟩ := q1
  cases r1
  obtain ⟨its, r, pl, hz⟩ := I1.list hq
  have hl : its.toArray.size = ns.length := by rw [List.size_toArray, ← r.length, List.length_map]
  refine call_set_list (I1.ok.hd hc) pl.isList (ns := ns) (by simpa using r.ints) (by rw [hl]; unfold scanBound; omega) fun h' tk hS hk => ?_
  rw [hl] at hS
  refine PyProof.Rows.args_nil ?_
  obtain ⟨o, es, ep, t, ho, hex, hd, _, _, _, hf, hn⟩ := hS
  have I2 : Inv X pins σ H1 { s1 with heap := h', toks := tk } := I1.kept fun b o e => hk b o (Heap.lt_size e) e
  have hle := PyProof.Rows.firstMet_length_le (fun i => ns.getD i 0) ns.length
  refine call_len_set ho hex hd hf (by rw [hn]; omega) ⟨.int (distinct ns).length, H1, I2.tok _, ⟨_, by rw [hn]; rfl⟩, q1⟩
theorem pe_lenSetN {X : Cx} {K : Frag} {a : Expr} {ta : TE} {p p2 q pos : Pos} (hc : X.calm = true) (hg : Gl X "len") (hm : X.mg "len" = none) (hg2 : Gl X "set") (hm2 : X.mg "set" = none) (ha : PE X a ta)
    (na : starEach [a] X.env = (false, eval a X.env) :: starEach [] X.env := by rfl) (h : X.K = K := by rfl) : PE X (.Call (.Name "len" p) [.Call (.Name "set" p2) [a] [] q] [] pos) (tLenSetN K ta) := by subst h; exact pe_lenSetN' hc hg hm hg2 hm2 ha na
theorem ex_lenSetN {ns : List Int} (ha : EXl K ta env (ns.map PyData.int)) (h : ns.length < 60) : EX K (tLenSetN K ta) env (.int ((distinct ns).length : Int)) := fun F0 H0 F H σ E Q q =>
  ha E _ fun p vs F1 H1 z1 h1 a1 l1 => by
    have := a1.ints
    subst this
    exact ⟨p, ns, rfl, SqL.of h1, h, q _ F1 H1 z1 (.int _)⟩
/-! ### xs[::-1] -/
theorem pe_revK {X : Cx} {K : Frag} {ex : Expr} {tx : TE} {k : Nat} {p1 p2 p3 pos : Pos} (he : PE X ex tx) (h : X.K = K := by rfl) : PE X (.Subscript ex (.Slice none none (some (.UnaryOp .USub (.Constant (.int 1) k p1) p2)) p3) pos) (tRevL K tx) := by subst h; exact pe_revL he
theorem exw_rev {xs : List α} (ha : EXl K ta env (xs.map e)) : EXw K (tRevL K ta) env (xs.reverse.map e) := fun F0 H0 F H σ E Q q =>
  ha E _ fun p vs F1 H1 z1 h1 a1 l1 => ⟨p, vs, rfl, SqL.of h1, fun r hr => q r _ F1 _ (z1.trans (Fz.add z1.fh hr)) (z1.hn hr) (Evl.fresh_back z1.fh hr) upd_same (by rw [List.map_reverse]; exact a1.rev) (by rw [List.length_map, List.length_reverse]; rw [List.length_map] at l1; exact l1)⟩
/-! ### is, is not of truth values -/
theorem ex_isB {x y : Bool} (ha : EX K ta env (.bool x)) (hb : EX K tb env (.bool y)) : EX K (tOp rIsB ta tb) env (.bool (decide (x = y))) := fun F0 H0 F H σ E Q q =>
  ha E _ fun v F1 H1 z1 h1 => hb (E.step z1) _ fun w F2 H2 z2 h2 => by
    cases h1; cases h2
    exact ⟨x, y, rfl, rfl, q _ F2 H2 (z1.trans z2) (.bl _)⟩
theorem ex_notB {x y : Bool} (ha : EX K ta env (.bool x)) (hb : EX K tb env (.bool y)) : EX K (tOp rNotB ta tb) env (.bool (!decide (x = y))) := fun F0 H0 F H σ E Q q =>
  ha E _ fun v F1 H1 z1 h1 => hb (E.step z1) _ fun w F2 H2 z2 h2 => by
    cases h1; cases h2
    exact ⟨x, y, rfl, rfl, q _ F2 H2 (z1.trans z2) (.bl _)⟩
/-! ### index of a whole number in a list -/
def idx? : List Int → Int → Option Int
  | [], _ => none
  | y :: ys, x => if y = x then some 0 else (idx? ys x).map (· + 1)
theorem idx_some : ∀ {xs : List Int} {x j : Int}, idx? xs x = some j → ∃ k : Nat, j = k ∧ xs[k]? = some x ∧ ∀ m z, m < k → xs[m]? = some z → z ≠ x
  | [], _, _, h => by cases h
  | y :: ys, x, j, h => by
    unfold idx? at h
    by_cases c : y = x
    · rw [if_pos c] at h; cases h
      exact ⟨0, rfl, by simp [c], fun m z hm => absurd hm (Nat.not_lt_zero _)⟩
    · rw [if_neg c] at h
      obtain ⟨j', h1, h2⟩ := Option.map_eq_some_iff.mp h
      obtain ⟨k, rfl, h3, h4⟩ := idx_some h1
      refine ⟨k + 1, by omega, by simpa using h3, fun m z hm hz => ?_⟩
      cases m with
      | zero => simp at hz; rw [← hz]; exact c
      | succ m => exact h4 m z (by omega) (by simpa using hz)
theorem mt_indexK {X : Cx} {K : Frag} (h : X.K = K := by rfl) : MtR X "list.index" (rIndex K) := by subst h; exact mt_index
theorem pe_bmK {X : Cx} {K : Frag} {o e : Expr} {es : List Expr} {to : TE} {t : TA} {name : Str} {apos cpos : Pos} {T id : String} {r : V → List V → Hp → VK → Prop} (pa : PlainAttrs T) (slot : Slot T name id) (hty : typeOf (.builtin id) = pure (.type "method_descriptor")) (hm : MtR X id r) (ho : PE X o to) (ha : PA X (e :: es) t)
    (hbase : attributeBase o name X.env (eval o X.env) = eval o X.env := by rfl)
    (hfew : ((backTo cpos (starEach (e :: es) X.env)).all (fun x => !x.1) && (backToKw cpos (keywordEach [] X.env)).all (fun x => x.1.isSome)
      && decide ((e :: es).length + ([] : List Keyword).length + (if ([] : List Keyword).isEmpty then 0 else 1) < 30)) = true := by rfl)
    (hline : (apos.endLine == cpos.line) = true := by rfl) (hs : starEach (e :: es) X.env = (false, eval e X.env) :: starEach es X.env := by rfl) (hplain : (backTo cpos (starEach es X.env)).any (·.1) = false := by rfl) (h : X.K = K := by rfl) :
    PE X (.Call (.Attribute o name apos) (e :: es) [] cpos) (tBM K T r to t) := by subst h; exact pe_bm pa slot hty hm ho ha hbase hfew hline hs hplain
theorem flat_all : ∀ {ns : List Int}, (ns.map V.int).all flatV = true := flat_ints
theorem ex_index {xs : List Int} {x j : Int} (ha : EXl K ta env (xs.map PyData.int)) (hb : EX K tb env (.int x)) (h : idx? xs x = some j) : EX K (tBM K "list" (rIndex K) ta (tCons tb tNil)) env (.int j) := fun F0 H0 F H σ E Q q =>
  ha E _ fun p vs F1 H1 z1 h1 a1 l1 => ⟨.inl ⟨rfl, vs, SqL.of h1⟩, hb (E.step z1) _ fun w F2 H2 z2 hw => by
    cases hw
    have := a1.ints
    subst this
    obtain ⟨k, rfl, h3, h4⟩ := idx_some h
    refine ⟨p, _, .int x, k, .int x, rfl, rfl, SqL.of (z2.hh z1.fh _ _ h1), rfl, flat_all, by rw [List.getElem?_map, h3]; rfl, by show (x == x) = true; simp, fun m z hm hz => ?_, q _ F2 H2 (z1.trans z2) (.int _)⟩
    rw [List.getElem?_map] at hz
    obtain ⟨y, hy, rfl⟩ := Option.map_eq_some_iff.mp hz
    show (y == x) = false
    have := h4 m y hm hy
    simpa using this⟩
end
end Rb

set_option Elab.async false
set_option linter.all false
set_option maxRecDepth 100000
set_option maxHeartbeats 2000000
namespace Rb
open PySem PySem.Spec PyProof.Rows L2
/-! ### rules whose reading names K outright, room -/
theorem un1 {n : Nat} (h : n + 64 < cLine) : n + 1 < cLine := by omega
section
variable {X : Cx} {K : Frag} {tg e e2 l a b : Expr} {ta tb tl te td ty : TE} {tA : TA} {p pos tpos : Pos} {elts : List Expr} {kk : Nat}
theorem pi_zipK (hg : Gl X "zip") (hm : X.mg "zip" = none) (ha : PA X [e, e2] tA)
    (hs : starEach [e, e2] X.env = (false, eval e X.env) :: starEach [e2] X.env := by rfl) (hpl : (backTo pos (starEach [e2] X.env)).any (·.1) = false := by rfl) (h : X.K = K := by rfl) :
    PI X (.Tuple elts kk tpos) (.Call (.Name "zip" p) [e, e2] [] pos) (RZ.iZipA K tA) := by subst h; exact RZ.pi_zipA hg hm ha hs hpl
theorem call_isiK' (h : X.K = K := by rfl) : CallR X (.builtin "isinstance") (rIsi K) := by subst h; exact call_isi
theorem cr_sortedIK (h : X.K = K := by rfl) : CallR X (.builtin "sorted") (rSortedI K) := by subst h; exact cr_sortedI
theorem sl_tupK (h : X.K = K := by rfl) : SlR X (rSlT K) := by subst h; exact sl_tup
end
/-! ### data whose shape is looked at -/
def isBD : PyData → Bool | .bool _ => true | _ => false
def isID : PyData → Bool | .bool _ => true | .int _ => true | _ => false
def isLD : PyData → Bool | .list _ => true | _ => false
def isTD : PyData → Bool | .tuple _ => true | _ => false
def isSD : PyData → Bool | .str _ => true | _ => false
def itemsD : PyData → Option (List PyData) | .list xs => some xs | .tuple xs => some xs | _ => none
def leafD : PyData → Bool | .none => true | .bool _ => true | .int _ => true | .str _ => true | _ => false
def lenD (d : PyData) : Option Int := (itemsD d).map fun xs => (xs.length : Int)
def zipD : PyData → PyData → Option (List (PyData × PyData))
  | .list xs, .list ys => some (xs.zip ys)
  | .tuple xs, .tuple ys => some (xs.zip ys)
  | _, _ => none
abbrev eD (d : PyData) : PyData := d
section
variable {K : Frag} {env : List Sl} {ta tb : TE} {d d' : PyData}
/-- the type of what a datum stands for -/
def tyD : PyData → String
  | .none => "NoneType" | .bool _ => "bool" | .int _ => "int" | .str _ => "str" | .list _ => "list" | .tuple _ => "tuple" | .dict _ => "dict"
theorem Dq.tyx {H : Hp} {v : V} (h : Dq H v d) : TyX K H v (.type (tyD d)) := by
  cases h with
  | non => exact .base .non
  | bl b => exact .base (.bl b)
  | int i => exact .base (.int i)
  | str x => exact .base (.str x)
  | lst h => exact .base (.lst h)
  | tup h => exact .base (.tup h)
  | dct h => exact .fDict h
theorem ex_isi {T : String} {b : Bool} (ha : EX K ta env d) (hk : kitB (tyD d) T = some b) : EX K (tCB (rIsi K) (tCons ta (tCons (tC (.ty T)) tNil))) env (.bool b) := fun F0 H0 F H σ E Q q =>
  ha E _ fun v F1 H1 z1 hv => ⟨_, _, _, _, b, rfl, .ty T, (Dq.mono z1.fh _ _ hv).tyx, kit_ty hk, q _ F1 H1 z1 (.bl _)⟩
theorem ex_isBD (ha : EX K ta env d) : EX K (tCB (rIsi K) (tCons ta (tCons (tC (.ty "bool")) tNil))) env (.bool (isBD d)) := fun F0 H0 F H σ E Q q =>
  ha E _ fun v F1 H1 z1 hv => by
    have t := (Dq.mono z1.fh _ _ hv).tyx (K := K)
    have k : kitB (tyD d) "bool" = some (isBD d) := by cases hv <;> first | exact (show kitB "NoneType" "bool" = some false by decide +kernel) | exact (show kitB "bool" "bool" = some true by decide +kernel) | exact (show kitB "int" "bool" = some false by decide +kernel) | exact (show kitB "str" "bool" = some false by decide +kernel) | exact (show kitB "list" "bool" = some false by decide +kernel) | exact (show kitB "tuple" "bool" = some false by decide +kernel) | exact (show kitB "dict" "bool" = some false by decide +kernel)
    exact ⟨_, _, _, _, _, rfl, .ty "bool", t, kit_ty k, q _ F1 H1 z1 (.bl _)⟩
theorem ex_isID (ha : EX K ta env d) : EX K (tCB (rIsi K) (tCons ta (tCons (tC (.ty "int")) tNil))) env (.bool (isID d)) := fun F0 H0 F H σ E Q q =>
  ha E _ fun v F1 H1 z1 hv => by
    have t := (Dq.mono z1.fh _ _ hv).tyx (K := K)
    have k : kitB (tyD d) "int" = some (isID d) := by cases hv <;> first | exact (show kitB "NoneType" "int" = some false by decide +kernel) | exact (show kitB "bool" "int" = some true by decide +kernel) | exact (show kitB "int" "int" = some true by decide +kernel) | exact (show kitB "str" "int" = some false by decide +kernel) | exact (show kitB "list" "int" = some false by decide +kernel) | exact (show kitB "tuple" "int" = some false by decide +kernel) | exact (show kitB "dict" "int" = some false by decide +kernel)
    exact ⟨_, _, _, _, _, rfl, .ty "int", t, kit_ty k, q _ F1 H1 z1 (.bl _)⟩
theorem ex_isLD (ha : EX K ta env d) : EX K (tCB (rIsi K) (tCons ta (tCons (tC (.ty "list")) tNil))) env (.bool (isLD d)) := fun F0 H0 F H σ E Q q =>
  ha E _ fun v F1 H1 z1 hv => by
    have t := (Dq.mono z1.fh _ _ hv).tyx (K := K)
    have k : kitB (tyD d) "list" = some (isLD d) := by cases hv <;> first | exact (show kitB "NoneType" "list" = some false by decide +kernel) | exact (show kitB "bool" "list" = some false by decide +kernel) | exact (show kitB "int" "list" = some false by decide +kernel) | exact (show kitB "str" "list" = some false by decide +kernel) | exact (show kitB "list" "list" = some true by decide +kernel) | exact (show kitB "tuple" "list" = some false by decide +kernel) | exact (show kitB "dict" "list" = some false by decide +kernel)
    exact ⟨_, _, _, _, _, rfl, .ty "list", t, kit_ty k, q _ F1 H1 z1 (.bl _)⟩
theorem ex_isTD (ha : EX K ta env d) : EX K (tCB (rIsi K) (tCons ta (tCons (tC (.ty "tuple")) tNil))) env (.bool (isTD d)) := fun F0 H0 F H σ E Q q =>
  ha E _ fun v F1 H1 z1 hv => by
    have t := (Dq.mono z1.fh _ _ hv).tyx (K := K)
    have k : kitB (tyD d) "tuple" = some (isTD d) := by cases hv <;> first | exact (show kitB "NoneType" "tuple" = some false by decide +kernel) | exact (show kitB "bool" "tuple" = some false by decide +kernel) | exact (show kitB "int" "tuple" = some false by decide +kernel) | exact (show kitB "str" "tuple" = some false by decide +kernel) | exact (show kitB "list" "tuple" = some false by decide +kernel) | exact (show kitB "tuple" "tuple" = some true by decide +kernel) | exact (show kitB "dict" "tuple" = some false by decide +kernel)
    exact ⟨_, _, _, _, _, rfl, .ty "tuple", t, kit_ty k, q _ F1 H1 z1 (.bl _)⟩
theorem ex_isSD (ha : EX K ta env d) : EX K (tCB (rIsi K) (tCons ta (tCons (tC (.ty "str")) tNil))) env (.bool (isSD d)) := fun F0 H0 F H σ E Q q =>
  ha E _ fun v F1 H1 z1 hv => by
    have t := (Dq.mono z1.fh _ _ hv).tyx (K := K)
    have k : kitB (tyD d) "str" = some (isSD d) := by cases hv <;> first | exact (show kitB "NoneType" "str" = some false by decide +kernel) | exact (show kitB "bool" "str" = some false by decide +kernel) | exact (show kitB "int" "str" = some false by decide +kernel) | exact (show kitB "str" "str" = some true by decide +kernel) | exact (show kitB "list" "str" = some false by decide +kernel) | exact (show kitB "tuple" "str" = some false by decide +kernel) | exact (show kitB "dict" "str" = some false by decide +kernel)
    exact ⟨_, _, _, _, _, rfl, .ty "str", t, kit_ty k, q _ F1 H1 z1 (.bl _)⟩
/-- the length of a list or a tuple -/
theorem ex_lenD {n : Int} (ha : EX K ta env d) (h : lenD d = some n) : EX K (tCB (fun ws H Q => ∃ x n, ws = [x] ∧ LenV K x H n ∧ Q (.int n) H) (tCons ta tNil)) env (.int n) := by
  cases d with
  | list xs =>
    cases h
    have := ex_lenL (e := id) (xs := xs) (EX.l (ds := xs.map id) (by rw [List.map_id]; exact ha))
    exact this
  | tuple xs =>
    cases h
    have := ex_lenT (e := id) (xs := xs) (ta := ta) (K := K) (env := env) (by rw [List.map_id]; exact ha)
    exact this
  | _ => cases h
theorem ei_zipD {ps : List (PyData × PyData)} (ha : EX K ta env d) (hb : EX K tb env d') (h : zipD d d' = some ps) : EIs K (RZ.iZipA K (tCons ta (tCons tb tNil))) env (ps.map (eP eD eD)) := by
  cases d with
  | list xs =>
    cases d' with
    | list ys =>
      cases h
      exact eis_zipL (e := eD) (f := eD) (by show EX K ta env (.list (xs.map id)); rw [List.map_id]; exact ha) (by show EX K tb env (.list (ys.map id)); rw [List.map_id]; exact hb)
    | _ => cases h
  | tuple xs =>
    cases d' with
    | tuple ys =>
      cases h
      exact eis_zipT (e := eD) (f := eD) (by show EX K ta env (.tuple (xs.map id)); rw [List.map_id]; exact ha) (by show EX K tb env (.tuple (ys.map id)); rw [List.map_id]; exact hb)
    | _ => cases h
  | _ => cases h
def eqLeaf : PyData → PyData → Option Bool
  | .none, .none => some (true)
  | .none, .int _ => some (false)
  | .int _, .none => some (false)
  | .none, .bool _ => some (false)
  | .bool _, .none => some (false)
  | .none, .str _ => some (false)
  | .str _, .none => some (false)
  | .int i, .int j => some (decide (i = j))
  | .bool i, .bool j => some ((i == j))
  | .str i, .str j => some (decide (i = j))
  | .int _, .str _ => some (false)
  | .str _, .int _ => some (false)
  | .bool _, .str _ => some (false)
  | .str _, .bool _ => some (false)
  | _, _ => none
theorem ex_eqLeaf {b : Bool} (ha : EX K ta env d) (hb : EX K tb env d') (h : eqLeaf d d' = some b) : EX K (tOp rEq ta tb) env (.bool b) := fun F0 H0 F H σ E Q q =>
  ha E _ fun v F1 H1 z1 h1 => hb (E.step z1) _ fun w F2 H2 z2 h2 => by
    have k : scal v w = true ∧ decide (v = w) = b := by
      cases h1 <;> cases h2 <;> first
        | (cases h; exact ⟨rfl, decide_eq_true rfl⟩)
        | (cases h; exact ⟨rfl, decide_eq_false fun z => nomatch z⟩)
        | (rename_i x y; cases h; refine ⟨rfl, ?_⟩; by_cases c : x = y
           · subst c; simp
           · have : ¬ (V.int x = V.int y) := fun z => c (V.int.inj z)
             simp [c])
        | (rename_i x _ y _; cases h; refine ⟨rfl, ?_⟩; by_cases c : x = y
           · subst c; simp
           · simp [c])
        | (rename_i x y; cases h; refine ⟨rfl, ?_⟩; cases x <;> cases y <;> rfl)
        | cases h
    refine ⟨k.1, ?_⟩
    rw [k.2]
    exact q _ F2 H2 (z1.trans z2) (.bl _)
/-- sorted ints -/
def insI (x : Int) : List Int → List Int
  | [] => [x]
  | y :: ys => if x ≤ y then x :: y :: ys else y :: insI x ys
def sortI : List Int → List Int
  | [] => []
  | x :: xs => insI x (sortI xs)
theorem insI_perm (x : Int) : ∀ ys : List Int, (insI x ys).Perm (x :: ys)
  | [] => .refl _
  | y :: ys => by
    unfold insI
    by_cases c : x ≤ y
    · rw [if_pos c]
    · rw [if_neg c]; exact ((insI_perm x ys).cons y).trans (.swap x y ys)
theorem sortI_perm : ∀ ns : List Int, (sortI ns).Perm ns
  | [] => .refl _
  | x :: xs => (insI_perm x _).trans ((sortI_perm xs).cons x)
theorem insI_sorted {x : Int} : ∀ {ys : List Int}, ys.Pairwise (· ≤ ·) → (insI x ys).Pairwise (· ≤ ·)
  | [], _ => by simp [insI]
  | y :: ys, h => by
    obtain ⟨h1, h2⟩ := List.pairwise_cons.mp h
    unfold insI
    by_cases c : x ≤ y
    · rw [if_pos c]
      refine List.pairwise_cons.mpr ⟨fun z hz => ?_, h⟩
      rcases List.mem_cons.mp hz with e | e
      · rw [e]; exact c
      · exact Int.le_trans c (h1 z e)
    · rw [if_neg c]
      refine List.pairwise_cons.mpr ⟨fun z hz => ?_, insI_sorted h2⟩
      rcases List.mem_cons.mp ((insI_perm x ys).mem_iff.mp hz) with e | e
      · rw [e]; omega
      · exact h1 z e
theorem sortI_sorted : ∀ ns : List Int, (sortI ns).Pairwise (· ≤ ·)
  | [] => .nil
  | x :: xs => insI_sorted (sortI_sorted xs)
theorem sorted_uniq : ∀ {xs ys : List Int}, xs.Perm ys → xs.Pairwise (· ≤ ·) → ys.Pairwise (· ≤ ·) → xs = ys
  | [], ys, p, _, _ => (List.nil_perm.mp p).symm
  | x :: xs, [], p, _, _ => absurd p.symm (by simp)
  | x :: xs, y :: ys, p, hx, hy => by
    obtain ⟨x1, x2⟩ := List.pairwise_cons.mp hx
    obtain ⟨y1, y2⟩ := List.pairwise_cons.mp hy
    have e : x = y := by
      have a : x ≤ y := by
        rcases List.mem_cons.mp (p.mem_iff.mpr (List.mem_cons_self (a := y))) with e | e
        · omega
        · exact x1 y e
      have b : y ≤ x := by
        rcases List.mem_cons.mp (p.mem_iff.mp (List.mem_cons_self (a := x))) with e | e
        · omega
        · exact y1 x e
      omega
    subst e
    rw [sorted_uniq ((List.perm_cons x).mp p) x2 y2]
theorem sortI_uniq {ns ms : List Int} (h1 : ms.Perm ns) (h2 : ms.Pairwise (· ≤ ·)) : ms = sortI ns :=
  sorted_uniq (h1.trans (sortI_perm ns).symm) h2 (sortI_sorted ns)
theorem exw_sortI {ns : List Int} (ha : EXl K ta env (ns.map PyData.int)) : EXw K (tCB (rSortedI K) (tCons ta tNil)) env ((sortI ns).map PyData.int) := fun F0 H0 F H σ E Q q =>
  ha E _ fun p vs F1 H1 z1 h1 a1 l1 => by
    have e := a1.ints
    subst e
    refine ⟨p, ns, rfl, SqL.of h1, fun ns' l hp hs hl => ?_⟩
    have e := sortI_uniq hp hs
    subst e
    have hF : F1 l = none := Evl.fresh_back ((E.step z1).fh) hl
    exact q l _ F1 _ (z1.trans (Fz.add (E.step z1).fh hl)) (z1.hn hl) hF upd_same (DqAll.ints' _) (by rw [List.length_map] at l1 ⊢; rw [hp.length_eq]; exact l1)
end
/-! ### arguments that are lent for the call alone: an answer without references -/
def EAq (K : Frag) (ta : TA) (env : List Sl) (ds : List PyData) : Prop := ∀ ⦃F0 H0 F H : Hp⦄ ⦃σ : List (Option V)⦄, EnvOk K F0 H0 F H σ env → ∀ Q : List V → Hp → Prop, (∀ vs F' H', Fz F H F' H' → DqAll H' vs ds → Q vs H') → ta σ H Q
def FlatD (d : PyData) : Prop := ∀ F F' v, Dq F v d → Dq F' v d
theorem flat_int (i : Int) : FlatD (.int i) := fun _ _ v h => by cases h; exact .int i
theorem flat_bool (i : Bool) : FlatD (.bool i) := fun _ _ v h => by cases h; exact .bl i
theorem flat_none : FlatD .none := fun _ _ v h => by cases h; exact .non
theorem flat_str (i : Str) : FlatD (.str i) := fun _ _ v h => by cases h with | str _ l => exact .str i l
section
variable {K : Frag} {env : List Sl} {te ta tb : TE} {tr : TA} {d : PyData} {ds : List PyData} {α : Type}
theorem eaq_nil : EAq K tNil env [] := fun F0 H0 F H σ E Q q => q [] F H (Fz.refl E.fh) .nil
theorem eaq_cons (ha : EXq K ta env d) (hr : EAq K tr env ds) : EAq K (tCons ta tr) env (d :: ds) := fun F0 H0 F H σ E Q q =>
  ha E _ fun v F1 H1 z1 h1 => hr (E.step z1) _ fun vs F2 H2 z2 h2 => q _ F2 H2 (z1.trans z2) (.cons (Dq.mono (z2.hh (E.step z1).fh) _ _ h1) h2)
theorem ex_callQ {I : List PyData → Rv → Prop} {E : XK} (ha : EAq K tr env ds) (hI : I ds (.sh d)) (hd : FlatD d) : EX K (tCall (Prom I) [] E tr) env d := fun F0 H0 F H σ E Q q =>
  ha E _ fun vs F1 H1 z1 a1 => by
    rw [List.append_nil]
    have E1 := E.step z1
    refine ⟨H1, ds, _, Evl.Ex.refl H1, a1, hI, fun F2 H2 v z2 hv => q v F1 H2 (z1.trans ⟨Evl.Ex.refl F1, E1.fh.trans (z2.f.trans z2.fh), fun p o h n => ⟨fun _ => n, (z2.f.trans z2.fh) p o h⟩⟩) (hd _ _ _ hv)⟩
/-- a cut out of a tuple, not the whole -/
def cutP (xs : List α) (lo hi : Option Int) : Prop := ¬ (HT.sIx xs.length 0 lo = 0 ∧ HT.sIx xs.length xs.length hi = xs.length)
instance (xs : List α) (lo hi : Option Int) : Decidable (cutP xs lo hi) := inferInstanceAs (Decidable (¬ _))
theorem ex_slT {tl th : TO} {lo hi : Option Int} {e : α → PyData} {xs : List α} (h : EX K te env (.tuple (xs.map e))) (hl : EO K tl env lo) (hh : EO K th env hi) (hc : cutP xs lo hi) : EX K (tSl (rSlT K) te tl th) env (.tuple ((cutA xs lo hi).map e)) := fun F0 H0 F H σ E Q q =>
  h E _ fun v F1 H1 z1 h1 => hl (E.step z1) _ fun F2 H2 z2 => hh ((E.step z1).step z2) _ fun F3 H3 z3 => by
    have E3 := ((E.step z1).step z2).step z3
    have h9 := Dq.mono (z2.f.trans z3.f) _ _ h1
    clear h1
    cases h9 with
    | @tup a vs _ h1 a1 l1 =>
      have hl := a1.len
      rw [List.length_map] at hl
      refine ⟨a, vs, rfl, SqT.of (E3.fh _ _ h1), by rw [hl]; exact hc, fun p hp => q _ (upd F3 p (.tup (cutV vs lo hi))) _ ((z1.trans (z2.trans z3)).trans (Fz.new E3.fh hp)) (.tup upd_same (DqAll.mono (Evl.Ex.new (Evl.fresh_back E3.fh hp)) _ _ ?_) ?_)⟩
      · rw [← cutA_map]; exact a1.cut
      · rw [← cutA_map]; exact Nat.le_trans cutA_len l1
end
theorem fn_void {P : Program} {w : World} {K : Frag} {mg : Str → Option Value} {base : Heap} {x qual : Str} {params : Arguments} {body : List Stmt} {scope : Scope} {f : Addr} {fd : FuncData} {N ps : List Str} {k : Nat} {I : List PyData → Rv → Prop}
    (F : FunD K x qual params body scope [] [] f fd) (S : FnScope N ps scope) (hI : ∀ ds r, ¬ I ds r) : FnOk P w K mg base CX0 (k + 1) f fd ps (Prom I) := by
  refine F.ok S (fun vs H Q E h => ?_) (fun cdv A' outer s H vs Q E hr h => ?_)
  · obtain ⟨_, ds, r, _, _, h, _⟩ := h
    exact absurd h (hI ds r)
  · obtain ⟨_, ds, r, _, _, h, _⟩ := h
    exact absurd h (hI ds r)
end Rb

set_option Elab.async false
set_option linter.all false
set_option maxRecDepth 100000
set_option maxHeartbeats 4000000
/-! # exceptions: raised, let out by calls, caught -/
namespace Rb
open PySem PySem.Spec PyProof.Rows L2
/-! ### defs that may raise -/
def RetX (K : Frag) (F H : Hp) (Q : VK) (E : XK) : Rv ⊕ Exn → Prop
  | .inl r => RetOk F H Q r
  | .inr x => ∀ F' H', Fz F H F' H' → exW K x F' H' fun c d => E c d H'
def PromX (K : Frag) (I : List PyData → Rv ⊕ Exn → Prop) : Sp := fun vs H Q E => ∃ F ds r, Ex F H ∧ DqAll F vs ds ∧ I ds r ∧ RetX K F H Q E r
def rvX {R : Type} (er : R → Rv) : Except Exn R → Rv ⊕ Exn
  | .ok y => .inl (er y)
  | .error x => .inr x
def ImX {A R : Type} (ea : A → List PyData) (er : R → Rv) (f : A → Option (Except Exn R)) : List PyData → Rv ⊕ Exn → Prop := fun ds r => ∃ a y, ds = ea a ∧ f a = some y ∧ r = rvX er y
/-- a mirror's bind over what may raise -/
def bindX {α O : Type} (m : Option (Except Exn α)) (r : Exn → O) (k : α → Option O) : Option O := m.bind fun y => match y with
  | .error x => some (r x)
  | .ok v => k v
theorem bindX_ok {α O : Type} {m : Option (Except Exn α)} {r : Exn → O} {k : α → Option O} {v : α} (h : m = some (.ok v)) : bindX m r k = k v := by rw [h]; rfl
theorem bindX_err {α O : Type} {m : Option (Except Exn α)} {r : Exn → O} {k : α → Option O} {x : Exn} (h : m = some (.error x)) : bindX m r k = some (r x) := by rw [h]; rfl
/-- what does not raise -/
def strict {α : Type} (m : Option (Except Exn α)) : Option α := m.bind fun y => match y with
  | .error _ => none
  | .ok v => some v
theorem strict_ok {α : Type} {m : Option (Except Exn α)} {v : α} (h : strict m = some v) : m = some (.ok v) := by
  unfold strict at h
  obtain ⟨y, e1, e2⟩ := Option.bind_eq_some_iff.mp h
  cases y with
  | error x => cases e2
  | ok u => cases e2; exact e1
/-- try: what the body makes, or what the clause makes of an exception -/
def tryM {α O : Type} (m : Option (Except Exn α)) (k : α → Option O) (h : Exn → Option O) : Option O := m.bind fun y => match y with
  | .error x => h x
  | .ok v => k v
abbrev exc (n : Str) : Exn := ⟨n, none⟩
section
variable {K : Frag} {env env' env1 : List Sl} {d : PyData} {ds es : List PyData} {ta tb te : TE} {tr : TA} {W : WX} {α β O S : Type} {ts tu : TS} {enc : O → Out} {m n : Option O} {x : Exn}
theorem ex_callX {I : List PyData → Rv ⊕ Exn → Prop} {E : L2.St → XK} (ha : EA K tr env ds) (hI : I ds (.inl (.sh d))) : EX K (tCallS (PromX K I) E tr) env d := fun F0 H0 F H σ e Q q =>
  ha e _ fun vs F1 H1 z1 a1 => ⟨F1, ds, _, (e.step z1).fh, a1, hI, fun F2 H2 v z2 hv => q v F2 H2 (z1.trans z2) hv⟩
theorem exw_callX {I : List PyData → Rv ⊕ Exn → Prop} {E : L2.St → XK} (ha : EA K tr env ds) (hI : I ds (.inl (.fr es))) : EXw K (tCallS (PromX K I) E tr) env es := fun F0 H0 F H σ e Q q =>
  ha e _ fun vs F1 H1 z1 a1 => ⟨F1, ds, _, (e.step z1).fh, a1, hI, fun F2 H2 p vs z2 hn hf h1 h2 h3 => q p vs F2 H2 (z1.trans z2) (z1.hn hn) hf h1 h2 h3⟩
/-- an expression whose evaluation ends in an exception -/
def ERR (K : Frag) (W : WX) (te : TE) (env : List Sl) (x : Exn) : Prop := ∀ ⦃F0 H0 F H : Hp⦄ ⦃σ : List (Option V)⦄, EnvOk K F0 H0 F H σ env → ∀ Q : VK, (∀ F' H', Fz F H F' H' → exW K x F' H' fun c d => W c d σ H') → te σ H Q
theorem err_callX {I : List PyData → Rv ⊕ Exn → Prop} (ha : EA K tr env ds) (hI : I ds (.inr x)) : ERR K W (tCallS (PromX K I) (WE W) tr) env x := fun F0 H0 F H σ e Q q =>
  ha e _ fun vs F1 H1 z1 a1 => ⟨F1, ds, _, (e.step z1).fh, a1, hI, fun F2 H2 z2 => q F2 H2 (z1.trans z2)⟩
/-- a statement whose first expression raises -/
theorem bx_err {o : O} (he : ERR K W te env x) (hn : enc o = .ex env' x W) (hw : Wk env env') (ht : ∀ (D : Ends) (σ : L2.St) (H : Hp), ∃ Q : VK, te σ H Q → ts D σ H) : BX K ts env enc (some o) := fun o' ho F0 H0 F H σ D e c => by
  cases ho
  rw [hn] at c
  obtain ⟨Q, q⟩ := ht D σ H
  exact q (he e Q fun F1 H1 z1 => c F1 H1 σ ((e.step z1).weak hw))
theorem bx_bindX {mm : Option (Except Exn α)} {r : Exn → O} {k : α → Option O} (h1 : ∀ x, mm = some (.error x) → BX K ts env enc (some (r x))) (h2 : ∀ v, mm = some (.ok v) → BX K ts env enc (k v)) : BX K ts env enc (bindX mm r k) := fun o ho => by
  unfold bindX at ho
  obtain ⟨y, e1, e2⟩ := Option.bind_eq_some_iff.mp ho
  cases y with
  | error x => exact h1 x e1 o e2
  | ok v => exact h2 v e1 o e2
theorem bx_raise {o : O} {nm : Str} (hn : enc o = .ex env' (exc nm) W) (hw : Wk env env') : BX K (fun _ σ H => W (.ref (He.ga K nm)) none σ H) env enc (some o) := fun o' ho F0 H0 F H σ D e c => by
  cases ho
  rw [hn] at c
  exact c F H σ (e.weak hw)
theorem bx_raiseS {o : O} {nm : Str} (hn : enc o = .ex env' (exc nm) W) (hw : Wk env env') : BX K (tSeq (fun _ σ H => W (.ref (He.ga K nm)) none σ H) tu) env enc (some o) := fun o' ho F0 H0 F H σ D e c => by
  cases ho
  rw [hn] at c
  exact c F H σ (e.weak hw)
end
theorem fn_okX {A R : Type} {P : Program} {w : World} {K : Frag} {mg : Str → Option Value} {base : Heap} {x qual : Str} {params : Arguments} {body : List Stmt} {scope : Scope} {f : Addr} {fd : FuncData} {N ps : List Str} {k : Nat} {ea : A → List PyData} {er : R → Rv} {fm : A → Option (Except Exn R)} {en : XK → Except Exn R → Out}
    (F : FunD K x qual params body scope [] [] f fd) (S : FnScope N ps scope) (hl : ∀ a, (ea a).length = ps.length) (hn : ∀ E y, (en E (.ok y) = .rt (er y) ∨ (er y = .sh .none ∧ ∃ e, en E (.ok y) = .nx e)))
    (hx : ∀ E y, ∃ e, en E (.error y) = .ex e y fun c d _ H => E c d H)
    (hb : ∀ (cdv : Value) (A' : Around) (outer : List Env) (s : Shared) (H : Hp) (E : XK), Room k (A'.deeper (envOfC qual scope s.heap.objs.size f cdv)) →
      ∃ t, PSs (cxOf (L2N.CX P w) P w K mg base N qual scope f cdv A' outer s H E) body t ∧ ∀ a, BX K t (startE N (ea a)) (en E) (fm a)) : FnOk P w K mg base (L2N.CX P w) (k + 1) f fd ps (PromX K (ImX ea er fm)) := by
  refine F.ok S (fun vs H Q E h => ?_) (fun cdv A' outer s H vs Q E hr h => ?_)
  · obtain ⟨F, ds, r, e, a, ⟨a', y, rfl, _, _⟩, _⟩ := h
    rw [a.len, hl]
  · obtain ⟨F, ds, r, e, a, ⟨a', y, rfl, hy, rfl⟩, q⟩ := h
    obtain ⟨t, p, b⟩ := hb cdv A' outer s H E hr
    refine ⟨t, p, b a' y hy _ (start_ok e a) ?_⟩
    cases y with
    | error y =>
      obtain ⟨e1, h1⟩ := hx E y
      rw [h1]
      exact fun F1 H1 σ1 E1 => q F1 H1 E1.z
    | ok y =>
      rcases hn E y with hn | ⟨hn, e', he⟩
      · rw [hn]; exact q
      · rw [he]
        have q' : RetOk F H Q (er y) := q
        rw [hn] at q'
        exact fun F1 H1 σ1 E1 => q' F1 H1 .non E1.z .non
/-- a def that stands, with its promise, and may raise -/
structure FnX (P : Program) (w : World) (K : Frag) (mg : Str → Option Value) (base : Heap) (x : Str) (k : Nat) (I : List PyData → Rv ⊕ Exn → Prop) : Prop where
  ex : ∃ f fd ps, FnOk P w K mg base (L2N.CX P w) k f fd ps (PromX K I) ∧ mg x = some (.ref f) ∧ PySem.W.keepIn K (.ref f) = true ∧ Binds K fd ps []
section
variable {X : Cx} {K : Frag} {x : Str} {k : Nat} {I : List PyData → Rv ⊕ Exn → Prop} {e : Expr} {es : List Expr} {t : TA} {p pos : Pos} {W : WX}
theorem pe_fnX (G : FnX X.prog X.w K X.mg X.base x k I) (tk : L2N.Takes X W) (hr : Room k X.A) (hg : Gl X x) (ha : PA X (e :: es) t) (hK : X.K = K := by rfl)
    (hs : starEach (e :: es) X.env = (false, eval e X.env) :: starEach es X.env := by rfl) (hpl : (backTo pos (starEach es X.env)).any (·.1) = false := by rfl) (hd : (x == ("__debug__" : Str)) = false := by decide) : PE X (.Call (.Name x p) (e :: es) [] pos) (tCallS (PromX K I) (WE W) t) := by
  subst hK
  obtain ⟨f, fd, ps, F, hm, hk, hb⟩ := G.ex
  exact pe_callS F hr hg hm hk hb (fun σ => L2N.passAt tk σ) ha hd hs hpl
theorem pass_none (σ : L2.St) : PassesAt (L2N.CX X.prog X.w) X σ fun _ _ _ => False := fun _ _ _ _ _ _ c => by
  obtain ⟨_, _, _, _, _, _, _, _, _, _, _, _, z⟩ := c
  exact z.elim
theorem pe_fnS (G : FnX X.prog X.w K X.mg X.base x k I) (hr : Room k X.A) (hg : Gl X x) (ha : PA X (e :: es) t) (hK : X.K = K := by rfl)
    (hs : starEach (e :: es) X.env = (false, eval e X.env) :: starEach es X.env := by rfl) (hpl : (backTo pos (starEach es X.env)).any (·.1) = false := by rfl) (hd : (x == ("__debug__" : Str)) = false := by decide) : PE X (.Call (.Name x p) (e :: es) [] pos) (tCallS (PromX K I) (fun _ _ _ _ => False) t) := by
  subst hK
  obtain ⟨f, fd, ps, F, hm, hk, hb⟩ := G.ex
  exact pe_callS F hr hg hm hk hb pass_none ha hd hs hpl
end
/-! ### classes of exceptions -/
/-- what the program's top says of the class x, one without __init__ -/
structure ExcF (K : Frag) (mg : Str → Option Value) (x : Str) : Prop where
  g : mg x = some (.ref (He.ga K x))
  e : (He.Fa.exc x).ok K = true
theorem ps_raiseX {X : Cx} {K : Frag} {W : WX} {x m : Str} {j : Nat} {p p2 pos pos2 : Pos} (hc : X.calm = true) (T : ExcF K X.mg x) (tk : L2N.Takes X W) (hg : Gl X x) (hK : X.K = K := by rfl) (hd : (x == ("__debug__" : Str)) = false := by decide) :
    PS X (.Raise (some (.Call (.Name x p) [.Constant (.str m) j p2] [] pos)) none pos2) (fun _ σ H => W (.ref (He.ga K x)) none σ H) := by
  subst hK
  have q := He.exc_ok T.e
  exact L2N.ps_raise hc tk (L2N.pmk_own PySem.F.excBase_ValueError q.1 T.g q.2.1 (raises_own q.2.2.1 q.2.2.2) hg hd)
/-- which names of classes there are -/
def exNames : List Str := ["BadPegs", "BadFrame", "BadHalf", "BadHook", "BadName", "NoNumber", "NoFrame", "NoStack", "NoPlace", "Taken", "Full", "NothingThere", "BadTrade", "Hangs", "BadPage"]
/-- what the written part says of all classes together -/
def exB (K : Frag) : Bool :=
  exNames.all (fun x => decide (PySem.W.exmOne K (.ref (He.ga K x)) (.ref (He.ga K "RibbonError")) = some true) &&
    exNames.all (fun y => decide (PySem.W.exmOne K (.ref (He.ga K x)) (.ref (He.ga K y)) = some (decide (x = y)) ∧ PySem.W.kitOne K (.ref (He.ga K x)) (.ref (He.ga K y)) = some (decide (x = y)))) &&
    decide (PySem.W.kitOne K (.ref (He.ga K x)) (.type "ValueError") = some true) &&
    decide (PySem.W.findIn K (.ref (He.ga K x)) "__getattribute__" = some (some (.builtin "BaseException.__getattribute__"))) &&
    decide (PySem.W.findIn K (.ref (He.ga K x)) "__getattr__" = some none) &&
    decide (PySem.W.subIn K (.ref (He.ga K x)) (.type "BaseException") = some true) &&
    PySem.W.hasDictIn K (He.ga K x) &&
    decide (PySem.W.findIn K (.ref (He.ga K x)) "__class__" = some (some (.builtin "object.__class__"))) &&
    decide (PySem.W.specialIn K (.builtin "object.__class__") "__get__" = some (some (.builtin "getset_descriptor.__get__"))) &&
    decide (PySem.W.takesIn K (.builtin "object.__class__") = some true) &&
    decide (PySem.W.mroIn K (He.ga K x) (.type "object") = some true))
structure ExF (K : Frag) (x : Str) : Prop where
  rib : PySem.W.exmOne K (.ref (He.ga K x)) (.ref (He.ga K "RibbonError")) = some true
  exm : ∀ y, y ∈ exNames → PySem.W.exmOne K (.ref (He.ga K x)) (.ref (He.ga K y)) = some (decide (x = y)) ∧ PySem.W.kitOne K (.ref (He.ga K x)) (.ref (He.ga K y)) = some (decide (x = y))
  ve : PySem.W.kitOne K (.ref (He.ga K x)) (.type "ValueError") = some true
  c : ExcC K (He.ga K x)
theorem exB_ok {K : Frag} (h : exB K = true) {x : Str} (hx : x ∈ exNames) : ExF K x := by
  unfold exB at h
  have h1 := List.all_eq_true.mp h x hx
  simp only [Bool.and_eq_true] at h1
  obtain ⟨⟨⟨⟨⟨⟨⟨⟨⟨⟨a, b⟩, c⟩, d1⟩, d2⟩, d3⟩, d4⟩, d5⟩, d6⟩, d7⟩, d8⟩ := h1
  exact ⟨of_decide_eq_true a, fun y hy => of_decide_eq_true (List.all_eq_true.mp b y hy), of_decide_eq_true c, ⟨of_decide_eq_true d1, of_decide_eq_true d2, of_decide_eq_true d3, d4, of_decide_eq_true d5, of_decide_eq_true d6, of_decide_eq_true d7, of_decide_eq_true d8⟩⟩
section
variable {K : Frag} {env : List Sl} {x : Str}
/-- "sep".join(a list of texts) -/
theorem ex_join {to te : TE} {z : Str} {ys : List Str} (ho : EX K to env (.str z)) (he : EXl K te env (ys.map PyData.str)) (hl : (ys.map (·.length)).sum + ys.length * z.length ≤ lim) (hj : (Txt.join z ys).length ≤ lim) :
    EX K (tM1 (fun x xs H Q => ∃ a p, ∃ ys : List Str, x = .str a ∧ xs = [.ref p] ∧ (SqL K H p (ys.map V.str) ∨ SqT K H p (ys.map V.str)) ∧ (ys.map (·.length)).sum + ys.length * a.length ≤ 16777216 ∧ Q (.str (Txt.join a ys)) H) to te) env (.str (Txt.join z ys)) := fun F0 H0 F H σ E Q q =>
  ho E _ fun v F1 H1 z1 hv => by
    cases hv
    refine ⟨⟨z, rfl⟩, he (E.step z1) _ fun p vs F2 H2 z2 h1 a1 l1 => ?_⟩
    have := a1.strs
    subst this
    exact ⟨z, p, ys, rfl, rfl, .inl (SqL.of h1), Nat.le_trans hl (by decide), q _ F2 H2 (z1.trans z2) (.str _ hj)⟩
end
end Rb

set_option Elab.async false
set_option linter.all false
set_option maxRecDepth 100000
set_option maxHeartbeats 400000
/-! # what runs while an exception is handled: iterators' ends, unpacking, comprehensions over zip -/
namespace Rb
namespace Hot
open PySem PySem.Spec PyProof.Rows HotX
section
variable {prog : Program} {w : World} {A : Around} {E : Value → Shared → Prop} {s : Shared} {x1 : Addr}
/-- an iterator's end is raised -/
theorem stop {α : Type} {Q : α → Shared → Prop} (hot : HotAt A x1 s.heap) (hE : ∀ h' e, (∀ b o, s.heap.get? b = some o → h'.get? b = some o) → (∃ o, h'.get? e = some o ∧ o.cls = .type "StopIteration") → E (.ref e) { s with heap := h' }) :
    wpAny (model prog w) A (newExc (.type "StopIteration") [] >>= fun e => (raiseNew e : Sem α)) Q E s := by
  obtain ⟨hh, o1, vs1, h1, d1, c1⟩ := hot
  refine wpAny_bind ?_
  simp only [newExc, newTuple]
  refine wpAny_bind (wpAny_newObj_type ?_ (by size_fits))
  refine wpAny_bind (m := firstArgMember _ _) (wpAny_of_eq (a := Value.none) (by first | rfl | (simp only [firstArgMember]; rfl)) ?_)
  refine wpAny_newObj_type ?_ (by size_fits)
  have g := Heap.get?_push_of_some (h := s.heap) { cls := .type "tuple", data := .seq (([] : List Value)).toArray } h1
  refine raiseNew_hot ⟨hh, o1, vs1, Heap.get?_push_of_some _ g, d1, c1⟩ (Nat.ne_of_lt (Heap.lt_size g)) (Heap.get?_push_size _ rfl) rfl (by first | (simp; done) | (simp; omega)) ?_
  refine hE _ _ (fun b o e => ?_) ⟨_, Heap.get?_update_self _ (Heap.get?_push_size _ rfl) rfl, rfl⟩
  have e1 := Heap.get?_push_of_some (h := s.heap) { cls := .type "tuple", data := .seq (([] : List Value)).toArray } e
  rw [Heap.get?_update_other _ _ (Nat.ne_of_gt (Heap.lt_size e1))]
  exact Heap.get?_push_of_some _ e1
theorem HotAt.in1 (hot : HotAt A x1 s.heap) : HotAt A.in1 x1 s.heap := hot
theorem HotAt.but {h' : Heap} {b : Addr} (hot : HotAt A x1 s.heap) (hb : x1 ≠ b) (k : ∀ c o, c ≠ b → s.heap.get? c = some o → h'.get? c = some o) : HotAt A x1 h' := by
  obtain ⟨hh, o1, vs1, h1, d1, c1⟩ := hot
  exact ⟨hh, o1, vs1, k _ _ hb h1, d1, c1⟩
/-- the handled exception is no iterator over a list -/
theorem HotAt.ne_list {l it : Addr} {i : Nat} (hot : HotAt A x1 s.heap) (hit : s.heap.IsListIter it l i) : x1 ≠ it := by
  rintro rfl
  obtain ⟨_, o1, vs1, h1, d1, c1⟩ := hot
  obtain ⟨o, ho, _, hd⟩ := hit
  rw [h1] at ho
  cases ho
  rw [d1] at hd
  cases hd
  cases c1
theorem HotAt.ne_tup {t it : Addr} {i : Nat} (hot : HotAt A x1 s.heap) (hit : IsTupIter s.heap it t i) : x1 ≠ it := by
  rintro rfl
  obtain ⟨_, o1, vs1, h1, d1, c1⟩ := hot
  obtain ⟨o, ho, _, hd⟩ := hit
  rw [h1] at ho
  cases ho
  rw [d1] at hd
  cases hd
  cases c1
/-- next of a list's iterator at its end -/
theorem nextOf_list {it l : Addr} {i : Nat} {items : Array Value} {Q : Value → Shared → Prop} (hot : HotAt A x1 s.heap) (hit : s.heap.IsListIter it l i) (hl : s.heap.IsList l items) (hx : items[i]? = none)
    (hE : ∀ h' e, Heap.ExtBut it s.heap h' → (∃ o, h'.get? e = some o ∧ o.cls = .type "StopIteration") → E (.ref e) { s with heap := h' }) : wpAny (model prog w) A (Builtin.SmallTypes.nextOf (.ref it)) Q E s := by
  have ne := HotAt.ne_list hot hit
  obtain ⟨o, ho, hc, hd⟩ := id hit
  obtain ⟨ol, hol, _, nl, hdl⟩ := hl
  unfold Builtin.SmallTypes.nextOf
  apply wpAny_bind
  refine wpAny_callSpecial?_slot (name := Str.ofString "__next__") hit.typeIs slot_listiter_next (wpAny_call_entry slot_listiter_next hit.typeIs entry_listiter_next ?_ (args_listiter_next _))
  show wpAny _ _ (field (.ref it) 0 >>= _) _ _ s
  apply wpAny_bind
  refine wpAny_field ho hd (x := .ref l) rfl ?_
  show wpAny _ _ (if (Value.ref l == Value.none) = true then _ else _) _ _ s
  rw [if_neg (by intro z; cases z)]
  show wpAny _ _ (field (.ref it) 1 >>= _) _ _ s
  apply wpAny_bind
  refine wpAny_field ho hd (x := .int i 0) rfl ?_
  show wpAny _ _ (seqItems? (.ref l) >>= _) _ _ s
  apply wpAny_bind
  refine wpAny_seqItems hol hdl ?_
  simp only [Int.toNat_natCast, hx]
  apply wpAny_bind
  refine wpAny_rule (wpAny_bind (wpAny_setField ho hd (by simp) ?_))
  have sb := Heap.SameBut.update s.heap it (Obj.mapFields (·.setIfInBounds 0 Value.none))
  show wpAny _ _ (newExc (.type "StopIteration") [] >>= fun e => raiseNew e) _ _ _
  refine stop (x1 := x1) (s := { s with heap := s.heap.update it (Obj.mapFields (·.setIfInBounds 0 Value.none)) }) ?_ fun h' e k he => hE h' e (fun c u hc q => k _ _ (sb.extBut c u hc q)) he
  exact HotAt.but (s := s) hot ne fun c u hc e => sb.extBut c u hc e
/-- next of a tuple's iterator at its end -/
theorem next_tup {it t : Addr} {i : Nat} {items : Array Value} {Q : Option Value → Shared → Prop} (hot : HotAt A x1 s.heap) (hit : IsTupIter s.heap it t i) (ht : IsTup s.heap t items) (hx : items[i]? = none)
    (hQ : ∀ h', Heap.ExtBut it s.heap h' → Q none { s with heap := h' }) : wpAny (model prog w) A (pyNext (.ref it)) Q E s := by
  have ne := HotAt.ne_tup hot hit
  obtain ⟨o, ho, hc, hd⟩ := id hit
  obtain ⟨ol, hol, _, nl, hdl⟩ := ht
  unfold pyNext
  apply wpAny_bind
  apply wpAny_attempt
  refine wpAny_callSpecial?_slot (name := Str.ofString "__next__") hit.typeIs slot_tupleiter_next (wpAny_call_entry slot_tupleiter_next hit.typeIs entry_tupleiter_next ?_ (args_tupleiter_next _))
  show wpAny _ _ (field (.ref it) 0 >>= _) _ _ s
  apply wpAny_bind
  refine wpAny_field ho hd (x := .ref t) rfl ?_
  show wpAny _ _ (if (Value.ref t == Value.none) = true then _ else _) _ _ s
  rw [if_neg (by intro z; cases z)]
  show wpAny _ _ (field (.ref it) 1 >>= _) _ _ s
  apply wpAny_bind
  refine wpAny_field ho hd (x := .int i 0) rfl ?_
  show wpAny _ _ (seqItems? (.ref t) >>= _) _ _ s
  apply wpAny_bind
  refine wpAny_seqItems hol hdl ?_
  simp only [Int.toNat_natCast, hx]
  apply wpAny_bind
  refine wpAny_rule (wpAny_bind (wpAny_setField ho hd (by simp) ?_))
  have sb := Heap.SameBut.update s.heap it (Obj.mapFields (·.setIfInBounds 0 Value.none))
  show wpAny _ _ (newExc (.type "StopIteration") [] >>= fun e => raiseNew e) _ _ _
  refine stop (x1 := x1) (s := { s with heap := s.heap.update it (Obj.mapFields (·.setIfInBounds 0 Value.none)) }) ?_ fun h' e k ⟨oe, he, hce⟩ => ?_
  · exact HotAt.but (s := s) hot ne fun c u hc e => sb.extBut c u hc e
  · refine wpAny_bind (wpAny_isInstance (T := "StopIteration") (b := true) ⟨oe, he, hce⟩ isSubtype_stop ?_)
    exact wpAny_pure (hQ _ fun c u hc q => k _ _ (sb.extBut c u hc q))
/-- a tuple's items to as many targets -/
theorem unpack_tup {t : Addr} {items : Array Value} {targets : List (Bool × (Value → Sem Unit))} {Q : Unit → Shared → Prop} (hot : HotAt A x1 s.heap) (ht : IsTup s.heap t items)
    (hn : targets.length = items.size) (hstar : targets.findIdx? (·.1) = none)
    (h : ∀ h', Heap.ExtBut s.heap.objs.size s.heap h' → wpAny (model prog w) A (assignInOrder (targets.map (·.2)) items.toList) Q E { s with heap := h' }) : wpAny (model prog w) A (unpack (.ref t) targets) Q E s := by
  have hlt : t ≠ s.heap.objs.size := by
    obtain ⟨o, ho, _⟩ := ht
    exact Nat.ne_of_lt (Heap.lt_size ho)
  have hx1 : x1 ≠ s.heap.objs.size := by
    obtain ⟨_, o1, _, h1, _⟩ := hot
    exact Nat.ne_of_lt (Heap.lt_size h1)
  unfold unpack
  rw [hn, hstar]
  refine wpAny_bind (wpAny_holding ?_)
  unfold unpackItems
  apply wpAny_bind
  unfold notIterableAtAll
  refine wpAny_bind (wpAny_specialOf ht.typeIs slot_tuple_iter.lookup (wpAny_pure ?_))
  simp only [Bool.false_eq_true, if_false]
  refine wpAny_bind (wpAny_holding (iter_tuple ht (wpAny_bind (wpAny_holding (draw_tuple hlt items.size 0 _ _ ⟨_, Heap.get?_push_size _ rfl, rfl, rfl⟩ (ht.push _) (by omega) fun h1 it1 s1 => ?_)))))
  have all : List.take items.size (List.drop 0 items.toList) = items.toList := by
    rw [List.drop_zero]
    exact List.take_of_length_le (by simp)
  rw [all, if_neg (by simp)]
  have t1 : IsTup h1 t items := (ht.push _).extBut s1.extBut hlt
  have hot1 : HotAt A x1 h1 := by
    obtain ⟨hh, o1, vs1, g1, d1, c1⟩ := hot
    exact ⟨hh, o1, vs1, s1.extBut _ _ hx1 (Heap.get?_push_of_some _ g1), d1, c1⟩
  refine wpAny_bind (wpAny_holding (next_tup hot1 it1 t1 (by simp) fun h2 e2 => ?_))
  simp only [Option.isSome_none, Bool.false_eq_true, if_false]
  exact wpAny_pure (h h2 fun b o hb e => e2 b o hb (s1.extBut b o hb (Heap.get?_push_of_some _ e)))
/-- zip's end: the first or the second list is at its end -/
theorem next_zip {z TI TO i1 i2 l1 l2 : Addr} {k1 k2 : Nat} {xs ys : Array Value} {a b : Value} {Q : Option Value → Shared → Prop} (hot : HotAt A x1 s.heap) (D : ZipApart z TI TO i1 i2 l1 l2) (hz : IsZip s.heap z TI TO .none) (hTI : IsPair s.heap TI (.ref i1) (.ref i2)) (hTO : IsPair s.heap TO a b)
    (h1 : s.heap.IsListIter i1 l1 k1) (h2 : s.heap.IsListIter i2 l2 k2) (hl1 : s.heap.IsList l1 xs) (hl2 : s.heap.IsList l2 ys) (hend : xs[k1]? = none ∨ ys[k2]? = none)
    (nz : x1 ≠ z) (nTO : x1 ≠ TO) (hQ : ∀ h', (∀ c o, c ≠ z → c ≠ TO → c ≠ i1 → c ≠ i2 → s.heap.get? c = some o → h'.get? c = some o) → Q none { s with heap := h' }) : wpAny (model prog w) A (pyNext (.ref z)) Q E s := by
  have hT : s.TypeIs (.ref z) "zip" := ⟨_, hz, rfl⟩
  have n1 := HotAt.ne_list hot h1
  unfold pyNext
  apply wpAny_bind
  apply wpAny_attempt
  refine wpAny_callSpecial?_slot (name := Str.ofString "__next__") hT F.slot_zip_next (wpAny_call_entry F.slot_zip_next hT F.entry_zip_next ?_ (F.args_zip_next_1 _))
  have leave : ∀ h' e, (∀ c o, c ≠ z → c ≠ TO → c ≠ i1 → c ≠ i2 → s.heap.get? c = some o → h'.get? c = some o) → (∃ o, h'.get? e = some o ∧ o.cls = .type "StopIteration") →
      wpAny (model prog w) A (do if (← isInstance (.ref e) (.type "StopIteration")) then pure none else throw (.ref e) : Sem (Option Value)) Q E { s with heap := h' } := fun h' e k ⟨o, ho, hc⟩ =>
    wpAny_bind (wpAny_isInstance (T := "StopIteration") (b := true) ⟨o, ho, hc⟩ isSubtype_stop (wpAny_pure (hQ _ k)))
  show wpAny _ _ (field (.ref z) 2 >>= _) _ _ _
  apply wpAny_bind
  refine wpAny_field hz rfl (x := .bool false) rfl ?_
  show wpAny _ _ (field (.ref z) 3 >>= _) _ _ _
  apply wpAny_bind
  refine wpAny_field hz rfl (x := .ref TI) rfl ?_
  apply wpAny_bind
  refine wpAny_seqItems hTI rfl ?_
  show wpAny _ _ (Builtin.SmallTypes.ownedTupleIsFree (.ref z) >>= _) _ _ _
  apply wpAny_bind
  unfold Builtin.SmallTypes.ownedTupleIsFree
  apply wpAny_bind
  refine wpAny_field hz rfl (x := .none) rfl (wpAny_pure ?_)
  simp only [if_true]
  apply wpAny_bind
  apply wpAny_rule
  apply wpAny_bind
  refine wpAny_field hz rfl (x := .ref TO) rfl ?_
  apply wpAny_bind
  refine wpAny_setField_rec hz (by simp) fun g1 z1 s1 => ?_
  replace z1 : IsZip g1 z TI TO .ellipsis := z1
  have hot1 : HotAt A x1 g1 := HotAt.but (s := s) hot nz fun c o hc e => s1.extBut c o hc e
  apply wpAny_bind
  simp only [List.zipIdx_cons, List.zipIdx_nil, List.forIn_cons, List.forIn_nil]
  refine wpAny_bind (wpAny_bind (wpAny_onRaise ?_))
  show wpAny _ _ (Builtin.SmallTypes.nextOf (.ref i1) >>= _) _ _ _
  cases hx : xs[k1]? with
  | none =>
    apply wpAny_bind
    refine nextOf_list (s := { s with heap := g1 }) hot1 (h1.extBut s1.extBut D.i1z) (hl1.extBut s1.extBut D.l1z) hx fun g2 e s2 ⟨oe, hoe, hce⟩ => ?_
    have z2 : IsZip g2 z TI TO .ellipsis := s2 _ _ D.i1z.symm z1
    have hez : e ≠ z := by
      rintro rfl
      rw [z2] at hoe
      cases hoe
      simp at hce
    refine wpAny_setField_rec z2 (by simp) fun g3 _ s3 => ?_
    exact leave g3 e (fun c o c1 _ c3 _ q => s3.extBut _ _ c1 (s2 _ _ c3 (s1.extBut _ _ c1 q))) ⟨oe, s3.extBut _ _ hez hoe, hce⟩
  | some x =>
    have hy : ys[k2]? = none := hend.resolve_left fun q => by rw [hx] at q; cases q
    apply wpAny_bind
    refine wpAny_nextOf_list_item (h1.extBut s1.extBut D.i1z) (hl1.extBut s1.extBut D.l1z) hx fun g2 h1' s2 => wpAny_pure ?_
    have TO2 : IsPair g2 TO a b := s2.extBut _ _ D.TOi1 (s1.extBut _ _ D.TOz hTO)
    have hot2 : HotAt A x1 g2 := HotAt.but (s := { s with heap := g1 }) hot1 n1 fun c o hc e => s2.extBut c o hc e
    apply wpAny_bind
    refine wpAny_seqItems TO2 rfl ?_
    apply wpAny_bind
    refine wpAny_updateSeq_pair TO2 fun g3 TO3 s3 => ?_
    have hot3 : HotAt A x1 g3 := HotAt.but (s := { s with heap := g2 }) hot2 nTO fun c o hc e => s3.extBut c o hc e
    refine wpAny_bind (wpAny_letGo (wpAny_pure ?_))
    refine wpAny_bind (wpAny_bind (wpAny_onRaise ?_))
    show wpAny _ _ (Builtin.SmallTypes.nextOf (.ref i2) >>= _) _ _ _
    apply wpAny_bind
    refine nextOf_list (s := { s with heap := g3 }) hot3 (((h2.extBut s1.extBut D.i2z).extBut s2.extBut D.i12.symm).extBut s3.extBut D.TOi2.symm) (((hl2.extBut s1.extBut D.l2z).extBut s2.extBut D.l2i1).extBut s3.extBut D.l2TO) hy fun g4 e s4 ⟨oe, hoe, hce⟩ => ?_
    have z4 : IsZip g4 z TI TO .ellipsis := s4 _ _ D.i2z.symm (s3.extBut _ _ D.TOz.symm (s2.extBut _ _ D.i1z.symm z1))
    have hez : e ≠ z := by
      rintro rfl
      rw [z4] at hoe
      cases hoe
      simp at hce
    refine wpAny_setField_rec z4 (by simp) fun g5 _ s5 => ?_
    exact leave g5 e (fun c o c1 c2 c3 c4 q => s5.extBut _ _ c1 (s4 _ _ c4 (s3.extBut _ _ c2 (s2.extBut _ _ c3 (s1.extBut _ _ c1 q))))) ⟨oe, s5.extBut _ _ hez hoe, hce⟩
theorem HotAt.ne_zip {z TI TO : Addr} {f : Value} (hot : HotAt A x1 s.heap) (hz : IsZip s.heap z TI TO f) : x1 ≠ z := by
  rintro rfl
  obtain ⟨_, o1, vs1, h1, d1, c1⟩ := hot
  have e : some o1 = some _ := h1.symm.trans hz
  cases e
  cases d1
  cases c1
theorem HotAt.ne_pair {T : Addr} {a b : Value} (hot : HotAt A x1 s.heap) (hz : IsPair s.heap T a b) : x1 ≠ T := by
  rintro rfl
  obtain ⟨_, o1, vs1, h1, d1, c1⟩ := hot
  have e : some o1 = some _ := h1.symm.trans hz
  cases e
  cases d1
end
end Hot
open PySem PySem.Spec PyProof.Rows L2 HotX L2H
/-- zip of two lists, turn by turn -/
theorem turn_zipH {P : Program} {w : World} {K : Frag} {elts : List Expr} {kk : Nat} {tpos : Pos} {a b z TI TO i1 i2 : Addr} (D : ZipApart z TI TO i1 i2 a b) :
    TurnH P w K (.Tuple elts kk tpos) (Itz K a b) [z, TI, TO, i1, i2] z (fun i h => IsZip h z TI TO .none ∧ IsPair h TI (.ref i1) (.ref i2) ∧ (∃ x y, IsPair h TO x y) ∧ h.IsListIter i1 a i ∧ h.IsListIter i2 b i) := by
  have T := turn_zip (P := P) (w := w) (K := K) (elts := elts) (kk := kk) (tpos := tpos) D
  refine ⟨T.mem, T.obj, T.keep, ?_, ?_, T.self⟩
  · intro X hP hw hK hc i pins s σ H E I hf st hg
    subst hP hw hK
    obtain ⟨hz, hTI, ⟨x0, y0, hTO⟩, h1, h2⟩ := st
    obtain ⟨xs, ys, x, y, qx, qy, hx, hy⟩ := hg
    obtain ⟨_, rx, px, _⟩ := I.list qx
    obtain ⟨_, ry, py, _⟩ := I.list qy
    obtain ⟨u, hu, ru⟩ := rx.get hx
    obtain ⟨v, hv, rv⟩ := ry.get hy
    have lz : z < s.heap.objs.size := Heap.lt_size hz
    have five : ∀ c, c ∈ [z, TI, TO, i1, i2] → c < s.heap.objs.size := fun c hc => by
      obtain ⟨o, ho, _⟩ := T.obj i s.heap ⟨hz, hTI, ⟨x0, y0, hTO⟩, h1, h2⟩ c hc
      exact Heap.lt_size ho
    refine wpAny_pyNext_zip_item D hz hTI hTO h1 h2 px.isList py.isList (x := u) (y := v) (by simpa using hu) (by simpa using hv) fun g1 z1 TO1 j1 j2 nw sz k1 => ⟨_, rfl, ?_⟩
    refine wpAny_letOwnedTupleGo_zip (s := { s with heap := g1 }) z1 fun g2 z2 s2 => ?_
    have nw2 : g2.get? s.heap.objs.size = some { cls := .type "tuple", data := .seq #[u, v] } := (s2.2 _ (Nat.ne_of_gt lz)).trans nw
    have ob : ObjOk X.prog X.w (upd H s.heap.objs.size (.tup [x, y])) g2 s.heap.objs.size (.tup [x, y]) := ⟨by show 2 ≤ sizeLine; decide, [u, v], .cons ru (.cons rv .nil), ⟨_, nw2, rfl, _, rfl⟩⟩
    have out : ∀ {c : Addr}, c ∉ [z, TI, TO, i1, i2] → c ≠ z ∧ c ≠ TI ∧ c ≠ TO ∧ c ≠ i1 ∧ c ≠ i2 := fun {c} h => by simpa using h
    have J := I.turnedNew (t' := s.toks) (ch := [z, TI, TO, i1, i2]) (h' := g2) (fun c o hb q => (s2.2 c (out hb).1).trans (k1 c o (out hb).1 (out hb).2.2.1 (out hb).2.2.2.1 (out hb).2.2.2.2 q)) hf (Nat.le_refl _) ob
    refine ⟨.ref s.heap.objs.size, _, J, rfl, ⟨_, x, y, rfl, I.hok.fresh (Nat.le_refl _), rfl, fun l hl => by rw [I.list_inj hl qx]; exact hx, fun l hl => by rw [I.list_inj hl qy]; exact hy⟩,
      ⟨z2, (s2.2 _ D.TIz).trans (k1 _ _ D.TIz D.TITO D.TIi1 D.TIi2 hTI), ⟨u, v, (s2.2 _ D.TOz).trans TO1⟩, j1.at fun o q => (s2.2 _ D.i1z).trans q, j2.at fun o q => (s2.2 _ D.i2z).trans q⟩, fun c hm => ?_⟩
    rw [upd_ne (Nat.ne_of_lt (five c hm))]
    exact (hf c hm).1
  · intro X hP hw hK hc i pins s σ H E I hf st hg
    subst hP hw hK
    obtain ⟨hz, hTI, ⟨x0, y0, hTO⟩, h1, h2⟩ := st
    obtain ⟨xs, ys, qx, qy, hend⟩ := hg
    obtain ⟨its, rx, px, _⟩ := I.list qx
    obtain ⟨jts, ry, py, _⟩ := I.list qy
    obtain ⟨x1, hot⟩ := hc.at I
    have lx := rx.length
    have ly := ry.length
    have he : its.toArray[i]? = none ∨ jts.toArray[i]? = none := hend.elim (fun q => .inl (by simp; omega)) fun q => .inr (by simp; omega)
    have out : ∀ {c : Addr}, c ∉ [z, TI, TO, i1, i2] → c ≠ z ∧ c ≠ TI ∧ c ≠ TO ∧ c ≠ i1 ∧ c ≠ i2 := fun {c} h => by simpa using h
    exact Hot.next_zip hot D hz hTI hTO h1 h2 px.isList py.isList he (Hot.HotAt.ne_zip hot hz) (Hot.HotAt.ne_pair hot hTO) fun g k => ⟨rfl, I.turnedL (t' := s.toks) (ch := [z, TI, TO, i1, i2]) (fun c o hb q => k c o (out hb).1 (out hb).2.2.1 (out hb).2.2.2.1 (out hb).2.2.2.2 q) hf⟩
theorem pi_zipH {X : Cx} {K : Frag} {e e2 : Expr} {ta : TA} {p pos tpos : Pos} {elts : List Expr} {kk : Nat} (hg : Gl X "zip") (hm : X.mg "zip" = none) (ha : PA X [e, e2] ta) (hK : X.K = K := by rfl)
    (hs : starEach [e, e2] X.env = (false, eval e X.env) :: starEach [e2] X.env := by rfl) (hpl : (backTo pos (starEach [e2] X.env)).any (·.1) = false := by rfl) :
    PIH X (.Tuple elts kk tpos) (.Call (.Name "zip" p) [e, e2] [] pos) (iZip K ta) := by
  subst hK
  constructor
  intro pins s σ H R I h
  refine Call_ (ld_blt I hg hm PyProof.Rows.boot_zip (PyProof.Rows.callWith_type1 (thn (ha.run pos pins s σ H _ I h) fun us s1 ⟨vs, H1, I1, r1, q1⟩ => ?_) hs hpl))
  obtain ⟨a, b, xs, ys, ex, qx, qy, q⟩ := q1
  subst ex
  cases r1 with
  | cons r2 rr =>
  cases rr with
  | cons r3 rr =>
  cases rr
  cases r2
  cases r3
  obtain ⟨_, _, px, _⟩ := I1.list qx
  obtain ⟨_, _, py, _⟩ := I1.list qy
  have la : a < s1.heap.objs.size := px.lt
  have lb : b < s1.heap.objs.size := py.lt
  refine call_zip_2 px.isList py.isList fun g hz hTI hTO h1 h2 hsz hk => wpAny_pyIter_zip hz ?_
  have I2 : Inv X pins σ H1 { s1 with heap := g } := I1.kept (t' := s1.toks) hk
  refine ⟨s1.heap.objs.size + 4, [s1.heap.objs.size + 4, s1.heap.objs.size + 2, s1.heap.objs.size + 3, s1.heap.objs.size, s1.heap.objs.size + 1], _, _, H1, rfl, I2, turn_zipH (PySem.W.ktu_apart s1.heap.objs.size a b la lb), ⟨hz, hTI, ⟨_, _, hTO⟩, h1, h2⟩, fun c hcm => ?_, q⟩
  have hle : s1.heap.objs.size ≤ c := by
    simp only [List.mem_cons, List.not_mem_nil, or_false] at hcm
    rcases hcm with h | h | h | h | h <;> rw [h] <;> first | exact Nat.le_refl _ | exact Nat.le_add_right _ _
  exact I1.fpOk hle (I1.hok.fresh hle)
theorem pg_tupH {X : Cx} {K : Frag} {pos : Pos} {es : List Expr} {k : Nat} {t : TGs} {n : Nat} (hc : HotC X) (h : PGs X es t) (hn : (assignEach es X.env).length = n := by rfl) (hst : (assignEach es X.env).findIdx? (·.1) = none := by rfl) (hK : X.K = K := by rfl) : PG X (.Tuple es k pos) (gTup K n t) := by
  subst hK
  constructor
  intro pins s σ H v u Q I r hw
  obtain ⟨a, xs, e1, hq, hl, hw⟩ := hw
  subst e1
  obtain rfl : u = Value.ref a := r
  obtain ⟨its, rv, ht, hz⟩ := I.tuple hq
  obtain ⟨x1, hot⟩ := hc.at I
  rw [PyProof.Rows.assign_Tuple]
  refine wpAny_bind (wpAny_standAt (Hot.unpack_tup hot ht (by simp [hn, ← hl, rv.length]) hst fun g hx => ?_))
  have J : Inv X pins σ H { s with heap := g } := I.kept (t' := s.toks) fun b o e => hx b o (Nat.ne_of_lt (Heap.lt_size e)) e
  exact h.run pins _ σ H xs _ Q J (by simpa using rv) hw
/-! ### comprehensions -/
abbrev blkH (X : Cx) (s : Shared) (H : Hp) (scope : Scope) (ce : Env) (fp : List Addr) (p : Addr × Obj) : Cx := { X.blk s H scope ce fp with pn := [p] }
theorem blkH_ok {X : Cx} {s : Shared} {H : Hp} {scope : Scope} {ce : Env} {fp : List Addr} {p : Addr × Obj} (ok : (X.blk s H scope ce fp).Ok) : (blkH X s H scope ce fp p).Ok :=
  { mod := ok.mod, kind := ok.kind, glob := ok.glob, blt := ok.blt, above := ok.above, inj := ok.inj, has := ok.has, cab := ok.cab, hd := ok.hd, frames := ok.frames, stk := ok.stk, exf := ok.exf, bs := ok.bs, bsz := ok.bsz, noex := ok.noex, exfs := ok.exfs, funs := ok.funs, frf := ok.frf }
theorem blkH_inv {X : Cx} {s s' : Shared} {H H' : Hp} {scope : Scope} {ce : Env} {fp : List Addr} {p : Addr × Obj} {σ : L2.St} (I : Inv (X.blk s H scope ce fp) [] σ H' s') (h : s'.heap.get? p.1 = some p.2 ∧ H' p.1 = none ∧ p.1 ≠ ce.locals ∧ p.1 ∉ frs X.stack ∧ ∀ v, p.2.data ≠ .cell v) : Inv (blkH X s H scope ce fp p) [] σ H' s' :=
  { ok := blkH_ok I.ok, os := I.os, bare := I.bare, base := I.base, loc := I.loc, cell := I.cell, free := I.free, freeC := I.freeC, hok := I.hok, len := I.len, pin := fun q hq => by
      have e : q = p := by simpa using (show q ∈ [p] ++ ([] : List (Addr × Obj)) from hq)
      rw [e]
      exact h }
theorem lc_hot {X : Cx} {pins : List (Addr × Obj)} {s : Shared} {σ : L2.St} {H : Hp} {Q : VK} {elt tg iter : Expr} {ifs : List Expr} {scope : Scope} {own : List (Str × Nat)} {pos pos' : Pos} {wi : TI} {g : TG} {tt : TT} {te : TE} {Qf : Value → Shared → Prop}
    (hc : HotC X) (hN : X.N.Nodup) (I : Inv X pins σ H s) (hi : PIH X tg iter wi) (ok : BlkOk X.N X.env.scope scope own)
    (hg : ∀ s H C cl fp p, Hot1 X.A p → PG (blkH X s H scope (compEnvC scope cl C X.env) fp p) tg g) (ht : ∀ s H C cl fp p, Hot1 X.A p → PTs (blkH X s H scope (compEnvC scope cl C X.env) fp p) ifs tt) (he : ∀ s H C cl fp p, Hot1 X.A p → PE (blkH X s H scope (compEnvC scope cl C X.env) fp p) elt te)
    (hs : ∀ x, foldedSetIterable iter X.env x = pure x) (h : tLc wi g tt te (own.map (·.2)) σ H Q)
    (fin : ∀ D C s' m H', Inv X pins σ H' s' → Q (.ref D) H' → s'.heap.Ns C m → FpOk X pins H' C → compPost (model X.prog X.w) X.A X.xe none Qf (.ref D) C (.ok .next) s') :
    wpAny (model X.prog X.w) X.A (comprehension (.ListComp elt [⟨tg, iter, ifs, 0⟩] scope pos) scope X.env pos' (newList []) false (eval iter X.env) none) Qf X.xe s := by
  obtain ⟨p, hot, hp⟩ := hc
  have frees : ∀ y ∈ scope.names, y.2 = .free → ∃ c, X.env.cells.lookup y.1 = some c := fun y hy e => (ok.free y hy e).elim (fun k => I.ok.has _ (.inl k)) fun k => I.ok.has _ (.inr k)
  refine wpAny_comprehension_free (use := none) rfl hs (closure_ok frees) ok.kind (fun y hy e => by rw [ok.uniq y hy, e]) ?_
  refine thn (hi.run pins s σ H _ I h) fun xv s1 hx => thn hx fun itv s2 h2 => ?_
  obtain ⟨it, fp, tn, J, H2, e, I2, T, st2, f2, q⟩ := h2
  subst e
  refine wpAny_newObj_type (newEnv_comp ?_) (by show 0 ≤ sizeLine; decide)
  -- the list that is made
  obtain ⟨D, hD⟩ : ∃ D, s2.heap.objs.size = D := ⟨_, rfl⟩
  rw [hD]
  have nD : H2 D = none := I2.hok.fresh (Nat.le_of_eq hD)
  obtain ⟨W, ⟨m0, w0⟩, turn⟩ := q D nD
  obtain ⟨s3, hs3⟩ : ∃ s3 : Shared, ({ s2 with heap := s2.heap.push { cls := .type "list", data := .seq ([] : List Value).toArray } } : Shared) = s3 := ⟨_, rfl⟩
  rw [hs3]
  have e3 : s3.heap = s2.heap.push { cls := .type "list", data := .seq ([] : List Value).toArray } := by rw [← hs3]
  obtain ⟨H3, hH3⟩ : ∃ H3, upd H2 D (.lst []) = H3 := ⟨_, rfl⟩
  rw [hH3] at w0
  have I3 : Inv X pins σ H3 s3 := by
    rw [← hs3, ← hH3]
    refine I2.laid (t' := s2.toks) (fun b o e => Heap.get?_push_of_some _ e) (Nat.le_of_eq hD) ⟨Nat.zero_le _, [], 0, .nil, ?_⟩
    rw [← hD]
    exact Heap.get?_push_size _ rfl
  have small : ∀ b ∈ fp, b < s2.heap.objs.size := fun b hb => by
    obtain ⟨_, e, _⟩ := T.obj _ _ st2 b hb
    exact Heap.lt_size e
  have f3 : ∀ b ∈ fp, FpOk X pins H3 b ∧ b < s3.heap.objs.size := fun b hb => by
    have lt := small b hb
    refine ⟨⟨?_, (f2 b hb).2⟩, by rw [e3, Heap.size_push]; exact Nat.lt_succ_of_lt lt⟩
    rw [← hH3, upd_ne (by rw [← hD]; exact Nat.ne_of_lt lt)]
    exact (f2 b hb).1
  have st3 : tn 0 s3.heap := T.keep _ _ _ st2 fun b _ o e => by rw [e3]; exact Heap.get?_push_of_some _ e
  have pin3 := I3.pin p (List.mem_append_left _ hp)
  have B4 := block_start I3 ok hN f3
  have pg := hg s3 H3 s3.heap.objs.size (cellsFrom (s3.heap.objs.size + 1) scope.names (cloFrom X.env.cells scope.names [])) fp p hot
  have pt := ht s3 H3 s3.heap.objs.size (cellsFrom (s3.heap.objs.size + 1) scope.names (cloFrom X.env.cells scope.names [])) fp p hot
  have pe := he s3 H3 s3.heap.objs.size (cellsFrom (s3.heap.objs.size + 1) scope.names (cloFrom X.env.cells scope.names [])) fp p hot
  show codeAny _ _ (.compStart (.ListComp elt [⟨tg, iter, ifs, 0⟩] scope pos) 0 (.ref it) (.ref D) (compEnvC scope (cellsFrom (s3.heap.objs.size + 1) scope.names (cloFrom X.env.cells scope.names [])) s3.heap.objs.size X.env)) (compPost (model X.prog X.w) X.A X.xe none Qf (.ref D) s3.heap.objs.size) { s3 with heap := pushCells (s3.heap.push { cls := .type "dict", data := .dict #[] }) scope.names }
  obtain ⟨ce, hce⟩ : ∃ ce, compEnvC scope (cellsFrom (s3.heap.objs.size + 1) scope.names (cloFrom X.env.cells scope.names [])) s3.heap.objs.size X.env = ce := ⟨_, rfl⟩
  rw [hce] at B4 pg pt pe ⊢
  have cL : ce.locals = s3.heap.objs.size := by rw [← hce]; rfl
  obtain ⟨s4, hs4⟩ : ∃ s4 : Shared, ({ s3 with heap := pushCells (s3.heap.push { cls := .type "dict", data := .dict #[] }) scope.names } : Shared) = s4 := ⟨_, rfl⟩
  rw [hs4] at B4 ⊢
  have keep4 : ∀ b o, s3.heap.get? b = some o → s4.heap.get? b = some o := fun b o e => by rw [← hs4]; exact pushCells_keeps _ _ _ _ (Heap.get?_push_of_some _ e)
  have I4 : Inv (blkH X s3 H3 scope ce fp p) [] (wipe σ (own.map (·.2))) H3 s4 := blkH_inv B4 ⟨keep4 _ _ pin3.1, pin3.2.1, by rw [cL]; exact Nat.ne_of_lt (Heap.lt_size pin3.1), fun hm => (List.mem_cons.mp (I3.stkSub p.1 hm)).elim pin3.2.2.1 pin3.2.2.2.1, pin3.2.2.2.2⟩
  have hot4 : HotC (blkH X s3 H3 scope ce fp p) := ⟨p, hot, List.mem_cons_self⟩
  have st4 : tn 0 s4.heap := T.keep _ _ _ st3 fun b _ o e => keep4 b o e
  have pfp : ∀ b ∈ fp, p.1 ≠ b := fun b hb => (f3 b hb).1.2.2.2.2.2 p (List.mem_append_left _ hp)
  have stat : ∀ {σ' : L2.St} {H' : Hp} {s' : Shared}, Inv (blkH X s3 H3 scope ce fp p) [] σ' H' s' → (∀ b ∈ fp, H' b = none) → ∀ b ∈ fp, FpOk (blkH X s3 H3 scope ce fp p) [] H' b := fun {σ' H' s'} I' hn b hb =>
    ⟨hn b hb, (I'.ok.exf b hb).1, I'.ok.exfs b hb, .inl hb, fun x c e => (I'.ok.exf b hb).2 x c e, fun q hq => by
      have e : q = p := by simpa using (show q ∈ [p] ++ ([] : List (Addr × Obj)) from hq)
      rw [e]
      exact pfp b hb⟩
  refine codeAny_compStart_list ?_ (T.self X.A 0 _ _ _ st4 ?_) <;>
  · refine compLoop_any (fun n s' => ∃ i H', Inv (blkH X s3 H3 scope ce fp p) [] (wipe σ (own.map (·.2))) H' s' ∧ tn i s'.heap ∧ (∀ b ∈ fp, H' b = none) ∧ W i n H') ?_ m0 ⟨0, H3, I4, st4, fun b hb => (f3 b hb).1.1, w0⟩
    rintro n s5 ⟨i, H5, I5, st5, n5, w5⟩
    rcases turn i n H5 w5 with ⟨stop, qq⟩ | ⟨go, Nx, hNx, step⟩
    · refine thnF (T.done (blkH X s3 H3 scope ce fp p) rfl rfl rfl hot4 i [] s5 _ H5 (fun _ _ => False) I5 (stat I5 n5) st5 stop) fun r s6 ⟨hr, I6⟩ => ?_
      subst hr
      have I7 : Inv X pins σ H5 s6 := I3.call' (ch := fp) I6.os I6.base I6.hok I6.bare fun b hb => ⟨(f3 b hb).1.2.2.2.1, (f3 b hb).1.2.1, (f3 b hb).1.2.2.2.2.1, (f3 b hb).1.2.2.2.2.2⟩
      have nC : H5 s3.heap.objs.size = none := by rw [← cL]; exact I6.free
      obtain ⟨m, hn, _⟩ := I6.loc
      have hn : s6.heap.Ns s3.heap.objs.size m := by rw [← cL]; exact hn
      exact fin D s3.heap.objs.size s6 m H5 I7 qq hn (I3.fpOk (Nat.le_refl _) nC)
    · refine thnF (T.item (blkH X s3 H3 scope ce fp p) rfl rfl rfl hot4 i [] s5 _ H5 (fun _ _ => False) I5 (stat I5 n5) st5 go) fun r s6 ⟨u, hr, h6⟩ => ?_
      subst hr
      refine thnF h6 fun _ s7 ⟨x, H7, I7, r7, y7, st7, n7⟩ => ?_
      refine thnF (pg.run _ s7 _ H7 x u _ (I7.pinned (stat I7 n7) (T.obj _ _ st7)) r7 (step x H7 y7)) fun _ s8 ⟨σ8, H8, I8, hw8, q8⟩ => ?_
      refine thnF (pt.run _ s8 σ8 H8 _ I8 q8) fun b s9 ⟨H9, I9, q9⟩ => ?_
      have again : ∀ {s' : Shared} {H' : Hp}, Inv (blkH X s3 H3 scope ce fp p) ([] ++ pinsAt fp s7.heap) σ8 H' s' → Nx H' → ∃ m, m < n ∧ ∃ i H', Inv (blkH X s3 H3 scope ce fp p) [] (wipe σ (own.map (·.2))) H' s' ∧ tn i s'.heap ∧ (∀ b ∈ fp, H' b = none) ∧ W i m H' := fun {s' H'} I' nx => by
        obtain ⟨m', hm, w'⟩ := hNx H' nx
        have held : ∀ b ∈ fp, ∀ o, s7.heap.get? b = some o → s'.heap.get? b = some o ∧ H' b = none := fun b hb o e => by
          have z := I'.pin (b, o) (List.mem_append_right _ (List.mem_append_right _ (mem_pinsAt hb e)))
          exact ⟨z.1, z.2.1⟩
        have len : (wipe σ (own.map (·.2))).length = σ8.length := by rw [← hw8, wipe_length]
        refine ⟨m', hm, i + 1, H', (I'.unpinned (pins := [])).weak len (fun j v e => ?_), T.keep _ _ _ st7 fun b hb o e => (held b hb o e).1, fun b hb => ?_, w'⟩
        · rw [← hw8] at e
          exact (wipe_some e).1
        · obtain ⟨o, e, _⟩ := T.obj _ _ st7 b hb
          exact (held b hb o e).2
      cases b with
      | false =>
        simp only [Bool.false_eq_true, if_false] at q9 ⊢
        exact again I9 q9
      | true =>
        simp only [if_true] at q9 ⊢
        refine thnF (pe.run _ s9 σ8 H9 _ I9 q9) fun z s10 ⟨yv, H10, I10, r10, acc, hD10, hz10, nx⟩ => ?_
        exact app_ok (X := blkH X s3 H3 scope ce fp p) I10 hD10 hz10 r10 fun s11 I11 => again I11 nx
theorem pe_lcH {X : Cx} {elt tg iter : Expr} {ifs : List Expr} {scope : Scope} {own : List (Str × Nat)} {pos : Pos} {wi : TI} {g : TG} {tt : TT} {te : TE} (hc : HotC X) (hN : X.N.Nodup) (hi : PIH X tg iter wi) (ok : BlkOk X.N X.env.scope scope own)
    (hg : ∀ s H C cl fp p, Hot1 X.A p → PG (blkH X s H scope (compEnvC scope cl C X.env) fp p) tg g) (ht : ∀ s H C cl fp p, Hot1 X.A p → PTs (blkH X s H scope (compEnvC scope cl C X.env) fp p) ifs tt) (he : ∀ s H C cl fp p, Hot1 X.A p → PE (blkH X s H scope (compEnvC scope cl C X.env) fp p) elt te)
    (hs : ∀ x, foldedSetIterable iter X.env x = pure x := by intro _; rfl) : PE X (.ListComp elt [⟨tg, iter, ifs, 0⟩] scope pos) (tLc wi g tt te (own.map (·.2))) := by
  constructor
  intro pins s σ H Q I h
  rw [eval_ListComp]
  refine lc_hot hc hN I hi ok hg ht he hs h fun D C s' m H' J q hn f => ⟨m, hn, fun g sb => ?_⟩
  obtain ⟨f0, f1, f2, f3, f4, f5⟩ := f
  exact ⟨.ref D, H', J.turned (t' := s'.toks) (fun b o hb e => (sb.2 b hb).trans e) f0 f1 f3 f4 f5, rfl, q⟩
end Rb

set_option Elab.async false
set_option linter.all false
set_option maxRecDepth 100000
set_option maxHeartbeats 400000
/-! # the def that tells an exception's class, called where it is handled; try -/
namespace Rb
open PySem PySem.Spec PyProof.Rows L2 HotX L2H
/-- a def's call while p is handled -/
theorem run_hot {P : Program} {w : World} {K : Frag} {mg : Str → Option Value} {base : Heap} {x qual : Str} {params : Arguments} {body : List Stmt} {scope : Scope} {f : Addr} {fd : FuncData} {N ps : List Str} {k : Nat} {A : Around} {outer : List Env} {s : Shared} {H : Hp} {us : List Value} {vs : List V} {Q : VK} {p : Addr × Obj}
    (F : FunD K x qual params body scope [] [] f fd) (S : FnScope N ps scope) (hr : RoomH (k + 1) A) (hot : Hot1 A p) (hpin : PinOk outer H s p) (e0 : Env0 P w K mg base A outer s H) (hb : BindsTo s fd ⟨us, []⟩ (ps.zip us)) (r : Vals vs us) (hl : vs.length = ps.length)
    (hq : ∀ cdv, RoomH k (A.deeper (envOfC qual scope s.heap.objs.size f cdv)) → ∃ t, PSs (cxH CX0 P w K mg base N qual scope f cdv A outer s H E0 p) body t ∧ t { nx := fun _ H' => Q .non H', rt := Q } (L2.start N vs) H) :
    codeAny (model P w) A (.call (.ref f) ⟨us, []⟩) (CR CX0 outer P w H s Q E0) s := by
  obtain ⟨oc, od, dV, kV, doc, pm, an, cdv, ct, osl, rfl, lk, hcd, _, _⟩ := F.ex
  have KX : K.In s.heap := e0.mod.kin.keeps fun b o e => (e0.bs b o e).1
  have lim : s.heap.NoLimit := e0.mod.nolimit.keeps fun b o e => (e0.bs b o e).1
  refine codeAny_call_function hr.depth (KX _ _ lk) rfl S.co S.gen rfl (PySem.W.codeRec_of KX hcd) (hb _ _ _ _ ?_)
  refine wpAny_newFunctionEnv_cells S.kind (fun y hy => ?_) fun env he s1 st => ?_
  · obtain ⟨n, v⟩ := y
    exact (S.par n (List.of_mem_zip hy).1).imp id fun q => ⟨q, PySem.W.cellsFrom_some _ _ _ (.inl q)⟩
  · subst he
    refine ⟨lim.keeps st.toInCall.keep, codeAny_func ?_⟩
    obtain ⟨t, ht, h⟩ := hq cdv (hr.deeper _)
    have J := inv_startH (CX := CX0) (E := E0) S hpin e0 hl r st
    refine wpAny_mono (ht.run [] s1 (L2.start N vs) H _ J h) (fun fl s' e => ?_) fun _ _ e => e
    match fl, e with
    | .ret u, ⟨v, σ', H', I', rv, q⟩ => exact ⟨v, H', I'.os, I'.bare, I'.base, I'.hok, rv, q⟩
    | .next, ⟨σ', H', I', q⟩ => exact ⟨V.non, H', I'.os, I'.bare, I'.base, I'.hok, rfl, q⟩
    | .brk, ⟨_, _, _, q⟩ => exact q.elim
    | .cont, ⟨_, _, _, q⟩ => exact q.elim
/-! ### isinstance of the handled exception -/
structure XoOk (K : Frag) (n : Str) (d : Option Addr) (oe : Obj) : Prop where
  cls : oe.cls = .ref (He.ga K n)
  dct : oe.dict = d
  dat : ∃ vs, oe.data = .fields vs
/-- its dict, where it has one, stands -/
def XdH (H : Hp) : Option Addr → Prop
  | none => True
  | some dd => ∃ fs, H dd = some (.xd fs)
theorem XdOk.h {F H : Hp} (e : Ex F H) : ∀ {d : Option (Addr × Str × PyData)}, XdOk F H d → XdH H (d.map (·.1))
  | none, _ => trivial
  | some (_, _, _), h => let ⟨_, _, k⟩ := h.at e; ⟨_, k⟩
def rIsX (K : Frag) (p : Addr × Obj) : List V → Hp → VK → Prop := fun xs H Q => ∃ (n : Str) (d : Option Addr) (c : V) (cv : Value) (b : Bool), xs = [.ref p.1, c] ∧ XoOk K n d p.2 ∧ XdH H d ∧ ExcC K (He.ga K n) ∧ (∀ u, RelV c u → u = cv) ∧ PySem.W.kitOne K (.ref (He.ga K n)) cv = some b ∧ Q (.bl b) H
theorem inst_of {P : Program} {w : World} {K : Frag} {H : Hp} {h : Heap} {a : Addr} {o : Obj} {n : Str} {d : Option Addr} (hok : HOk P w H h) (hget : h.get? a = some o) (hx : XoOk K n d o) (hd : XdH H d) : ∃ od, PySem.W.InstAt h a o (He.ga K n) od := by
  have hno : PySem.W.notCls o = true := by
    obtain ⟨vs, hv⟩ := hx.dat
    unfold PySem.W.notCls
    rw [hv] <;> rfl
  cases d with
  | none => exact ⟨none, hget, hx.cls, hno, by rw [hx.dct]; trivial⟩
  | some dd =>
    obtain ⟨fs, hf⟩ := hd
    have ho : ObjOk P w H h dd (.xd fs) := hok dd _ hf
    obtain ⟨mA, hns, _⟩ := ho
    obtain ⟨od, h1, _⟩ := lookIn_ns hns
    exact ⟨some od, hget, hx.cls, hno, by rw [hx.dct]; exact h1⟩
theorem call_isX {X : Cx} {K : Frag} {p : Addr × Obj} (hp : p ∈ X.pn) (hK : X.K = K := by rfl) : CallR X (.builtin "isinstance") (rIsX K p) := by
  subst hK
  intro pins s σ H xs us Q I r h
  obtain ⟨n, d, c, cv, b, ev, hx, hd, T, hcv, hk, q⟩ := h
  subst ev
  obtain ⟨od, J⟩ := inst_of I.hok (I.pin p (List.mem_append_left _ hp)).1 hx hd
  have hcl : (PySem.W.clsIn X.K (He.ga X.K n)).isSome = true := by
    have hd := T.hd
    unfold PySem.W.hasDictIn at hd
    obtain ⟨cd, hc, _⟩ := PySem.W.any_some hd
    rw [hc]; rfl
  cases r with
  | cons r1 rr =>
  cases rr with
  | cons r2 rr =>
  cases rr
  cases r1
  obtain rfl := hcv _ r2
  exact PySem.W.kia_one (PySem.W.kitx_exc hcl T.hg T.hk T.hs T.ha T.hn T.ht T.hm) I.kIn J hk (fun z => nomatch z) fun tk => ⟨.bl b, H, I.kept (t' := tk) fun _ _ z => z, rfl, q⟩
section
variable {K : Frag} {env : List Sl} {x : Str} {p : Addr × Obj} {xd : Option (Addr × Str × PyData)}
theorem ex_isX {i : Nat} {y : Str} (hi : env[i]? = some (.xo p.1 xd)) (hp : XoOk K x (xd.map (·.1)) p.2) (hx : ExF K x) (hy : y ∈ exNames) : EX K (tCB (rIsX K p) (tCons (tVar i) (tCons (tC (.ref (He.ga K y))) tNil))) env (.bool (decide (x = y))) := fun F0 H0 F H σ E Q q => by
  obtain ⟨o, h1, h2⟩ := E.sl i _ hi
  obtain ⟨h2, h3⟩ : o = some (.ref p.1) ∧ XdOk F H xd := h2
  subst h2
  exact ⟨_, h1, x, _, _, .ref (He.ga K y), _, rfl, hp, h3.h E.fh, hx.c, fun u r => r, (hx.exm y hy).2, q _ F H (Fz.refl E.fh) (.bl _)⟩
theorem ex_isVE {i : Nat} (hi : env[i]? = some (.xo p.1 xd)) (hp : XoOk K x (xd.map (·.1)) p.2) (hx : ExF K x) : EX K (tCB (rIsX K p) (tCons (tVar i) (tCons (tC (.ty "ValueError")) tNil))) env (.bool true) := fun F0 H0 F H σ E Q q => by
  obtain ⟨o, h1, h2⟩ := E.sl i _ hi
  obtain ⟨h2, h3⟩ : o = some (.ref p.1) ∧ XdOk F H xd := h2
  subst h2
  exact ⟨_, h1, x, _, _, .type "ValueError", _, rfl, hp, h3.h E.fh, hx.c, fun u r => r, hx.ve, q _ F H (Fz.refl E.fh) (.bl _)⟩
end
/-! ### the def that tells classes -/
/-- what its walk shows: at any ground, while p is handled -/
structure KinOk (P : Program) (w : World) (K : Frag) (mg : Str → Option Value) (x : Str) (k : Nat) : Prop where
  ex : ∃ (f : Addr) (fd : FuncData) (x0 : Str) (qual : Str) (params : Arguments) (body : List Stmt) (scope : Scope) (N : List Str), mg x = some (.ref f) ∧ FunD K x qual params body scope [] [] f fd ∧ FnScope N [x0] scope ∧ Binds K fd [x0] [] ∧
    ∀ (base : Heap) (cdv : Value) (A : Around) (outer : List Env) (s : Shared) (H : Hp) (p : Addr × Obj) (xd : Option (Addr × Str × PyData)) (n : Str), RoomH k (A.deeper (envOfC qual scope s.heap.objs.size f cdv)) → Hot1 A p → XoOk K n (xd.map (·.1)) p.2 → n ∈ exNames →
      ∃ t, PSs (cxH CX0 P w K mg base N qual scope f cdv A outer s H E0 p) body t ∧ BX K t (.xo p.1 xd :: List.replicate (N.length - 1) .un) (fun z : Str => .rt (.sh (.str z))) (some n)
theorem kin_start {N : List Str} {F H : Hp} {a : Addr} {K : Frag} {xd : Option (Addr × Str × PyData)} (e : Ex F H) (hd : XdOk F H xd) : EnvOk K F H F H (L2.start N [.ref a]) (.xo a xd :: List.replicate (N.length - 1) .un) := by
  refine EnvOk.flat (Fz.refl e) ?_ fun i sl h => ?_
  · unfold L2.start
    simp only [List.length_append, List.length_map, List.length_cons, List.length_nil, List.length_replicate]
    omega
  · unfold L2.start
    cases i with
    | zero =>
      simp at h
      subst h
      exact ⟨_, rfl, ⟨rfl, hd⟩, rfl⟩
    | succ i =>
      rw [List.getElem?_cons_succ] at h
      obtain ⟨h1, h2⟩ := List.getElem?_eq_some_iff.mp h
      rw [List.getElem_replicate] at h2
      subst h2
      rw [List.length_replicate] at h1
      refine ⟨none, ?_, trivial, rfl⟩
      show (some (V.ref a) :: List.replicate (N.length - 1) none)[i + 1]? = _
      rw [List.getElem?_cons_succ, List.getElem?_replicate, if_pos h1]
/-- kin(e), e the exception that the suite holds -/
def tKin (K : Frag) (a : Addr) (cls : Value) (d : Option Addr) (te : TE) : TE := fun σ H Q => te σ H fun v H1 => v = .ref a ∧ ∃ (n : Str) (F : Hp) (xd : Option (Addr × Str × PyData)), n ∈ exNames ∧ cls = .ref (He.ga K n) ∧ d = xd.map (·.1) ∧ XdOk F H1 xd ∧ Ex F H1 ∧ ∀ F' H', Fz F H1 F' H' → Q (.str n) H'
theorem pe_kin {X : Cx} {K : Frag} {a : Addr} {oe : Obj} {cls : Value} {d : Option Addr} {pn : List (Addr × Obj)} {x : Str} {k : Nat} {ve : Expr} {te : TE} {p pos : Pos}
    (G : KinOk X.prog X.w K X.mg x k) (hr : Room (k + 1) X.A) (hg : Gl (X.suite a ((a, oe) :: pn)) x) (hz : L2N.Zn cls d oe) (hf : ∃ vs, oe.data = .fields vs)
    (he : PE (X.suite a ((a, oe) :: pn)) ve te) (hK : X.K = K := by rfl) (hd : (x == ("__debug__" : Str)) = false := by decide)
    (hs : starEach (ve :: []) (X.suite a ((a, oe) :: pn)).env = (false, eval ve (X.suite a ((a, oe) :: pn)).env) :: starEach [] (X.suite a ((a, oe) :: pn)).env := by rfl)
    (hpl : (backTo pos (starEach [] (X.suite a ((a, oe) :: pn)).env)).any (·.1) = false := by rfl) :
    PE (X.suite a ((a, oe) :: pn)) (.Call (.Name x p) [ve] [] pos) (tKin K a cls d te) := by
  subst hK
  obtain ⟨f, fd, x0, qual, params, body, scope, N, hm, FD, S, hb, W⟩ := G.ex
  have ha : PA (X.suite a ((a, oe) :: pn)) [ve] (tCons te tNil) := pa_cons he pa_nil hs
  constructor
  intro pins s σ H Q I h
  apply wpAny_Call_Name_kw
  refine ld_glob I hg hm ?_ hd
  refine PySem.W.callWith_K (h₀ := X.base) I.ok.mod.kin FD.kp (thn (ha.run pos pins s σ H (fun vs H1 => vs = [.ref a] ∧ ∃ (n : Str) (F : Hp) (xd : Option (Addr × Str × PyData)), n ∈ exNames ∧ cls = .ref (He.ga X.K n) ∧ d = xd.map (·.1) ∧ XdOk F H1 xd ∧ Ex F H1 ∧ ∀ F' H', Fz F H1 F' H' → Q (.str n) H') I ?_) fun us s1 hh => ?_) hs hpl
  · have mono : ∀ (Q1 Q2 : VK), Q1 = Q2 → te σ H Q1 → te σ H Q2 := fun _ _ e h => e ▸ h
    refine mono _ _ ?_ h
    funext v H1
    exact propext ⟨fun ⟨h1, h2⟩ => ⟨by rw [h1], h2⟩, fun ⟨h1, h2⟩ => ⟨by injection h1, h2⟩⟩
  · obtain ⟨vs, H1, I1, r1, ev, n, F, xd, hn, ec, ed, ex, e, q⟩ := hh
    subst ev
    refine ⟨I1.kIn, ?_⟩
    have pin := I1.pin (a, oe) (List.mem_append_left _ List.mem_cons_self)
    obtain ⟨ws, hw⟩ := hf
    have hot : Hot1 (X.suite a ((a, oe) :: pn)).A (a, oe) := ⟨rfl, ws, hw, hz.2.2 ws hw⟩
    have xo : XoOk X.K n (xd.map (·.1)) oe := ⟨by rw [hz.1, ec], by rw [hz.2.1, ed], ws, hw⟩
    have rh : RoomH (k + 1) (X.suite a ((a, oe) :: pn)).A := ⟨hr.dp, hr.un⟩
    have hpin : PinOk (X.suite a ((a, oe) :: pn)).stack H1 s1 (a, oe) := ⟨pin.1, pin.2.1, fun hm => (List.mem_cons.mp (I1.stkSub a hm)).elim pin.2.2.1 pin.2.2.2.1, pin.2.2.2.2⟩
    have bi := hb s1 us I1.kIn (by rw [List.append_nil, ← r1.length]; rfl)
    rw [List.append_nil] at bi
    show wpAny _ _ (call (.ref f) us) _ _ _
    refine wpAny_call (codeAny_mono (run_hot (K := X.K) (Q := Q) FD S rh hot hpin I1.env0 bi r1 rfl fun cdv hr' => ?_) fun r s' hq => ?_)
    · obtain ⟨t, ht, b⟩ := W X.base cdv _ _ s1 H1 (a, oe) xd n hr' hot xo hn
      exact ⟨t, ht, b n rfl _ (kin_start e ex) fun F1 H2 v z hv => by
        cases hv
        exact q F1 H2 z⟩
    · cases r with
      | error u => exact hq.elim
      | ok fl =>
        cases fl with
        | ret u => exact I1.after hq
        | next => exact hq.elim
        | brk => exact hq.elim
        | cont => exact hq.elim
/-! ### try -/
/-- what a suite knows of the exception's dict -/
def ExA (x : Exn) (F H : Hp) (d : Option Addr) : Prop := match x.arg with
  | none => d = none
  | some q => ∃ dd v, d = some dd ∧ H dd = some (.xd [(q.1, v)]) ∧ Dq F v q.2
/-- a suite: slot i has the exception -/
def BH (K : Frag) (i : Nat) (x : Exn) (ts : Addr → Value → Option Addr → TS) (env : List Sl) {O : Type} (enc : O → Out) (m : Option O) : Prop := ∀ o, m = some o → ∀ (a : Addr) (d : Option Addr) ⦃F0 H0 F H : Hp⦄ ⦃σ : List (Option V)⦄ (D : Ends),
  EnvOk K F0 H0 F H σ env → σ[i]? = some (some (.ref a)) → ExA x F H d → Cont K F0 H0 D (enc o) → ts a (.ref (He.ga K x.name)) d D σ H
section
variable {K : Frag} {env env' envS envX : List Sl} {α β O S : Type} {ts tu : TS} {enc : O → Out} {m : Option O} {tb : WX → TS} {tx : Addr → Value → Option Addr → TS} {Wout : WX} {c : Value} {i : Nat}
def encB (envS : S → List Sl) (envX : List Sl) (W : WX) : Except Exn S → Out
  | .ok s => .nx (envS s)
  | .error x => .ex envX x W
theorem Cont.clear {F0 H0 : Hp} {D : Ends} {o : Out} (hf : o.fin ∨ ∃ e, o = .nx e ∧ e.set i .un = e) (C : Cont K F0 H0 D o) : Cont K F0 H0 { nx := fun σ' H' => D.nx (σ'.set i none) H', rt := D.rt, bk := fun σ' H' => D.bk (σ'.set i none) H', ct := fun σ' H' => D.ct (σ'.set i none) H' } o := by
  rcases hf with hf | ⟨e, rfl, he⟩
  · exact Cont.fin (D := D) (by rfl) hf C
  · intro F1 H1 σ1 E1
    have := E1.forget i none
    rw [he] at this
    exact C F1 H1 _ this
def tTryAs (K : Frag) (c : Value) (i : Nat) (tb : WX → TS) (tx : Addr → Value → Option Addr → TS) (Wout : WX) : TS := fun D σ H => tb (wAs K c i tx Wout D) D σ H
theorem bx_tryAs {envS : S → List Sl} {mm : Option (Except Exn S)} {k : S → Option O} {h : Exn → Option O} (hl : i < env.length) (hX : envX.length = env.length) (hb : ∀ W, BX K (tb W) env (encB envS envX W) mm) (hk : ∀ s, mm = some (.ok s) → BX K tNext (envS s) enc (k s))
    (hc : ∀ x o, h x = some o → PySem.W.exmOne K (.ref (He.ga K x.name)) c = some true) (hh : ∀ x, mm = some (.error x) → BH K i x tx (envX.set i .un) enc (h x)) (he : ∀ o, (enc o).fin ∨ ∃ e, enc o = .nx e ∧ e.set i .un = e) :
    BX K (tTryAs K c i tb tx Wout) env enc (tryM mm k h) := fun o ho F0 H0 F H σ D E C => by
  unfold tryM at ho
  obtain ⟨y, e1, e2⟩ := Option.bind_eq_some_iff.mp ho
  cases y with
  | ok s => exact hb _ (.ok s) e1 D E fun F1 H1 σ1 E1 => hk s e1 o e2 D E1 C
  | error x =>
    refine hb _ (.error x) e1 D E fun F1 H1 σ1 E1 => ?_
    have l1 : i < σ1.length := by rw [E1.len, hX]; exact hl
    have get : ∀ a : Addr, (σ1.set i (some (.ref a)))[i]? = some (some (.ref a)) := fun a => by rw [List.getElem?_set, if_pos rfl, if_pos l1]
    have go := hh x e1 o e2
    unfold exW
    unfold ExA at go
    split
    · rename_i q
      rw [q] at go
      exact ⟨true, hc x o e2, fun _ a ha => go a none _ (E1.setU i) (get a) rfl (Cont.clear (he o) C), fun z => nomatch z⟩
    · rename_i q1 q
      rw [q] at go
      exact fun dd v hd hv => ⟨true, hc x o e2, fun _ a ha => go a (some dd) _ (E1.setU i) (get a) ⟨dd, v, rfl, hd, hv⟩ (Cont.clear (he o) C), fun z => nomatch z⟩
/-- what a suite's def tells of the exception -/
def kinM (x : Exn) : Option Str := if x.name ∈ exNames then some x.name else none
theorem kinM_ok {x : Exn} {n : Str} (h : kinM x = some n) : n = x.name ∧ n ∈ exNames := by
  unfold kinM at h
  split at h
  · rename_i c; cases h; exact ⟨rfl, c⟩
  · cases h
theorem kinM_exc {n : Str} (h : n ∈ exNames) : kinM (exc n) = some n := by
  show (if n ∈ exNames then some n else none) = some n
  rw [if_pos h]
/-- its field -/
def fldM (f : Str) (x : Exn) : Option PyData := match x.arg with
  | some (g, q) => if g = f then some q else none
  | none => none
/-- what slot i knows of it -/
abbrev xoSl (a dd : Addr) (x : Exn) : Sl := .xo a (x.arg.map fun q => (dd, q.1, q.2))
/-- the exception's dict as the suite has it -/
abbrev xoD (dd : Addr) (x : Exn) : Option Addr := x.arg.map fun _ => dd
theorem ex_kin {x : Exn} {n : Str} {i : Nat} {a dd : Addr} (hi : env[i]? = some (xoSl a dd x)) (h : kinM x = some n) : EX K (tKin K a (.ref (He.ga K x.name)) (xoD dd x) (tVar i)) env (.str n) := fun F0 H0 F H σ E Q q => by
  obtain ⟨hn, hm⟩ := kinM_ok h
  subst hn
  obtain ⟨o, h1, h2⟩ := E.sl i _ hi
  obtain ⟨h2, h3⟩ : o = some (.ref a) ∧ XdOk F H _ := h2
  subst h2
  have hl : x.name.length ≤ lim := by
    have : ∀ y, y ∈ exNames → y.length ≤ lim := by decide +kernel
    exact this _ hm
  refine ⟨_, h1, rfl, x.name, F, _, hm, rfl, ?_, h3, E.fh, fun F' H' z => q _ F' H' z (.str _ hl)⟩
  show (x.arg.map fun _ => dd) = _
  cases x.arg <;> rfl
theorem ex_fld {x : Exn} {f : Str} {q : PyData} {i : Nat} {a dd : Addr} {C : Addr} (hi : env[i]? = some (xoSl a dd x)) (h : fldM f x = some q) (hC : He.ga K x.name = C) : EX K (tXf a (.ref (He.ga K x.name)) (xoD dd x) C f (tVar i)) env q := fun F0 H0 F H σ E Q k => by
  obtain ⟨o, h1, h2⟩ := E.sl i _ hi
  obtain ⟨h2, h3⟩ : o = some (.ref a) ∧ XdOk F H _ := h2
  subst h2
  unfold fldM at h
  cases r : x.arg with
  | none => rw [r] at h; cases h
  | some p =>
    obtain ⟨g, u⟩ := p
    rw [r] at h h3
    have h : (if g = f then some u else none) = some q := h
    split at h
    · rename_i e
      cases h
      subst e
      obtain ⟨v, a1, a2⟩ := h3.at E.fh
      exact ⟨_, h1, rfl, by rw [hC], dd, _, v, by show (x.arg.map fun _ => dd) = some dd; rw [r]; rfl, a2, by simp [List.lookup], k v F H (Fz.refl E.fh) a1⟩
    · cases h
/-- the suite's start -/
theorem bh_of {x : Exn} {tx : Addr → Value → Option Addr → TS} (hi : i < env.length) (h : ∀ a dd, BX K (tx a (.ref (He.ga K x.name)) (xoD dd x)) (env.set i (xoSl a dd x)) enc m) : BH K i x tx env enc m := fun o ho a d F0 H0 F H σ D E hs hA C => by
  have key : ∃ dd, d = xoD dd x ∧ XdOk F H (x.arg.map fun q => (dd, q.1, q.2)) := by
    unfold ExA at hA
    cases r : x.arg with
    | none => rw [r] at hA; exact ⟨0, by rw [hA]; show none = (x.arg.map fun _ => 0); rw [r]; rfl, trivial⟩
    | some p =>
      rw [r] at hA
      obtain ⟨dd, v, e1, e2, e3⟩ := hA
      exact ⟨dd, by rw [e1]; show some dd = (x.arg.map fun _ => dd); rw [r]; rfl, XdOk.of E.fh e3 e2⟩
  obtain ⟨dd, e1, e2⟩ := key
  subst e1
  have E2 := E.set0 i (some (.ref a)) (s := xoSl a dd x) ⟨⟨rfl, e2⟩, rfl⟩
  have es : σ.set i (some (.ref a)) = σ := by
    obtain ⟨l, g⟩ := List.getElem?_eq_some_iff.mp hs
    rw [← g, List.set_getElem_self]
  rw [es] at E2
  exact h a dd o ho D E2 C
theorem hc_rib {x : Exn} {n : Str} (hE : exB K = true) (h : kinM x = some n) : PySem.W.exmOne K (.ref (He.ga K x.name)) (.ref (He.ga K "RibbonError")) = some true := by
  obtain ⟨e, hn⟩ := kinM_ok h
  subst e
  exact (exB_ok hE hn).rib
theorem bh_bx {x : Exn} (h : BX K ts env enc m) : BH K i x (fun _ _ _ => ts) env enc m := fun o ho a d F0 H0 F H σ D E _ _ C => h o ho D E C
end
section
variable {X : Cx} {K : Frag} {x n : Str} {i k : Nat} {a : Addr} {oe : Obj} {cls c : Value} {d : Option Addr} {pn : List (Addr × Obj)} {p pos np pos' : Pos} {body suite : List Stmt} {b₀ : Stmt} {tb : WX → TS} {tx : Addr → Value → Option Addr → TS} {Wout : WX}
theorem takes_none : L2N.Takes X (fun _ _ _ _ => False) := fun _ _ x => by
  obtain ⟨_, _, _, _, _, _, _, _, _, _, _, _, _, _, _, _, z⟩ := x
  exact z.elim
theorem ps_tryAsK (hs : X.stack = X.env :: X.outer) (hf : X.env.frame = some X.env.locals) (hN : X.N.Nodup) (hi : X.N[i]? = some n) (hln : X.env.kindOf n = some .local) (hc : Names X x c) (tk : L2N.Takes X Wout)
    (hb : ∀ (W : WX) (pn : List (Addr × Obj)) (xe : Value → Shared → Prop), L2N.Takes (X.tr pn xe) W → PassesOwn (model X.prog X.w) X.A X.env xe → PSs (X.tr pn xe) body (tb W))
    (hsu : ∀ (a : Addr) (oe : Obj) (cls : Value) (d : Option Addr) (pn : List (Addr × Obj)), L2N.Zn cls d oe → (∃ vs, oe.data = .fields vs) → PSs (X.suite a ((a, oe) :: pn)) (b₀ :: suite) (tx a cls d)) (hK : X.K = K := by rfl) :
    PS X (.Try body [.ExceptHandler (some (.Name x np)) (some n) (b₀ :: suite) pos'] [] [] pos) (tTryAs K c i tb tx Wout) := by
  subst hK
  exact L2N.ps_try_as hs hf hN hi hln hc tk hb hsu
end
section
variable {K : Frag} {env : List Sl} {ta tb : TE} {α β : Type} {e : α → PyData} {f : β → PyData}
theorem ei_zipH {xs : List α} {ys : List β} (ha : EXl K ta env (xs.map e)) (hb : EXl K tb env (ys.map f)) : EI K (iZip K (tCons ta (tCons tb tNil))) env ((xs.zip ys).map (eP e f)) := fun F0 H0 F H σ E R r => ha E _ fun p vs F1 H1 z1 h1 h2 h3 => hb (E.step z1) _ fun p' ws F2 H2 z2 h4 h5 h6 =>
  ⟨p, p', vs, ws, rfl, SqL.of (z2.hh z1.fh _ _ h1), SqL.of h4, r _ F2 H2 (z1.trans z2) (zip_lim h3) (itzL fun F3 H3 q ex => ⟨q.hh z2.fh _ _ (z2.hh z1.fh _ _ h1), DqAll.mono (z2.f.trans q.f) _ _ h2, q.hh z2.fh _ _ h4, DqAll.mono q.f _ _ h5⟩)⟩
end
/-! join, bounded by a guard -/
abbrev joinOk (z : Str) (ys : List Str) : Prop := (ys.map (·.length)).sum + ys.length * z.length ≤ lim ∧ (Txt.join z ys).length ≤ lim
section
variable {X : Cx} {K : Frag} {o e : Expr} {apos pos : Pos} {to te : TE} {env : List Sl}
theorem pe_joinK (ho : PE X o to) (he : PE X e te) (hK : X.K = K := by rfl) (hs : starEach [e] X.env = [(false, eval e X.env)] := by rfl) (hbase : attributeBase o "join" X.env (eval o X.env) = eval o X.env := by rfl) (hline : (apos.endLine == pos.line) = true := by rfl) :
    PE X (.Call (.Attribute o "join" apos) [e] [] pos) (tM1 (fun x xs H Q => ∃ a p, ∃ ys : List Str, x = .str a ∧ xs = [.ref p] ∧ (SqL K H p (ys.map V.str) ∨ SqT K H p (ys.map V.str)) ∧
      (ys.map (·.length)).sum + ys.length * a.length ≤ 16777216 ∧ Q (.str (Txt.join a ys)) H) to te) := by
  subst hK
  exact pe_join ho he hs hbase hline
theorem ex_joinG {z : Str} {ys : List Str} (ho : EX K to env (.str z)) (he : EXl K te env (ys.map PyData.str)) (h : joinOk z ys) :
    EX K (tM1 (fun x xs H Q => ∃ a p, ∃ ys : List Str, x = .str a ∧ xs = [.ref p] ∧ (SqL K H p (ys.map V.str) ∨ SqT K H p (ys.map V.str)) ∧ (ys.map (·.length)).sum + ys.length * a.length ≤ 16777216 ∧ Q (.str (Txt.join a ys)) H) to te) env (.str (Txt.join z ys)) := ex_join ho he h.1 h.2
end
end Rb

set_option Elab.async false
set_option linter.all false
set_option maxRecDepth 100000
set_option maxHeartbeats 400000
/-! # tests that pop a list -/
namespace Rb
open PySem PySem.Spec PyProof.Rows L2 HotX L2H
section
variable {K : Frag} {env : List Sl} {t u tt : TT} {te : TE} {ts tu : TS} {S O : Type} {enc : O → Out} {m n : S → Option O}
def ETX (K : Frag) (tt : TT) (env : List Sl) {S : Type} (envS : S → List Sl) (mc : Option (Bool × S)) : Prop := ∀ b s, mc = some (b, s) → ∀ ⦃F0 H0 F H : Hp⦄ ⦃σ : List (Option V)⦄, EnvOk K F0 H0 F H σ env → ∀ Q : Bool → Hp → Prop, (∀ F' H', EnvOk K F0 H0 F' H' σ (envS s) → Q b H') → tt σ H Q
theorem etx_pure {envS : S → List Sl} {b : Bool} {s : S} (h : ET K tt env b) (hs : envS s = env) : ETX K tt env envS (some (b, s)) := fun b' s' e F0 H0 F H σ E Q q => by
  cases e
  exact h E Q fun F' H' z => q F' H' (by rw [hs]; exact E.step z)
theorem etx_or {envS : S → List Sl} {a : Bool} {s : S} {mc : Option (Bool × S)} (h1 : ET K t env a) (hs : envS s = env) (h2 : ETX K u env envS mc) : ETX K (tOr t u) env envS (if a = true then some (true, s) else mc) := fun b' s' e F0 H0 F H σ E Q q => h1 E _ fun F1 H1 z1 => by
  cases a with
  | true => cases e; exact q F1 H1 (by rw [hs]; exact E.step z1)
  | false => exact h2 b' s' e (E.step z1) Q q
theorem etx_and {envS : S → List Sl} {a : Bool} {s : S} {mc : Option (Bool × S)} (h1 : ET K t env a) (hs : envS s = env) (h2 : ETX K u env envS mc) : ETX K (tAnd t u) env envS (if a = true then mc else some (false, s)) := fun b' s' e F0 H0 F H σ E Q q => h1 E _ fun F1 H1 z1 => by
  cases a with
  | true => exact h2 b' s' e (E.step z1) Q q
  | false => cases e; exact q F1 H1 (by rw [hs]; exact E.step z1)
theorem etx_popNe {envS : List Int → List Sl} {i : Nat} {xs : List Int} {y : Int} (hi : env[i]? = some (.ow (xs.map PyData.int))) (hs : ∀ ys : List Int, envS ys = env.set i (.ow (ys.map PyData.int))) (he : ∀ ys : List Int, EX K te (envS ys) (.int y)) :
    ETX K (tTest (tOp rNe (tBM0 K "list" rPop (tVar i)) te)) env envS (Option.bind (pop? xs) fun p => some (!decide (p.1 = y), p.2)) := fun b s e F0 H0 F H σ E Q q => by
  obtain ⟨⟨x, ys⟩, e1, e2⟩ := Option.bind_eq_some_iff.mp e
  cases e2
  exact s_pop hi e1 E fun v H' E' hv => he ys (by rw [hs]; exact E') _ fun w F2 H2 z2 hw => by
    cases hv; cases hw
    have e : decide (V.int x = V.int y) = decide (x = y) := by
      by_cases c : x = y
      · rw [decide_eq_true c, c, decide_eq_true rfl]
      · rw [decide_eq_false c, decide_eq_false fun z => c (V.int.inj z)]
    refine ⟨rfl, _, rfl, ?_⟩
    rw [e]
    exact q F2 H2 (by rw [hs]; exact E'.step z2)
theorem bx_ifX {envS : S → List Sl} {mc : Option (Bool × S)} (ht : ETX K tt env envS mc) (h1 : ∀ s, BX K ts (envS s) enc (m s)) (h2 : ∀ s, BX K tu (envS s) enc (n s)) : BX K (tIfS tt ts tu) env enc (mc.bind fun c => if c.1 = true then m c.2 else n c.2) := fun o ho F0 H0 F H σ D E c => by
  obtain ⟨⟨b, s⟩, e1, e2⟩ := Option.bind_eq_some_iff.mp ho
  refine ht b s e1 E _ fun F1 H1 E1 => ?_
  cases b with
  | true => exact h1 s o e2 D E1 c
  | false => exact h2 s o e2 D E1 c
end
section
variable {K : Frag} {env : List Sl} {ta tb : TE}
/-! tuple(range(..)) -/
theorem ex_tupRg1 {n : Int} (h : EX K ta env (.int n)) (hn : rngOk n) : EX K (tTupRg (tRg1 ta)) env (.tuple ((rng 0 n).map PyData.int)) := fun F0 H0 F H σ E Q q => h E _ fun v F1 H1 z1 hv => by
  cases hv
  have l := rng_lim (m := 0) (by decide) hn
  have e : rgV 0 n = (rng 0 n).map V.int := by unfold rgV rng; rw [List.map_map]; rfl
  unfold rngOk at hn
  refine ⟨n, rfl, ⟨by omega, by omega, by omega, by omega, by omega⟩, fun r hr => ?_⟩
  have d : DqAll F1 (rgV 0 n) ((rng 0 n).map PyData.int) := by rw [e]; exact DqAll.ints' _
  exact q _ (upd F1 r (.tup (rgV 0 n))) _ (z1.trans (Fz.new z1.fh hr)) (.tup upd_same (DqAll.mono (Evl.Ex.new (Evl.fresh_back z1.fh hr)) _ _ d) l)
end
/-! data with texts is compared: the texts' signs are looked at by a guard -/
structure EnQ {α : Type} [DecidableEq α] (e : α → PyData) (n : Nat) : Prop where
  dep : ∀ x, (e x).depth ≤ n
  eq : ∀ x y, PyData.eqv (e x) (e y) = decide (x = y)
section
variable {α β γ : Type} [DecidableEq α] [DecidableEq β] [DecidableEq γ] {e : α → PyData} {f : β → PyData} {g : γ → PyData} {n m l : Nat}
theorem EnQ.of (h : EnOk e n) : EnQ e n := ⟨h.dep, h.eq⟩
theorem EnQ.str : EnQ PyData.str 0 := ⟨fun x => Nat.le_refl _, fun x y => by
  show (x == y) = decide (x = y)
  by_cases c : x = y
  · rw [decide_eq_true c]; exact beq_iff_eq.mpr c
  · rw [decide_eq_false c]; exact beq_eq_false_iff_ne.mpr c⟩
theorem EnQ.depAll (h : EnQ e n) : ∀ xs : List α, PyData.depthAll (xs.map e) ≤ n
  | [] => Nat.zero_le _
  | x :: xs => by
    rw [List.map_cons]
    show max (PyData.depth (e x)) (PyData.depthAll (xs.map e)) ≤ n
    exact Nat.max_le.mpr ⟨h.dep x, h.depAll xs⟩
theorem EnQ.eqAll (h : EnQ e n) : ∀ xs ys : List α, PyData.eqvAll (xs.map e) (ys.map e) = decide (xs = ys)
  | [], [] => rfl
  | [], y :: ys => rfl
  | x :: xs, [] => rfl
  | x :: xs, y :: ys => by
    rw [List.map_cons, List.map_cons]
    show (PyData.eqv (e x) (e y) && PyData.eqvAll (xs.map e) (ys.map e)) = _
    rw [h.eq, h.eqAll xs ys]
    by_cases c : x = y
    · by_cases c2 : xs = ys
      · subst c; subst c2; simp
      · simp [c, c2]
    · simp [c]
theorem EnQ.list (h : EnQ e n) : EnQ (eL e) (n + 1) := ⟨fun x => Nat.succ_le_succ (h.depAll x), fun x y => h.eqAll x y⟩
theorem EnQ.tup (h : EnQ e n) : EnQ (eT e) (n + 1) := ⟨fun x => Nat.succ_le_succ (h.depAll x), fun x y => h.eqAll x y⟩
theorem EnQ.pair (h : EnQ e n) (h2 : EnQ f m) : EnQ (eP e f) (max n m + 1) := ⟨fun x => by
    show max (PyData.depth (e x.1)) (max (PyData.depth (f x.2)) 0) + 1 ≤ _
    have := h.dep x.1
    have := h2.dep x.2
    omega, fun x y => by
    show (PyData.eqv (e x.1) (e y.1) && (PyData.eqv (f x.2) (f y.2) && true)) = _
    rw [h.eq, h2.eq]
    obtain ⟨a, b⟩ := x
    obtain ⟨c, d⟩ := y
    by_cases c1 : a = c <;> by_cases c2 : b = d <;> simp [c1, c2]⟩
theorem EnQ.shaped (h : EnQ e n) (hn : n ≤ 64) (x : α) (hl : (e x).canLay0 = true) : SeqAt.shaped (e x) = true := by
  unfold SeqAt.shaped
  rw [hl, decide_eq_true (Nat.le_trans (h.dep x) hn)]; rfl
end
section
variable {K : Frag} {env : List Sl} {ta tb : TE} {α : Type}
theorem ex_eqTG [DecidableEq α] {e : α → PyData} {k : Nat} {x y : α} (h : EnQ e k) (lx : (e x).canLay0 = true) (ly : (e y).canLay0 = true) (ha : EXq K ta env (e x)) (hb : EXq K tb env (e y)) (hk : k ≤ 64 := by decide) : EX K (tOp (rEqD K) ta tb) env (.bool (decide (x = y))) := ex_eqD ha hb (h.shaped hk x lx) (h.shaped hk y ly) (h.eq x y)
theorem ex_neTG [DecidableEq α] {e : α → PyData} {k : Nat} {x y : α} (h : EnQ e k) (lx : (e x).canLay0 = true) (ly : (e y).canLay0 = true) (ha : EXq K ta env (e x)) (hb : EXq K tb env (e y)) (hk : k ≤ 64 := by decide) : EX K (tOp (rNeD K) ta tb) env (.bool (!decide (x = y))) := ex_neD ha hb (h.shaped hk x lx) (h.shaped hk y ly) (h.eq x y)
end
end Rb

set_option Elab.async false
set_option linter.all false
set_option maxRecDepth 100000
set_option maxHeartbeats 400000
/-! # calls without arguments; data of any kind compared -/
namespace Rb
open PySem PySem.Spec PyProof.Rows L2 HotX L2H
theorem pe_fn0 {X : Cx} {x : Str} {k : Nat} {I : List PyData → Rv → Prop} {p pos : Pos} (G : Fn X.prog X.w X.K X.mg X.base x k I) (hr : Room k X.A) (hg : Gl X x)
    (hd : (x == ("__debug__" : Str)) = false := by decide) : PE X (.Call (.Name x p) [] [] pos) (tCall (Prom I) [] E0 tNil) := by
  obtain ⟨f, fd, ps, F, hm, hk, hb⟩ := G.ex
  exact pe_call0 F hr hg hm hk hb .nil pass0 hd
section
variable {K : Frag} {env : List Sl} {ta tb : TE} {d e : PyData}
theorem ex_eqDG (sd : SeqAt.shaped d = true) (se : SeqAt.shaped e = true) (ha : EXq K ta env d) (hb : EXq K tb env e) : EX K (tOp (rEqD K) ta tb) env (.bool (PyData.eqv d e)) := ex_eqD ha hb sd se rfl
theorem ex_neDG (sd : SeqAt.shaped d = true) (se : SeqAt.shaped e = true) (ha : EXq K ta env d) (hb : EXq K tb env e) : EX K (tOp (rNeD K) ta tb) env (.bool (!PyData.eqv d e)) := ex_neD ha hb sd se rfl
end
end Rb

set_option Elab.async false
set_option linter.all false
set_option maxRecDepth 100000
set_option maxHeartbeats 400000
/-! # stores side by side, texts cut, dicts written out and asked, told lists side by side, parts of data -/
namespace Rb
open PySem PySem.Spec PyProof.Rows L2 HotX L2H
section
variable {K : Frag} {env env1 env2 env' : List Sl} {ta tb te tx ty : TE} {ts tu : TS} {d e : PyData} {ds es : List PyData} {g1 g2 : TG} {α β O : Type} {enc : O → Out} {m : Option O}
/-- xs[a], ys[b] = i, j -/
theorem eg_tup2I {a b : Int} (h1 : EG K g1 env (.int a) env1) (h2 : EG K g2 env1 (.int b) env2) : EG K (gTup K 2 (gCons g1 (gCons g2 gNil))) env (.tuple [.int a, .int b]) env2 := fun F0 H0 F H σ v E hv Q q => by
  cases hv with
  | @tup p vs _ h3 h4 h5 =>
    cases h4 with
    | cons x1 y1 =>
      cases y1 with
      | cons x2 y2 =>
        cases y2
        cases x1; cases x2
        exact ⟨p, _, rfl, SqT.of (E.fh _ _ h3), rfl, _, _, rfl, h1 E (.int a) _ fun σ1 F1 H1 E1 => ⟨_, _, rfl, h2 E1 (.int b) _ fun σ2 F2 H2 E2 => ⟨rfl, q σ2 F2 H2 E2⟩⟩⟩
/-- a, b = e, f, both new lists of the frame's own -/
theorem bx_parW {i j : Nat} (ha : EXw K ta env ds) (hb : EXw K tb env es) (h : BX K tu ((env.set i (.ow ds)).set j (.ow es)) enc m) : BX K (tSeq (tPar i j (tCons ta (tCons tb tNil))) tu) env enc m := fun o ho F0 H0 F H σ D E c =>
  ha E _ fun p vs F1 H1 z1 hn hf h1 h2 h3 => hb (E.step z1) _ fun p' ws F2 H2 z2 hn' hf' g1 g2 g3 =>
    ⟨.ref p, .ref p', rfl, h o ho D ((E.setO z1 i hn (s := .ow ds) ⟨p, vs, rfl, E.z.hn hn, hf, h1, h2, h3⟩).setO z2 j hn' (s := .ow es) ⟨p', ws, rfl, (E.step z1).z.hn hn', hf', g1, g2, g3⟩) c⟩
/-- a text's part -/
theorem ex_slS {tl th : TO} {lo hi : Option Int} {z : Str} (h : EX K te env (.str z)) (hl : EO K tl env lo) (hh : EO K th env hi) : EX K (tSl rSlS te tl th) env (.str (cutS z lo hi)) := fun F0 H0 F H σ E Q q =>
  h E _ fun v F1 H1 z1 h1 => hl (E.step z1) _ fun F2 H2 z2 => hh ((E.step z1).step z2) _ fun F3 H3 z3 => by
    cases h1 with
    | str _ l =>
      refine ⟨z, rfl, Nat.le_trans l (by decide), q _ F3 H3 ((z1.trans z2).trans z3) (.str _ ?_)⟩
      unfold cutS
      show (((z.cps.toList.drop (HT.sIx z.length 0 lo)).take (HT.sIx z.length z.length hi - HT.sIx z.length 0 lo)).toArray).size ≤ lim
      rw [List.size_toArray, List.length_take, List.length_drop, Array.length_toList]
      have l' : z.cps.size ≤ lim := l
      omega
/-- a part of data told by its place -/
def ixDc (d : PyData) (i : Int) : Option PyData := match d with
  | .tuple ds => atI ds i
  | _ => none
theorem ex_ixD {i : Int} (ha : EX K ta env d) (hb : EX K tb env (.int i)) (h : ixDc d i = some e) : EX K (tOp (rIxT K) ta tb) env e := by
  unfold ixDc at h
  cases d with
  | tuple ds => exact ex_ixT ha hb h
  | _ => cases h
/-! dicts written out -/
def EPs (K : Frag) (trs : List (TE × TE)) (env : List Sl) (kvs : List (Str × Int)) : Prop := ∀ ⦃F0 H0 F H : Hp⦄ ⦃σ : List (Option V)⦄, EnvOk K F0 H0 F H σ env → ∀ Q : List (V × V) → Hp → Prop, (∀ F' H', Fz F H F' H' → Q (kvs.map fun kv => (V.str kv.1, V.int kv.2)) H') → tPairs trs σ H Q
theorem eps_nil : EPs K [] env [] := fun F0 H0 F H σ E Q q => q F H (Fz.refl E.fh)
theorem eps_cons {trs : List (TE × TE)} {k : Str} {v : Int} {kvs : List (Str × Int)} (hk : EX K ta env (.str k)) (hv : EX K tb env (.int v)) (hr : EPs K trs env kvs) : EPs K ((ta, tb) :: trs) env ((k, v) :: kvs) := fun F0 H0 F H σ E Q q =>
  hk E _ fun x F1 H1 z1 h1 => hv (E.step z1) _ fun y F2 H2 z2 h2 => hr ((E.step z1).step z2) _ fun F3 H3 z3 => by
    cases h1; cases h2
    exact q F3 H3 ((z1.trans z2).trans z3)
theorem ex_dispGet {trs : List (TE × TE)} {kvs : List (Str × Int)} {s : Str} {dv : Int} (hp : EPs K trs env kvs) (hl : kvs.length ≤ 15) (hm : mergeK [] (kvs.map (kvE kS V.int)) = kvs.map (kvE kS V.int)) (hs : EX K ty env (.str s)) (hd : EX K tx env (.int dv)) :
    EX K (tDGet2 (tDisp trs) ty tx) env (.int ((lookA kvs s).getD dv)) := fun F0 H0 F H σ E Q q => by
  intro p hn
  have zp : Fz F H F (upd H p (.dK [])) := Fz.add E.fh hn
  refine hp (E.step zp) _ fun F1 H1 z1 => ?_
  have fp : F p = none := Evl.fresh_back E.fh hn
  obtain ⟨f1, o1⟩ := z1.own p _ upd_same fp
  refine ⟨o1, kvs.map (kvE kS V.int), by rw [List.map_map]; rfl, by rw [List.length_map]; exact hl, p, rfl, ?_⟩
  rw [hm]
  have za := zp.trans z1
  have z2 : Fz F H F1 (upd H1 p (.dK (kvs.map (kvE kS V.int)))) := za.mutNew hn f1
  refine ⟨.inl ⟨_, Rd.of upd_same⟩, ?_⟩
  refine hs (E.step z2) _ fun v F2 H2 z3 h3 => hd ((E.step z2).step z3) _ fun w F3 H3 z4 h4 => ?_
  cases h3; cases h4
  obtain ⟨f2, o2⟩ := (z3.trans z4).own p _ upd_same f1
  refine ⟨(lookA kvs s).map V.int, .inl ⟨_, kS s, Rd.of o2, rfl, (lookA_map kS_inj (xs := kvs) (e := V.int) (k := s)).symm⟩, ?_⟩
  have := q (((lookA kvs s).map V.int).getD (.int dv)) F3 H3 ((z2.trans z3).trans z4)
  cases hq : lookA kvs s with
  | none => rw [hq] at this; exact this (.int _)
  | some x => rw [hq] at this; exact this (.int _)
end
section
variable {K : Frag} {env : List Sl} {ds : List PyData}
/-- a list written out whose items are lent -/
theorem exq_lst {tr : TA} (ha : EAq K tr env ds) (hl : ds.length ≤ lim) : EXq K (tLst tr) env (.list ds) := fun F0 H0 F H σ E Q q =>
  ha E _ fun vs F1 H1 z1 h1 => ⟨by rw [h1.len]; exact lim_le hl, fun p hp => q _ F1 _ (z1.trans (Fz.add (E.step z1).fh hp)) (.lst upd_same (DqAll.mono (Evl.Ex.new hp) _ _ h1) hl)⟩
end
/-! two whole numbers, the lesser first -/
def sort2 (a b : Int) : Int × Int := if a ≤ b then (a, b) else (b, a)
theorem sort2_eq (a b : Int) : PyData.tuple ((sortI [a, b]).map PyData.int) = eP PyData.int PyData.int (sort2 a b) := by
  unfold sort2
  show PyData.tuple ((insI a [b]).map PyData.int) = _
  unfold insI
  by_cases c : a ≤ b
  · rw [if_pos c, if_pos c]; rfl
  · rw [if_neg c, if_neg c]; rfl
/-! a < b < c < d -/
def tChain3 (r r' r'' : R2) (ta tb tc td : TE) : TE := fun σ H Q => ta σ H fun x H1 => tb σ H1 fun y H2 => r x y H2 fun z H3 => ∃ k, z = .bl k ∧
  (if k = true then tc σ H3 fun w' H4 => r' y w' H4 fun z' H5 => ∃ k', z' = .bl k' ∧ (if k' = true then td σ H5 fun u H6 => r'' w' u H6 Q else Q (.bl false) H5) else Q (.bl false) H3)
section
variable {X : Cx} {a b c d : Expr} {ta tb tc td : TE} {pos : Pos}
theorem pe_chain3 {op op' op'' : CmpOp} {r r' r'' : R2} (ho : OpR X (compareOp op) r) (ho' : OpR X (compareOp op') r') (ho'' : OpR X (compareOp op'') r'') (ha : PE X a ta) (hb : PE X b tb) (hc : PE X c tc) (hd : PE X d td)
    (hm : lastMarks [op, op', op''] [b, c, d] = false := by with_unfolding_all rfl) : PE X (.Compare a [op, op', op''] [b, c, d] pos) (tChain3 r r' r'' ta tb tc td) := by
  refine ⟨fun pins s σ H Q I h => ?_⟩
  refine Compare_chain (thn (ha.run pins s σ H _ I h) fun v s1 ⟨x, H1, I1, r1, q1⟩ => chain_link (thn (hb.run pins s1 σ H1 _ I1 q1) fun u s2 ⟨y, H2, I2, r2, q2⟩ =>
    thn (ho pins s2 σ H2 x y v u _ I2 r1 r2 q2) fun d s3 ⟨z, H3, I3, r3, k, e, q3⟩ => ?_)) hm
  subst e
  cases r3
  refine wpAny_truthy_bool ?_
  cases k with
  | false => exact ite_ff ⟨.bl false, H3, I3, rfl, q3⟩
  | true =>
    refine ite_tt (chain_link (thn (hc.run pins s3 σ H3 _ I3 q3) fun w' s4 ⟨z', H4, I4, r4, q4⟩ => thn (ho' pins s4 σ H4 y z' u w' _ I4 r2 r4 q4) fun d' s5 ⟨z5, H5, I5, r5, k', e', q5⟩ => ?_))
    subst e'
    cases r5
    refine wpAny_truthy_bool ?_
    cases k' with
    | false => exact ite_ff ⟨.bl false, H5, I5, rfl, q5⟩
    | true => exact ite_tt (chain_last (thn (hd.run pins s5 σ H5 _ I5 q5) fun v6 s6 ⟨z6, H6, I6, r6, q6⟩ => ho'' pins s6 σ H6 z' z6 w' v6 Q I6 r4 r6 q6))
end
section
variable {K : Frag} {env : List Sl} {ta tb tc td : TE}
theorem ex_chain3 {g g' g'' : Int → Int → V} {p p' p'' : Int → Int → Bool} {i j k l : Int} (hg : ∀ i j, g i j = .bl (p i j)) (hg' : ∀ i j, g' i j = .bl (p' i j)) (hg'' : ∀ i j, g'' i j = .bl (p'' i j)) (ha : EX K ta env (.int i)) (hb : EX K tb env (.int j)) (hc : EX K tc env (.int k)) (hd : EX K td env (.int l)) :
    EX K (tChain3 (rI0 g) (rI0 g') (rI0 g'') ta tb tc td) env (.bool (p i j && (p' j k && p'' k l))) := fun F0 H0 F H σ E Q q => by
  refine ha E _ fun v F1 H1 z1 h1 => hb (E.step z1) _ fun w F2 H2 z2 h2 => ?_
  cases h1; cases h2
  refine ⟨i, j, rfl, rfl, p i j, hg i j, ?_⟩
  cases hp : p i j with
  | false =>
    rw [if_neg Bool.false_ne_true]
    have := q (.bl false) F2 H2 (z1.trans z2)
    rw [hp] at this
    exact this (.bl _)
  | true =>
    rw [if_pos rfl]
    refine hc ((E.step z1).step z2) _ fun u F3 H3 z3 h3 => ?_
    cases h3
    refine ⟨j, k, rfl, rfl, p' j k, hg' j k, ?_⟩
    cases hp' : p' j k with
    | false =>
      rw [if_neg Bool.false_ne_true]
      have := q (.bl false) F3 H3 ((z1.trans z2).trans z3)
      rw [hp, hp'] at this
      exact this (.bl _)
    | true =>
      rw [if_pos rfl]
      refine hd (((E.step z1).step z2).step z3) _ fun u F4 H4 z4 h4 => ?_
      cases h4
      refine ⟨k, l, rfl, rfl, ?_⟩
      rw [hg'']
      have := q (.bl (p'' k l)) F4 H4 (((z1.trans z2).trans z3).trans z4)
      rw [hp, hp'] at this
      exact this (.bl _)
end
/-! data read as what it is -/
def decTI : PyData → Option (List Int)
  | .tuple ds => ds.mapM fun d => match d with
    | .int i => some i
    | _ => none
  | _ => none
def decI : PyData → Option Int
  | .int i => some i
  | _ => none
def decS : PyData → Option Str
  | .str i => some i
  | _ => none
theorem decTI_ok {d : PyData} {xs : List Int} (h : decTI d = some xs) : d = eT PyData.int xs := by
  unfold decTI at h
  cases d with
  | tuple ds =>
    show PyData.tuple ds = PyData.tuple (xs.map PyData.int)
    congr 1
    have key : ∀ (ds : List PyData) (xs : List Int), (ds.mapM fun d => match d with
      | .int i => some i
      | _ => (none : Option Int)) = some xs → ds = xs.map PyData.int := by
      intro ds
      induction ds with
      | nil => intro xs h; cases h; rfl
      | cons d ds ih =>
        intro xs h
        rw [List.mapM_cons] at h
        obtain ⟨i, h1, h2⟩ := Option.bind_eq_some_iff.mp h
        obtain ⟨ys, h3, h4⟩ := Option.bind_eq_some_iff.mp h2
        cases h4
        rw [List.map_cons, ih ys h3]
        cases d <;> first | (cases h1; rfl) | cases h1
    exact key ds xs h
  | _ => cases h
theorem decI_ok {d : PyData} {i : Int} (h : decI d = some i) : d = PyData.int i := by
  unfold decI at h
  cases d <;> cases h
  rfl
theorem decS_ok {d : PyData} {i : Str} (h : decS d = some i) : d = PyData.str i := by
  unfold decS at h
  cases d <;> cases h
  rfl
def decTD : PyData → Option (List PyData)
  | .tuple ds => some ds
  | _ => none
theorem decTD_ok {d : PyData} {ds : List PyData} (h : decTD d = some ds) : d = eT eD ds := by
  unfold decTD at h
  cases d <;> cases h
  show PyData.tuple ds = PyData.tuple (ds.map eD)
  congr 1
  exact (List.map_id ds).symm
theorem decTI_enc (xs : List Int) : decTI (eT PyData.int xs) = some xs := by
  show ((xs.map PyData.int).mapM fun d => match d with
    | .int i => some i
    | _ => (none : Option Int)) = some xs
  induction xs with
  | nil => rfl
  | cons x xs ih => rw [List.map_cons, List.mapM_cons, ih]; rfl
section
variable {K : Frag} {env : List Sl} {ta tb te : TE} {d : PyData} {ds es : List PyData}
/-- tuples one behind the other -/
theorem ex_catP (ha : EX K ta env (.tuple ds)) (hb : EX K tb env (.tuple es)) (h0 : ds ≠ []) (h1 : es ≠ []) (hl : (ds ++ es).length ≤ lim) : EX K (tOp (rCatT K) ta tb) env (.tuple (ds ++ es)) := fun F0 H0 F H σ E Q q =>
  ha E _ fun v F1 H1 z1 h2 => hb (E.step z1) _ fun w F2 H2 z2 h3 => by
    cases h2 with
    | @tup p vs _ a1 a2 a3 =>
      cases h3 with
      | @tup r ws _ b1 b2 b3 =>
        have m := z2.f _ _ a1
        have a2' := DqAll.mono z2.f _ _ a2
        have lv : vs ≠ [] := fun z => by subst z; cases a2; exact h0 rfl
        have lw : ws ≠ [] := fun z => by subst z; cases b2; exact h1 rfl
        refine ⟨p, r, vs, ws, rfl, rfl, SqT.of (z2.fh _ _ m), SqT.of (z2.fh _ _ b1), lv, by rw [a2.len, b2.len, ← List.length_append]; exact lim_le hl, fun z => absurd z lw, fun _ l hn => q _ (upd F2 l (.tup (vs ++ ws))) _ ((z1.trans z2).trans (Fz.new z2.fh hn)) (.tup upd_same (DqAll.mono (Evl.Ex.new (Evl.fresh_back z2.fh hn)) _ _ (a2'.app b2)) hl)⟩
end
theorem op_catTK {X : Cx} {K : Frag} (h : X.K = K := by rfl) : OpR X (binaryOp .Add) (rCatT K) := by subst h; exact op_catT
end Rb

set_option Elab.async false
set_option linter.all false
set_option maxRecDepth 100000
set_option maxHeartbeats 400000
/-! # texts repeated -/
namespace Rb
open PySem PySem.Spec PyProof.Rows L2 HotX L2H
def repS (z : Str) (k : Int) : Str := ⟨(List.replicate k.toNat z.cps).foldl (· ++ ·) #[]⟩
abbrev repOk (z : Str) (k : Int) : Prop := z.length ≠ 0 ∧ 2 ≤ k ∧ k ≤ 1000 ∧ z.length ≤ 1000 ∧ (repS z k).length ≤ lim
def rRepS : R2 := fun x y H Q => ∃ z k, x = V.str z ∧ y = V.int k ∧ repOk z k ∧ Q (.str (repS z k)) H
theorem op_repS {X : Cx} : OpR X (binaryOp .Mult) rRepS := by
  intro pins s σ H x y v u Q I rx ry h
  obtain ⟨z, k, rfl, rfl, ⟨h0, h2, h3, h4, h5⟩, q⟩ := h
  obtain ⟨t, rfl⟩ := rx
  obtain ⟨t', rfl⟩ := ry
  have hb : (k == 1 || z.length == 0) = false := by
    rw [Bool.or_eq_false_iff]
    exact ⟨by rw [beq_eq_false_iff_ne]; omega, by rw [beq_eq_false_iff_ne]; exact h0⟩
  refine PySem.P.mul_str (by rw [decide_eq_false (by omega), decide_eq_false (by omega)]; rfl) (fun _ _ => ?_) (fun _ _ => ?_) ?_
  · have : (z.length : Int) ≤ (2 ^ 63 - 1) / k := by
      rw [Int.le_ediv_iff_mul_le (by omega)]
      have : (z.length : Int) * k ≤ 1000 * 1000 := Int.mul_le_mul (by omega) h3 (by omega) (by omega)
      omega
    omega
  · have : z.length * k.toNat ≤ 1000 * 1000 := Nat.mul_le_mul h4 (by omega)
    generalize z.length * k.toNat = m at this
    exact decide_eq_false (by rw [sizeLine_eq]; omega)
  · rw [if_neg (by omega), hb, if_neg (by simp)]
    exact ⟨Nat.le_trans h5 (by rw [sizeLine_eq]; decide), .str (repS z k), H, I.tok _, ⟨_, rfl⟩, q⟩
section
variable {K : Frag} {env : List Sl} {ta tb : TE}
theorem ex_repS {z : Str} {k : Int} (ha : EX K ta env (.str z)) (hb : EX K tb env (.int k)) (h : repOk z k) : EX K (tOp rRepS ta tb) env (.str (repS z k)) := fun F0 H0 F H σ E Q q =>
  ha E _ fun v F1 H1 z1 h1 => hb (E.step z1) _ fun w F2 H2 z2 h2 => by
    cases h1; cases h2
    exact ⟨z, k, rfl, rfl, h, q _ F2 H2 (z1.trans z2) (.str _ h.2.2.2.2)⟩
end
/-! None or a value -/
section
variable {K : Frag} {env : List Sl} {ta : TE} {α : Type} {e : α → PyData} {m : Option α}
theorem isNone_eO (hn : ∀ x, isNone (e x) = false) : isNone (eO e m) = m.isNone := by
  cases m with
  | none => rfl
  | some x => exact hn x
theorem ex_isNO (ha : EX K ta env (eO e m)) (hn : ∀ x, isNone (e x) = false := by intro _; rfl) : EX K (tOp (fun x y H Q => y = .non ∧ Q (.bl (decide (x = .non))) H) ta (tC .non)) env (.bool m.isNone) := by
  have := ex_isN ha
  rw [isNone_eO hn] at this
  exact this
theorem ex_notNO (ha : EX K ta env (eO e m)) (hn : ∀ x, isNone (e x) = false := by intro _; rfl) : EX K (tOp (fun x y H Q => y = .non ∧ Q (.bl (!decide (x = .non))) H) ta (tC .non)) env (.bool (!m.isNone)) := by
  have := ex_notN ha
  rw [isNone_eO hn] at this
  exact this
end
end Rb

set_option Elab.async false
set_option linter.all false
set_option maxRecDepth 100000
set_option maxHeartbeats 4000000
/-! # exceptions with a field; several clauses with a name -/
namespace Rb
open PySem PySem.Spec PyProof.Rows L2
/-! ### classes of exceptions with an __init__ of one field -/
/-- the table's word for such a class -/
def oexB (K : Frag) (f x : Str) : Bool :=
  (match K.lookup (He.ga K x) with
    | some ⟨.type "type", _, .cls q, s⟩ => (match q.mro, s.toList with
      | .ref z :: l, [_, _, _, _, some (.builtin g), _] => decide (z = He.ga K x) && (decide (g = "ValueError.__new__") && (!q.hasDel && (q.hasDict && PySem.HandSPX.refsVE l)))
      | _, _ => false)
    | _ => false) &&
  (decide (PySem.W.findIn K (.ref (He.ga K x)) "__setattr__" = some (some (.builtin "object.__setattr__"))) &&
  (decide (PySem.W.subIn K (.ref (He.ga K x)) (.type "BaseException") = some true) &&
  (decide (PySem.W.typeIn K (.ref (He.ga K x)) = some (.type "type")) &&
  (PySem.W.keepIn K (.ref (He.ga K x)) &&
  (decide (PySem.W.findIn K (.ref (He.ga K x)) "__init__" = some (some (.ref (He.ma K (He.ga K x) "__init__")))) &&
  (decide (PySem.W.typeIn K (.ref (He.ma K (He.ga K x) "__init__")) = some (.type "function")) &&
  (decide (PySem.W.findIn K (.ref (He.ga K x)) f = some none) && xfB K (He.ga K x))))))))
structure OexF (K : Frag) (f x : Str) : Prop where
  c : OexC K (He.ga K x)
  ini : PySem.W.findIn K (.ref (He.ga K x)) "__init__" = some (some (.ref (He.ma K (He.ga K x) "__init__")))
  ty : PySem.W.typeIn K (.ref (He.ma K (He.ga K x) "__init__")) = some (.type "function")
  no : PySem.W.findIn K (.ref (He.ga K x)) f = some none
  xf : XfC K (He.ga K x)
theorem oexB_ok {K : Frag} {f x : Str} (h : oexB K f x = true) : OexF K f x := by
  unfold oexB at h
  simp only [Bool.and_eq_true] at h
  obtain ⟨h0, h1, h2, h3, h4, h5, h6, h7, h8⟩ := h
  refine ⟨⟨?_, of_decide_eq_true h1, of_decide_eq_true h2, of_decide_eq_true h3, h4⟩, of_decide_eq_true h5, of_decide_eq_true h6, of_decide_eq_true h7, xfB_ok h8⟩
  split at h0
  · rename_i d q s hl
    split at h0
    · rename_i z l k0 k1 k2 k3 g k5 hm hs
      simp only [Bool.and_eq_true, decide_eq_true_eq, Bool.not_eq_true'] at h0
      obtain ⟨e1, e2, e3, e4, e5⟩ := h0
      obtain ⟨nm, bs, mro, ns, qn, hd, sn, sub, ab, col, del⟩ := q
      dsimp only at hm e3 e4
      subst hm
      subst e3
      subst e4
      subst e1
      subst e2
      have es : s = #[k0, k1, k2, k3, some (.builtin "ValueError.__new__"), k5] := by
        obtain ⟨s⟩ := s
        simp only at hs
        rw [hs]
      subst es
      exact ⟨nm, qn, ns, bs, l, sn, sub, ab, col, d, k0, k1, k2, k3, k5, hl, e5⟩
    · cases h0
  · cases h0
/-- what __init__ promises: the field stands -/
def spIni (f : Str) (K : Frag) : Sp := fun vs H Q _ => ∃ (a C : Addr) (v : V), vs = [.ref a, v] ∧ OexC K C ∧ PySem.W.findIn K (.ref C) f = some none ∧ H a = some (exo a C none) ∧ ∀ dx, H dx = none → dx ≠ a → Q .non (upd (upd H dx (exd dx [(f, v)])) a (exo a C (some dx)))
/-- such a class, with its __init__ walked -/
structure ExI (P : Program) (w : World) (K : Frag) (mg : Str → Option Value) (base : Heap) (f x : Str) : Prop where
  g : mg x = some (.ref (He.ga K x))
  o : OexF K f x
  fn : ∃ fd, FnOk P w K mg base CX0 1 (He.ma K (He.ga K x) "__init__") fd ["self", f] (spIni f K) ∧ Binds K fd ["self", f] []
theorem ini_ok {P : Program} {w : World} {K : Frag} {mg : Str → Option Value} {base : Heap} {f qual : Str} {params : Arguments} {body : List Stmt} {scope : Scope} {a : Addr} {fd : FuncData}
    (F : FunD K "__init__" qual params body scope [] [] a fd) (S : FnScope ["self", f] ["self", f] scope)
    (hb : ∀ (cdv : Value) (A : Around) (outer : List Env) (s : Shared) (H : Hp) (E : XK), PSs (cxOf CX0 P w K mg base ["self", f] qual scope a cdv A outer s H E) body (tSeq (tOst K f (tVar 0) (tVar 1)) tNext)) : FnOk P w K mg base CX0 1 a fd ["self", f] (spIni f K) := by
  refine F.ok S (fun vs H Q E h => ?_) (fun cdv A outer s H vs Q E hr h => ?_)
  · obtain ⟨_, _, _, e, _⟩ := h
    rw [e]; rfl
  · obtain ⟨b, C, v, rfl, T, hno, hb1, q⟩ := h
    refine ⟨_, hb cdv A outer s H E, ?_⟩
    exact ⟨v, rfl, .ref b, rfl, b, C, rfl, T, hno, .inl ⟨hb1, fun dx n ne => q dx n ne⟩⟩
/-- a class's statement -/
def clsStmt (s : Stmt) (j : Nat) : Stmt := match s with
  | .ClassDef _ _ _ b .. => b.getD j (.Pass ⟨0, 0, 0, 0⟩)
  | _ => .Pass ⟨0, 0, 0, 0⟩
/-! ### C(e), made -/
theorem pmk_ini {X : Cx} {x : Str} {C fI : Addr} {k : Nat} {fd : FuncData} {ps : List Str} {sp : Sp} {e : Expr} {ta : TA} {p pos : Pos} (T : OexC X.K C) (iC : PySem.W.findIn X.K (.ref C) "__init__" = some (some (.ref fI)))
    (tI : PySem.W.typeIn X.K (.ref fI) = some (.type "function")) (F1 : FnOk X.prog X.w X.K X.mg X.base CX0 k fI fd ps sp) (hr : Room (k + 1) X.A) (hb : Binds X.K fd ps []) (hg : Gl X x) (hm : X.mg x = some (.ref C)) (ha : PA X [e] ta)
    (hdb : (x == ("__debug__" : Str)) = false := by decide) (he : starEach [e] X.env = (false, eval e X.env) :: starEach [] X.env := by rfl) (hpl : (backTo pos (starEach [] X.env)).any (·.1) = false := by rfl) :
    L2N.PMk X (.Call (.Name x p) [e] [] pos) (tMkO C sp [] ta) := fun pins st σ H Q J h => by
  obtain ⟨cn, qn, nsA, bss, l, sno, sbs, abs, cl, dx0, j0, j1, j2, j3, j5, hC, hl⟩ := T.cls
  refine wpAny_Call_Name_kw (ld_glob J hg hm ?_ hdb)
  refine PySem.W.callWith_K (h₀ := X.base) J.ok.mod.kin T.kC ?_ he hpl
  refine thn (ha.run pos pins st σ H _ J h) ?_
  rintro us ⟨hp, gs, dw, tk, os⟩ ⟨vs, H1, J1, r1, hz, q1⟩
  refine ⟨J1.kIn, ?_⟩
  show wpAny _ _ (call (.ref C) us) _ _ _
  -- the new object's place
  generalize hae : hp.objs.size + 1 = a
  have ha1 : hp.objs.size ≤ a := by omega
  have hn : H1 a = none := J1.hok.fresh ha1
  have hq := q1 a hn
  rw [List.append_nil] at hq
  have kp : ∀ b o, hp.get? b = some o → ((hp.push (PySem.W.kdv_tup us)).push (PySem.HandSPX.excO C hp.objs.size)).get? b = some o := fun b o z => Heap.get?_push_of_some _ (Heap.get?_push_of_some _ z)
  have here : ((hp.push (PySem.W.kdv_tup us)).push (PySem.HandSPX.excO C hp.objs.size)).get? a = some (PySem.HandSPX.excO C hp.objs.size) := by subst hae; heap_get
  have J2 := J1.laid (t' := tk) (a := a) (o := exo a C none) kp ha1 (exo_ok here)
  have r2 : Vals (V.ref a :: vs) (Value.ref a :: us) := .cons rfl r1
  have len : (Value.ref a :: us ++ []).length = ps.length := by
    rw [List.append_nil, ← r2.length]
    exact F1.len _ _ _ _ hq
  have b2 := hb _ (Value.ref a :: us) J2.kIn len
  rw [List.append_nil] at b2
  have sz : us.length ≤ sizeLine := by
    have := Paired.length r1
    rw [sizeLine_eq]
    omega
  refine wpAny_call (PySem.HandSPX.call_own F.excBase_ValueError (fun Y => PySem.HandSPX.refsVE_contains Y l hl) (J1.kIn _ _ hC) (PySem.W.looks_findIn J1.kIn iC) (fun self => PySem.W.bind_fn J1.kIn self tI) sz ?_)
  have run := F1.run _ X.stack _ _ ⟨Value.ref a :: us, []⟩ (Value.ref a :: us) _ _ (fun _ _ _ => False) (hr.make C us []) (J2.env0.make C us []) b2 r2 hq
  subst hae
  refine codeAny_mono run fun r st' hr' => ?_
  cases r with
  | error er => exact hr'.elim
  | ok fl =>
    cases fl with
    | ret u =>
      obtain ⟨v, H2, os2, bare2, un2, hok2, rv, ev, d, fs, ea, ed, hd1, q2⟩ := hr'
      subst ev
      obtain ⟨h2, g2, d2, t2, os'⟩ := st'
      obtain ⟨t0, G, J3, kG, ge, hoe, na⟩ := mk_end0 (d2 := d2) (t2 := t2) J1 ha1 kp un2 hok2 os2 bare2 ea ed hd1
      exact ⟨rv, hp.objs.size + 1, _, _, ⟨G, g2, d2, t2, os'⟩, _, .ref C, some d, rfl, J3, kG, ge, hoe, ⟨rfl, rfl, fun ws hw => by cases hw; rfl⟩, rfl, rfl, na, rfl, bare2, raises_own T.exC T.tyC, q2⟩
    | next => exact hr'.elim
    | brk => exact hr'.elim
    | cont => exact hr'.elim
section
variable {X : Cx} {K : Frag} {W : WX} {f x : Str} {e : Expr} {ta : TA} {p pos pos2 : Pos}
theorem ps_raiseF (hc : X.calm = true) (T : ExI X.prog X.w K X.mg X.base f x) (tk : L2N.Takes X W) (hr : Room 2 X.A) (hg : Gl X x) (ha : PA X [e] ta) (hK : X.K = K := by rfl) (hdb : (x == ("__debug__" : Str)) = false := by decide)
    (he : starEach [e] X.env = (false, eval e X.env) :: starEach [] X.env := by rfl) (hpl : (backTo pos (starEach [] X.env)).any (·.1) = false := by rfl) :
    PS X (.Raise (some (.Call (.Name x p) [e] [] pos)) none pos2) (fun _ σ H => tMkO (He.ga K x) (spIni f K) [] ta σ H fun c d H' => W c d σ H') := by
  subst hK
  obtain ⟨fd, F1, hb⟩ := T.fn
  exact L2N.ps_raise hc tk (pmk_ini T.o.c T.o.ini T.o.ty F1 hr hb hg T.g ha hdb he hpl)
end
section
variable {K : Frag} {env env' envX : List Sl} {d : PyData} {ta : TA} {W : WX} {α β O S : Type} {ts tu : TS} {enc : O → Out} {m n : Option O} {f x : Str}
theorem made_heap {H : Hp} {a C d : Addr} {f : Str} {v : V} (ha : H a = none) (hd : d ≠ a) :
    upd (del (upd (upd (upd H a (exo a C none)) d (exd d [(f, v)])) a (exo a C (some d))) a) d (.xd [(f, v)]) = upd H d (.xd [(f, v)]) := by
  funext b
  by_cases e : b = d
  · subst e; rw [upd_same, upd_same]
  · rw [upd_ne e, upd_ne e]
    by_cases e2 : b = a
    · subst e2; rw [del_same, ha]
    · rw [del_ne e2, upd_ne e2, upd_ne e, upd_ne e2]
theorem bx_raiseF {o : O} (hO : OexF K f x) (ha : EA K ta env [d]) (hn : enc o = .ex env' ⟨x, some (f, d)⟩ W) (hw : Wk env env') :
    BX K (tSeq (fun _ σ H => tMkO (He.ga K x) (spIni f K) [] ta σ H fun c d H' => W c d σ H') tu) env enc (some o) := fun o' ho F0 H0 F H σ D E c => by
  cases ho
  rw [hn] at c
  refine ha E _ fun vs F1 H1 z1 a1 => ?_
  cases a1 with
  | @cons v _ _ _ hv a2 =>
  cases a2
  refine ⟨by show 1 ≤ 1000; decide, fun a na => ?_⟩
  refine ⟨a, He.ga K x, v, rfl, hO.c, hO.no, upd_same, fun dx hdx ne => ?_⟩
  have h1 : H1 dx = none := by rw [upd_ne ne] at hdx; exact hdx
  refine ⟨rfl, dx, _, upd_same, by rw [upd_ne ne, upd_same], h1, ?_⟩
  rw [made_heap na ne]
  have z2 := z1.trans (Fz.add (o := .xd [(f, v)]) z1.fh h1)
  exact c F1 _ σ ((E.step z2).weak hw) dx v upd_same hv
end
/-! ### several clauses -/
abbrev Cl : Type := Value × Nat × (Addr → Value → Option Addr → TS)
/-- the wish of the clauses, one behind the other -/
def wCl (K : Frag) (Wout : WX) (D : Ends) : List Cl → WX
  | [] => Wout
  | (c, i, tx) :: r => fun cls d σ H => ∃ b, PySem.W.exmOne K cls c = some b ∧
      (b = true → ∀ a, H a = none → tx a cls d { nx := fun σ' H' => D.nx (σ'.set i none) H', rt := D.rt, bk := fun σ' H' => D.bk (σ'.set i none) H', ct := fun σ' H' => D.ct (σ'.set i none) H' } (σ.set i (some (.ref a))) H) ∧
      (b = false → wCl K Wout D r cls d σ H)
inductive ClOk (X : Cx) : List ExceptHandler → List Cl → Prop
  | nil : ClOk X [] []
  | cons {x n : Str} {c : Value} {i : Nat} {tx : Addr → Value → Option Addr → TS} {s0 : Stmt} {ss : List Stmt} {q q' : Pos} {hs : List ExceptHandler} {l : List Cl} (hi : X.N[i]? = some n) (hk : X.env.kindOf n = some .local) (hc : Names X x c)
      (hx : ∀ (a : Addr) (oe : Obj) (cls : Value) (d : Option Addr) (pn : List (Addr × Obj)), L2N.Zn cls d oe → (∃ vs, oe.data = .fields vs) → PSs (X.suite a ((a, oe) :: pn)) (s0 :: ss) (tx a cls d)) (r : ClOk X hs l) :
      ClOk X (.ExceptHandler (some (.Name x q)) (some n) (s0 :: ss) q' :: hs) ((c, i, tx) :: l)
/-- a try with such clauses -/
def tTryCl (K : Frag) (tb : WX → TS) (cl : List Cl) (Wout : WX) : TS := fun D σ H => tb (wCl K Wout D cl) D σ H
theorem ps_tryCl0 {X : Cx} {body : List Stmt} {h₀ : ExceptHandler} {hds : List ExceptHandler} {cl : List Cl} {pos : Pos} {tb : WX → TS} {Wout : WX} (hs : X.stack = X.env :: X.outer) (hf : X.env.frame = some X.env.locals) (hN : X.N.Nodup) (tk : L2N.Takes X Wout)
    (hb : ∀ (W : WX) (pn : List (Addr × Obj)) (xe : Value → Shared → Prop), L2N.Takes (X.tr pn xe) W → PassesOwn (model X.prog X.w) X.A X.env xe → PSs (X.tr pn xe) body (tb W))
    (hh : ClOk X (h₀ :: hds) cl) : PS X (.Try body (h₀ :: hds) [] [] pos) (fun D σ H => tb (wCl X.K Wout D cl) D σ H) := by
  refine ⟨fun pins st σ H D I h => ?_⟩
  have ok := I.ok
  have fr : X.A.frames = some (X.env :: X.outer) := by rw [ok.frames, hs]
  refine wpAny_Try_except ?_
  have run := (hb (wCl X.K Wout D cl) (X.pn ++ pins) (fun e s1 => wpAny (model X.prog X.w) X.A (noteFrame e X.env) (fun _ s2 => wpAny (model X.prog X.w) X.A (setFlight e none) (fun _ s3 =>
    wpAny (model X.prog X.w) X.A (handleBy e X.env (h₀ :: hds)) (SP X pins D) X.xe s3) X.xe s2) X.xe s1) (fun u s' xx => ?_) PassesOwn.looking).run [] st σ H D (I.toTry _) h
  · refine wpAny_mono run (fun fl s1 hsp => ?_) fun _ _ z => z
    cases fl with
    | next => obtain ⟨σ', H', J', q⟩ := hsp; exact wpAny_execs_nil ⟨σ', H', J'.ofTry ok, q⟩
    | brk => obtain ⟨σ', H', J', q⟩ := hsp; exact ⟨σ', H', J'.ofTry ok, q⟩
    | cont => obtain ⟨σ', H', J', q⟩ := hsp; exact ⟨σ', H', J'.ofTry ok, q⟩
    | ret u => obtain ⟨v, σ', H', J', r, q⟩ := hsp; exact ⟨v, σ', H', J'.ofTry ok, r, q⟩
  · -- an exception leaves the body
    obtain ⟨a, B, sI, pins', σ', H', cls, d, rfl, J', nb, up, sky, na, os, ag, wish⟩ := xx
    have J : Inv X pins σ' H' sI := J'.ofTry ok
    rw [show (X.tr (X.pn ++ pins) _).stack = X.env :: X.outer from hs] at sky
    show wpAny (model X.prog X.w) X.A (noteFrame (.ref a) X.env) _ _ _
    refine L2N.Sky.land L2N.Zn.steady fr hf sky fun hL flL upL => ?_
    have upA := up.trans upL
    have JL : Inv X pins σ' H' { s' with heap := hL } := J.landed nb flL.1 upA os ag
    obtain ⟨oL, vL, geL, zL, daL⟩ := flL.there
    have out : a ∉ frs (X.env :: X.outer) := fun hm => by
      obtain ⟨_, o', e', nf⟩ := flL.2.2.1.mem hm
      rw [geL] at e'
      cases e'
      exact nf _ daL
    have nL : a ≠ X.env.locals := fun z => out (List.mem_filterMap.mpr ⟨X.env, List.mem_cons_self, by rw [hf, z]⟩)
    have nF : a ∉ X.fs := fun hm => by
      obtain ⟨e, m1, m2⟩ := List.mem_filterMap.mp hm
      exact out (List.mem_filterMap.mpr ⟨e, List.mem_cons_of_mem _ m1, m2⟩)
    have SL := JL.suite geL daL na nL nF
    have LT : PySem.W.Looks (model X.prog X.w) hL (typeOf (.ref a)) cls := fun A Q E s k q => wpAny_typeOf_ref (k _ _ geL) (by rw [zL.1]; exact q)
    have all : ∀ {hs' : List ExceptHandler} {l' : List Cl}, ClOk X hs' l' → wCl X.K Wout D l' cls d σ' H' → wpAny (model X.prog X.w) X.A (handleBy (.ref a) X.env hs') (SP X pins D) X.xe { s' with heap := hL } := by
      intro hs' l' hk
      induction hk with
      | nil =>
        intro wout
        refine wpAny_handleBy_nil ?_
        obtain ⟨_, _, _, oT, vT, T, _, _, gT, _, dT, f1, _⟩ := id flL
        unfold PySem.passOn
        refine wpAny_bind (wpAny_field gT dT f1 ?_)
        rw [if_neg (show ¬ ((Value.ref T == Value.none) = true) from by simp)]
        have go : wpAny (model X.prog X.w) X.A (setFlight (.ref a) X.env.frame) (fun _ s4 => wpAny (model X.prog X.w) X.A (throw (.ref a) : Sem Flow) (SP X pins D) X.xe s4) X.xe { s' with heap := hL } := by
          rw [hf]
          exact HandSPX.setFlight_upZ flL fun h4 hh4 up4 => wpAny_throw (tk _ _ ⟨a, B, sI, pins, σ', H', cls, d, rfl, J, nb, upA.trans up4, .inr (.inr (by rw [hs]; exact hh4)), na, os, ag, wout⟩)
        first
          | exact wpAny_bind (wpAny_pure (wpAny_bind go))
          | exact wpAny_bind go
      | @cons x n c i tx s0 ss q q' hs2 l2 hi hk1 hc hx r ih =>
        intro ⟨b, hb1, yes, no⟩
        refine wpAny_handleBy_cons (codeAny_handlers_test ?_) (by intro z; cases z)
        have name : ∀ {Q : Value → Shared → Prop} {E : Value → Shared → Prop}, Q c { s' with heap := hL } → wpAny (model X.prog X.w) (X.A.mark (some (.ref a))) (eval (.Name x q) X.env) Q E { s' with heap := hL } := fun {Q E} z => by
          obtain ⟨hg, hdb, hm | ⟨hm, hv, hn⟩⟩ := hc
          · exact ld_glob (X := X.suite a ((a, oL) :: (X.pn ++ pins))) SL hg hm z hdb
          · exact ld_blt (X := X.suite a ((a, oL) :: (X.pn ++ pins))) SL hg hm hv z hn hdb
        refine name ((PySem.W.exm_one (M := model X.prog X.w) JL.kIn LT hb1).here ?_)
        cases b with
        | false =>
          show wpAny _ X.A (handleBy (.ref a) X.env hs2) _ _ _
          exact ih (no rfl)
        | true =>
          refine codeAny_handlers_suite_as (HandSPX.lands_againZ flL fun h4 fl4 up4 => ?_)
          have J4 : Inv X pins σ' H' { s' with heap := h4 } := J.landed nb fl4.1 (upA.trans up4) os ag
          obtain ⟨o4, v4, ge4, z4, da4⟩ := fl4.there
          refine store_ok (X := X.suite a ((a, o4) :: (X.pn ++ pins))) (v := .ref a) (J4.suite ge4 da4 na nL nF) hN hi (.inl hk1) rfl (fun s5 S5 => ?_) (.inr hk1)
          refine wpAny_mono ((hx a o4 cls d (X.pn ++ pins) z4 ⟨_, da4⟩).run [] s5 _ H' _ S5 (yes rfl a na)) (fun fl s6 hsp => ?_) (fun _ _ z => z.elim)
          have over : ∀ {σ6 : L2.St} {H6 : Hp} {Q : Shared → Prop}, Inv (X.suite a ((a, o4) :: (X.pn ++ pins))) [] σ6 H6 s6 → (∀ s7, Inv X pins (σ6.set i none) H6 s7 → Q s7) →
              wpAny (model X.prog X.w) X.A (do bindName X.env n .none; unbindBehindTheSuite X.env n q') (fun _ s7 => Q s7) X.xe s6 := fun {σ6 H6 Q} S6 hq => gone_ok (S6.unsuite ok) hN hi hk1 hq
          cases fl with
          | next => obtain ⟨σ6, H6, S6, q6⟩ := hsp; exact over S6 fun s7 J7 => ⟨_, _, J7, q6⟩
          | brk => obtain ⟨σ6, H6, S6, q6⟩ := hsp; exact over S6 fun s7 J7 => ⟨_, _, J7, q6⟩
          | cont => obtain ⟨σ6, H6, S6, q6⟩ := hsp; exact over S6 fun s7 J7 => ⟨_, _, J7, q6⟩
          | ret u => obtain ⟨v6, σ6, H6, S6, r6, q6⟩ := hsp; exact over S6 fun s7 J7 => ⟨_, _, _, J7, r6, q6⟩
    exact all hh wish
theorem ps_tryCl {X : Cx} {K : Frag} {body : List Stmt} {h₀ : ExceptHandler} {hds : List ExceptHandler} {cl : List Cl} {pos : Pos} {tb : WX → TS} {Wout : WX} (hs : X.stack = X.env :: X.outer) (hf : X.env.frame = some X.env.locals) (hN : X.N.Nodup) (tk : L2N.Takes X Wout)
    (hb : ∀ (W : WX) (pn : List (Addr × Obj)) (xe : Value → Shared → Prop), L2N.Takes (X.tr pn xe) W → PassesOwn (model X.prog X.w) X.A X.env xe → PSs (X.tr pn xe) body (tb W))
    (hh : ClOk X (h₀ :: hds) cl) (hK : X.K = K := by rfl) : PS X (.Try body (h₀ :: hds) [] [] pos) (tTryCl K tb cl Wout) := by
  subst hK
  exact ps_tryCl0 hs hf hN tk hb hh
theorem fldI {f : Str} {x : Exn} {i : Int} (h : Option.bind (fldM f x) decI = some i) : fldM f x = some (.int i) := by
  obtain ⟨d, h1, h2⟩ := Option.bind_eq_some_iff.mp h
  rw [h1, decI_ok h2]
theorem fldS {f : Str} {x : Exn} {z : Str} (h : Option.bind (fldM f x) decS = some z) : fldM f x = some (.str z) := by
  obtain ⟨d, h1, h2⟩ := Option.bind_eq_some_iff.mp h
  rw [h1, decS_ok h2]
section
variable {K : Frag} {env env' envS envX : List Sl} {α β O S : Type} {ts tu : TS} {enc : O → Out} {m n : Option O} {tx : Addr → Value → Option Addr → TS} {Wout : WX} {i : Nat} {x : Exn} {cl : List Cl}
/-- the clauses meet what is due for x -/
def HC (K : Frag) (Wout : WX) (cl : List Cl) (envX : List Sl) (enc : O → Out) (x : Exn) (m : Option O) : Prop := ∀ o, m = some o → ∀ ⦃F0 H0 F H : Hp⦄ ⦃σ : List (Option V)⦄ (D : Ends), EnvOk K F0 H0 F H σ envX → Cont K F0 H0 D (enc o) →
  ∀ d, ExA x F H d → wCl K Wout D cl (.ref (He.ga K x.name)) d σ H
/-- one clause of a class -/
def selM (y : Str) (x : Exn) (m n : Option O) : Option O := if x.name ∈ exNames then (if x.name = y then m else n) else none
/-- the clause of all of them -/
def ribM (x : Exn) (m : Option O) : Option O := if x.name ∈ exNames then m else none
theorem hc_nil : HC K Wout [] envX enc x none := fun o ho => nomatch ho
theorem hc_hit {c : Value} {r : List Cl} {o : O} {F0 H0 F H : Hp} {σ : List (Option V)} {D : Ends} {d : Option Addr} (hl : i < envX.length) (he : (enc o).fin ∨ ∃ e, enc o = .nx e ∧ e.set i .un = e) (hm : PySem.W.exmOne K (.ref (He.ga K x.name)) c = some true)
    (h : BH K i x tx (envX.set i .un) enc (some o)) (E : EnvOk K F0 H0 F H σ envX) (C : Cont K F0 H0 D (enc o)) (hA : ExA x F H d) : wCl K Wout D ((c, i, tx) :: r) (.ref (He.ga K x.name)) d σ H := by
  refine ⟨true, hm, fun _ a _ => ?_, fun z => nomatch z⟩
  exact h o rfl a d _ (E.setU i) (by rw [List.getElem?_set, if_pos rfl, if_pos (by rw [E.len]; exact hl)]) hA (Cont.clear he C)
theorem hc_sel {y : Str} {m1 m2 : Option O} {r : List Cl} (hE : exB K = true) (hy : y ∈ exNames) (hl : i < envX.length) (he : ∀ o, (enc o).fin ∨ ∃ e, enc o = .nx e ∧ e.set i .un = e) (h1 : x.name = y → BH K i x tx (envX.set i .un) enc m1) (h2 : HC K Wout r envX enc x m2) :
    HC K Wout ((.ref (He.ga K y), i, tx) :: r) envX enc x (selM y x m1 m2) := fun o ho F0 H0 F H σ D E C d hA => by
  unfold selM at ho
  split at ho
  · rename_i hx
    have hm := ((exB_ok hE hx).exm y hy).1
    split at ho
    · rename_i e
      rw [decide_eq_true e] at hm
      subst ho
      exact hc_hit hl (he o) hm (h1 e) E C hA
    · rename_i e
      rw [decide_eq_false e] at hm
      exact ⟨false, hm, (fun z => nomatch z), fun _ => h2 o ho D E C d hA⟩
  · cases ho
theorem hc_all {m1 : Option O} {r : List Cl} (hE : exB K = true) (hl : i < envX.length) (he : ∀ o, (enc o).fin ∨ ∃ e, enc o = .nx e ∧ e.set i .un = e) (h1 : BH K i x tx (envX.set i .un) enc m1) :
    HC K Wout ((.ref (He.ga K "RibbonError"), i, tx) :: r) envX enc x (ribM x m1) := fun o ho F0 H0 F H σ D E C d hA => by
  unfold ribM at ho
  split at ho
  · rename_i hx
    subst ho
    exact hc_hit hl (he o) (exB_ok hE hx).rib h1 E C hA
  · cases ho
/-- what the written part says of some classes together -/
def exBN (N : List Str) (K : Frag) : Bool :=
  N.all fun x => decide (PySem.W.exmOne K (.ref (He.ga K x)) (.ref (He.ga K "RibbonError")) = some true) && N.all fun y => decide (PySem.W.exmOne K (.ref (He.ga K x)) (.ref (He.ga K y)) = some (decide (x = y)))
theorem exBN_ok {N : List Str} (h : exBN N K = true) {x : Str} (hx : x ∈ N) : PySem.W.exmOne K (.ref (He.ga K x)) (.ref (He.ga K "RibbonError")) = some true ∧ ∀ y, y ∈ N → PySem.W.exmOne K (.ref (He.ga K x)) (.ref (He.ga K y)) = some (decide (x = y)) := by
  have h1 := List.all_eq_true.mp h x hx
  rw [Bool.and_eq_true] at h1
  exact ⟨of_decide_eq_true h1.1, fun y hy => of_decide_eq_true (List.all_eq_true.mp h1.2 y hy)⟩
def selN (N : List Str) (y : Str) (x : Exn) (m n : Option O) : Option O := if x.name ∈ N then (if x.name = y then m else n) else none
theorem hc_selN {N : List Str} {y : Str} {m1 m2 : Option O} {r : List Cl} (hE : exBN N K = true) (hy : y ∈ N) (hl : i < envX.length) (he : ∀ o, (enc o).fin ∨ ∃ e, enc o = .nx e ∧ e.set i .un = e) (h1 : x.name = y → BH K i x tx (envX.set i .un) enc m1) (h2 : HC K Wout r envX enc x m2) :
    HC K Wout ((.ref (He.ga K y), i, tx) :: r) envX enc x (selN N y x m1 m2) := fun o ho F0 H0 F H σ D E C d hA => by
  unfold selN at ho
  split at ho
  · rename_i hx
    have hm := (exBN_ok hE hx).2 y hy
    split at ho
    · rename_i e
      rw [decide_eq_true e] at hm
      subst ho
      exact hc_hit hl (he o) hm (h1 e) E C hA
    · rename_i e
      rw [decide_eq_false e] at hm
      exact ⟨false, hm, (fun z => nomatch z), fun _ => h2 o ho D E C d hA⟩
  · cases ho
theorem bx_tryCl {envS : S → List Sl} {mm : Option (Except Exn S)} {k : S → Option O} {h : Exn → Option O} {tb : WX → TS} (hb : ∀ W, BX K (tb W) env (encB envS envX W) mm) (hk : ∀ s, mm = some (.ok s) → BX K tNext (envS s) enc (k s))
    (hh : ∀ x, mm = some (.error x) → HC K Wout cl envX enc x (h x)) : BX K (tTryCl K tb cl Wout) env enc (tryM mm k h) := fun o ho F0 H0 F H σ D E C => by
  unfold tryM at ho
  obtain ⟨y, e1, e2⟩ := Option.bind_eq_some_iff.mp ho
  cases y with
  | ok s => exact hb _ (.ok s) e1 D E fun F1 H1 σ1 E1 => hk s e1 o e2 D E1 C
  | error x =>
    refine hb _ (.error x) e1 D E fun F1 H1 σ1 E1 => ?_
    have go := hh x e1 o e2 D E1 C
    unfold ExA at go
    unfold exW
    split
    · rename_i q
      rw [q] at go
      exact go none rfl
    · rename_i q1 q
      rw [q] at go
      exact fun dd v hd hv => go (some dd) ⟨dd, v, rfl, hd, hv⟩
end
end Rb

set_option Elab.async false
set_option linter.all false
set_option maxRecDepth 100000
set_option maxHeartbeats 4000000
/-! # how often a number stands in a list -/
namespace Rb
open PySem PySem.Spec PyProof.Rows L2
theorem mt_countK {X : Cx} {K : Frag} (h : X.K = K := by rfl) : MtR X "list.count" (rCntI K) := by subst h; exact mt_lcount
section
variable {K : Frag} {env : List Sl} {ta tb : TE}
theorem ex_count {xs : List Int} {x : Int} (ha : EXl K ta env (xs.map PyData.int)) (hb : EX K tb env (.int x)) : EX K (tBM K "list" (rCntI K) ta (tCons tb tNil)) env (.int ((xs.count x : Nat) : Int)) := fun F0 H0 F H σ E Q q =>
  ha E _ fun p vs F1 H1 z1 h1 a1 l1 => ⟨.inl ⟨rfl, vs, SqL.of h1⟩, hb (E.step z1) _ fun w F2 H2 z2 hw => by
    cases hw
    have := a1.ints
    subst this
    exact ⟨p, _, x, rfl, rfl, SqL.of (z2.hh z1.fh _ _ h1), q _ F2 H2 (z1.trans z2) (.int _)⟩⟩
end
section
variable {K : Frag} {env : List Sl} {α β : Type} {e : β → PyData} {i : Nat}
/-- how many there are in a dict -/
theorem ex_lenDK {kf : α → Key} {xs : List (α × β)} (hi : env[i]? = some (.dk (xs.map (kvE kf e)))) : EX K (tCB (fun xs H Q => ∃ a kvs, xs = [V.ref a] ∧ H a = some (.dK kvs) ∧ Q (.int kvs.length) H) (tCons (tVar i) tNil)) env (.int (xs.length : Int)) := fun F0 H0 F H σ E Q q => by
  obtain ⟨o, h1, p, ws, h2, h3, h4, h5, h6, h7⟩ := E.sl i _ hi
  subst h2
  have hl : ws.length = xs.length := by
    have := congrArg List.length h6.1
    simpa using this
  exact ⟨_, h1, p, ws, rfl, h5, by rw [hl]; exact q _ F H (Fz.refl E.fh) (.int _)⟩
theorem ex_lenDT {kf : α → List Key} {xs : List (α × β)} (hi : env[i]? = some (.dt (xs.map (kvE kf e)))) : EX K (tCB rLenT (tCons (tVar i) tNil)) env (.int (xs.length : Int)) := fun F0 H0 F H σ E Q q => by
  obtain ⟨o, h1, p, ws, h2, h3, h4, h5, h6, h7⟩ := E.sl i _ hi
  subst h2
  have hl : ws.length = xs.length := by
    have := congrArg List.length h6.1
    simpa using this
  exact ⟨_, h1, p, ws, rfl, h5, by rw [hl]; exact q _ F H (Fz.refl E.fh) (.int _)⟩
end
section
variable {K : Frag} {env : List Sl} {O : Type} {ta tb tc : TE} {tu : TS} {enc : O → Out} {m : Option O}
/-- a, b, c = three expressions -/
theorem bx_par3 {i j l : Nat} {d e f : PyData} (ha : EX K ta env d) (hb : EX K tb env e) (hc : EX K tc env f) (h : BX K tu (((env.set i (.sh d)).set j (.sh e)).set l (.sh f)) enc m) : BX K (tSeq (tPar3 i j l (tCons ta (tCons tb (tCons tc tNil)))) tu) env enc m := fun o ho F0 H0 F H σ D E c =>
  ha E _ fun u F1 H1 z1 hu => hb (E.step z1) _ fun v F2 H2 z2 hv => hc ((E.step z1).step z2) _ fun w F3 H3 z3 hw =>
    ⟨u, v, w, rfl, h o ho D ((((((E.step z1).step z2).step z3).setS i (Dq.mono (z2.trans z3).f _ _ hu)).setS j (Dq.mono z3.f _ _ hv)).setS l hw) c⟩
end
theorem kT_tup : ∀ xs : List Int, eT PyData.int xs = .tuple ((kT xs).map kD) := fun xs => by
  show PyData.tuple (xs.map PyData.int) = PyData.tuple ((xs.map Sum.inl).map kD)
  rw [List.map_map]
  rfl
/-! a new list, or None -/
def rvO {α : Type} (e : α → PyData) : Option (List α) → Rv
  | none => .sh .none
  | some xs => .fr (xs.map e)
/-- what is done with None, and with a list -/
def onO {α O : Type} (y : Option α) (a : Option O) (f : α → Option O) : Option O := match y with | none => a | some x => f x
theorem onO_some {α O : Type} {x : α} {a : Option O} {f : α → Option O} : onO (some x) a f = f x := rfl
theorem onO_none {α O : Type} {a : Option O} {f : α → Option O} : onO none a f = a := rfl
def EXwO (K : Frag) (te : TE) (env : List Sl) : Option (List PyData) → Prop
  | none => EX K te env .none
  | some ds => EXw K te env ds
section
variable {K : Frag} {env : List Sl} {α O : Type} {e : α → PyData} {te : TE} {tr : TA} {tu : TS} {ds : List PyData} {enc : O → Out}
theorem exo_callF {I : List PyData → Rv → Prop} {E : XK} {y : Option (List α)} (ha : EA K tr env ds) (hI : I ds (rvO e y)) : EXwO K (tCall (Prom I) [] E tr) env (y.map (·.map e)) := by
  cases y with
  | none => exact ex_call ha hI
  | some xs => exact exw_call ha hI
theorem exo_sh {y : Option (List α)} (h : EXwO K te env (y.map (·.map e))) : EX K te env (eO (eL e) y) := by
  cases y with
  | none => exact h
  | some xs => exact EXw.sh h
theorem bx_asgO {i : Nat} {y : Option (List α)} {m0 : Option O} {m1 : List α → Option O} (he : EXwO K te env (y.map (·.map e))) (h0 : BX K tu (env.set i (.sh .none)) enc m0) (h1 : ∀ xs, BX K tu (env.set i (.ow (xs.map e))) enc (m1 xs)) :
    BX K (tSeq (tAsg te (gName i)) tu) env enc (onO y m0 m1) := by
  cases y with
  | none => exact bx_asg he (EGc.eg (egc_name (i := i) (vs := [i]) (by simp))) h0
  | some xs => exact bx_asgW he (h1 xs)
end
end Rb

set_option Elab.async false
set_option linter.all false
set_option maxRecDepth 100000
set_option maxHeartbeats 4000000
/-! # the set of a list of whole numbers, sorted -/
namespace Rb
open PySem PySem.Spec PyProof.Rows L2
section
variable {P : Program} {w : World} {A : Around} {E : Value → Shared → Prop} {s : Shared}
abbrev newSet (w : World) : Obj := { cls := .type "set", dict := none, data := .set #[] 0 (.fresh 0 0 (!w.params.followText "set-order")) }
/-- what stands behind the making -/
def SetMade (w : World) (ns : List Int) (s s2 : Shared) : Prop := ∃ h' tk c, s2 = { s with heap := h', toks := tk } ∧ SetR w h' s.heap.objs.size (fun j => decide (j ∈ ns)) c ∧ c ≤ ns.length ∧ ∀ b o, s.heap.get? b = some o → h'.get? b = some o
/-- the new set takes all items of a list -/
theorem init_list {l : Addr} {items : Array Value} (ns : List Int) (hh : A.handled = none) (hl : s.heap.IsList l items) (hit : IntsAre items.toList ns) (hb : ns.length + 1 < scanBound) :
    codeAny (model P w) A (.call (.builtin "set.__init__") ⟨[.ref s.heap.objs.size, .ref l], []⟩) (wants (fun r s2 => r = .none ∧ SetMade w ns s s2) E) { s with heap := s.heap.push (newSet w) } := by
  have hsize : items.size = ns.length := by
    have q := IntsAre.length hit
    rwa [Array.length_toList] at q
  obtain ⟨⟨c0, d0, a0, sl0⟩, ho, hc, n0, hd⟩ := hl
  simp only at hc hd
  subst hc hd
  have lt : l < s.heap.objs.size := Heap.lt_size ho
  have hset : (s.heap.push (newSet w)).get? s.heap.objs.size = some (newSet w) := Heap.get?_push_size _ rfl
  have ho1 : (s.heap.push (newSet w)).get? l = some { cls := .type "list", dict := d0, data := .seq items n0, slots := sl0 } := Heap.get?_push_of_some _ ho
  have hl1 : (s.heap.push (newSet w)).IsList l items := ⟨_, ho1, rfl, n0, rfl⟩
  have k1 := F.sub_list_set
  have k2 := F.sub_list_frozenset
  have k3 : (Value.type "list" == Value.type "dict") = false := by decide
  have hsub := sub_set_self
  have hT : Shared.TypeIs { s with heap := s.heap.push (newSet w) } (.ref s.heap.objs.size) "set" := ⟨_, hset, rfl⟩
  have size1 : (s.heap.push (newSet w)).objs.size = s.heap.objs.size + 1 := Heap.size_push ..
  have ne1 : l ≠ (s.heap.push (newSet w)).objs.size := by rw [size1]; exact Nat.ne_of_lt (Nat.lt_succ_of_lt lt)
  have no1 : s.heap.objs.size ∉ [(s.heap.push (newSet w)).objs.size, l] := by
    rw [size1]
    simp only [List.mem_cons, List.not_mem_nil, or_false, not_or]
    exact ⟨Nat.ne_of_lt (Nat.lt_succ_self _), Nat.ne_of_gt lt⟩
  have each : ∀ (i : Nat) (v : Value), items[i]? = some v → ∃ k t, ns[i]? = some k ∧ v = .int k t := fun i v hv => by
    have hi : i < ns.length := by rw [← hsize]; exact (Array.getElem?_eq_some_iff.mp hv).1
    obtain ⟨t, e⟩ := PyProof.Rows.IntsAre.int_at hit i v (by rw [Array.getElem?_toList]; exact hv)
    refine ⟨ns[i], t, List.getElem?_eq_getElem hi, ?_⟩
    rw [e, List.getD_eq_getElem?_getD, List.getElem?_eq_getElem hi] <;> rfl
  refine codeAny_mono (codeAny_call_builtin (R := wants (fun r s2 => r = .none ∧ SetMade w ns s s2) E) F.called_set.init.plain F.entry_set_init (check_set_init_1 hT ?_)) fun r s2 h => h
  unfold Builtin.«set.__init__» noKeywords Builtin.Frozenset.updateFrom
  generalize hit' : pyIter = itr
  wp_walk
  subst hit'
  refine wpAny_pyIter_list hl1 (wpAny_bind (wpAny_runValue ?_))
  refine set_update_ints ((Walks.list (by simp [hh]) _ l ne1 items).toS) s.heap.objs.size no1 ns hsize hb each (items.size - 0) 0 _ (by omega) (Nat.zero_le _)
    ⟨⟨_, Heap.get?_push_size _ rfl, rfl, rfl⟩, hl1.push _⟩ ?h0 ?hR
  case h0 => exact ⟨0, Nat.le_refl 0, setR_new_at (Heap.get?_push_of_some _ hset)⟩
  case hR =>
  intro s2 c hm hc2 hS
  obtain ⟨h2, g2, d2, t2, o2⟩ := s2
  cases hm.gens
  cases hm.drawn
  cases hm.os
  refine wpAny_pure (wpAny_pure ⟨rfl, h2, t2, c, rfl, hS, by omega, fun b o e => ?_⟩)
  have b1 : b < s.heap.objs.size := Heap.lt_size e
  refine hm.heap b o ?_ (Heap.get?_push_of_some _ (Heap.get?_push_of_some _ e))
  simp only [List.mem_cons, List.not_mem_nil, or_false, not_or]
  rw [size1]
  exact ⟨Nat.ne_of_lt b1, Nat.ne_of_lt (Nat.lt_succ_of_lt b1)⟩
/-- set(a list of whole numbers) -/
theorem call_set_ints {l : Addr} {items : Array Value} (ns : List Int) {Q : Value → Shared → Prop} (hh : A.handled = none) (hl : s.heap.IsList l items) (hit : IntsAre items.toList ns) (hb : ns.length + 1 < scanBound)
    (h : ∀ s2, SetMade w ns s s2 → Q (.ref s.heap.objs.size) s2) : wpAny (model P w) A (call (.type "set") [.ref l]) Q E s := by
  obtain ⟨c, tl, hmro⟩ := F.called_set.mro
  have hmade := F.called_set.made
  have hsub := F.called_set.sub
  have h1 := F.called_set.notType
  have h2 := F.called_set.canCreate
  have hct := F.typeCall_set_1 (.ref l)
  refine wpAny_call (codeAny_of_tree ?_)
  show wpAny _ _ (callAny (.type "set") _) _ _ _
  refine wpAny_pure ⟨Code.quiet_builtin _ (by decide +kernel), codeAny_builtin F.entry_type_call ?_⟩
  rw [Around.under_plain (weight_type_call_type "set" [.ref l] []) rfl]
  repeat (any_goals (first | assumption | wp_step))
  refine codeAny_mono (code_set_led1 (.ref l) (E := E) (Q₁ := fun o s1 => o = .ref s.heap.objs.size ∧ s1 = { s with heap := s.heap.push (newSet w) }) ⟨rfl, rfl⟩) fun r s1 hr => ?_
  cases r with
  | error e => exact hr
  | ok fl =>
    cases fl with
    | ret obj =>
      obtain ⟨rfl, rfl⟩ := hr
      have hT : Shared.TypeIs { s with heap := s.heap.push (newSet w) } (.ref s.heap.objs.size) "set" := ⟨_, Heap.get?_push_size _ rfl, rfl⟩
      have hli := F.called_set.init.lookup
      have hbi := F.called_set.init.bind (.ref s.heap.objs.size)
      repeat (any_goals (first | assumption | wp_step))
      refine codeAny_mono (init_list (E := E) ns (by simpa using hh) hl hit hb) fun r2 s2 hr2 => ?_
      cases r2 with
      | error e => exact hr2
      | ok fl2 =>
        cases fl2 with
        | ret r =>
          obtain ⟨rfl, hm⟩ := hr2
          repeat (any_goals (first | assumption | wp_step))
          exact h s2 hm
        | _ => exact hr2.elim
    | _ => exact hr.elim
end
/-! ### sorted(set(whole numbers)) -/
/-- put into a rising row, but once -/
def insU (x : Int) : List Int → List Int
  | [] => [x]
  | y :: ys => if x < y then x :: y :: ys else if x = y then y :: ys else y :: insU x ys
def sortU (xs : List Int) : List Int := xs.foldr insU []
theorem mem_insU {x k : Int} : ∀ {ys : List Int}, k ∈ insU x ys ↔ k = x ∨ k ∈ ys
  | [] => by simp [insU]
  | y :: ys => by
    unfold insU
    split
    · simp
    · split
      · rename_i h; subst h; simp
      · rw [List.mem_cons, mem_insU, List.mem_cons]; grind
theorem insU_up {x : Int} : ∀ {ys : List Int}, ys.Pairwise (· < ·) → (insU x ys).Pairwise (· < ·)
  | [], _ => by simp [insU]
  | y :: ys, h => by
    obtain ⟨h1, h2⟩ := List.pairwise_cons.mp h
    unfold insU
    split
    · rename_i c
      refine List.pairwise_cons.mpr ⟨fun z hz => ?_, h⟩
      rcases List.mem_cons.mp hz with e | e
      · rw [e]; exact c
      · have := h1 z e; omega
    · split
      · exact h
      · refine List.pairwise_cons.mpr ⟨fun z hz => ?_, insU_up h2⟩
        rcases mem_insU.mp hz with e | e
        · omega
        · exact h1 z e
theorem mem_sortU {k : Int} : ∀ {xs : List Int}, k ∈ sortU xs ↔ k ∈ xs
  | [] => by simp [sortU]
  | x :: xs => by
    show k ∈ insU x (sortU xs) ↔ _
    rw [mem_insU, mem_sortU, List.mem_cons]
theorem sortU_up : ∀ xs : List Int, (sortU xs).Pairwise (· < ·)
  | [] => List.Pairwise.nil
  | x :: xs => insU_up (sortU_up xs)
theorem up_uniq : ∀ {xs ys : List Int}, xs.Pairwise (· < ·) → ys.Pairwise (· < ·) → (∀ k, k ∈ xs ↔ k ∈ ys) → xs = ys
  | [], [], _, _, _ => rfl
  | [], y :: ys, _, _, h => absurd ((h y).mpr List.mem_cons_self) (by simp)
  | x :: xs, [], _, _, h => absurd ((h x).mp List.mem_cons_self) (by simp)
  | x :: xs, y :: ys, h1, h2, h => by
    obtain ⟨a1, a2⟩ := List.pairwise_cons.mp h1
    obtain ⟨b1, b2⟩ := List.pairwise_cons.mp h2
    have e : x = y := by
      rcases List.mem_cons.mp ((h x).mp List.mem_cons_self) with c | c
      · exact c
      · rcases List.mem_cons.mp ((h y).mpr List.mem_cons_self) with d | d
        · exact d.symm
        · have := a1 y d; have := b1 x c; omega
    subst e
    rw [up_uniq a2 b2 fun k => ⟨fun hk => ?_, fun hk => ?_⟩]
    · rcases List.mem_cons.mp ((h k).mp (List.mem_cons_of_mem _ hk)) with c | c
      · have := a1 k hk; omega
      · exact c
    · rcases List.mem_cons.mp ((h k).mpr (List.mem_cons_of_mem _ hk)) with c | c
      · have := b1 k hk; omega
      · exact c
theorem insU_len {x : Int} : ∀ {ys : List Int}, (insU x ys).length ≤ ys.length + 1
  | [] => by simp [insU]
  | y :: ys => by
    unfold insU
    split
    · simp
    · split
      · simp
      · rw [List.length_cons, List.length_cons]; have := insU_len (x := x) (ys := ys); omega
theorem sortU_len : ∀ {xs : List Int}, (sortU xs).length ≤ xs.length
  | [] => Nat.le_refl _
  | x :: xs => by
    have h := insU_len (x := x) (ys := sortU xs)
    have := sortU_len (xs := xs)
    show (insU x (sortU xs)).length ≤ _
    rw [List.length_cons]; omega
def tSortSet (K : Frag) (ta : TE) : TE := fun σ H Q => ta σ H fun x H1 => ∃ (l : Addr) (ns : List Int), x = V.ref l ∧ SqL K H1 l (ns.map V.int) ∧ ns.length < 60 ∧ ∀ p, H1 p = none → Q (.ref p) (upd H1 p (.lst ((sortU ns).map V.int)))
theorem pe_sortSet' {X : Cx} {a : Expr} {ta : TE} {p p2 q pos : Pos} (hc : X.calm = true) (hg : Gl X "sorted") (hm : X.mg "sorted" = none) (hg2 : Gl X "set") (hm2 : X.mg "set" = none) (ha : PE X a ta)
    (na : starEach [a] X.env = (false, eval a X.env) :: starEach [] X.env := by rfl) : PE X (.Call (.Name "sorted" p) [.Call (.Name "set" p2) [a] [] q] [] pos) (tSortSet X.K ta) := by
  refine ⟨fun pins s σ H Q I h => ?_⟩
  refine Call_ (ld_blt I hg hm PyProof.Rows.boot_sorted ?_)
  refine PyProof.Rows.callWith_builtin1 (PyProof.Rows.args_cons ?_ rfl) rfl rfl
  refine Call_ (ld_blt I hg2 hm2 PyProof.Rows.boot_set ?_)
  refine PyProof.Rows.callWith_type1 (PyProof.Rows.args_cons (thn (ha.run pins s σ H _ I h) fun v s1 ⟨x, H1, I1, r1, q1⟩ => PyProof.Rows.args_nil ?_) na) na rfl
  obtain ⟨l, ns, rfl, hq, h1, q1⟩ := q1
  cases r1
  obtain ⟨its, r, pl, hz⟩ := I1.list hq
  refine call_set_ints ns (I1.ok.hd hc) pl.isList (by simpa using r.ints) (by unfold scanBound; omega) fun s2 hm2 => ?_
  obtain ⟨h', tk, c, rfl, hS, hle, hk⟩ := hm2
  refine PyProof.Rows.args_nil ?_
  have I2 : Inv X pins σ H1 { s1 with heap := h', toks := tk } := I1.kept hk
  refine sorted_set hS (I2.ok.hd hc) (by omega) fun s' p out cc ks k g o hp hgp hi hs hm hl => ?_
  have e : ks = sortU ns := up_uniq hs (sortU_up ns) fun j => by rw [hm, mem_sortU, decide_eq_true_eq]
  subst e
  have hn : H1 p = none := I2.hok.fresh hp
  have hlen : ((sortU ns).map V.int).length ≤ sizeLine := by rw [List.length_map, hl, sizeLine_eq]; omega
  exact ⟨.ref p, upd H1 p (.lst ((sortU ns).map V.int)), I2.call' (ch := []) o (Un.laid k hp hn) (I2.hok.laid k hp ⟨hlen, out.toList, cc, vals_of_ints hi, hgp⟩) (by rw [g]; exact I2.bare) (fun _ z => nomatch z), rfl, q1 p hn⟩
theorem pe_sortSet {X : Cx} {K : Frag} {a : Expr} {ta : TE} {p p2 q pos : Pos} (hc : X.calm = true) (hg : Gl X "sorted") (hm : X.mg "sorted" = none) (hg2 : Gl X "set") (hm2 : X.mg "set" = none) (ha : PE X a ta)
    (na : starEach [a] X.env = (false, eval a X.env) :: starEach [] X.env := by rfl) (h : X.K = K := by rfl) : PE X (.Call (.Name "sorted" p) [.Call (.Name "set" p2) [a] [] q] [] pos) (tSortSet K ta) := by subst h; exact pe_sortSet' hc hg hm hg2 hm2 ha na
section
variable {K : Frag} {env : List Sl} {ta : TE}
theorem exw_sortSet {ns : List Int} (ha : EXl K ta env (ns.map PyData.int)) (h : ns.length < 60) : EXw K (tSortSet K ta) env ((sortU ns).map PyData.int) := fun F0 H0 F H σ E Q q =>
  ha E _ fun p vs F1 H1 z1 h1 a1 l1 => by
    have e := a1.ints
    subst e
    refine ⟨p, ns, rfl, SqL.of h1, h, fun l hl => ?_⟩
    have hF : F1 l = none := Evl.fresh_back ((E.step z1).fh) hl
    exact q l _ F1 _ (z1.trans (Fz.add (E.step z1).fh hl)) (z1.hn hl) hF upd_same (DqAll.ints' _) (by rw [List.length_map] at l1 ⊢; exact Nat.le_trans sortU_len l1)
end
end Rb

set_option Elab.async false
set_option linter.all false
set_option maxRecDepth 100000
set_option maxHeartbeats 4000000
/-! # lists of texts and of tuples, sorted, however many -/
namespace Rb
open PySem PySem.Spec PyProof.Rows L2
section
variable {prog : Program} {w : World} {A : Around} {E : Value → Shared → Prop} {s : Shared}
/-- tuples of d whole numbers in [0, B) can be sorted -/
theorem tups_sortable {d : Nat} {B : Int} {a : Addr} {vs : List Value} (hd : 1 ≤ d) (h2 : 2 ≤ vs.length) (x : TS.TupsOk s.heap d B vs) (r : Value → Int) (hr : ∀ v, v ∈ vs → ∀ ns, TS.TupInts s.heap v ns → r v = TS.code B ns)
    (ha : ∀ o, s.heap.get? a = some o → o.cls ≠ .type "tuple") : SrtO.SortableO prog w A s a vs (fun v u => decide (r v < r u)) := by
  intro h' keep
  have k : ∀ b o, s.heap.get? b = some o → o.cls = .type "tuple" → h'.get? b = some o := fun b o e c => keep b o (fun z => ha o (by rw [← z]; exact e) c) e
  have x' : TS.TupsOk h' d B vs := x.keeps k
  have hr' : ∀ v, v ∈ vs → ∀ ns, TS.TupInts h' v ns → r v = TS.code B ns := fun v hv ns t => by
    obtain ⟨ms, t0, _⟩ := x v hv
    have e : ns = ms := t.ints.symm.trans (t0.keeps k).ints
    rw [e]
    exact hr v hv ms t0
  obtain ⟨fs, kk, hl, hi⟩ := TS.firsts_of hd vs x'
  refine ⟨_, fun Q E hq => PySem.W.kat_kind (s := { s with heap := h' }) (T := Value.type "int") kk (by omega) (fun f hf => ?_) rfl hq, ?_⟩
  · obtain ⟨n, t, rfl⟩ := hi f hf
    exact PySem.W.Looks.of_pure rfl
  · intro p q hp hq
    obtain ⟨ns, tp, lp, bp⟩ := x' _ hp
    obtain ⟨ms, tq, lq, bq⟩ := x' _ hq
    have ep := hr' _ hp _ tp
    have eq := hr' _ hq _ tq
    obtain ⟨a1, xs, e1, ⟨o, ho, hc, n, hdt⟩, i⟩ := tp
    obtain ⟨a2, ys, e2, ⟨o', ho', hc', n', hdt'⟩, i'⟩ := tq
    have fin : (fun (b : Bool) (s' : Shared) => s' = { s with heap := h' } ∧ b = SrtO.lt2 (fun v u => decide (r v < r u)) p q) (decide (TS.code B ns < TS.code B ms)) { s with heap := h' } := by
      refine ⟨rfl, ?_⟩
      show _ = decide (r p.1 < r q.1)
      rw [ep, eq]
    rw [e1, e2]
    refine PySem.W.kat_lt ho hdt ho' hdt' ?_
    have sz : decide (xs.size < ys.size) = false := by
      have l1 := i.length
      have l2 := i'.length
      rw [Array.length_toList] at l1 l2
      exact decide_eq_false (by omega)
    rw [sz]
    exact TS.lex_ints 0 i i' (by omega) bp bq fin
theorem swo_code (r : Value → Int) : SrtO.Swo (fun v u => decide (r v < r u)) := by
  refine ⟨fun x y h => ?_, fun x y z h1 h2 => ?_⟩
  · have := of_decide_eq_true h
    exact decide_eq_false (by omega)
  · have := of_decide_eq_false h1
    have := of_decide_eq_false h2
    exact decide_eq_false (by omega)
end
/-- sorted(xs), xs any number of tuples of d whole numbers in [0, B) -/
def rSortTO (K : Frag) (B : Int) : List V → Hp → VK → Prop := fun vs H Q => ∃ (a : Addr) (xs : List V) (d : Nat), vs = [V.ref a] ∧ 1 ≤ d ∧ SqL K H a xs ∧ (∀ x ∈ xs, ∃ ns, TupI K H x ns ∧ ns.length = d ∧ TS.Bd B ns) ∧
  ∀ (ys : List V) (p : Addr), ys.Perm xs → ys.Pairwise (fun x y => ∀ n m, TupI K H x n → TupI K H y m → TS.code B n ≤ TS.code B m) → H p = none → Q (.ref p) (upd H p (.lst ys))
theorem cr_sortTO' {X : Cx} {B : Int} : CallR X (.builtin "sorted") (rSortTO X.K B) := by
  intro pins s σ H vs us Q I r h
  obtain ⟨a, xs, d, rfl, hd, hs, hx, q⟩ := h
  obtain ⟨its, rv, hl, hz⟩ := I.list hs
  rw [Vals.ref1 r]
  obtain ⟨e1, e2⟩ := bkV_refs rv fun x m => by
    obtain ⟨ns, ⟨t, e, _⟩, _⟩ := hx x m
    exact ⟨t, e⟩
  have ok : TS.TupsOk s.heap d B its := fun v hv => by
    obtain ⟨t, rfl⟩ := e2 v hv
    have hm : V.ref t ∈ xs := by
      rw [e1]
      exact List.mem_map.mpr ⟨_, hv, rfl⟩
    obtain ⟨ns, ⟨t', e, ht⟩, hn, hb⟩ := hx _ hm
    cases e
    exact ⟨ns, tupI_raw I ht, hn, hb⟩
  have hz2 : its.length ≤ sizeLine := by rw [← rv.length]; exact hz
  refine SrtO.sorted_ord (swo_code fun v => TS.code B (TS.intsOf s.heap v)) hl.isList hz2 (fun h2 h1 a' hoL kk => ?_) fun out h1 h2 => ?_
  · have k : ∀ b o, s.heap.get? b = some o → o.cls = .type "tuple" → h1.get? b = some o := fun b o e _ => (kk b o e).2
    refine tups_sortable (s := { s with heap := h1 }) hd h2 (ok.keeps k) _ (fun v hv ns t => ?_) fun o e c => ?_
    · obtain ⟨ns0, t0, _⟩ := ok v hv
      have e : ns = ns0 := t.ints.symm.trans (t0.keeps k).ints
      rw [e]
      show TS.code B (TS.intsOf s.heap v) = _
      rw [t0.ints]
    · have e' : seqObj "list" its.toArray 0 = o := Option.some.inj (hoL.symm.trans e)
      rw [← e'] at c
      have c' : Value.type "list" = Value.type "tuple" := c
      injection c' with c''
      exact absurd c'' (by decide)
  · obtain ⟨ep, he'⟩ := PyProof.Rows.sortedAll_at s.heap its out.toArray
    have h3 : ∀ u ∈ out, ∃ a, u = Value.ref a := fun u hu => e2 u (h2.perm.mem_iff.mp hu)
    have hp : (out.map bkV).Perm xs := by
      rw [e1]
      exact h2.perm.map bkV
    have hlen : (out.map bkV).length ≤ sizeLine := by
      rw [hp.length_eq]
      exact hz
    refine ⟨.ref _, upd H (s.heap.objs.size + 1) (.lst (out.map bkV)), I.laid (t' := s.toks) (fun _ _ => PyProof.Rows.sortedAll_old) (Nat.le_succ _) ⟨hlen, out, ep, bkV_vals h3, he'⟩, rfl, q _ _ hp ?_ (I.hok.fresh (Nat.le_succ _))⟩
    rw [List.pairwise_map]
    refine List.Pairwise.imp (fun {u v} huv n m hn hm => ?_) h1
    obtain ⟨t, et, ht⟩ := hn
    obtain ⟨t', et', ht'⟩ := hm
    have eu := bkV_ref et
    have ev := bkV_ref et'
    have i1 : TS.intsOf s.heap u = n := by
      rw [eu]
      exact (tupI_raw I ht).ints
    have i2 : TS.intsOf s.heap v = m := by
      rw [ev]
      exact (tupI_raw I ht').ints
    have huv := of_decide_eq_false huv
    rw [i1, i2] at huv
    omega
theorem cr_sortTO {X : Cx} {K : Frag} (h : X.K = K := by rfl) : CallR X (.builtin "sorted") (rSortTO K 64) := by subst h; exact cr_sortTO'
/-- sorted(xs), xs any number of texts -/
def rSortTx (K : Frag) : List V → Hp → VK → Prop := fun vs H Q => ∃ (a : Addr) (xs : List Str), vs = [V.ref a] ∧ SqL K H a (xs.map V.str) ∧
  ∀ (ys : List Str) (p : Addr), ys.Perm xs → sortedS ys = true → H p = none → Q (.ref p) (upd H p (.lst (ys.map V.str)))
theorem cr_sortTx {X : Cx} {K : Frag} (h : X.K = K := by rfl) : CallR X (.builtin "sorted") (rSortTx K) := by
  subst h
  intro pins s σ H vs us Q I r h
  obtain ⟨a, xs, rfl, hs, q⟩ := h
  obtain ⟨its, rv, hl, hz⟩ := I.list hs
  rw [Vals.ref1 r]
  have hz2 : its.length ≤ sizeLine := by rw [← rv.length]; exact hz
  refine PyProof.Rows.sorted_strsAny hl.isList rv.strs hz2 fun out ys h1 h2 h3 => ?_
  obtain ⟨ep, he'⟩ := PyProof.Rows.sortedAll_at s.heap its out
  have hlen : (ys.map V.str).length ≤ sizeLine := by
    rw [List.length_map, h2.length_eq]
    rw [List.length_map] at hz
    exact hz
  exact ⟨.ref _, upd H (s.heap.objs.size + 1) (.lst (ys.map V.str)), I.laid (t' := s.toks) (fun _ _ => PyProof.Rows.sortedAll_old) (Nat.le_succ _) ⟨hlen, out.toList, ep, vals_of_strs h1, he'⟩, rfl, q ys _ h2 h3 (I.hok.fresh (Nat.le_succ _))⟩
/-! ### a row put in order -/
section
variable {α : Type} {le : α → α → Bool}
def insG (le : α → α → Bool) (x : α) : List α → List α
  | [] => [x]
  | y :: ys => if le x y = true then x :: y :: ys else y :: insG le x ys
def sortG (le : α → α → Bool) : List α → List α
  | [] => []
  | x :: xs => insG le x (sortG le xs)
theorem insG_perm {x : α} : ∀ {ys : List α}, (insG le x ys).Perm (x :: ys)
  | [] => List.Perm.refl _
  | y :: ys => by
    unfold insG
    split
    · exact List.Perm.refl _
    · exact ((insG_perm (ys := ys)).cons y).trans (List.Perm.swap x y ys)
theorem sortG_perm : ∀ {xs : List α}, (sortG le xs).Perm xs
  | [] => List.Perm.refl _
  | x :: xs => (insG_perm).trans ((sortG_perm (xs := xs)).cons x)
theorem insG_up (tot : ∀ x y, le x y = true ∨ le y x = true) (tr : ∀ x y z, le x y = true → le y z = true → le x z = true) {x : α} : ∀ {ys : List α}, ys.Pairwise (fun a b => le a b = true) → (insG le x ys).Pairwise (fun a b => le a b = true)
  | [], _ => List.pairwise_singleton _ _
  | y :: ys, h => by
    obtain ⟨h1, h2⟩ := List.pairwise_cons.mp h
    unfold insG
    split
    · rename_i c
      refine List.pairwise_cons.mpr ⟨fun z hz => ?_, h⟩
      rcases List.mem_cons.mp hz with e | e
      · rw [e]; exact c
      · exact tr x y z c (h1 z e)
    · rename_i c
      refine List.pairwise_cons.mpr ⟨fun z hz => ?_, insG_up tot tr h2⟩
      rcases List.mem_cons.mp (insG_perm.mem_iff.mp hz) with e | e
      · rw [e]; exact (tot x y).resolve_left c
      · exact h1 z e
theorem sortG_up (tot : ∀ x y, le x y = true ∨ le y x = true) (tr : ∀ x y z, le x y = true → le y z = true → le x z = true) : ∀ xs : List α, (sortG le xs).Pairwise (fun a b => le a b = true)
  | [] => List.Pairwise.nil
  | x :: xs => insG_up tot tr (sortG_up tot tr xs)
/-- two rows in order with the same in them are one -/
theorem up_one : ∀ {xs ys : List α}, (∀ x y, x ∈ xs → y ∈ xs → le x y = true → le y x = true → x = y) → xs.Pairwise (fun a b => le a b = true) → ys.Pairwise (fun a b => le a b = true) → xs.Perm ys → xs = ys
  | [], ys, _, _, _, p => (List.Perm.eq_nil p.symm).symm
  | x :: xs, [], _, _, _, p => absurd p.length_eq (by simp)
  | x :: xs, y :: ys, an, h1, h2, p => by
    obtain ⟨a1, a2⟩ := List.pairwise_cons.mp h1
    obtain ⟨b1, b2⟩ := List.pairwise_cons.mp h2
    have e : x = y := by
      rcases List.mem_cons.mp (p.mem_iff.mpr (List.mem_cons_self (a := y) (l := ys))) with c | c
      · exact c.symm
      · rcases List.mem_cons.mp (p.mem_iff.mp (List.mem_cons_self (a := x) (l := xs))) with d | d
        · exact d
        · exact an x y List.mem_cons_self (List.mem_cons_of_mem _ c) (a1 y c) (b1 x d)
    subst e
    rw [up_one (fun u v hu hv => an u v (List.mem_cons_of_mem _ hu) (List.mem_cons_of_mem _ hv)) a2 b2 p.cons_inv]
end
/-! ### texts -/
def leS (x y : Str) : Bool := !ltCps y.cps.toList x.cps.toList
theorem leS_iff {x y : Str} : leS x y = true ↔ x.cps.toList ≤ y.cps.toList := by
  unfold leS
  rw [ltCps_eq, Bool.not_eq_true', decide_eq_false_iff_not]
  exact Iff.rfl
theorem leS_tot (x y : Str) : leS x y = true ∨ leS y x = true := by
  rw [leS_iff, leS_iff]; exact List.le_total _ _
theorem leS_tr (x y z : Str) (h1 : leS x y = true) (h2 : leS y z = true) : leS x z = true := by
  rw [leS_iff] at *; exact List.le_trans h1 h2
theorem leS_an {x y : Str} (h1 : leS x y = true) (h2 : leS y x = true) : x = y := by
  rw [leS_iff] at *
  have e := List.le_antisymm h1 h2
  cases x; cases y
  have := Array.toList_inj.mp e
  simp only at this
  subst this
  rfl
def sortX (xs : List Str) : List Str := sortG leS xs
theorem rising_up : ∀ {p : Str} {xs : List Str}, risingS p xs = true → (p :: xs).Pairwise (fun a b => leS a b = true)
  | p, [], _ => List.pairwise_singleton _ _
  | p, x :: xs, h => by
    unfold risingS at h
    rw [Bool.and_eq_true] at h
    have i := rising_up h.2
    refine List.pairwise_cons.mpr ⟨fun y hy => ?_, i⟩
    have hx : leS p x = true := h.1
    rcases List.mem_cons.mp hy with e | e
    · rw [e]; exact hx
    · exact leS_tr _ _ _ hx ((List.pairwise_cons.mp i).1 y e)
theorem sortedS_up : ∀ {xs : List Str}, sortedS xs = true → xs.Pairwise (fun a b => leS a b = true)
  | [], _ => List.Pairwise.nil
  | x :: xs, h => rising_up h
theorem sortX_one {xs ys : List Str} (p : ys.Perm xs) (h : sortedS ys = true) : ys = sortX xs :=
  up_one (fun _ _ _ _ => leS_an) (sortedS_up h) (sortG_up leS_tot leS_tr xs) (p.trans sortG_perm.symm)
section
variable {K : Frag} {env : List Sl} {ta : TE}
theorem exw_sortX {ns : List Str} (ha : EXl K ta env (ns.map PyData.str)) : EXw K (tCB (rSortTx K) (tCons ta tNil)) env ((sortX ns).map PyData.str) := fun F0 H0 F H σ E Q q =>
  ha E _ fun p vs F1 H1 z1 h1 a1 l1 => by
    have e := a1.strs
    subst e
    refine ⟨p, ns, rfl, SqL.of h1, fun ns' l hp hs hl => ?_⟩
    have e := sortX_one hp hs
    subst e
    have hF : F1 l = none := Evl.fresh_back ((E.step z1).fh) hl
    have hb : DqAll F1 ((sortX ns).map V.str) ((sortX ns).map PyData.str) := by
      have all : ∀ x, x ∈ ns → x.length ≤ lim := fun x hx => by
        obtain ⟨i, hi⟩ := List.mem_iff_getElem?.mp hx
        obtain ⟨v, _, hv⟩ := DqAll.get a1 (show (ns.map PyData.str)[i]? = some (PyData.str x) by rw [List.getElem?_map, hi]; rfl)
        cases hv with | str _ z => exact z
      have go : ∀ ms : List Str, (∀ x, x ∈ ms → x.length ≤ lim) → DqAll F1 (ms.map V.str) (ms.map PyData.str) := fun ms => by
        induction ms with
        | nil => exact fun _ => .nil
        | cons m ms ih => exact fun h => .cons (.str m (h m List.mem_cons_self)) (ih fun x hx => h x (List.mem_cons_of_mem _ hx))
      exact go _ fun x hx => all x (sortG_perm.mem_iff.mp hx)
    exact q l _ F1 _ (z1.trans (Fz.add (E.step z1).fh hl)) (z1.hn hl) hF upd_same hb (by rw [List.length_map] at l1 ⊢; rw [hp.length_eq]; exact l1)
end
/-! ### tuples of whole numbers -/
def leC (x y : List Int) : Bool := decide (TS.code 64 x ≤ TS.code 64 y)
def sortC (xs : List (List Int)) : List (List Int) := sortG leC xs
/-- all of one length, of whole numbers from 0 to 63 -/
def alike (xs : List (List Int)) : Bool := xs.all fun x => decide (1 ≤ x.length) && decide (x.length = (xs.headD []).length) && x.all fun i => decide (0 ≤ i) && decide (i < 64)
theorem alike_ok {xs : List (List Int)} (h : alike xs = true) : ∀ x, x ∈ xs → 1 ≤ x.length ∧ x.length = (xs.headD []).length ∧ TS.Bd 64 x := fun x hx => by
  have := List.all_eq_true.mp h x hx
  simp only [Bool.and_eq_true, decide_eq_true_eq] at this
  refine ⟨this.1.1, this.1.2, fun i hi => ?_⟩
  have := List.all_eq_true.mp this.2 i hi
  simpa using this
theorem alike_of {xs : List (List Int)} {d : Nat} (hd : 1 ≤ d) (h : ∀ x, x ∈ xs → x.length = d ∧ ∀ i, i ∈ x → 0 ≤ i ∧ i < 64) : alike xs = true := by
  refine List.all_eq_true.mpr fun x hx => ?_
  have hh : (xs.headD []).length = d := by
    cases xs with
    | nil => cases hx
    | cons y ys => exact (h y List.mem_cons_self).1
  simp only [Bool.and_eq_true, decide_eq_true_eq, List.all_eq_true]
  exact ⟨⟨by rw [(h x hx).1]; exact hd, by rw [(h x hx).1, hh]⟩, fun i hi => (h x hx).2 i hi⟩
theorem code_inj {B : Int} : ∀ {x y : List Int}, x.length = y.length → TS.Bd B x → TS.Bd B y → TS.code B x = TS.code B y → x = y
  | [], [], _, _, _, _ => rfl
  | [], _ :: _, l, _, _, _ => by simp at l
  | _ :: _, [], l, _, _, _ => by simp at l
  | a :: x, b :: y, l, h1, h2, e => by
    have l' : x.length = y.length := by simpa using l
    rcases Int.lt_trichotomy a b with c | c | c
    · have := TS.code_lt l' h1.tail h2.tail c; omega
    · subst c
      have e2 : TS.code B x = TS.code B y := by
        have : a * B ^ x.length + TS.code B x = a * B ^ y.length + TS.code B y := e
        rw [l'] at this
        omega
      rw [code_inj l' h1.tail h2.tail e2]
    · have := TS.code_lt l'.symm h2.tail h1.tail c; omega
theorem leC_tot (x y : List Int) : leC x y = true ∨ leC y x = true := by
  unfold leC; rw [decide_eq_true_eq, decide_eq_true_eq]; omega
theorem leC_tr (x y z : List Int) (h1 : leC x y = true) (h2 : leC y z = true) : leC x z = true := by
  unfold leC at *; rw [decide_eq_true_eq] at *; omega
theorem sortC_up (xs : List (List Int)) : (sortC xs).Pairwise (fun a b => leC a b = true) := sortG_up leC_tot leC_tr xs
theorem sortC_one {xs ys : List (List Int)} (ok : alike xs = true) (p : ys.Perm xs) (h : ys.Pairwise (fun a b => TS.code 64 a ≤ TS.code 64 b)) : ys = sortC xs :=
  up_one (fun x y hx hy h1 h2 => by
    have a := alike_ok ok x (p.mem_iff.mp hx)
    have b := alike_ok ok y (p.mem_iff.mp hy)
    have h1 := of_decide_eq_true h1
    have h2 := of_decide_eq_true h2
    exact code_inj (by rw [a.2.1, b.2.1]) a.2.2 b.2.2 (by omega)) (h.imp fun {a b} z => decide_eq_true z) (sortC_up xs) (p.trans sortG_perm.symm)
theorem DqAll.perm {F : Hp} {α : Type} {e : α → PyData} : ∀ {vs ys : List V}, ys.Perm vs → ∀ {xs : List α}, DqAll F vs (xs.map e) → ∃ zs : List α, zs.Perm xs ∧ DqAll F ys (zs.map e) := fun {vs ys} p => by
  induction p with
  | nil => exact fun {xs} h => ⟨xs, List.Perm.refl _, h⟩
  | cons v p ih =>
    intro xs h
    cases xs with
    | nil => cases h
    | cons x xs =>
      cases h with
      | cons h1 h2 =>
        obtain ⟨zs, q, d⟩ := ih h2
        exact ⟨x :: zs, q.cons x, .cons h1 d⟩
  | swap v u p =>
    intro xs h
    match xs, h with
    | x :: y :: xs, .cons h1 (.cons h2 h3) => exact ⟨y :: x :: xs, List.Perm.swap x y xs, .cons h2 (.cons h1 h3)⟩
  | trans p1 p2 ih1 ih2 =>
    intro xs h
    obtain ⟨zs, q, d⟩ := ih2 h
    obtain ⟨ws, q2, d2⟩ := ih1 d
    exact ⟨ws, q2.trans q, d2⟩
theorem Dq.tupI {K : Frag} {F H : Hp} {v : V} {x : List Int} (hF : ∀ a o, F a = some o → H a = some o) (h : Dq F v (eT PyData.int x)) : TupI K H v x := by
  cases h with
  | tup h1 h2 h3 =>
    have := h2.ints
    subst this
    exact ⟨_, rfl, SqT.of (hF _ _ h1)⟩
section
variable {K : Frag} {env : List Sl} {ta : TE}
theorem exw_sortC {xs : List (List Int)} (ha : EXl K ta env (xs.map (eT PyData.int))) (ok : alike xs = true) : EXw K (tCB (rSortTO K 64) (tCons ta tNil)) env ((sortC xs).map (eT PyData.int)) := fun F0 H0 F H σ E Q q =>
  ha E _ fun p vs F1 H1 z1 h1 a1 l1 => by
    have fh := (E.step z1).fh
    have mem : ∀ x, x ∈ vs → ∃ ns, ns ∈ xs ∧ Dq F1 x (eT PyData.int ns) := fun x hx => by
      obtain ⟨i, hi⟩ := List.mem_iff_getElem?.mp hx
      obtain ⟨d, hd1, hd2⟩ := DqAll.getV a1 hi
      rw [List.getElem?_map] at hd1
      obtain ⟨ns, hn, rfl⟩ := Option.map_eq_some_iff.mp hd1
      exact ⟨ns, List.mem_of_getElem? hn, hd2⟩
    refine ⟨p, vs, (xs.headD [0]).length, rfl, ?_, SqL.of h1, fun x hx => ?_, fun ys l hp hs hl => ?_⟩
    · cases xs with
      | nil => exact Nat.le_refl _
      | cons y ys => exact (alike_ok ok y List.mem_cons_self).1
    · obtain ⟨ns, hn, hq⟩ := mem x hx
      have := alike_ok ok ns hn
      refine ⟨ns, hq.tupI fh, ?_, this.2.2⟩
      rw [this.2.1]
      cases xs with
      | nil => cases hn
      | cons y ys => rfl
    · obtain ⟨zs, pz, dz⟩ := DqAll.perm hp a1
      have up : zs.Pairwise (fun a b => TS.code 64 a ≤ TS.code 64 b) := by
        have go : ∀ {ys : List V} {zs : List (List Int)}, DqAll F1 ys (zs.map (eT PyData.int)) → ys.Pairwise (fun x y => ∀ n m, TupI K H1 x n → TupI K H1 y m → TS.code 64 n ≤ TS.code 64 m) → zs.Pairwise (fun a b => TS.code 64 a ≤ TS.code 64 b) := fun {ys} => by
          induction ys with
          | nil =>
            intro zs h _
            cases zs with
            | nil => exact List.Pairwise.nil
            | cons z zs => cases h
          | cons y ys ih =>
            intro zs h hp
            cases zs with
            | nil => exact List.Pairwise.nil
            | cons z zs =>
              cases h with
              | cons g1 g2 =>
                obtain ⟨p1, p2⟩ := List.pairwise_cons.mp hp
                refine List.pairwise_cons.mpr ⟨fun w hw => ?_, ih g2 p2⟩
                obtain ⟨i, hi⟩ := List.mem_iff_getElem?.mp hw
                obtain ⟨u, hu, hq⟩ := DqAll.get g2 (show (zs.map (eT PyData.int))[i]? = some (eT PyData.int w) by rw [List.getElem?_map, hi]; rfl)
                exact p1 u (List.mem_of_getElem? hu) z w (g1.tupI fh) (hq.tupI fh)
        exact go dz hs
      have e := sortC_one ok pz up
      subst e
      have hF : F1 l = none := Evl.fresh_back fh hl
      exact q l _ F1 _ (z1.trans (Fz.add fh hl)) (z1.hn hl) hF upd_same dz (by rw [List.length_map] at l1 ⊢; rw [pz.length_eq]; exact l1)
end
/-! ### xs.reverse(), xs.pop() alone; x.count(y) of texts -/
section
variable {K : Frag} {env : List Sl} {α O : Type} {ds : List PyData} {tu : TS} {enc : O → Out} {m : Option O} {to te : TE}
theorem bx_rev {e : α → PyData} {xs : List α} {i : Nat} (hi : env[i]? = some (.ow (xs.map e))) (h : BX K tu (env.set i (.ow (xs.reverse.map e))) enc m) : BX K (tSeq (tDrop (tBM0 K "list" rReverse (tVar i))) tu) env enc m := fun o ho F0 H0 F H σ D E c => by
  obtain ⟨q, h1, p, vs, h2, h3, h4, h5, h6, h7⟩ := E.sl i _ hi
  subst h2
  exact ⟨_, h1, .inl ⟨rfl, vs, SqL.of h5⟩, p, vs, rfl, rfl, h5, h o ho D (E.mut hi rfl h1 ⟨p, _, rfl, h3, h4, upd_same, by rw [List.map_reverse]; exact h6.rev, by rw [List.length_map, List.length_reverse]; rw [List.length_map] at h7; exact h7⟩ rfl) c⟩
theorem bx_popD {e : α → PyData} {i : Nat} {xs ys : List α} {x : α} (hi : env[i]? = some (.ow (xs.map e))) (hy : pop? xs = some (x, ys)) (h : BX K tu (env.set i (.ow (ys.map e))) enc m) :
    BX K (tSeq (tDrop (tBM0 K "list" rPop (tVar i))) tu) env enc m := fun o ho F0 H0 F H σ D E c => s_pop hi hy E fun v H' E' hv => h o ho D E' c
theorem ex_scount {x y : Str} (ho : EX K to env (.str x)) (he : EX K te env (.str y)) : EX K (tM1 (fun x xs H Q => ∃ a b, x = .str a ∧ xs = [.str b] ∧ Q (.int (Txt.count a b)) H) to te) env (.int (Txt.count x y)) := fun F0 H0 F H σ E Q q =>
  ho E _ fun v F1 H1 z1 hv => by
    cases hv
    refine ⟨⟨x, rfl⟩, he (E.step z1) _ fun w F2 H2 z2 hw => ?_⟩
    cases hw
    exact ⟨x, y, rfl, rfl, q _ F2 H2 (z1.trans z2) (.int _)⟩
end
end Rb

set_option Elab.async false
set_option linter.all false
set_option maxRecDepth 100000
set_option maxHeartbeats 2000000
namespace Rb
open PySem PySem.Spec PyProof.Rows L2
/-! ### index of a tuple in a list of tuples -/
theorem Room.un65 {k : Nat} {A : Around} (r : Room k A) : A.units + 65 < cLine := by have := r.un; omega
theorem mt_indexDK {X : Cx} {K : Frag} (hu : X.A.units + 65 < cLine) (h : X.K = K := by rfl) : MtR X "list.index" (rIndexD K) := by subst h; exact mt_indexD hu
def idxA {α : Type} [DecidableEq α] : List α → α → Option Int
  | [], _ => none
  | y :: ys, x => if y = x then some 0 else (idxA ys x).map (· + 1)
theorem idxA_some {α : Type} [DecidableEq α] : ∀ {xs : List α} {x : α} {j : Int}, idxA xs x = some j → ∃ k : Nat, j = k ∧ xs[k]? = some x ∧ ∀ m z, m < k → xs[m]? = some z → z ≠ x
  | [], _, _, h => by cases h
  | y :: ys, x, j, h => by
    unfold idxA at h
    by_cases c : y = x
    · rw [if_pos c] at h; cases h
      exact ⟨0, rfl, by simp [c], fun m z hm => absurd hm (Nat.not_lt_zero _)⟩
    · rw [if_neg c] at h
      obtain ⟨j', h1, h2⟩ := Option.map_eq_some_iff.mp h
      obtain ⟨k, rfl, h3, h4⟩ := idxA_some h1
      refine ⟨k + 1, by omega, by simpa using h3, fun m z hm hz => ?_⟩
      cases m with
      | zero => simp at hz; rw [← hz]; exact c
      | succ m => exact h4 m z (by omega) (by simpa using hz)
section
variable {K : Frag} {env env' env1 : List Sl} {ta tb te tx ty td : TE} {α β S R O : Type} {ts tu : TS} {tt : TT} {enc : O → Out} {m n : Option O} {i : Nat} {d : PyData} {ds es : List PyData} {wi : TI} {g : TG}
theorem ex_indexT [DecidableEq α] {e : α → PyData} {k : Nat} {xs : List α} {x : α} {j : Int} (en : EnOk e k) (ha : EXl K ta env (xs.map e)) (hb : EXq K tb env (e x)) (h : idxA xs x = some j) (hk : k + 1 ≤ 64 := by decide) : EX K (tBM K "list" (rIndexD K) ta (tCons tb tNil)) env (.int j) := fun F0 H0 F H σ E Q q =>
  ha E _ fun p vs F1 H1 z1 h1 a1 l1 => ⟨.inl ⟨rfl, vs, SqL.of h1⟩, hb (E.step z1) _ fun w F2 H2 z2 hw => by
    obtain ⟨j', rfl, h3, h4⟩ := idxA_some h
    have hl : Dq H2 (.ref p) (.list (xs.map e)) := .lst (z2.hh (E.step z1).fh _ _ h1) (DqAll.mono (z2.f.trans z2.fh) _ _ a1) l1
    refine ⟨p, w, e x, xs.map e, j', e x, rfl, rfl, Dq.dp _ _ (lay_of (en.list.shaped hk xs)) hl, Dq.dp _ _ (lay_of (en.shaped (by omega) x)) hw, en.list.shaped hk xs, en.shaped (by omega) x, by rw [List.getElem?_map, h3]; rfl, by rw [en.eq]; simp, fun m z hm hz => ?_, q _ F2 H2 (z1.trans z2) (.int _)⟩
    rw [List.getElem?_map] at hz
    obtain ⟨y, hy, rfl⟩ := Option.map_eq_some_iff.mp hz
    rw [en.eq]
    exact decide_eq_false (h4 m y hm hy)⟩
/-! ### loops with continue -/
def forC (f : S → α → Option (Lp S R)) : S → List α → Option (S ⊕ R)
  | s, [] => some (.inl s)
  | s, x :: xs => (f s x).bind fun o => match o with
    | .nx s' => forC f s' xs
    | .bk s' => forC f s' xs
    | .rt r => some (.inr r)
def encC (envS : S → List Sl) (encR : R → Out) : Lp S R → Out
  | .nx s => .nx (envS s)
  | .bk s => .ct (envS s)
  | .rt r => encR r
theorem bx_forC {envS : S → List Sl} {encR : R → Out} {e : α → PyData} {envB : S → α → List Sl} {f : S → α → Option (Lp S R)} {s0 : S} {xs : List α} (hi : EIs K wi env (xs.map e)) (hw : Wk env (envS s0)) (hr : ∀ r, (encR r).fin)
    (hg : ∀ s x, x ∈ xs → EG K g (envS s) (e x) (envB s x)) (hb : ∀ s x, x ∈ xs → BX K ts (envB s x) (encC envS encR) (f s x)) : BX K (tFor wi g ts) env (encE envS encR) (forC f s0 xs) := fun o ho F0 H0 F H σ D E c =>
  hi E _ fun J F1 H1 z1 hl it => by
    have z01 := E.z.trans z1
    refine ⟨fun i m σ' H' => ∃ s F', EnvOk K F1 H0 F' H' σ' (envS s) ∧ m = xs.length - i ∧ i ≤ xs.length ∧ forC f s (xs.drop i) = some o, ⟨xs.length, s0, F1, (E.step z1).base.weak hw, rfl, Nat.zero_le _, ho⟩, ?_⟩
    rintro i m σ' H' ⟨s, F', E', rfl, hi', hf⟩
    by_cases hlt : i < xs.length
    · refine .inr ?_
      have hd : (xs.map e)[i]? = some (e xs[i]) := by rw [List.getElem?_map, List.getElem?_eq_getElem hlt]; rfl
      obtain ⟨g1, g2⟩ := it.go F' H' i _ E'.z.f E'.fh hd
      rw [List.drop_eq_getElem_cons hlt] at hf
      obtain ⟨o1, f1, f2⟩ := Option.bind_eq_some_iff.mp hf
      refine ⟨g1, fun σ2 H2 => ∃ s2 F2, EnvOk K F1 H0 F2 H2 σ2 (envS s2) ∧ (o1 = .nx s2 ∨ o1 = .bk s2), ?_, fun x H2 y => ?_⟩
      · rintro σ2 H2 ⟨s2, F2, E2, rfl | rfl⟩
        · exact ⟨xs.length - (i + 1), by omega, s2, F2, E2, rfl, hlt, f2⟩
        · exact ⟨xs.length - (i + 1), by omega, s2, F2, E2, rfl, hlt, f2⟩
      · obtain ⟨F2, z2, hx⟩ := g2 x H2 y
        refine hg s xs[i] (List.getElem_mem hlt) (E'.step z2) hx _ fun σ3 F3 H3 E3 => ?_
        refine hb s xs[i] (List.getElem_mem hlt) o1 f1 _ E3 ?_
        cases o1 with
        | nx s2 => exact fun F4 H4 σ4 E4 => ⟨s2, F4, E4, .inl rfl⟩
        | bk s2 => exact fun F4 H4 σ4 E4 => ⟨s2, F4, E4, .inr rfl⟩
        | rt r =>
          cases f2
          show Cont K F1 H0 _ (encR r)
          have c' : Cont K F0 H0 D (encR r) := c
          exact Cont.fin (D := D) (by rfl) (hr r) (Cont.base z01 c')
    · have hi2 : i = xs.length := by omega
      subst hi2
      rw [List.drop_length] at hf
      cases hf
      refine .inl ⟨?_, c F' H' σ' (E'.back z01)⟩
      have := it.stop F' H' E'.z.f E'.fh
      rw [List.length_map] at this
      exact this
theorem bx_ct {o : O} (hw : Wk env env') (hn : enc o = .ct env') : BX K (tSeq tCont tu) env enc (some o) := fun o' ho F0 H0 F H σ D E c => by
  cases ho
  rw [hn] at c
  exact c F H σ (E.weak hw)
/-! ### d.get(k, x) -/
theorem ex_dget2T [DecidableEq α] {kf : α → List Key} {e : β → PyData} (inj : ∀ a b, kf a = kf b → a = b) {xs : List (α × β)} {k : α} {y : β} (hi : env[i]? = some (.dt (xs.map (kvE kf e)))) (hk : EX K ty env (.tuple ((kf k).map kD))) (hy : EX K tx env (e y)) : EX K (tDGet2 (tVar i) ty tx) env (e ((lookA xs k).getD y)) := fun F0 H0 F H σ E Q q => by
  obtain ⟨o, h1, p, ws, h2, h3, h4, h5, h6, h7⟩ := E.sl i _ hi
  subst h2
  refine ⟨_, h1, p, rfl, .inr ⟨_, Rd.of h5⟩, hk E _ fun w F1 H1 z1 hw => hy (E.step z1) _ fun u F2 H2 z2 hu => ?_⟩
  obtain ⟨f1, hh1⟩ := (z1.trans z2).own p _ h5 h4
  have h6' := h6.mono (z1.trans z2).f
  cases hw with
  | tup t1 t2 t3 =>
    rw [kD_all t2] at t1
    refine ⟨_, DGet.t hh1 (z2.fh _ _ (z2.f _ _ t1)), ?_⟩
    cases q2 : lookA xs k with
    | none =>
      rw [h6'.none (k := kf k) (by rw [lookA_map inj, q2]; rfl)]
      rw [q2] at q
      exact q u F2 H2 (z1.trans z2) hu
    | some v =>
      obtain ⟨v', hv1, hv2⟩ := h6'.look (k := kf k) (d := e v) (by rw [lookA_map inj, q2]; rfl)
      rw [hv1]
      rw [q2] at q
      exact q v' F2 H2 (z1.trans z2) hv2
/-! ### tuples one behind the other; a list so many times -/
theorem ex_catT {e : α → PyData} {xs ys : List α} (ha : EX K ta env (.tuple (xs.map e))) (hb : EX K tb env (.tuple (ys.map e))) (hl : (xs ++ ys).length ≤ lim) : EX K (tOp (rCatA K) ta tb) env (.tuple ((xs ++ ys).map e)) := fun F0 H0 F H σ E Q q =>
  ha E _ fun v F1 H1 z1 h2 => hb (E.step z1) _ fun w F2 H2 z2 h3 => by
    have h2' := h2.mono' z2.f
    have E2 := (E.step z1).step z2
    cases h2' with
    | @tup p vs _ a1 a2 a3 =>
      have b0 := h3
      cases h3 with
      | @tup r ws _ b1 b2 b3 =>
        have lv := a2.len
        have lw := b2.len
        rw [List.length_map] at lv lw
        rw [List.length_append] at hl
        refine ⟨p, r, vs, ws, rfl, rfl, SqT.of (E2.fh _ _ a1), SqT.of (E2.fh _ _ b1), by rw [lv, lw]; exact lim_le hl, fun z => ?_, fun _ z => ?_, fun _ _ a ha => ?_⟩
        · have : xs = [] := List.eq_nil_of_length_eq_zero (by rw [← lv, z]; rfl)
          subst this
          exact q _ F2 H2 (z1.trans z2) b0
        · have : ys = [] := List.eq_nil_of_length_eq_zero (by rw [← lw, z]; rfl)
          subst this
          rw [List.append_nil] at q
          exact q _ F2 H2 (z1.trans z2) (.tup a1 a2 a3)
        · refine q _ (upd F2 a (.tup (vs ++ ws))) _ ((z1.trans z2).trans (Fz.new E2.fh ha)) (.tup upd_same ?_ (by rw [List.length_map, List.length_append]; exact hl))
          rw [List.map_append]
          have m := Evl.Ex.new (o := HO.tup (vs ++ ws)) (Evl.fresh_back E2.fh ha)
          exact (a2.mono' m).app (b2.mono' m)
theorem op_catAK {X : Cx} {K : Frag} (h : X.K = K := by rfl) : OpR X (binaryOp .Add) (rCatA K) := by subst h; exact op_catA
def repOkL (xs : List α) (k : Int) : Prop := k < 2 ^ 62 ∧ -(2 ^ 62) ≤ k ∧ xs.length * k.toNat ≤ lim
instance (xs : List α) (k : Int) : Decidable (repOkL xs k) := inferInstanceAs (Decidable (_ ∧ _ ∧ _))
def repL (xs : List α) (k : Int) : List α := (List.replicate k.toNat xs).flatten
theorem exw_repL {e : α → PyData} {xs : List α} {k : Int} (ha : EXl K ta env (xs.map e)) (hb : EX K tb env (.int k)) (h : repOkL xs k) : EXw K (tOp rRep ta tb) env ((repL xs k).map e) :=
  exw_rep ha hb ⟨h.1, h.2.1⟩ (by rw [List.length_map]; exact h.2.2) (by unfold repL; rw [List.map_flatten, List.map_replicate])
/-! ### dicts that never change again -/
/-- a dict as data -/
abbrev eM {α β : Type} (kf : α → Key) (e : β → PyData) (xs : List (α × β)) : PyData := .dict ((xs.map (kvE kf e)).map kvD)
def tFz (t : TS) : TS := fun D σ H => ∃ d u, H d = some u ∧ Mut (some u) ∧ ∀ od, t D σ (upd H d (.frz od u))
theorem ps_fz {X : Cx} {st : Stmt} {t : TS} (h : PS X st t) : PS X st (tFz t) := ⟨fun pins s σ H D I hw => by
  obtain ⟨d, u, hd, mu, hw⟩ := hw
  obtain ⟨od, I1⟩ := I.lock hd mu
  exact h.run pins s σ _ D I1 (hw od)⟩
theorem EnvOk.fz {F0 H0 F H : Hp} {σ : List (Option V)} (E : EnvOk K F0 H0 F H σ env) {p : Addr} {u : HO} {s t : Sl} {ob : Obj} (hs : env[i]? = some s) (os : s.owned = true) (hi : σ[i]? = some (some (.ref p))) (hF : F p = none) (ht : ∀ F', Ex F F' → F' p = some (.frz ob u) → SlA K H0 F' (upd H p (.frz ob u)) (some (.ref p)) [] t) :
    ∃ F', EnvOk K F0 H0 F' (upd H p (.frz ob u)) σ (env.set i t) := by
  have m := Evl.Ex.new (o := HO.frz ob u) hF
  refine ⟨upd F p (.frz ob u), E.mutT (A := [p]) (B := []) (fun a w q => ?_) m hs hi (fun A' h c mc => by rw [owned_at os h]; exact mc) (fun a w h f n => ?_) (fun b mb => by cases mb) (ht _ m upd_same)⟩
  · by_cases z : a = p
    · subst z; rw [upd_same] at q ⊢; exact q
    · rw [upd_ne z] at q ⊢; exact E.fh a w q
  · have z : a ≠ p := fun z => n (by rw [z]; exact List.mem_singleton.mpr rfl)
    rw [upd_ne z, upd_ne z]
    exact ⟨fun _ => f, h⟩
theorem bx_fzT {kvs : List (List Key × PyData)} (i : Nat) (hs : env[i]? = some (.dt kvs)) (h : BX K (tSeq ts tu) (env.set i (.ft kvs)) enc m) : BX K (tSeq (tFz ts) tu) env enc m := fun o ho F0 H0 F H σ D E c => by
  obtain ⟨o1, h1, p, xs, h2, h3, h4, h5, h6, h7⟩ := E.sl i _ hs
  subst h2
  refine ⟨p, _, h5, trivial, fun od => ?_⟩
  obtain ⟨F', E'⟩ := E.fz (ob := od) (u := .dT xs) (t := .ft kvs) hs rfl h1 h4 fun F' e he => ⟨⟨p, od, xs, rfl, he, h6.mono e, h7⟩, rfl⟩
  exact h o ho D E' c
theorem bx_fzK {kvs : List (Key × PyData)} (i : Nat) (hs : env[i]? = some (.dk kvs)) (h : BX K (tSeq ts tu) (env.set i (.sh (.dict (kvs.map kvD)))) enc m) : BX K (tSeq (tFz ts) tu) env enc m := fun o ho F0 H0 F H σ D E c => by
  obtain ⟨o1, h1, p, xs, h2, h3, h4, h5, h6, h7⟩ := E.sl i _ hs
  subst h2
  refine ⟨p, _, h5, trivial, fun od => ?_⟩
  obtain ⟨F', E'⟩ := E.fz (ob := od) (u := .dK xs) (t := .sh (.dict (kvs.map kvD))) hs rfl h1 h4 fun F' e he => ⟨⟨_, rfl, .dct he h6.1 (h6.2.mono' e) h7 rfl⟩, rfl⟩
  exact h o ho D E' c
/-- keys that are tuples of whole numbers -/
theorem ex_dgetFT [DecidableEq α] {kf : α → List Key} {e : β → PyData} (inj : ∀ a b, kf a = kf b → a = b) {xs : List (α × β)} {k : α} {x : β} (hi : env[i]? = some (.ft (xs.map (kvE kf e)))) (hk : EX K ty env (.tuple ((kf k).map kD))) (hx : lookA xs k = some x) : EX K (tDGet (tVar i) ty) env (e x) := fun F0 H0 F H σ E Q q => by
  obtain ⟨o, h1, p, ob, ws, h2, h4, h6, h7⟩ := E.sl i _ hi
  subst h2
  refine ⟨_, h1, hk E _ fun w F1 H1 z1 hw => ?_⟩
  have hl : lookA (xs.map (kvE kf e)) (kf k) = some (e x) := by rw [lookA_map inj, hx]; rfl
  obtain ⟨v, hv1, hv2⟩ := (h6.mono z1.f).look hl
  cases hw with
  | tup t1 t2 t3 =>
    rw [kD_all t2] at t1
    refine ⟨p, v, rfl, ?_, q v F1 H1 z1 hv2⟩
    rw [← hv1]
    exact .inr ⟨_, kf k, _, .inr ⟨ob, z1.fh _ _ (z1.f _ _ h4)⟩, rfl, z1.fh _ _ t1, rfl⟩
theorem ex_dinFT [DecidableEq α] {kf : α → List Key} {e : β → PyData} (inj : ∀ a b, kf a = kf b → a = b) {xs : List (α × β)} {k : α} (hi : env[i]? = some (.ft (xs.map (kvE kf e)))) (hk : EX K ty env (.tuple ((kf k).map kD))) : EX K (tDIn ty (tVar i)) env (.bool (lookA xs k).isSome) := fun F0 H0 F H σ E Q q => by
  refine hk E _ fun w F1 H1 z1 hw => ?_
  obtain ⟨o, h1, p, ob, ws, h2, h4, h6, h7⟩ := (E.step z1).sl i _ hi
  subst h2
  cases hw with
  | tup t1 t2 t3 =>
    rw [kD_all t2] at t1
    refine ⟨_, h1, p, _, rfl, .inr ⟨_, kf k, _, .inr ⟨ob, z1.fh _ _ h4⟩, rfl, z1.fh _ _ t1, rfl⟩, ?_⟩
    have e1 : (valV ws (kf k)).isSome = (lookA xs k).isSome := by rw [look_isSome h6, lookA_map inj]; simp
    rw [e1]
    exact q _ F1 H1 z1 (.bl _)
theorem ex_dninT [DecidableEq α] {kf : α → List Key} {e : β → PyData} (inj : ∀ a b, kf a = kf b → a = b) {xs : List (α × β)} {k : α} (hi : env[i]? = some (.dt (xs.map (kvE kf e)))) (hk : EX K ty env (.tuple ((kf k).map kD))) : EX K (tDNotIn ty (tVar i)) env (.bool (!(lookA xs k).isSome)) := fun F0 H0 F H σ E Q q => by
  refine hk E _ fun w F1 H1 z1 hw => ?_
  obtain ⟨o, h1, p, ws, h2, h3, h4, h5, h6, h7⟩ := (E.step z1).sl i _ hi
  subst h2
  cases hw with
  | tup t1 t2 t3 =>
    rw [kD_all t2] at t1
    refine ⟨_, h1, p, _, rfl, DGet.t h5 (z1.fh _ _ t1), ?_⟩
    have e1 : (valV ws (kf k)).isSome = (lookA xs k).isSome := by rw [look_isSome h6, lookA_map inj]; simp
    rw [e1]
    exact q _ F1 H1 z1 (.bl _)
theorem kT_dq (F : Hp) : ∀ k : List Int, DqAll F ((kT k).map kV) (k.map PyData.int)
  | [] => .nil
  | x :: xs => .cons (.int x) (kT_dq F xs)
theorem kv_get {κ : Type} {F : Hp} {ws : List (κ × V)} {kvs : List (κ × PyData)} (h : KvOk F ws kvs) {j : Nat} {p : κ × PyData} (hp : kvs[j]? = some p) : ∃ v, ws[j]? = some (p.1, v) := by
  have e : (ws.map (·.1))[j]? = (kvs.map (·.1))[j]? := by rw [h.1]
  rw [List.getElem?_map, List.getElem?_map, hp] at e
  cases q : ws[j]? with
  | none => rw [q] at e; cases e
  | some w =>
    rw [q] at e
    have e : w.1 = p.1 := Option.some.inj e
    exact ⟨w.2, by rw [← e]⟩
/-- its keys -/
theorem eis_keysFT {e : β → PyData} {xs : List (List Int × β)} (hi : env[i]? = some (.ft (xs.map (kvE kT e)))) : EIs K (iKeys (tVar i)) env ((xs.map (·.1)).map (eT PyData.int)) := fun F0 H0 F H σ E R r => by
  obtain ⟨o, h1, p, ob, ws, h2, h4, h6, h7⟩ := E.sl i _ hi
  subst h2
  have hl := h6.len
  rw [List.length_map] at hl
  refine ⟨_, h1, p, ob, rfl, .inr ⟨ws, E.fh _ _ h4, r _ F H (Fz.refl E.fh) (by have := h7.1; rw [List.length_map] at this; rw [List.length_map, List.length_map]; exact this) ⟨fun F1 H1 j d p1 ex hd => ?_, fun F1 H1 p1 ex => ?_⟩⟩⟩
  · rw [List.getElem?_map, List.getElem?_map] at hd
    obtain ⟨k, hk, rfl⟩ := Option.map_eq_some_iff.mp hd
    obtain ⟨x, hx, rfl⟩ := Option.map_eq_some_iff.mp hk
    have jl := (List.getElem?_eq_some_iff.mp hx).1
    obtain ⟨w, hw⟩ := kv_get h6 (j := j) (p := kvE kT e x) (by rw [List.getElem?_map, hx]; rfl)
    refine ⟨⟨ex _ _ (p1 _ _ h4), by rw [hl]; exact jl⟩, fun y H' hy => ?_⟩
    obtain ⟨rfl, k', v', q, a1, rfl, a3⟩ := hy
    rw [hw] at a1
    cases a1
    obtain ⟨F2, z2, f2⟩ := Fz.tup ex a3
    refine ⟨F2, z2, .tup f2 (kT_dq _ _) ?_⟩
    have := h7.2 (kvE kT e x) (List.mem_map.mpr ⟨x, List.mem_of_getElem? hx, rfl⟩)
    have : (kT x.1).length ≤ lim := this
    rw [List.length_map] at this ⊢
    exact this
  · refine ⟨ex _ _ (p1 _ _ h4), ?_⟩
    rw [hl, List.length_map, List.length_map]
    exact Nat.le_refl _
end
end Rb

set_option Elab.async false
set_option linter.all false
set_option maxRecDepth 100000
set_option maxHeartbeats 2000000
namespace Rb
namespace HTx
open PySem PySem.Spec PyProof.Rows HT
section
variable {prog : Program} {w : World} {A : Around} {E : Value → Shared → Prop} {s : Shared}
theorem sliceApplied_rev {sl : Addr} {vs : Value} {n : Nat} {Q : Int × Int × Nat → Shared → Prop} (hs : s.heap.IsSliceOf sl .none .none vs) (ps : IsPart vs (some (-1)))
    (h : Q ((n : Int) - 1, -1, n) s) : wpAny (model prog w) A (Builtin.Slice.sliceApplied (.ref sl) (pure (n : Int))) Q E s := by
  obtain ⟨os, hos, hcs, hds⟩ := id hs
  unfold Builtin.Slice.sliceApplied Builtin.Slice.sliceFields
  refine wpAny_bind (wpAny_bind (wpAny_field hos hds (x := .none) rfl (wpAny_bind (wpAny_field hos hds (x := .none) rfl (wpAny_bind (wpAny_field hos hds (x := vs) rfl (wpAny_pure ?_)))))))
  refine wpAny_bind (slicePart_ ps ?_)
  show wpAny _ _ (if ((-1 : Int) == 0) = true then _ else _) _ _ s
  rw [if_neg (by decide)]
  refine wpAny_bind (slicePart_none (wpAny_bind (slicePart_none (wpAny_bind (wpAny_pure ?_)))))
  have e : Builtin.Slice.slicePlaces ((n : Int) - 1) (-1) (-1) = n := by
    unfold Builtin.Slice.slicePlaces
    have h1 : ¬ ((-1 : Int) > 0) := by decide
    simp only [h1, if_false]
    have : (- -1 : Int) = 1 := by decide
    rw [this, Int.ediv_one]
    split <;> omega
  show wpAny _ _ (pure ((n : Int) - 1, (-1 : Int), Builtin.Slice.slicePlaces ((n : Int) - 1) (-1) (-1))) _ _ s
  rw [e]
  exact wpAny_pure h
theorem fm_congr {α β : Type} {f g : α → Option β} : ∀ {l : List α}, (∀ x, x ∈ l → f x = g x) → l.filterMap f = l.filterMap g
  | [], _ => rfl
  | x :: xs, h => by
    rw [List.filterMap_cons, List.filterMap_cons, h x List.mem_cons_self, fm_congr fun y hy => h y (List.mem_cons_of_mem _ hy)]
theorem pick_rev (xs : Array Value) : ((List.range xs.size).filterMap fun (k : Nat) => xs[(((xs.size : Int) - 1) + (k : Int) * -1).toNat]?).toArray = xs.toList.reverse.toArray := by
  have e : ((List.range xs.size).filterMap fun (k : Nat) => xs[(((xs.size : Int) - 1) + (k : Int) * -1).toNat]?) = ((List.range xs.size).map fun k => xs.size - 1 - k).filterMap (xs[·]?) := by
    rw [List.filterMap_map]
    refine fm_congr fun k hk => ?_
    have := List.mem_range.mp hk
    show xs[_]? = xs[xs.size - 1 - k]?
    congr 1
    omega
  rw [e, PySem.W.krv_range, List.filterMap_reverse, PySem.W.krv_all]
theorem getItem_tuple_rev {t sl : Addr} {items : Array Value} {vs : Value} {Q : Value → Shared → Prop} (ht : IsTup s.heap t items) (hs : s.heap.IsSliceOf sl .none .none vs) (ps : IsPart vs (some (-1)))
    (h : Q (.ref s.heap.objs.size) { s with heap := s.heap.push { cls := .type "tuple", data := .seq items.toList.reverse.toArray } })
    (hsz : items.size ≤ sizeLine) : wpAny (model prog w) A (getItem (.ref t) (.ref sl)) Q E s := by
  have htake : sizeOk (.seq items.toList.reverse.toArray) := by
    show items.toList.reverse.toArray.size ≤ sizeLine
    rw [List.size_toArray, List.length_reverse, Array.length_toList]
    omega
  obtain ⟨os, hos, hcs, hds⟩ := id hs
  have hTs : s.TypeIs (.ref sl) "slice" := ⟨os, hos, hcs⟩
  unfold getItem
  try with_reducible refine wpAny_holding ?_
  first | refine wpAny_bind (wpAny_pure ?_) | skip
  refine wpAny_bind (wpAny_sequenceKey ht.typeIs (by decide) ?_)
  refine wpAny_bind (wpAny_callSpecial?_slot (name := Str.ofString "__getitem__") ht.typeIs PyProof.Rows.slot_tuple_getitem
    (wpAny_call_entry PyProof.Rows.slot_tuple_getitem ht.typeIs entry_tuple_getitem ?_ (args_tuple_getitem _ _)))
  show wpAny _ _ (Builtin.Tuple.tupleItemsOf (.ref t) >>= _) _ _ s
  refine wpAny_bind (tupleItemsOf_ ht ?_)
  refine wpAny_bind (wpAny_typeOf hTs ?_)
  rw [if_pos (by decide)]
  refine wpAny_bind (sliceApplied_rev hs ps ?_)
  have hno : ¬ (((((items.size : Int) - 1) == 0 && (-1 : Int) == 1 && items.size == items.size)) = true) := by
    intro q
    rw [Bool.and_eq_true, Bool.and_eq_true] at q
    exact absurd (eq_of_beq q.1.2) (by decide)
  show wpAny _ _ (if ((((items.size : Int) - 1) == 0 && (-1 : Int) == 1 && items.size == items.size)) = true then _ else _) _ _ s
  rw [if_neg hno, pick_rev]
  first
    | exact wpAny_bind (m := Builtin.Tuple.tupleExact _) (wpAny_newObj_type (wpAny_pure ⟨_, rfl, wpAny_pure h⟩) htake)
    | exact wpAny_bind (m := Builtin.Tuple.tupleExact _) (wpAny_newObj_type (wpAny_bind (wpAny_pure (wpAny_pure ⟨_, rfl, wpAny_pure h⟩))) htake)
    | exact wpAny_bind (wpAny_bind (m := Builtin.Tuple.tupleExact _) (wpAny_newObj_type (wpAny_pure (wpAny_pure ⟨_, rfl, wpAny_pure h⟩)) htake))
    | exact wpAny_bind (wpAny_bind (m := Builtin.Tuple.tupleExact _) (wpAny_newObj_type (wpAny_pure ⟨_, rfl, wpAny_pure h⟩) htake))
end
end HTx
open PySem PySem.Spec PyProof.Rows L2
/-! ### t[::-1] of a tuple -/
def tRevT (K : Frag) (te : TE) : TE := fun σ H Q => te σ H fun x H1 => ∃ a xs, x = .ref a ∧ SqT K H1 a xs ∧ ∀ p, H1 p = none → Q (.ref p) (upd H1 p (.tup xs.reverse))
theorem pe_revT {X : Cx} {e : Expr} {te : TE} {k : Nat} {p1 p2 p3 pos : Pos} (he : PE X e te) : PE X (.Subscript e (.Slice none none (some (.UnaryOp .USub (.Constant (.int 1) k p1) p2)) p3) pos) (tRevT X.K te) := by
  refine ⟨fun pins s σ H Q I h => ?_⟩
  refine Subscript_ (thn (he.run pins s σ H _ I h) fun v s1 ⟨x, H1, I1, r1, q1⟩ => ?_)
  obtain ⟨a, xs, ex, hx, q⟩ := q1
  subst ex
  cases r1
  have hst : PO X (some (.UnaryOp .USub (.Constant (.int 1) k p1) p2)) (tPart (tUn (rU fun i => .int (-i)) (tC (.int 1)))) := po_some (pe_un un_neg pe_int)
  refine wpAny_Slice (thn (po_none.run pins s1 σ H1 (fun o H2 => o = none ∧ H2 = H1) I1 ⟨rfl, rfl⟩) fun vl s2 ⟨l, H2, I2, pl, el, e2⟩ => ?_)
  subst el e2
  refine thn (po_none.run pins s2 σ H2 (fun o H3 => o = none ∧ H3 = H2) I2 ⟨rfl, rfl⟩) fun vu s3 ⟨u, H3, I3, pu, eu, e3⟩ => ?_
  subst eu e3
  refine thn (hst.run pins s3 σ H3 (fun o H4 => o = some (-1) ∧ H4 = H3) I3 ⟨1, rfl, -1, rfl, rfl, rfl⟩) fun vs s4 ⟨o, H4, I4, ps, eo, e4⟩ => ?_
  subst eo e4
  cases pl
  cases pu
  have I5 : Inv X pins σ H4 { s4 with heap := s4.heap.push { cls := .type "slice", data := .fields #[.none, .none, vs] } } := I4.kept (t' := s4.toks) fun b ob q => Heap.get?_push_of_some _ q
  obtain ⟨its, r, ht, hz⟩ := I5.tuple hx
  have hlen := r.length
  show wpAny (model X.prog X.w) X.A (subscriptTail e (.Slice none none (some (.UnaryOp .USub (.Constant (.int 1) k p1) p2)) p3) (.ref a) (.ref s4.heap.objs.size)) (EP X pins σ Q) X.xe { s4 with heap := s4.heap.push { cls := .type "slice", data := .fields #[.none, .none, vs] } }
  refine tail_any (ops := [.ref a, .ref s4.heap.objs.size]) ht.typeIs (PyProof.Rows.slot_tuple_getitem.lookup) ?_ (by with_unfolding_all rfl)
  refine HTx.getItem_tuple_rev ht (Heap.IsSliceOf.new _ .none .none vs) ps ?_ (by rw [List.size_toArray]; omega)
  refine ⟨.ref _, _, I5.laid (t' := s4.toks) (o := .tup xs.reverse) (fun b ob q => Heap.get?_push_of_some _ q) (Nat.le_refl _) ?_, rfl, q _ (I5.hok.fresh (Nat.le_refl _))⟩
  exact ⟨by rw [List.length_reverse]; exact hz, _, r.reverse, IsTup.new _ _⟩
theorem pe_revTK {X : Cx} {K : Frag} {ex : Expr} {tx : TE} {k : Nat} {p1 p2 p3 pos : Pos} (he : PE X ex tx) (h : X.K = K := by rfl) : PE X (.Subscript ex (.Slice none none (some (.UnaryOp .USub (.Constant (.int 1) k p1) p2)) p3) pos) (tRevT K tx) := by subst h; exact pe_revT he
theorem ex_revT {K : Frag} {env : List Sl} {ta : TE} {α : Type} {e : α → PyData} {xs : List α} (ha : EX K ta env (.tuple (xs.map e))) : EX K (tRevT K ta) env (.tuple (xs.reverse.map e)) := fun F0 H0 F H σ E Q q =>
  ha E _ fun v F1 H1 z1 h1 => by
    have E1 := E.step z1
    cases h1 with
    | tup a1 a2 a3 =>
      refine ⟨_, _, rfl, SqT.of (E1.fh _ _ a1), fun r hr => q _ (upd F1 r _) _ (z1.trans (Fz.new E1.fh hr)) (.tup upd_same ?_ ?_)⟩
      · rw [List.map_reverse]
        exact (a2.rev).mono' (Evl.Ex.new (Evl.fresh_back E1.fh hr))
      · rw [List.length_map, List.length_reverse]
        rw [List.length_map] at a3
        exact a3
end Rb

set_option Elab.async false
set_option linter.all false
set_option maxRecDepth 100000
set_option maxHeartbeats 2000000
namespace Rb
/-! # ties as functions; a hook under them -/
/-- x ties each point below m to just one other one -/
def FT (m : Int) (x : Int → Int) : Prop := ∀ p, 0 ≤ p → p < m → 0 ≤ x p ∧ x p < m ∧ x p ≠ p ∧ x (x p) = p
/-- what is tied behind a hook whose left end meets the point c -/
def act (c : Int) (x : Int → Int) : Int → Int := fun p => if p = c then c + 1 else if p = c + 1 then c else if p = x c then x (c + 1) else if p = x (c + 1) then x c else x p
def ring (c : Int) (x : Int → Int) : Int := if x c = c + 1 then 1 else 0
theorem act_ft {m c : Int} {x : Int → Int} (h : FT m x) (h0 : 0 ≤ c) (h1 : c + 1 < m) : FT m (act c x) := by
  intro p p0 p1
  have a := h p p0 p1
  have b := h c h0 (by omega)
  have d := h (c + 1) (by omega) h1
  unfold act
  grind
theorem act_act {m c : Int} {x : Int → Int} (h : FT m x) (h0 : 0 ≤ c) (h1 : c + 1 < m) : act c (act c x) = act c x := by
  funext p
  have b := h c h0 (by omega)
  have d := h (c + 1) (by omega) h1
  unfold act
  grind
theorem ring_act {c : Int} {x : Int → Int} : ring c (act c x) = 1 := by
  unfold ring act
  grind
theorem act_beside {m c e : Int} {x : Int → Int} (h : FT m x) (h0 : 0 ≤ c) (h1 : c + 1 < m) (e0 : 0 ≤ e) (e1 : e + 1 < m) (he : e = c + 1 ∨ c = e + 1) : act c (act e (act c x)) = act c x ∧ ring e (act c x) = 0 ∧ ring c (act e (act c x)) = 0 := by
  have b := h c h0 (by omega)
  have d := h (c + 1) (by omega) h1
  have f := h e e0 (by omega)
  have g := h (e + 1) (by omega) e1
  refine ⟨?_, ?_, ?_⟩
  · funext p
    rcases he with he | he
    · subst he; unfold act; grind
    · subst he; unfold act; grind
  · rcases he with he | he
    · subst he; unfold ring act; grind
    · subst he; unfold ring act; grind
  · rcases he with he | he
    · subst he; unfold ring act; grind
    · subst he; unfold ring act; grind
theorem act_far {m c e : Int} {x : Int → Int} (h : FT m x) (h0 : 0 ≤ c) (h1 : c + 1 < m) (e0 : 0 ≤ e) (e1 : e + 1 < m) (he : e > c + 1 ∨ c > e + 1) : (∀ p, 0 ≤ p → p < m → act e (act c x) p = act c (act e x) p) ∧ ring c x + ring e (act c x) = ring e x + ring c (act e x) := by
  have b := h c h0 (by omega)
  have d := h (c + 1) (by omega) h1
  have f := h e e0 (by omega)
  have g := h (e + 1) (by omega) e1
  refine ⟨fun p p0 p1 => ?_, ?_⟩
  · have a := h p p0 p1
    unfold act; grind (splits := 40)
  · unfold ring act; grind
end Rb

set_option Elab.async false
set_option linter.all false
set_option maxRecDepth 100000
set_option maxHeartbeats 2000000
namespace Rb
open L2
/-! # lists of numbers by their places -/
theorem mem_rng {lo hi p : Int} : p ∈ rng lo hi ↔ lo ≤ p ∧ p < hi := by
  unfold rng
  rw [List.mem_map]
  constructor
  · rintro ⟨i, hi, rfl⟩
    rw [List.mem_range] at hi
    omega
  · intro ⟨h1, h2⟩
    exact ⟨(p - lo).toNat, by rw [List.mem_range]; omega, by omega⟩
theorem atI_eq {α : Type} {xs : List α} {p : Int} (h0 : 0 ≤ p) (h1 : p < (xs.length : Int)) : atI xs p = xs[p.toNat]? := by
  unfold atI ixN
  rw [if_pos h0, if_pos h1]
  rfl
theorem atI_last {α : Type} {xs : List α} {p : Int} (h0 : p < 0) (h1 : -(xs.length : Int) ≤ p) : atI xs p = xs[(p + xs.length).toNat]? := by
  unfold atI ixN
  rw [if_neg (by omega), if_pos h1]
  rfl
theorem rng_get {lo hi : Int} {i : Nat} (h : (i : Int) < hi - lo) : (rng lo hi)[i]? = some (lo + i) := by
  unfold rng
  rw [List.getElem?_map, List.getElem?_range (by omega)]
  rfl
def lst (m : Int) (x : Int → Int) : List Int := (rng 0 m).map x
theorem lst_len (m : Int) (x : Int → Int) : (lst m x).length = m.toNat := by unfold lst; rw [List.length_map, rng_len, Int.sub_zero]
theorem lst_len' {m : Int} {x : Int → Int} (h : 0 ≤ m) : ((lst m x).length : Int) = m := by rw [lst_len]; omega
theorem atI_lst {m : Int} {x : Int → Int} {p : Int} (h0 : 0 ≤ p) (h1 : p < m) : atI (lst m x) p = some (x p) := by
  rw [atI_eq h0 (by rw [lst_len]; omega)]
  unfold lst
  rw [List.getElem?_map, rng_get (by omega)]
  show some (x (0 + ((p.toNat : Nat) : Int))) = some (x p)
  congr 2
  omega
theorem lst_ext {m : Int} {x y : Int → Int} (h : ∀ p, 0 ≤ p → p < m → x p = y p) : lst m x = lst m y := by
  unfold lst
  exact List.map_congr_left fun p hp => h p (mem_rng.mp hp).1 (mem_rng.mp hp).2
theorem set_lst {m : Int} {x : Int → Int} {p v : Int} (h0 : 0 ≤ p) (h1 : p < m) : set? (lst m x) p v = some (lst m fun q => if q = p then v else x q) := by
  unfold set? ixN
  rw [lst_len, if_pos h0, if_pos (by omega)]
  show some _ = some _
  congr 1
  apply List.ext_getElem?
  intro i
  rw [List.getElem?_set]
  unfold lst
  by_cases e : p.toNat = i
  · subst e
    rw [if_pos rfl, if_pos (by rw [List.length_map, rng_len]; omega), List.getElem?_map, rng_get (by omega)]
    show some v = some (if 0 + ((p.toNat : Nat) : Int) = p then v else _)
    rw [if_pos (by omega)]
  · rw [if_neg e, List.getElem?_map, List.getElem?_map]
    by_cases hi : (i : Int) < m - 0
    · rw [rng_get hi]
      show some (x (0 + (i : Int))) = some (if 0 + (i : Int) = p then v else x (0 + (i : Int)))
      rw [if_neg (by omega)]
    · have : (rng 0 m)[i]? = none := by
        rw [List.getElem?_eq_none_iff, rng_len]
        omega
      rw [this]
      rfl
/-! ## loops whose turns succeed -/
section
variable {α β S : Type}
theorem forS_cons {f : S → α → Option S} {s : S} {x : α} {xs : List α} : forS f s (x :: xs) = (f s x).bind fun s' => forS f s' xs := rfl
theorem forS_foldl {f : S → α → Option S} {g : S → α → S} : ∀ {xs : List α} {s : S}, (∀ s x, x ∈ xs → f s x = some (g s x)) → forS f s xs = some (xs.foldl g s)
  | [], s, _ => rfl
  | x :: xs, s, h => by
    rw [forS_cons, h s x List.mem_cons_self]
    exact forS_foldl fun s y hy => h s y (List.mem_cons_of_mem _ hy)
theorem forS_app {f : S → α → Option S} : ∀ {xs ys : List α} {s : S}, forS f s (xs ++ ys) = (forS f s xs).bind fun s' => forS f s' ys
  | [], ys, s => rfl
  | x :: xs, ys, s => by
    rw [List.cons_append, forS_cons, forS_cons]
    cases f s x with
    | none => rfl
    | some s' => exact forS_app
theorem compM_some {t : α → Option Bool} {f : α → Option β} {g : α → β} : ∀ {xs : List α}, (∀ x, x ∈ xs → t x = some true) → (∀ x, x ∈ xs → f x = some (g x)) → compM t f xs = some (xs.map g)
  | [], _, _ => rfl
  | x :: xs, h1, h2 => by
    unfold compM
    rw [h1 x List.mem_cons_self, h2 x List.mem_cons_self, compM_some (fun y hy => h1 y (List.mem_cons_of_mem _ hy)) fun y hy => h2 y (List.mem_cons_of_mem _ hy)]
    rfl
theorem app_ok {xs : List α} {x : α} (h : xs.length < lim) : app? xs x = some (xs ++ [x]) := by unfold app?; rw [if_pos h]
theorem ext_ok {xs ys : List α} (h : xs.length + ys.length ≤ lim) : ext? xs ys = some (xs ++ ys) := by unfold ext?; rw [if_pos h]
theorem rem_ok {xs : List Int} {x : Int} (h : x ∈ xs) : rem? xs x = some (xs.erase x) := by unfold rem?; rw [if_pos h]
theorem rngOk_of {n : Int} (h0 : -50000 ≤ n) (h1 : n ≤ 50000) : rngOk n := ⟨h0, h1⟩
end
/-! ## what runs through two frames -/
inductive Runs (u l : Int → Int) (n : Int) : Bool → Int → Int → List Int → Prop
  | stopL {p : Int} : n ≤ l p → Runs u l n true p (l p) []
  | stopU {p : Int} : u p < n → Runs u l n false p (u p) []
  | goL {p e : Int} {ms : List Int} : l p < n → Runs u l n false (l p + n) e ms → Runs u l n true p e (l p :: ms)
  | goU {p e : Int} {ms : List Int} : n ≤ u p → Runs u l n true (u p - n) e ms → Runs u l n false p e ((u p - n) :: ms)
theorem Runs.stopLe {u l : Int → Int} {n p q : Int} (h : l p = q) (hq : n ≤ q) : Runs u l n true p q [] := by subst h; exact .stopL hq
theorem Runs.stopUe {u l : Int → Int} {n p q : Int} (h : u p = q) (hq : q < n) : Runs u l n false p q [] := by subst h; exact .stopU hq
theorem Runs.goLe {u l : Int → Int} {n p q r e : Int} {ms : List Int} (h : l p = q) (hq : q < n) (hr : q + n = r) (R : Runs u l n false r e ms) : Runs u l n true p e (q :: ms) := by subst h; subst hr; exact .goL hq R
theorem Runs.goUe {u l : Int → Int} {n p q r e : Int} {ms : List Int} (h : u p = q) (hq : n ≤ q) (hr : q - n = r) (R : Runs u l n true r e ms) : Runs u l n false p e (r :: ms) := by subst h; subst hr; exact .goU hq R
/-- ties and nothing else: within bounds -/
def Bd (m : Int) (x : Int → Int) : Prop := ∀ p, 0 ≤ p → p < m → 0 ≤ x p ∧ x p < m
theorem FT.bd {m : Int} {x : Int → Int} (h : FT m x) : Bd m x := fun p a b => ⟨(h p a b).1, (h p a b).2.1⟩
end Rb

set_option Elab.async false
set_option linter.all false
set_option maxRecDepth 100000
set_option maxHeartbeats 4000000
namespace Rb
/-! # gluing two neighbouring points of ties that don't cross -/
def Btw (ps : Int → Int) (u v w : Int) : Prop := (ps u < ps w ∧ ps w < ps v) ∨ (ps v < ps w ∧ ps w < ps u)
/-- ties of the points A, none crossing another by the places ps -/
structure Pm (A : Int → Prop) (ps t : Int → Int) : Prop where
  ft : ∀ p, A p → A (t p) ∧ t p ≠ p ∧ t (t p) = p
  nc : ∀ p q, A p → A q → q ≠ p → q ≠ t p → (Btw ps p (t p) q ↔ Btw ps p (t p) (t q))
def glue (t : Int → Int) (a b : Int) : Int → Int := fun p => if t a = b then t p else if p = t a then t b else if p = t b then t a else t p
theorem Pm.glued {A : Int → Prop} {ps t : Int → Int} {a b : Int} (h : Pm A ps t) (ha : A a) (hb : A b) (hab : a ≠ b) (inj : ∀ p q, A p → A q → ps p = ps q → p = q) (adj : ∀ c, A c → ¬ Btw ps a b c) :
    Pm (fun p => A p ∧ p ≠ a ∧ p ≠ b) ps (glue t a b) := by
  have fa := h.ft a ha
  have fb := h.ft b hb
  by_cases c : t a = b
  · have e : glue t a b = t := by funext p; unfold glue; rw [if_pos c]
    rw [e]
    refine ⟨fun p ⟨hp, pa, pb⟩ => ?_, fun p q hp hq => h.nc p q hp.1 hq.1⟩
    have fp := h.ft p hp
    refine ⟨⟨fp.1, fun z => ?_, fun z => ?_⟩, fp.2⟩ <;> grind
  · refine ⟨fun p ⟨hp, pa, pb⟩ => ?_, fun p q ⟨hp, pa, pb⟩ ⟨hq, qa, qb⟩ npq ntq => ?_⟩
    · have fp := h.ft p hp
      unfold glue
      grind
    · have fp := h.ft p hp
      have fq := h.ft q hq
      have ea : ∀ r, glue t a b r = if r = t a then t b else if r = t b then t a else t r := fun r => by unfold glue; rw [if_neg c]
      rw [ea] at ntq ⊢
      rw [ea]
      have i1 := inj a q ha hq
      have i2 := inj b q hb hq
      have i3 := inj (t a) q fa.1 hq
      have i4 := inj (t b) q fb.1 hq
      have j1 := inj a (t q) ha fq.1
      have j2 := inj b (t q) hb fq.1
      have j3 := inj (t a) (t q) fa.1 fq.1
      have j4 := inj (t b) (t q) fb.1 fq.1
      have k1 := inj a p ha hp
      have k2 := inj b p hb hp
      have k3 := inj (t a) p fa.1 hp
      have k4 := inj (t b) p fb.1 hp
      have l1 := inj a (t p) ha fp.1
      have l2 := inj b (t p) hb fp.1
      have l3 := inj (t a) (t p) fa.1 fp.1
      have l4 := inj (t b) (t p) fb.1 fp.1
      have a1 := adj q hq
      have a2 := adj (t q) fq.1
      have a3 := adj p hp
      have a4 := adj (t p) fp.1
      have a5 := adj (t a) fa.1
      have a6 := adj (t b) fb.1
      by_cases p1 : p = t a
      · subst p1
        rw [if_pos rfl] at ntq ⊢
        by_cases q1 : q = t b
        · exact absurd q1 ntq
        · rw [if_neg npq, if_neg q1]
          have n1 := h.nc a q ha hq qa npq
          have n2 := h.nc b q hb hq qb q1
          have t1 : t q ≠ a := fun z => by rw [← z, fq.2.2] at npq; exact npq rfl
          have t2 : t q ≠ b := fun z => by rw [← z, fq.2.2] at q1; exact q1 rfl
          have t3 : t q ≠ t a := fun z => qa (by rw [← fq.2.2, z, fa.2.2])
          have t4 : t q ≠ t b := fun z => qb (by rw [← fq.2.2, z, fb.2.2])
          unfold Btw at *
          grind (splits := 60)
      · by_cases p2 : p = t b
        · subst p2
          rw [if_neg p1, if_pos rfl] at ntq ⊢
          rw [if_neg ntq, if_neg npq]
          have n1 := h.nc a q ha hq qa ntq
          have n2 := h.nc b q hb hq qb npq
          have t1 : t q ≠ a := fun z => by rw [← z, fq.2.2] at ntq; exact ntq rfl
          have t2 : t q ≠ b := fun z => by rw [← z, fq.2.2] at npq; exact npq rfl
          have t3 : t q ≠ t a := fun z => qa (by rw [← fq.2.2, z, fa.2.2])
          have t4 : t q ≠ t b := fun z => qb (by rw [← fq.2.2, z, fb.2.2])
          unfold Btw at *
          grind (splits := 60)
        · rw [if_neg p1, if_neg p2] at ntq ⊢
          have s1 : t p ≠ a := fun z => by rw [← z, fp.2.2] at p1; exact p1 rfl
          have s2 : t p ≠ b := fun z => by rw [← z, fp.2.2] at p2; exact p2 rfl
          have m1 := h.nc p a hp ha (Ne.symm pa) (Ne.symm s1)
          have m2 := h.nc p b hp hb (Ne.symm pb) (Ne.symm s2)
          by_cases q1 : q = t a
          · subst q1
            rw [if_pos rfl]
            unfold Btw at *
            grind (splits := 60)
          · by_cases q2 : q = t b
            · subst q2
              rw [if_neg q1, if_pos rfl]
              unfold Btw at *
              grind (splits := 60)
            · rw [if_neg q1, if_neg q2]
              exact h.nc p q hp hq npq ntq
end Rb

set_option Elab.async false
set_option linter.all false
set_option maxRecDepth 100000
set_option maxHeartbeats 4000000
namespace Rb
/-! # two frames side by side, their inner points glued from the right to the left -/
def rd (n p : Int) : Int := if p < n then p else 3 * n - 1 - p
/-- a frame of n pegs -/
def Fr (n : Int) (x : Int → Int) : Prop := Pm (fun p => 0 ≤ p ∧ p < 2 * n) (rd n) x
theorem Fr.ft {n : Int} {x : Int → Int} (h : Fr n x) : FT (2 * n) x := fun p a b => by
  obtain ⟨⟨h1, h2⟩, h3, h4⟩ := Pm.ft h p ⟨a, b⟩
  exact ⟨h1, h2, h3, h4⟩
def two (n : Int) (x y : Int → Int) : Int → Int := fun p => if p < 2 * n then x p else y (p - 2 * n) + 2 * n
def pos4 (n p : Int) : Int := if p < n then p else if p < 2 * n then 5 * n - 1 - p else if p < 3 * n then p else 5 * n - 1 - p
/-- the points that stand when the pegs from k on are glued -/
def Al (n k : Int) (p : Int) : Prop := 0 ≤ p ∧ p < 4 * n ∧ ¬ (n + k ≤ p ∧ p < 2 * n) ∧ ¬ (2 * n + k ≤ p ∧ p < 3 * n)
theorem pos4_inj {n k p q : Int} (hp : Al n k p) (hq : Al n k q) (h : pos4 n p = pos4 n q) : p = q := by
  unfold Al pos4 at *
  grind
theorem btw_rot {n a b c d pa pb pc pd : Int} (ha : (a < n ∧ pa = a + 2 * n) ∨ (n ≤ a ∧ pa = a)) (hb : (b < n ∧ pb = b + 2 * n) ∨ (n ≤ b ∧ pb = b)) (hc : (c < n ∧ pc = c + 2 * n) ∨ (n ≤ c ∧ pc = c)) (hd : (d < n ∧ pd = d + 2 * n) ∨ (n ≤ d ∧ pd = d))
    (a0 : 0 ≤ a ∧ a < 2 * n) (b0 : 0 ≤ b ∧ b < 2 * n) (c0 : 0 ≤ c ∧ c < 2 * n) (d0 : 0 ≤ d ∧ d < 2 * n) (n1 : a ≠ c) (n2 : a ≠ d) (n3 : b ≠ c) (n4 : b ≠ d)
    (h : ((a < c ∧ c < b) ∨ (b < c ∧ c < a)) ↔ ((a < d ∧ d < b) ∨ (b < d ∧ d < a))) : ((pa < pc ∧ pc < pb) ∨ (pb < pc ∧ pc < pa)) ↔ ((pa < pd ∧ pd < pb) ∨ (pb < pd ∧ pd < pa)) := by
  rcases ha with ⟨_, rfl⟩ | ⟨_, rfl⟩ <;> rcases hb with ⟨_, rfl⟩ | ⟨_, rfl⟩ <;> rcases hc with ⟨_, rfl⟩ | ⟨_, rfl⟩ <;> rcases hd with ⟨_, rfl⟩ | ⟨_, rfl⟩ <;> omega
theorem btw_far {n a b c d pa pb pc pd : Int} (ha : (a < n ∧ pa = a) ∨ (n ≤ a ∧ pa = a + 2 * n)) (hb : (b < n ∧ pb = b) ∨ (n ≤ b ∧ pb = b + 2 * n)) (hc : (c < n ∧ pc = c) ∨ (n ≤ c ∧ pc = c + 2 * n)) (hd : (d < n ∧ pd = d) ∨ (n ≤ d ∧ pd = d + 2 * n))
    (h : ((a < c ∧ c < b) ∨ (b < c ∧ c < a)) ↔ ((a < d ∧ d < b) ∨ (b < d ∧ d < a))) (a0 : 0 ≤ a ∧ a < 2 * n) (b0 : 0 ≤ b ∧ b < 2 * n) (c0 : 0 ≤ c ∧ c < 2 * n) (d0 : 0 ≤ d ∧ d < 2 * n) : ((pa < pc ∧ pc < pb) ∨ (pb < pc ∧ pc < pa)) ↔ ((pa < pd ∧ pd < pb) ∨ (pb < pd ∧ pd < pa)) := by
  rcases ha with ⟨_, rfl⟩ | ⟨_, rfl⟩ <;> rcases hb with ⟨_, rfl⟩ | ⟨_, rfl⟩ <;> rcases hc with ⟨_, rfl⟩ | ⟨_, rfl⟩ <;> rcases hd with ⟨_, rfl⟩ | ⟨_, rfl⟩ <;> omega
theorem rd_in {n p : Int} (h : 0 ≤ p ∧ p < 2 * n) : 0 ≤ rd n p ∧ rd n p < 2 * n := by unfold rd; grind
theorem rd_ne {n p q : Int} (h : 0 ≤ p ∧ p < 2 * n) (h' : 0 ≤ q ∧ q < 2 * n) (e : p ≠ q) : rd n p ≠ rd n q := by unfold rd; grind
theorem pos_x {n p : Int} (h : 0 ≤ p ∧ p < 2 * n) : (rd n p < n ∧ pos4 n p = rd n p) ∨ (n ≤ rd n p ∧ pos4 n p = rd n p + 2 * n) := by unfold rd pos4; grind
theorem pos_y {n p : Int} (h : 0 ≤ p ∧ p < 2 * n) : (rd n p < n ∧ pos4 n (p + 2 * n) = rd n p + 2 * n) ∨ (n ≤ rd n p ∧ pos4 n (p + 2 * n) = rd n p) := by unfold rd pos4; grind
theorem two_pm {n : Int} {x y : Int → Int} (hn : 0 ≤ n) (hx : Fr n x) (hy : Fr n y) : Pm (Al n n) (pos4 n) (two n x y) := by
  refine ⟨fun p hp => ?_, fun p q hp hq npq ntq => ?_⟩
  · unfold Al at hp
    by_cases c : p < 2 * n
    · have a := hx.ft p (by omega) c
      unfold Al two
      grind
    · have a := hy.ft (p - 2 * n) (by omega) (by omega)
      unfold Al two
      grind
  · unfold Al at hp hq
    by_cases c : p < 2 * n
    · have a := hx.ft p (by omega) c
      have e : two n x y p = x p := if_pos c
      rw [e] at ntq ⊢
      by_cases d : q < 2 * n
      · have b := hx.ft q (by omega) d
        have e2 : two n x y q = x q := if_pos d
        rw [e2]
        have := Pm.nc hx p q ⟨by omega, c⟩ ⟨by omega, d⟩ npq ntq
        exact btw_far (pos_x ⟨by omega, c⟩) (pos_x ⟨a.1, a.2.1⟩) (pos_x ⟨by omega, d⟩) (pos_x ⟨b.1, b.2.1⟩) this (rd_in ⟨by omega, c⟩) (rd_in ⟨a.1, a.2.1⟩) (rd_in ⟨by omega, d⟩) (rd_in ⟨b.1, b.2.1⟩)
      · have b := hy.ft (q - 2 * n) (by omega) (by omega)
        have e2 : two n x y q = y (q - 2 * n) + 2 * n := if_neg d
        rw [e2]
        unfold Btw pos4
        grind
    · have a := hy.ft (p - 2 * n) (by omega) (by omega)
      have e : two n x y p = y (p - 2 * n) + 2 * n := if_neg c
      rw [e] at ntq ⊢
      by_cases d : q < 2 * n
      · have b := hx.ft q (by omega) d
        have e2 : two n x y q = x q := if_pos d
        rw [e2]
        unfold Btw pos4
        grind
      · have b := hy.ft (q - 2 * n) (by omega) (by omega)
        have e2 : two n x y q = y (q - 2 * n) + 2 * n := if_neg d
        rw [e2]
        have := Pm.nc hy (p - 2 * n) (q - 2 * n) ⟨by omega, by omega⟩ ⟨by omega, by omega⟩ (by omega) (by omega)
        have P : ∀ r, r = r - 2 * n + 2 * n := fun r => by omega
        have i1 : 0 ≤ p - 2 * n ∧ p - 2 * n < 2 * n := ⟨by omega, by omega⟩
        have i2 : 0 ≤ q - 2 * n ∧ q - 2 * n < 2 * n := ⟨by omega, by omega⟩
        have z1 : y (p - 2 * n) ≠ y (q - 2 * n) := fun z => npq (by have := a.2.2.2; rw [z, b.2.2.2] at this; omega)
        have z2 : p - 2 * n ≠ y (q - 2 * n) := fun z => ntq (by rw [z, b.2.2.2]; omega)
        unfold Btw
        rw [P p, P q, show p - 2 * n + 2 * n - 2 * n = p - 2 * n by omega, show q - 2 * n + 2 * n - 2 * n = q - 2 * n by omega]
        exact btw_rot (pos_y i1) (pos_y ⟨a.1, a.2.1⟩) (pos_y i2) (pos_y ⟨b.1, b.2.1⟩) (rd_in i1) (rd_in ⟨a.1, a.2.1⟩) (rd_in i2) (rd_in ⟨b.1, b.2.1⟩) (rd_ne i1 i2 (by omega)) (rd_ne i1 ⟨b.1, b.2.1⟩ z2) (rd_ne ⟨a.1, a.2.1⟩ i2 (by omega)) (rd_ne ⟨a.1, a.2.1⟩ ⟨b.1, b.2.1⟩ z1) this
/-- all below k glued onwards: from k pegs that are left, one by one -/
def gl (n : Int) (s : (Int → Int) × Int) (k : Int) : (Int → Int) × Int := (glue s.1 (2 * n + k) (n + k), s.2 + if s.1 (2 * n + k) = n + k then 1 else 0)
def gls (n : Int) (x y : Int → Int) : Nat → (Int → Int) × Int
  | 0 => (two n x y, 0)
  | j + 1 => gl n (gls n x y j) (n - 1 - j)
theorem Pm.imp {A B : Int → Prop} {ps t : Int → Int} (h : Pm A ps t) (e : ∀ p, B p ↔ A p) : Pm B ps t :=
  ⟨fun p hp => by obtain ⟨a, b⟩ := h.ft p ((e p).mp hp); exact ⟨(e _).mpr a, b⟩, fun p q hp hq => h.nc p q ((e p).mp hp) ((e q).mp hq)⟩
theorem gls_pm {n : Int} {x y : Int → Int} (hn : 0 ≤ n) (hx : Fr n x) (hy : Fr n y) : ∀ j : Nat, (j : Int) ≤ n → Pm (Al n (n - j)) (pos4 n) (gls n x y j).1
  | 0, _ => by
    show Pm (Al n (n - ((0 : Nat) : Int))) (pos4 n) (two n x y)
    have e : n - ((0 : Nat) : Int) = n := by omega
    rw [e]
    exact two_pm hn hx hy
  | j + 1, hj => by
    have ih := gls_pm hn hx hy j (by omega)
    have g := ih.glued (a := 2 * n + (n - 1 - j)) (b := n + (n - 1 - j)) (by unfold Al; omega) (by unfold Al; omega) (by omega) (fun p q hp hq => pos4_inj hp hq) (fun c hc => by
      unfold Al at hc; unfold Btw pos4; grind)
    refine g.imp fun p => ?_
    unfold Al
    omega
def back (n r : Int) : Int := if r < n then r else r - 2 * n
def forth (n p : Int) : Int := if p < n then p else p + 2 * n
/-- what two frames come to, and how many rings fall -/
def comp (n : Int) (x y : Int → Int) (p : Int) : Int := back n ((gls n x y n.toNat).1 (forth n p))
def crings (n : Int) (x y : Int → Int) : Int := (gls n x y n.toNat).2
theorem comp_fr {n : Int} {x y : Int → Int} (hn : 0 ≤ n) (hx : Fr n x) (hy : Fr n y) : Fr n (comp n x y) := by
  have h := gls_pm hn hx hy n.toNat (by omega)
  have e : n - (n.toNat : Int) = 0 := by omega
  rw [e] at h
  unfold comp
  generalize (gls n x y n.toNat).1 = t at h
  have out : ∀ p, 0 ≤ p ∧ p < 2 * n → Al n 0 (forth n p) := fun p hp => by unfold Al forth; grind
  refine ⟨fun p hp => ?_, fun p q hp hq npq ntq => ?_⟩
  · have f := h.ft _ (out p hp)
    have e : forth n (back n (t (forth n p))) = t (forth n p) := by
      have := f.1
      unfold Al at this
      unfold back
      unfold forth at this ⊢
      grind
    rw [e, f.2.2]
    have := f.1
    have := f.2.1
    unfold Al at *
    unfold back forth at *
    grind
  · have f := h.ft _ (out p hp)
    have g := h.ft _ (out q hq)
    have := h.nc _ _ (out p hp) (out q hq) (by unfold forth; grind) (fun z => ntq (by rw [← z]; unfold back forth; grind))
    have a1 := f.1
    have a2 := g.1
    unfold Al at *
    unfold Btw at *
    have e1 : rd n p = pos4 n (forth n p) := by unfold rd pos4 forth; grind
    have e2 : rd n q = pos4 n (forth n q) := by unfold rd pos4 forth; grind
    have e3 : rd n (back n (t (forth n p))) = pos4 n (t (forth n p)) := by unfold rd pos4 back; grind
    have e4 : rd n (back n (t (forth n q))) = pos4 n (t (forth n q)) := by unfold rd pos4 back; grind
    rw [e1, e2, e3, e4]
    exact this
end Rb

set_option Elab.async false
set_option linter.all false
set_option maxRecDepth 100000
set_option maxHeartbeats 4000000
namespace Rb
/-! # what is met on the way; the rings -/
/-- an inner point of a peg from k on -/
def In (n k q : Int) : Prop := (n + k ≤ q ∧ q < 2 * n) ∨ (2 * n + k ≤ q ∧ q < 3 * n)
def cr (n q : Int) : Int := if q < 2 * n then q + n else q - n
def pg (n q : Int) : Int := if q < 2 * n then q - n else q - 2 * n
/-- from a point c along T and across the glued pegs to e -/
inductive Rk (T : Int → Int) (n k : Int) : Int → Int → List Int → Prop
  | stop {c : Int} : ¬ In n k (T c) → Rk T n k c (T c) []
  | go {c e : Int} {ms : List Int} : In n k (T c) → Rk T n k (cr n (T c)) e ms → Rk T n k c e (pg n (T c) :: ms)
/-- one peg more is glued, at which the way doesn't end -/
theorem Rk.down {T : Int → Int} {n k c e : Int} {ms : List Int} (h : Rk T n (k + 1) c e ms) (he : ¬ In n k e) : Rk T n k c e ms := by
  induction h with
  | @stop c h => exact .stop he
  | @go c e ms h r ih => exact .go (by unfold In at *; omega) (ih he)
/-- .. and at which it does -/
theorem Rk.join {T : Int → Int} {n k c e e' : Int} {ms ms' : List Int} (h : Rk T n (k + 1) c e ms) (he : In n k e) (r : Rk T n k (cr n e) e' ms') : Rk T n k c e' (ms ++ pg n e :: ms') := by
  induction h with
  | @stop c h => exact .go he r
  | @go c e ms h r' ih => exact .go (by unfold In at *; omega) (ih he r)
theorem Rk.inner {T : Int → Int} {n k c e : Int} {ms : List Int} (k0 : 0 ≤ k) (h : Rk T n k c e ms) : ∀ i, i ∈ ms → k ≤ i ∧ i < n := by
  induction h with
  | stop h => intro i hi; cases hi
  | @go c e ms h r ih =>
    intro i hi
    rcases List.mem_cons.mp hi with z | z
    · subst z; unfold In at h; unfold pg; grind
    · exact ih i z
/-- what ties i to what, along a way: each neighbour of a met peg is met or an end -/
structure Nbr (T : Int → Int) (n c e : Int) (ms : List Int) : Prop where
  up : ∀ i, i ∈ ms → (T (2 * n + i) = c ∨ T (2 * n + i) = e ∨ ∃ j, j ∈ ms ∧ T (2 * n + i) = 2 * n + j)
  lo : ∀ i, i ∈ ms → (T (n + i) = c ∨ T (n + i) = e ∨ ∃ j, j ∈ ms ∧ T (n + i) = n + j)
  st : T c = e ∨ ∃ j, j ∈ ms ∧ (T c = n + j ∨ T c = 2 * n + j)
/-- ties of two frames side by side -/
structure T2 (n : Int) (T : Int → Int) : Prop where
  inv : ∀ q, 0 ≤ q → q < 4 * n → T (T q) = q
  up : ∀ q, 0 ≤ q → q < 2 * n → 0 ≤ T q ∧ T q < 2 * n
  lo : ∀ q, 2 * n ≤ q → q < 4 * n → 2 * n ≤ T q ∧ T q < 4 * n
theorem Rk.nbr {T : Int → Int} {n k c e : Int} {ms : List Int} (hT : T2 n T) (k0 : 0 ≤ k) (h : Rk T n k c e ms) : 0 ≤ c → c < 4 * n → Nbr T n c e ms := by
  induction h with
  | @stop c h => exact fun _ _ => ⟨fun i hi => (by cases hi), fun i hi => (by cases hi), .inl rfl⟩
  | @go c e ms h r ih =>
    intro c0 c1
    have hj : (T c < 2 * n ∧ T c = n + pg n (T c) ∧ cr n (T c) = 2 * n + pg n (T c)) ∨ (2 * n ≤ T c ∧ T c = 2 * n + pg n (T c) ∧ cr n (T c) = n + pg n (T c)) := by unfold In at h; unfold pg cr; grind
    have hb : 0 ≤ pg n (T c) ∧ pg n (T c) < n := by unfold In at h; unfold pg; grind
    have hi := hT.inv c c0 c1
    have I := r.inner k0
    have q := ih (by omega) (by omega)
    generalize pg n (T c) = j at *
    generalize cr n (T c) = c' at *
    refine ⟨fun i hm => ?_, fun i hm => ?_, .inr ⟨j, List.mem_cons_self, by omega⟩⟩
    · have bi : 0 ≤ i ∧ i < n := by
        rcases List.mem_cons.mp hm with z | z
        · omega
        · have := I i z; omega
      have u := hT.lo (2 * n + i) (by omega) (by omega)
      rcases List.mem_cons.mp hm with z | z
      · subst z
        rcases hj with ⟨h1, h2, h3⟩ | ⟨h1, h2, h3⟩
        · rw [← h3] at u ⊢
          rcases q.st with s | ⟨j', m, s⟩
          · exact .inr (.inl s)
          · have := I j' m
            exact .inr (.inr ⟨j', List.mem_cons_of_mem _ m, by omega⟩)
        · rw [← h2]; exact .inl hi
      · rcases q.up i z with s | s | ⟨j', m, s⟩
        · exact .inr (.inr ⟨j, List.mem_cons_self, by omega⟩)
        · exact .inr (.inl s)
        · exact .inr (.inr ⟨j', List.mem_cons_of_mem _ m, s⟩)
    · have bi : 0 ≤ i ∧ i < n := by
        rcases List.mem_cons.mp hm with z | z
        · omega
        · have := I i z; omega
      have u := hT.up (n + i) (by omega) (by omega)
      rcases List.mem_cons.mp hm with z | z
      · subst z
        rcases hj with ⟨h1, h2, h3⟩ | ⟨h1, h2, h3⟩
        · rw [← h2]; exact .inl hi
        · rw [← h3] at u ⊢
          rcases q.st with s | ⟨j', m, s⟩
          · exact .inr (.inl s)
          · have := I j' m
            exact .inr (.inr ⟨j', List.mem_cons_of_mem _ m, by omega⟩)
      · rcases q.lo i z with s | s | ⟨j', m, s⟩
        · exact .inr (.inr ⟨j, List.mem_cons_self, by omega⟩)
        · exact .inr (.inl s)
        · exact .inr (.inr ⟨j', List.mem_cons_of_mem _ m, s⟩)
/-- linked by f and g -/
inductive Con (f g : Int → Int) : Int → Int → Prop
  | refl {i : Int} : Con f g i i
  | f {i j : Int} : Con f g i j → Con f g i (f j)
  | g {i j : Int} : Con f g i j → Con f g i (g j)
theorem Con.trans {f g : Int → Int} {i j l : Int} (h : Con f g i j) (r : Con f g j l) : Con f g i l := by
  induction r with
  | refl => exact h
  | f _ ih => exact ih.f
  | g _ ih => exact ih.g
def fT (T : Int → Int) (n i : Int) : Int := T (2 * n + i) - 2 * n
def gT (T : Int → Int) (n i : Int) : Int := T (n + i) - n
theorem Rk.con {T : Int → Int} {n k c e : Int} {ms : List Int} (hT : T2 n T) (k0 : 0 ≤ k) (h : Rk T n k c e ms) : ∀ i0, 0 ≤ i0 → i0 < n → (c = n + i0 ∨ c = 2 * n + i0) → ∀ i, i ∈ ms → Con (fT T n) (gT T n) i0 i := by
  induction h with
  | @stop c h => intro i0 _ _ _ i hi; cases hi
  | @go c e ms h r ih =>
    intro i0 b0 b1 hc i hm
    have hj : (T c < 2 * n ∧ T c = n + pg n (T c) ∧ cr n (T c) = 2 * n + pg n (T c)) ∨ (2 * n ≤ T c ∧ T c = 2 * n + pg n (T c) ∧ cr n (T c) = n + pg n (T c)) := by unfold In at h; unfold pg cr; grind
    have hb : 0 ≤ pg n (T c) ∧ pg n (T c) < n := by unfold In at h; unfold pg; grind
    have IH := ih (pg n (T c)) hb.1 hb.2 (by omega)
    generalize pg n (T c) = j at *
    have one : Con (fT T n) (gT T n) i0 j := by
      rcases hc with z | z
      · subst z
        have u := hT.up (n + i0) (by omega) (by omega)
        have e : j = gT T n i0 := by unfold gT; omega
        rw [e]; exact .g .refl
      · subst z
        have u := hT.lo (2 * n + i0) (by omega) (by omega)
        have e : j = fT T n i0 := by unfold fT; omega
        rw [e]; exact .f .refl
    rcases List.mem_cons.mp hm with z | z
    · subst z; exact one
    · exact one.trans (IH i z)
/-- so many rings among the pegs D -/
inductive Cnt (f g : Int → Int) : (Int → Prop) → Int → Prop
  | nil {D : Int → Prop} : (∀ i, ¬ D i) → Cnt f g D 0
  | ring {D D' W : Int → Prop} {r c : Int} : W r → (∀ i, W i → D i ∧ W (f i) ∧ W (g i) ∧ Con f g r i) → (∀ i, D' i ↔ D i ∧ ¬ W i) → Cnt f g D' c → Cnt f g D (c + 1)
theorem Cnt.imp {f g : Int → Int} {D E : Int → Prop} {c : Int} (h : Cnt f g D c) (e : ∀ i, D i ↔ E i) : Cnt f g E c := by
  have : D = E := funext fun i => propext (e i)
  rw [← this]; exact h
end Rb

set_option Elab.async false
set_option linter.all false
set_option maxRecDepth 100000
set_option maxHeartbeats 4000000
namespace Rb
/-! # what stands when the pegs from k on are glued -/
structure Gs (T : Int → Int) (n k : Int) (t : Int → Int) (P : Int → List Int) (c : Int) : Prop where
  ft : ∀ p, Al n k p → Al n k (t p) ∧ t p ≠ p ∧ t (t p) = p
  rk : ∀ p, Al n k p → Rk T n k p (t p) (P p)
  nd : ∀ p, Al n k p → (P p).Nodup
  rev : ∀ p, Al n k p → ∀ i, i ∈ P (t p) ↔ i ∈ P p
  dj : ∀ p q, Al n k p → Al n k q → q ≠ p → q ≠ t p → ∀ i, i ∈ P p → i ∉ P q
  cnt : Cnt (fT T n) (gT T n) (fun i => k ≤ i ∧ i < n ∧ ∀ p, Al n k p → i ∉ P p) c
theorem al_not_in {n k p : Int} (h : Al n k p) : ¬ In n k p := by unfold Al at h; unfold In; omega
theorem Gs.start {T : Int → Int} {n : Int} (hn : 0 ≤ n) (hT : T2 n T) (hne : ∀ q, 0 ≤ q → q < 4 * n → T q ≠ q) : Gs T n n T (fun _ => []) 0 := by
  have tb : ∀ q, 0 ≤ q → q < 4 * n → 0 ≤ T q ∧ T q < 4 * n := fun q a b => by
    by_cases c : q < 2 * n
    · have := hT.up q a c; omega
    · have := hT.lo q (by omega) b; omega
  refine ⟨fun p hp => ?_, fun p hp => .stop ?_, fun p hp => .nil, fun p hp i => Iff.rfl, fun p q hp hq _ _ i hi => (by cases hi), .nil fun i hi => by omega⟩
  · unfold Al at hp
    have a := tb p (by omega) (by omega)
    exact ⟨by unfold Al; omega, hne p (by omega) (by omega), hT.inv p (by omega) (by omega)⟩
  · unfold In; omega
theorem Gs.step {T t : Int → Int} {n k c : Int} {P : Int → List Int} (hT : T2 n T) (k0 : 0 ≤ k) (k1 : k < n) (h : Gs T n (k + 1) t P c) :
    ∃ P', Gs T n k (glue t (2 * n + k) (n + k)) P' (c + if t (2 * n + k) = n + k then 1 else 0) := by
  have aA : Al n (k + 1) (2 * n + k) := by unfold Al; omega
  have bA : Al n (k + 1) (n + k) := by unfold Al; omega
  have ab : 2 * n + k ≠ n + k := by omega
  have inA : In n k (2 * n + k) := by unfold In; omega
  have inB : In n k (n + k) := by unfold In; omega
  have crA : cr n (2 * n + k) = n + k := by unfold cr; rw [if_neg (by omega)]; omega
  have crB : cr n (n + k) = 2 * n + k := by unfold cr; rw [if_pos (by omega)]; omega
  have pgA : pg n (2 * n + k) = k := by unfold pg; rw [if_neg (by omega)]; omega
  have pgB : pg n (n + k) = k := by unfold pg; rw [if_pos (by omega)]; omega
  have split : ∀ p, Al n k p ↔ Al n (k + 1) p ∧ p ≠ 2 * n + k ∧ p ≠ n + k := fun p => by unfold Al; omega
  have nin : ∀ p, Al n (k + 1) p → p ≠ 2 * n + k → p ≠ n + k → ¬ In n k p := fun p hp x y => al_not_in ((split p).mpr ⟨hp, x, y⟩)
  have kno : ∀ p, Al n (k + 1) p → k ∉ P p := fun p hp z => by have := (h.rk p hp).inner (by omega) k z; omega
  have fa := h.ft _ aA
  have fb := h.ft _ bA
  generalize ha : 2 * n + k = a at *
  generalize hb : n + k = b at *
  by_cases ct : t a = b
  · have et : glue t a b = t := by funext p; unfold glue; rw [if_pos ct]
    rw [et, if_pos ct]
    have tba : t b = a := by rw [← ct]; exact fa.2.2
    have ne : ∀ p, Al n k p → t p ≠ a ∧ t p ≠ b := fun p hp => by
      have q := (split p).mp hp
      have f := h.ft p q.1
      refine ⟨fun z => q.2.2 ?_, fun z => q.2.1 ?_⟩
      · rw [← f.2.2, z, ct]
      · rw [← f.2.2, z, tba]
    refine ⟨P, fun p hp => ?_, fun p hp => ?_, fun p hp => h.nd p ((split p).mp hp).1, fun p hp => h.rev p ((split p).mp hp).1, fun p q hp hq => h.dj p q ((split p).mp hp).1 ((split q).mp hq).1, ?_⟩
    · have f := h.ft p ((split p).mp hp).1
      exact ⟨(split _).mpr ⟨f.1, ne p hp⟩, f.2⟩
    · have f := h.ft p ((split p).mp hp).1
      exact (h.rk p ((split p).mp hp).1).down (nin _ f.1 (ne p hp).1 (ne p hp).2)
    · have ra := h.rk a aA
      rw [ct] at ra
      have N := ra.nbr hT (by omega) (by omega) (by omega)
      have I := ra.inner (by omega)
      have C := ra.con hT (by omega) k k0 k1 (by omega)
      refine .ring (W := fun i => i = k ∨ i ∈ P a) (r := k) (.inl rfl) (fun i hi => ⟨⟨?_, ?_, fun p hp => ?_⟩, ?_, ?_, ?_⟩) (fun i => ?_) h.cnt
      · rcases hi with z | z
        · omega
        · have := I i z; omega
      · rcases hi with z | z
        · omega
        · have := I i z; omega
      · have q := (split p).mp hp
        rcases hi with z | z
        · rw [z]; exact kno p q.1
        · exact h.dj a p aA q.1 q.2.1 (by rw [ct]; exact q.2.2) i z
      · rcases hi with z | z
        · subst z
          have u := hT.lo a (by omega) (by omega)
          have e : fT T n i = T a - 2 * n := by unfold fT; rw [ha]
          rcases N.st with s | ⟨j, m, s⟩
          · omega
          · right
            have := I j m
            have : fT T n i = j := by omega
            rw [this]; exact m
        · have b1 := I i z
          have u := hT.lo (2 * n + i) (by omega) (by omega)
          rcases N.up i z with s | s | ⟨j, m, s⟩
          · left; unfold fT; omega
          · omega
          · right
            have : fT T n i = j := by unfold fT; omega
            rw [this]; exact m
      · rcases hi with z | z
        · subst z
          have u := hT.up b (by omega) (by omega)
          have e : gT T n i = T b - n := by unfold gT; rw [hb]
          -- the last peg met before b
          have rb := h.rk b bA
          rw [tba] at rb
          have Nb := rb.nbr hT (by omega) (by omega) (by omega)
          have Ib := rb.inner (by omega)
          rcases Nb.st with s | ⟨j, m, s⟩
          · omega
          · right
            have := Ib j m
            have e2 : gT T n i = j := by omega
            rw [e2]
            exact (h.rev a aA j).mp (by rw [ct]; exact m)
        · have b1 := I i z
          have u := hT.up (n + i) (by omega) (by omega)
          rcases N.lo i z with s | s | ⟨j, m, s⟩
          · omega
          · left; unfold gT; omega
          · right
            have : gT T n i = j := by unfold gT; omega
            rw [this]; exact m
      · rcases hi with z | z
        · rw [z]; exact .refl
        · exact C i z
      · constructor
        · rintro ⟨x, y, z⟩
          refine ⟨⟨by omega, y, fun p hp => z p ((split p).mp hp).1⟩, fun w => ?_⟩
          rcases w with w | w
          · omega
          · exact z a aA w
        · rintro ⟨⟨x, y, z⟩, w⟩
          refine ⟨by have : i ≠ k := fun e => w (.inl e); omega, y, fun p hp m => ?_⟩
          by_cases pa : p = a
          · subst pa; exact w (.inr m)
          · by_cases pb : p = b
            · subst pb
              have := (h.rev a aA i).mp (by rw [ct]; exact m)
              exact w (.inr this)
            · exact z p ((split p).mpr ⟨hp, pa, pb⟩) m
  · have et : ∀ p, glue t a b p = if p = t a then t b else if p = t b then t a else t p := fun p => by unfold glue; rw [if_neg ct]
    rw [if_neg ct, Int.add_zero]
    have tab : t a ≠ t b := fun z => ab (by rw [← fa.2.2, z, fb.2.2])
    have tbna : t b ≠ a := fun z => ct (by rw [← z]; exact fb.2.2)
    let P' : Int → List Int := fun p => if p = t a then P p ++ k :: P b else if p = t b then P p ++ k :: P a else P p
    have e1 : P' (t a) = P (t a) ++ k :: P b := if_pos rfl
    have e2 : P' (t b) = P (t b) ++ k :: P a := by show (if t b = t a then _ else if t b = t b then _ else _) = _; rw [if_neg (Ne.symm tab), if_pos rfl]
    have e3 : ∀ p, p ≠ t a → p ≠ t b → P' p = P p := fun p x y => by show (if p = t a then _ else if p = t b then _ else _) = _; rw [if_neg x, if_neg y]
    have g1 : glue t a b (t a) = t b := by rw [et, if_pos rfl]
    have g2 : glue t a b (t b) = t a := by rw [et, if_neg (Ne.symm tab), if_pos rfl]
    have g3 : ∀ p, p ≠ t a → p ≠ t b → glue t a b p = t p := fun p x y => by rw [et, if_neg x, if_neg y]
    have ta : Al n k (t a) := (split _).mpr ⟨fa.1, fa.2.1, ct⟩
    have tb : Al n k (t b) := (split _).mpr ⟨fb.1, tbna, fb.2.1⟩
    have other : ∀ p, Al n k p → p ≠ t a → p ≠ t b → t p ≠ a ∧ t p ≠ b ∧ t p ≠ t a ∧ t p ≠ t b := fun p hp x y => by
      have q := (split p).mp hp
      have f := h.ft p q.1
      refine ⟨fun z => x ?_, fun z => y ?_, fun z => q.2.1 ?_, fun z => q.2.2 ?_⟩
      · rw [← z, f.2.2]
      · rw [← z, f.2.2]
      · rw [← f.2.2, z, fa.2.2]
      · rw [← f.2.2, z, fb.2.2]
    have mA : ∀ i, i ∈ P' (t a) ↔ i ∈ P a ∨ i = k ∨ i ∈ P b := fun i => by rw [e1, List.mem_append, List.mem_cons, h.rev a aA]
    have mB : ∀ i, i ∈ P' (t b) ↔ i ∈ P b ∨ i = k ∨ i ∈ P a := fun i => by rw [e2, List.mem_append, List.mem_cons, h.rev b bA]
    have dAB : ∀ i, i ∈ P a → i ∉ P b := h.dj a b aA bA (Ne.symm ab) (fun z => ct z.symm)
    have dO : ∀ p, Al n k p → p ≠ t a → p ≠ t b → ∀ i, i ∈ P p → i ∉ P a ∧ i ≠ k ∧ i ∉ P b := fun p hp x y i hi => by
      have q := (split p).mp hp
      have o := other p hp x y
      exact ⟨h.dj p a q.1 aA (Ne.symm q.2.1) (Ne.symm o.1) i hi, fun z => kno p q.1 (z ▸ hi), h.dj p b q.1 bA (Ne.symm q.2.2) (Ne.symm o.2.1) i hi⟩
    refine ⟨P', fun p hp => ?_, fun p hp => ?_, fun p hp => ?_, fun p hp => ?_, fun p q hp hq nq nt i hi hi2 => ?_, h.cnt.imp fun i => ?_⟩
    · by_cases p1 : p = t a
      · subst p1; rw [g1, g2]; exact ⟨tb, Ne.symm tab, rfl⟩
      · by_cases p2 : p = t b
        · subst p2; rw [g2, g1]; exact ⟨ta, tab, rfl⟩
        · have o := other p hp p1 p2
          have f := h.ft p ((split p).mp hp).1
          rw [g3 p p1 p2, g3 (t p) o.2.2.1 o.2.2.2]
          exact ⟨(split _).mpr ⟨f.1, o.1, o.2.1⟩, f.2⟩
    · by_cases p1 : p = t a
      · subst p1; rw [g1, e1]
        have r := h.rk (t a) fa.1
        rw [fa.2.2] at r
        have := r.join inA (by rw [crA]; exact (h.rk b bA).down (nin _ fb.1 tbna fb.2.1))
        rw [pgA] at this
        exact this
      · by_cases p2 : p = t b
        · subst p2; rw [g2, e2]
          have r := h.rk (t b) fb.1
          rw [fb.2.2] at r
          have := r.join inB (by rw [crB]; exact (h.rk a aA).down (nin _ fa.1 fa.2.1 ct))
          rw [pgB] at this
          exact this
        · have o := other p hp p1 p2
          rw [g3 p p1 p2, e3 p p1 p2]
          have q := (split p).mp hp
          exact (h.rk p q.1).down (nin _ (h.ft p q.1).1 o.1 o.2.1)
    · by_cases p1 : p = t a
      · subst p1; rw [e1]
        refine List.nodup_append.mpr ⟨h.nd _ fa.1, List.nodup_cons.mpr ⟨kno b bA, h.nd b bA⟩, fun i hi j hj e => ?_⟩
        subst e
        rw [h.rev a aA] at hi
        rcases List.mem_cons.mp hj with z | z
        · exact kno a aA (z ▸ hi)
        · exact dAB i hi z
      · by_cases p2 : p = t b
        · subst p2; rw [e2]
          refine List.nodup_append.mpr ⟨h.nd _ fb.1, List.nodup_cons.mpr ⟨kno a aA, h.nd a aA⟩, fun i hi j hj e => ?_⟩
          subst e
          rw [h.rev b bA] at hi
          rcases List.mem_cons.mp hj with z | z
          · exact kno b bA (z ▸ hi)
          · exact dAB i z hi
        · rw [e3 p p1 p2]; exact h.nd p ((split p).mp hp).1
    · intro i
      by_cases p1 : p = t a
      · subst p1; rw [g1, mB, mA]; grind
      · by_cases p2 : p = t b
        · subst p2; rw [g2, mA, mB]; grind
        · have o := other p hp p1 p2
          rw [g3 p p1 p2, e3 p p1 p2, e3 (t p) o.2.2.1 o.2.2.2]
          exact h.rev p ((split p).mp hp).1 i
    · by_cases p1 : p = t a
      · subst p1
        rw [g1] at nt
        rw [e3 q nq nt] at hi2
        have := dO q hq nq nt i hi2
        rcases (mA i).mp hi with z | z | z
        · exact this.1 z
        · exact this.2.1 z
        · exact this.2.2 z
      · by_cases p2 : p = t b
        · subst p2
          rw [g2] at nt
          rw [e3 q nt nq] at hi2
          have := dO q hq nt nq i hi2
          rcases (mB i).mp hi with z | z | z
          · exact this.2.2 z
          · exact this.2.1 z
          · exact this.1 z
        · rw [g3 p p1 p2] at nt
          rw [e3 p p1 p2] at hi
          have D := dO p hp p1 p2 i hi
          by_cases q1 : q = t a
          · subst q1
            rcases (mA i).mp hi2 with z | z | z
            · exact D.1 z
            · exact D.2.1 z
            · exact D.2.2 z
          · by_cases q2 : q = t b
            · subst q2
              rcases (mB i).mp hi2 with z | z | z
              · exact D.2.2 z
              · exact D.2.1 z
              · exact D.1 z
            · rw [e3 q q1 q2] at hi2
              exact h.dj p q ((split p).mp hp).1 ((split q).mp hq).1 nq nt i hi hi2
    · constructor
      · rintro ⟨x, y, z⟩
        refine ⟨by omega, y, fun p hp m => ?_⟩
        by_cases p1 : p = t a
        · subst p1
          rcases (mA i).mp m with w | w | w
          · exact z a aA w
          · omega
          · exact z b bA w
        · by_cases p2 : p = t b
          · subst p2
            rcases (mB i).mp m with w | w | w
            · exact z b bA w
            · omega
            · exact z a aA w
          · rw [e3 p p1 p2] at m
            exact z p ((split p).mp hp).1 m
      · rintro ⟨x, y, z⟩
        have zA := z _ ta
        rw [mA] at zA
        have nk : i ≠ k := fun e => zA (.inr (.inl e))
        refine ⟨by omega, y, fun p hp m => ?_⟩
        by_cases pa : p = a
        · subst pa; exact zA (.inl m)
        · by_cases pb : p = b
          · subst pb; exact zA (.inr (.inr m))
          · have hp' := (split p).mpr ⟨hp, pa, pb⟩
            by_cases p1 : p = t a
            · subst p1; exact zA (.inl ((h.rev a aA i).mp m))
            · by_cases p2 : p = t b
              · subst p2; exact zA (.inr (.inr ((h.rev b bA i).mp m)))
              · exact z p hp' (by rw [e3 p p1 p2]; exact m)
end Rb

set_option Elab.async false
set_option linter.all false
set_option maxRecDepth 100000
set_option maxHeartbeats 4000000
namespace Rb
/-! # two frames, one under the other -/
theorem nodup_le : ∀ {l m : List Int}, l.Nodup → (∀ i, i ∈ l → i ∈ m) → l.length ≤ m.length
  | [], m, _, _ => Nat.zero_le _
  | a :: l, m, h, hs => by
    have ha := hs a List.mem_cons_self
    obtain ⟨h1, h2⟩ := List.nodup_cons.mp h
    have := nodup_le (l := l) (m := m.erase a) h2 fun i hi => by
      refine (List.mem_erase_of_ne ?_).mpr (hs i (List.mem_cons_of_mem _ hi))
      rintro rfl; exact h1 hi
    rw [List.length_erase_of_mem ha] at this
    have : 0 < m.length := List.length_pos_of_mem ha
    rw [List.length_cons]
    omega
theorem nodup_rng {l : List Int} {n : Int} (h : l.Nodup) (hs : ∀ i, i ∈ l → 0 ≤ i ∧ i < n) : l.length ≤ n.toNat := by
  have := nodup_le (m := rng 0 n) h fun i hi => mem_rng.mpr (hs i hi)
  rw [rng_len, Int.sub_zero] at this
  exact this
theorem Con.congr {f g f' g' : Int → Int} {W : Int → Prop} {r i : Int} (hr : W r) (hW : ∀ i, W i → W (f i) ∧ W (g i) ∧ f i = f' i ∧ g i = g' i) (h : Con f g r i) : W i ∧ Con f' g' r i := by
  induction h with
  | refl => exact ⟨hr, .refl⟩
  | f _ ih =>
    have := hW _ ih.1
    exact ⟨this.1, this.2.2.1 ▸ ih.2.f⟩
  | g _ ih =>
    have := hW _ ih.1
    exact ⟨this.2.1, this.2.2.2 ▸ ih.2.g⟩
theorem Cnt.congr {f g f' g' : Int → Int} {D : Int → Prop} {c : Int} (h : Cnt f g D c) : (∀ i, D i → f i = f' i ∧ g i = g' i) → Cnt f' g' D c := by
  induction h with
  | nil h => intro _; exact .nil h
  | ring hr hw hd _ ih =>
    intro e
    refine .ring hr (fun i hi => ?_) hd (ih fun i hi => e i ((hd i).mp hi).1)
    have q := hw i hi
    have e' := e i q.1
    exact ⟨q.1, e'.1 ▸ q.2.1, e'.2 ▸ q.2.2.1, (q.2.2.2.congr hr fun j hj => ⟨(hw j hj).2.1, (hw j hj).2.2.1, e j (hw j hj).1⟩).2⟩
/-- f and g exchange the pegs of D by twos -/
structure Inv2 (f g : Int → Int) (D : Int → Prop) : Prop where
  f : ∀ i, D i → D (f i) ∧ f i ≠ i ∧ f (f i) = i
  g : ∀ i, D i → D (g i) ∧ g i ≠ i ∧ g (g i) = i
theorem Con.mem {f g : Int → Int} {W : Int → Prop} {i j : Int} (h : Con f g i j) (hi : W i) (hW : ∀ i, W i → W (f i) ∧ W (g i)) : W j := by
  induction h with
  | refl => exact hi
  | f _ ih => exact (hW _ ih).1
  | g _ ih => exact (hW _ ih).2
theorem Con.symm {f g : Int → Int} {D : Int → Prop} {i j : Int} (v : Inv2 f g D) (h : Con f g i j) (hi : D i) : Con f g j i := by
  induction h with
  | refl => exact .refl
  | @f j h ih =>
    have dj : D j := h.mem hi fun i hi => ⟨(v.f i hi).1, (v.g i hi).1⟩
    have e := (v.f j dj).2.2
    have : Con f g (f j) (f (f j)) := .f .refl
    rw [e] at this
    exact this.trans ih
  | @g j h ih =>
    have dj : D j := h.mem hi fun i hi => ⟨(v.f i hi).1, (v.g i hi).1⟩
    have e := (v.g j dj).2.2
    have : Con f g (g j) (g (g j)) := .g .refl
    rw [e] at this
    exact this.trans ih
/-- a ring: r and all that is linked to it -/
structure Ring (f g : Int → Int) (D W : Int → Prop) (r0 : Int) : Prop where
  r : W r0
  all : ∀ i, W i → D i ∧ W (f i) ∧ W (g i) ∧ Con f g r0 i
theorem Ring.same {f g : Int → Int} {D W V : Int → Prop} {r s i : Int} (v : Inv2 f g D) (a : Ring f g D W r) (b : Ring f g D V s) (h1 : W i) (h2 : V i) (j : Int) (hj : W j) : V j := by
  have c1 := (a.all i h1).2.2.2
  have c2 := (a.all j hj).2.2.2
  exact ((c1.symm v (a.all r a.r).1).trans c2).mem h2 fun k hk => ⟨(b.all k hk).2.1, (b.all k hk).2.2.1⟩
theorem Inv2.less {f g : Int → Int} {D W D' : Int → Prop} {r : Int} (v : Inv2 f g D) (a : Ring f g D W r) (hd : ∀ i, D' i ↔ D i ∧ ¬ W i) : Inv2 f g D' := by
  refine ⟨fun i hi => ?_, fun i hi => ?_⟩
  · obtain ⟨h1, h2⟩ := (hd i).mp hi
    have q := v.f i h1
    refine ⟨(hd _).mpr ⟨q.1, fun z => h2 ?_⟩, q.2⟩
    have := (a.all _ z).2.1
    rw [q.2.2] at this; exact this
  · obtain ⟨h1, h2⟩ := (hd i).mp hi
    have q := v.g i h1
    refine ⟨(hd _).mpr ⟨q.1, fun z => h2 ?_⟩, q.2⟩
    have := (a.all _ z).2.2.1
    rw [q.2.2] at this; exact this
/-- whichever ring is taken off, one less is left -/
theorem Cnt.less {f g : Int → Int} {D : Int → Prop} {c : Int} (h : Cnt f g D c) : Inv2 f g D → ∀ {V D' : Int → Prop} {s : Int}, Ring f g D V s → (∀ i, D' i ↔ D i ∧ ¬ V i) → Cnt f g D' (c - 1) := by
  induction h with
  | nil h => intro v V D' s b hd; exact absurd (b.all s b.r).1 (h s)
  | @ring D D1 W r c hr hw hd1 h1 ih =>
    intro v V D' s b hd
    have a : Ring f g D W r := ⟨hr, hw⟩
    have e : c + 1 - 1 = c := by omega
    rw [e]
    by_cases m : ∃ i, W i ∧ V i
    · obtain ⟨i, m1, m2⟩ := m
      refine h1.imp fun j => ?_
      rw [hd1, hd]
      exact ⟨fun z => ⟨z.1, fun w => z.2 (b.same v a m2 m1 j w)⟩, fun z => ⟨z.1, fun w => z.2 (a.same v b m1 m2 j w)⟩⟩
    · have nm : ∀ i, W i → ¬ V i := fun i h1 h2 => m ⟨i, h1, h2⟩
      have b1 : Ring f g D1 V s := ⟨b.r, fun i hi => ⟨(hd1 i).mpr ⟨(b.all i hi).1, fun w => nm i w hi⟩, (b.all i hi).2⟩⟩
      have q := ih (v.less a hd1) b1 (D' := fun i => D1 i ∧ ¬ V i) (fun i => Iff.rfl)
      have e2 : c = c - 1 + 1 := by omega
      rw [e2]
      refine .ring (W := W) hr (fun i hi => ⟨(hd i).mpr ⟨(hw i hi).1, nm i hi⟩, (hw i hi).2⟩) (fun i => ?_) q
      show D1 i ∧ ¬ V i ↔ _
      rw [hd1, hd]
      exact ⟨fun z => ⟨⟨z.1.1, z.2⟩, z.1.2⟩, fun z => ⟨⟨z.1.1, z.2⟩, z.1.2⟩⟩
theorem Cnt.zero {f g : Int → Int} {D : Int → Prop} {c : Int} (h : Cnt f g D c) (hn : ∀ i, ¬ D i) : c = 0 := by
  cases h with
  | nil _ => rfl
  | ring hr hw _ _ => exact absurd (hw _ hr).1 (hn _)
/-! ## the ways of two frames -/
theorem two_t2 {n : Int} {x y : Int → Int} (hx : FT (2 * n) x) (hy : FT (2 * n) y) : T2 n (two n x y) := by
  refine ⟨fun q a b => ?_, fun q a b => ?_, fun q a b => ?_⟩
  · by_cases c : q < 2 * n
    · have := hx q a c; unfold two; grind
    · have := hy (q - 2 * n) (by omega) (by omega); unfold two; grind
  · have := hx q a b; unfold two; grind
  · have := hy (q - 2 * n) (by omega) (by omega); unfold two; grind
theorem two_ne {n : Int} {x y : Int → Int} (hx : FT (2 * n) x) (hy : FT (2 * n) y) (q : Int) (a : 0 ≤ q) (b : q < 4 * n) : two n x y q ≠ q := by
  by_cases c : q < 2 * n
  · have := hx q a c; unfold two; grind
  · have := hy (q - 2 * n) (by omega) (by omega); unfold two; grind
theorem gls_gs {n : Int} {x y : Int → Int} (hn : 0 ≤ n) (hx : FT (2 * n) x) (hy : FT (2 * n) y) : ∀ j : Nat, (j : Int) ≤ n → ∃ P, Gs (two n x y) n (n - j) (gls n x y j).1 P (gls n x y j).2
  | 0, _ => by
    have e : n - ((0 : Nat) : Int) = n := by omega
    rw [e]
    exact ⟨_, Gs.start hn (two_t2 hx hy) (two_ne hx hy)⟩
  | j + 1, hj => by
    obtain ⟨P, h⟩ := gls_gs hn hx hy j (by omega)
    have e : n - (j : Int) = (n - 1 - j) + 1 := by omega
    have e2 : n - ((j + 1 : Nat) : Int) = n - 1 - j := by omega
    rw [e] at h
    rw [e2]
    exact h.step (two_t2 hx hy) (by omega) (by omega)
theorem Rk.runs {n c e : Int} {x y : Int → Int} {ms : List Int} (hx : FT (2 * n) x) (hy : FT (2 * n) y) (h : Rk (two n x y) n 0 c e ms) : (0 ≤ c → c < 2 * n → Runs x y n false c (back n e) ms) ∧ (2 * n ≤ c → c < 4 * n → Runs x y n true (c - 2 * n) (back n e) ms) := by
  induction h with
  | @stop c h =>
    refine ⟨fun c0 c1 => ?_, fun c0 c1 => ?_⟩
    · have a := hx c c0 c1
      have e : two n x y c = x c := if_pos c1
      rw [e] at h ⊢
      have l : x c < n := by unfold In at h; omega
      have : back n (x c) = x c := if_pos l
      rw [this]
      exact .stopU l
    · have a := hy (c - 2 * n) (by omega) (by omega)
      have e : two n x y c = y (c - 2 * n) + 2 * n := if_neg (by omega)
      rw [e] at h ⊢
      have l : n ≤ y (c - 2 * n) := by unfold In at h; omega
      have : back n (y (c - 2 * n) + 2 * n) = y (c - 2 * n) := by unfold back; rw [if_neg (by omega)]; omega
      rw [this]
      exact .stopL l
  | @go c e ms h r ih =>
    refine ⟨fun c0 c1 => ?_, fun c0 c1 => ?_⟩
    · have a := hx c c0 c1
      have e : two n x y c = x c := if_pos c1
      rw [e] at h ih ⊢
      have l : n ≤ x c := by unfold In at h; omega
      have e1 : cr n (x c) = x c + n := if_pos (by omega)
      have e2 : pg n (x c) = x c - n := if_pos (by omega)
      rw [e1] at ih
      rw [e2]
      have q := ih.2 (by omega) (by omega)
      have e3 : x c + n - 2 * n = x c - n := by omega
      rw [e3] at q
      exact .goU l q
    · have a := hy (c - 2 * n) (by omega) (by omega)
      have e : two n x y c = y (c - 2 * n) + 2 * n := if_neg (by omega)
      rw [e] at h ih ⊢
      have l : y (c - 2 * n) < n := by unfold In at h; omega
      have e1 : cr n (y (c - 2 * n) + 2 * n) = y (c - 2 * n) + n := by unfold cr; rw [if_neg (by omega)]; omega
      have e2 : pg n (y (c - 2 * n) + 2 * n) = y (c - 2 * n) := by unfold pg; rw [if_neg (by omega)]; omega
      rw [e1] at ih
      rw [e2]
      exact .goL l (ih.1 (by omega) (by omega))
theorem comp_ok {n : Int} {x y : Int → Int} (hn : 0 ≤ n) (hx : FT (2 * n) x) (hy : FT (2 * n) y) : ∃ P : Int → List Int,
    (∀ p, 0 ≤ p → p < 2 * n → Runs x y n (decide (p ≥ n)) p (comp n x y p) (P p) ∧ (P p).length ≤ n.toNat ∧ ∀ i, i ∈ P p → 0 ≤ i ∧ i < n) ∧
    FT (2 * n) (comp n x y) ∧ Inv2 y (fun i => x (n + i) - n) (fun i => 0 ≤ i ∧ i < n ∧ ∀ p, 0 ≤ p → p < 2 * n → i ∉ P p) ∧
    Cnt y (fun i => x (n + i) - n) (fun i => 0 ≤ i ∧ i < n ∧ ∀ p, 0 ≤ p → p < 2 * n → i ∉ P p) (crings n x y) := by
  obtain ⟨P, G⟩ := gls_gs hn hx hy n.toNat (by omega)
  have e : n - (n.toNat : Int) = 0 := by omega
  rw [e] at G
  have out : ∀ p, 0 ≤ p → p < 2 * n → Al n 0 (forth n p) := fun p a b => by unfold Al forth; grind
  have dd : ∀ i, (0 ≤ i ∧ i < n ∧ ∀ p, Al n 0 p → i ∉ P p) ↔ (0 ≤ i ∧ i < n ∧ ∀ p, 0 ≤ p → p < 2 * n → i ∉ P (forth n p)) := fun i => by
    refine ⟨fun h => ⟨h.1, h.2.1, fun p a b => h.2.2 _ (out p a b)⟩, fun h => ⟨h.1, h.2.1, fun p hp => ?_⟩⟩
    unfold Al at hp
    by_cases c : p < n
    · have := h.2.2 p (by omega) (by omega)
      unfold forth at this; rw [if_pos c] at this; exact this
    · have := h.2.2 (p - 2 * n) (by omega) (by omega)
      unfold forth at this; rw [if_neg (by omega)] at this
      have e : p - 2 * n + 2 * n = p := by omega
      rw [e] at this; exact this
  have ff : ∀ i, 0 ≤ i → i < n → fT (two n x y) n i = y i ∧ gT (two n x y) n i = x (n + i) - n := fun i a b => by
    unfold fT gT two
    rw [if_neg (by omega), if_pos (by omega)]
    have e : 2 * n + i - 2 * n = i := by omega
    rw [e]
    exact ⟨by omega, rfl⟩
  have run : ∀ p, 0 ≤ p → p < 2 * n → Runs x y n (decide (p ≥ n)) p (comp n x y p) (P (forth n p)) := fun p a b => by
    have r := (G.rk _ (out p a b)).runs hx hy
    unfold comp
    by_cases c : p < n
    · have e : forth n p = p := if_pos c
      rw [decide_eq_false (by omega)]
      rw [e] at r ⊢
      exact r.1 a b
    · have e : forth n p = p + 2 * n := if_neg c
      rw [decide_eq_true (by omega)]
      rw [e] at r ⊢
      have q := r.2 (by omega) (by omega)
      have e2 : p + 2 * n - 2 * n = p := by omega
      rw [e2] at q
      exact q
  have inn : ∀ p, 0 ≤ p → p < 2 * n → ∀ i, i ∈ P (forth n p) → 0 ≤ i ∧ i < n := fun p a b i hi => (G.rk _ (out p a b)).inner (by omega) i hi
  refine ⟨fun p => P (forth n p), fun p a b => ⟨run p a b, nodup_rng (G.nd _ (out p a b)) (inn p a b), inn p a b⟩, fun p a b => ?_, ?_, ?_⟩
  · have f := G.ft _ (out p a b)
    unfold comp
    generalize (gls n x y n.toNat).1 = t at f
    have e : forth n (back n (t (forth n p))) = t (forth n p) := by
      have := f.1
      unfold Al at this
      unfold back
      unfold forth at this ⊢
      grind
    rw [e, f.2.2]
    have := f.1
    have := f.2.1
    unfold Al at *
    unfold back forth at *
    grind
  · have I2 : Inv2 (fT (two n x y) n) (gT (two n x y) n) (fun i => 0 ≤ i ∧ i < n ∧ ∀ p, Al n 0 p → i ∉ P p) := by
      have hT := two_t2 hx hy
      have hne := two_ne hx hy
      generalize two n x y = T at *
      have nb : ∀ p, Al n 0 p → Nbr T n p ((gls n x y n.toNat).1 p) (P p) := fun p hp => (G.rk p hp).nbr hT (by omega) (by unfold Al at hp; omega) (by unfold Al at hp; omega)
      generalize (gls n x y n.toNat).1 = t at *
      have hit : ∀ q i, Al n 0 q → T q = 2 * n + i ∨ T q = n + i → 0 ≤ i → i < n → i ∈ P q := fun q i hq e a b => by
        have r := G.rk q hq
        generalize hm : P q = ms at r
        generalize he : t q = e' at r
        cases r with
        | stop h => exfalso; apply h; unfold In; omega
        | @go _ _ ms' h r =>
          have : pg n (T q) = i := by unfold pg; grind
          rw [this]; exact List.mem_cons_self
      refine ⟨fun i ⟨a, b, c⟩ => ?_, fun i ⟨a, b, c⟩ => ?_⟩
      · have u := hT.lo (2 * n + i) (by omega) (by omega)
        have v := hT.inv (2 * n + i) (by omega) (by omega)
        have w := hne (2 * n + i) (by omega) (by omega)
        have lt : T (2 * n + i) < 3 * n := by
          refine Int.not_le.mp fun z => ?_
          have al : Al n 0 (T (2 * n + i)) := by unfold Al; omega
          exact c _ al (hit _ i al (.inl v) a b)
        have e : 2 * n + fT T n i = T (2 * n + i) := by unfold fT; omega
        refine ⟨⟨by unfold fT; omega, by unfold fT; omega, fun p hp m => ?_⟩, by unfold fT; omega, ?_⟩
        · have al := al_not_in hp
          have al2 := al_not_in (G.ft p hp).1
          rcases (nb p hp).up _ m with s | s | ⟨j, mj, s⟩
          · rw [e, v] at s; apply al; rw [← s]; unfold In; omega
          · rw [e, v] at s; apply al2; rw [← s]; unfold In; omega
          · rw [e, v] at s
            have : j = i := by omega
            exact c p hp (this ▸ mj)
        · have : fT T n (fT T n i) = T (2 * n + fT T n i) - 2 * n := rfl
          rw [this, e, v]; omega
      · have u := hT.up (n + i) (by omega) (by omega)
        have v := hT.inv (n + i) (by omega) (by omega)
        have w := hne (n + i) (by omega) (by omega)
        have lt : n ≤ T (n + i) := by
          refine Int.not_lt.mp fun z => ?_
          have al : Al n 0 (T (n + i)) := by unfold Al; omega
          exact c _ al (hit _ i al (.inr v) a b)
        have e : n + gT T n i = T (n + i) := by unfold gT; omega
        refine ⟨⟨by unfold gT; omega, by unfold gT; omega, fun p hp m => ?_⟩, by unfold gT; omega, ?_⟩
        · have al := al_not_in hp
          have al2 := al_not_in (G.ft p hp).1
          rcases (nb p hp).lo _ m with s | s | ⟨j, mj, s⟩
          · rw [e, v] at s; apply al; rw [← s]; unfold In; omega
          · rw [e, v] at s; apply al2; rw [← s]; unfold In; omega
          · rw [e, v] at s
            have : j = i := by omega
            exact c p hp (this ▸ mj)
        · have : gT T n (gT T n i) = T (n + gT T n i) - n := rfl
          rw [this, e, v]; omega
    refine ⟨fun i hi => ?_, fun i hi => ?_⟩
    · have q := I2.f i ((dd i).mpr hi)
      have e := (ff i hi.1 hi.2.1).1
      have q1 := (dd _).mp q.1
      rw [e] at q q1
      have e2 := (ff _ q1.1 q1.2.1).1
      rw [e2] at q
      exact ⟨q1, q.2⟩
    · have q := I2.g i ((dd i).mpr hi)
      have e := (ff i hi.1 hi.2.1).2
      have q1 := (dd _).mp q.1
      rw [e] at q q1
      have e2 := (ff _ q1.1 q1.2.1).2
      rw [e2] at q
      exact ⟨q1, q.2⟩
  · exact (G.cnt.congr fun i hi => ff i hi.1 hi.2.1).imp dd
end Rb

set_option Elab.async false
set_option linter.all false
set_option maxRecDepth 100000
set_option maxHeartbeats 4000000
namespace Rb
open PySem L2
/-! # lists by places, once more -/
theorem rng_nil {lo hi : Int} (h : hi ≤ lo) : rng lo hi = [] := by
  unfold rng
  have : (hi - lo).toNat = 0 := by omega
  rw [this]; rfl
theorem rng_cons {lo hi : Int} (h : lo < hi) : rng lo hi = lo :: rng (lo + 1) hi := by
  unfold rng
  have : (hi - lo).toNat = (hi - (lo + 1)).toNat + 1 := by omega
  rw [this, List.range_succ_eq_map, List.map_cons, List.map_map]
  congr 1
  · omega
  · apply List.map_congr_left
    intro i _
    show lo + ((i + 1 : Nat) : Int) = lo + 1 + (i : Int)
    omega
theorem rng_snoc {lo hi : Int} (h : lo ≤ hi) : rng lo (hi + 1) = rng lo hi ++ [hi] := by
  unfold rng
  have : (hi + 1 - lo).toNat = (hi - lo).toNat + 1 := by omega
  rw [this, List.range_succ, List.map_append]
  congr 1
  show [lo + (((hi - lo).toNat : Nat) : Int)] = [hi]
  congr 1
  omega
theorem whS_go {S : Type} {c : S → Option Bool} {f : S → Option S} {k : Nat} {s s' : S} (h1 : c s = some true) (h2 : f s = some s') : whS c f (k + 1) s = whS c f k s' := by
  show (c s).bind _ = _
  rw [h1, Option.bind_some, if_pos rfl, h2, Option.bind_some]
theorem whS_stop {S : Type} {c : S → Option Bool} {f : S → Option S} {k : Nat} {s : S} (h1 : c s = some false) : whS c f (k + 1) s = some s := by
  show (c s).bind _ = _
  rw [h1, Option.bind_some, if_neg Bool.false_ne_true]
theorem fuel_eq : fuel = 998 + 1 + 1 := rfl
theorem rng_split {lo mid hi : Int} (h1 : lo ≤ mid) (h2 : mid ≤ hi) : rng lo hi = rng lo mid ++ rng mid hi := by
  unfold rng
  have e : (hi - lo).toNat = (mid - lo).toNat + (hi - mid).toNat := by omega
  rw [e, List.range_add, List.map_append, List.map_map]
  congr 1
  apply List.map_congr_left
  intro i hi
  show lo + (((mid - lo).toNat + i : Nat) : Int) = mid + (i : Int)
  omega
theorem rng_sorted {lo hi : Int} : (rng lo hi).Pairwise (· < ·) := by
  unfold rng
  exact List.pairwise_map.mpr (List.pairwise_lt_range.imp fun h => by omega)
theorem rng_nodup {lo hi : Int} : (rng lo hi).Nodup := rng_sorted.imp fun h => by omega
theorem enum_lst {m : Int} {x : Int → Int} : enumI (lst m x) = (rng 0 m).map fun p => (p, x p) := by
  apply List.ext_getElem?
  intro j
  rw [enumI_get]
  unfold lst
  rw [List.getElem?_map, List.getElem?_map]
  by_cases h : (j : Int) < m - 0
  · rw [rng_get h]
    show some ((j : Int), x (0 + (j : Int))) = some (0 + (j : Int), x (0 + (j : Int)))
    rw [Int.zero_add]
  · have : (rng 0 m)[j]? = none := by
      rw [List.getElem?_eq_none_iff, rng_len]
      omega
    rw [this]; rfl
theorem lst_of (xs : List Int) : xs = lst xs.length fun p => (atI xs p).getD 0 := by
  apply List.ext_getElem?
  intro j
  unfold lst
  rw [List.getElem?_map]
  by_cases h : (j : Int) < (xs.length : Int) - 0
  · rw [rng_get h]
    show xs[j]? = some ((atI xs (0 + (j : Int))).getD 0)
    rw [Int.zero_add, atI_eq (by omega) (by omega)]
    have e : ((j : Int)).toNat = j := by omega
    rw [e, List.getElem?_eq_getElem (by omega)]
    rfl
  · have a : (rng 0 (xs.length : Int))[j]? = none := by
      rw [List.getElem?_eq_none_iff, rng_len]
      omega
    have b : xs[j]? = none := by
      rw [List.getElem?_eq_none_iff]
      omega
    rw [a, b]; rfl
section
variable {α β S R : Type}
theorem forR_nil {f : S → α → Option (S ⊕ R)} {s : S} : forR f s [] = some (.inl s) := rfl
theorem forR_cons {f : S → α → Option (S ⊕ R)} {s : S} {x : α} {xs : List α} : forR f s (x :: xs) = (f s x).bind fun o => match o with | .inl s' => forR f s' xs | .inr r => some (.inr r) := rfl
theorem forR_map {γ : Type} {f : S → α → Option (S ⊕ R)} {g : γ → α} : ∀ {xs : List γ} {s : S}, forR f s (xs.map g) = forR (fun s x => f s (g x)) s xs
  | [], s => rfl
  | x :: xs, s => by
    rw [List.map_cons, forR_cons, forR_cons]
    congr 1
    funext o
    cases o with
    | inl s' => exact forR_map
    | inr r => rfl
theorem forS_map {γ : Type} {f : S → α → Option S} {g : γ → α} : ∀ {xs : List γ} {s : S}, forS f s (xs.map g) = forS (fun s x => f s (g x)) s xs
  | [], s => rfl
  | x :: xs, s => by
    rw [List.map_cons, forS_cons, forS_cons]
    congr 1
    funext s'
    exact forS_map
/-- a loop that only tests -/
theorem forR_test {f : Unit → α → Option (Unit ⊕ Bool)} {b : α → Bool} : ∀ {xs : List α}, (∀ x, x ∈ xs → f () x = some (if b x = true then .inr false else .inl ())) → forR f () xs = some (if xs.any b = true then .inr false else .inl ())
  | [], _ => rfl
  | x :: xs, h => by
    rw [forR_cons, h x List.mem_cons_self, Option.bind_some, List.any_cons]
    cases e : b x with
    | true => rfl
    | false =>
      simp only [Bool.false_or]
      exact forR_test fun y hy => h y (List.mem_cons_of_mem _ hy)
theorem pop_snoc {xs : List α} {x : α} : pop? (xs ++ [x]) = some (x, xs) := by
  unfold pop?
  rw [List.getLast?_concat, List.dropLast_concat]
  rfl
end
/-! ## what doesn't cross, in places of the round -/
def Nc (m : Int) (E : Int → Int) : Prop := ∀ p q, 0 ≤ p → p < m → E p < p → E p < q → q < p → E q < p
/-- open places in rising order -/
structure Opn (E : Int → Int) (p : Int) (Q : List Int) : Prop where
  srt : Q.Pairwise (· < ·)
  mem : ∀ q, q ∈ Q ↔ 0 ≤ q ∧ q < p ∧ p ≤ E q
theorem Opn.push {E : Int → Int} {m p : Int} {Q : List Int} (h : Opn E p Q) (hE : FT m E) (p0 : 0 ≤ p) (p1 : p < m) (u : p < E p) : Opn E (p + 1) (Q ++ [p]) := by
  refine ⟨List.pairwise_append.mpr ⟨h.srt, List.pairwise_singleton _ _, fun a ha b hb => ?_⟩, fun q => ?_⟩
  · have := (h.mem a).mp ha
    have : b = p := by simpa using hb
    omega
  · rw [List.mem_append, h.mem, List.mem_singleton]
    constructor
    · rintro (⟨a, b, c⟩ | rfl)
      · have := hE q a (by omega)
        have : E q ≠ p := fun z => by rw [z] at this; omega
        omega
      · omega
    · rintro ⟨a, b, c⟩
      by_cases e : q = p
      · exact .inr e
      · exact .inl ⟨a, by omega, by omega⟩
theorem Opn.pop {E : Int → Int} {m p : Int} {Q : List Int} (h : Opn E p Q) (hE : FT m E) (p0 : 0 ≤ p) (p1 : p < m) (u : E p < p) :
    ∃ Q' q, Q = Q' ++ [q] ∧ (E q = p → Opn E (p + 1) Q') ∧ (E q = p ↔ ∀ r, E p < r → r < p → E r < p) := by
  have hp := hE p p0 p1
  have me : E p ∈ Q := (h.mem _).mpr ⟨hp.1, u, by omega⟩
  have ne : Q ≠ [] := List.ne_nil_of_mem me
  have eq := (List.dropLast_concat_getLast ne).symm
  generalize Q.getLast ne = q at eq
  generalize Q.dropLast = Q' at eq
  subst eq
  have hq := (h.mem q).mp (by simp)
  obtain ⟨s1, s2, s3⟩ := List.pairwise_append.mp h.srt
  have last : ∀ r, r ∈ Q' → r < q := fun r hr => s3 r hr q (by simp)
  have inj : ∀ r s, 0 ≤ r → r < m → 0 ≤ s → s < m → E r = E s → r = s := fun r s a b c d e => by
    have x := hE r a b
    have y := hE s c d
    rw [← x.2.2.2, e, y.2.2.2]
  refine ⟨Q', q, rfl, fun e => ⟨s1, fun r => ?_⟩, fun e r r1 r2 => ?_, fun k => ?_⟩
  · have hm := h.mem r
    rw [List.mem_append, List.mem_singleton] at hm
    constructor
    · intro hr
      have := hm.mp (.inl hr)
      have l := last r hr
      have : E r ≠ p := fun z => by
        have := inj r q this.1 (by omega) hq.1 (by omega) (by rw [z, e])
        omega
      omega
    · rintro ⟨a, b, c⟩
      by_cases rp : r = p
      · subst rp; omega
      · rcases hm.mpr ⟨a, by omega, by omega⟩ with z | z
        · exact z
        · subst z; omega
  · have eq : q = E p := by rw [← e]; exact ((hE q hq.1 (by omega)).2.2.2).symm
    refine Int.not_le.mp fun c => ?_
    have : r ∈ Q' ++ [q] := (h.mem r).mpr ⟨by omega, r2, c⟩
    rcases List.mem_append.mp this with z | z
    · have := last r z; omega
    · have : r = q := by simpa using z
      omega
  · have le : E p ≤ q := by
      rcases List.mem_append.mp me with z | z
      · have := last _ z; omega
      · have : E p = q := by simpa using z
        omega
    by_cases c : E p = q
    · rw [← c]; exact hp.2.2.2
    · have := k q (by omega) hq.2.1
      omega
end Rb

set_option Elab.async false
set_option linter.all false
set_option maxRecDepth 100000
set_option maxHeartbeats 4000000
namespace Rb
open PySem L2
/-! # dicts by what they hold; counting labels -/
section
variable {κ β : Type} [DecidableEq κ]
theorem look_map {k k' : κ} {v : β} : ∀ {d : List (κ × β)}, lookA (d.map fun kv => if kv.1 = k then (kv.1, v) else kv) k' = if k = k' then (if (d.any fun kv => decide (kv.1 = k)) = true then some v else none) else lookA d k'
  | [] => by
    by_cases c : k = k'
    · rw [if_pos c]; rfl
    · rw [if_neg c]; rfl
  | p :: d => by
    rw [List.map_cons, lookA_cons, look_map (d := d), List.any_cons, lookA_cons]
    by_cases c : p.1 = k
    · subst c
      by_cases e : p.1 = k' <;> simp [e]
    · by_cases e : k = k'
      · subst e
        rw [decide_eq_false c, Bool.false_or, if_neg c, if_neg c, if_pos rfl, if_pos rfl]
      · simp [c, e]
theorem look_app {k k' : κ} {v : β} : ∀ {d : List (κ × β)}, lookA (d ++ [(k, v)]) k' = match lookA d k' with | some x => some x | none => if k = k' then some v else none
  | [] => by rw [List.nil_append, lookA_cons, lookA_nil]
  | p :: d => by
    rw [List.cons_append, lookA_cons, lookA_cons, look_app (d := d)]
    by_cases c : p.1 = k'
    · rw [if_pos c, if_pos c]
    · rw [if_neg c, if_neg c]
theorem look_any {k : κ} : ∀ {d : List (κ × β)}, (d.any fun kv => decide (kv.1 = k)) = (lookA d k).isSome
  | [] => rfl
  | p :: d => by
    rw [List.any_cons, lookA_cons, look_any (d := d)]
    by_cases c : p.1 = k
    · rw [if_pos c]; simp [c]
    · rw [if_neg c]; simp [c]
theorem look_put {d : List (κ × β)} {k k' : κ} {v : β} : lookA (putA d k v) k' = if k = k' then some v else lookA d k' := by
  unfold putA
  by_cases c : (d.any fun kv => decide (kv.1 = k)) = true
  · rw [if_pos c, look_map, if_pos c]
  · rw [if_neg c, look_app]
    by_cases e : k = k'
    · subst e
      rw [look_any] at c
      have : lookA d k = none := by
        cases h : lookA d k with
        | none => rfl
        | some x => rw [h] at c; simp at c
      rw [this]
    · rw [if_neg e, if_neg e]
      cases lookA d k' <;> rfl
theorem put_ok {d : List (κ × β)} {k : κ} {v : β} (h : d.length < lim) : put? d k v = some (putA d k v) := by unfold put?; rw [if_pos h]
end
theorem firstMet_spec (f : Nat → Int) : ∀ n, (PyProof.Rows.firstMet f n).Nodup ∧ ∀ w, w ∈ PyProof.Rows.firstMet f n ↔ ∃ i, i < n ∧ f i = w
  | 0 => ⟨.nil, fun w => ⟨fun h => (by cases h), fun ⟨i, h, _⟩ => (by cases h)⟩⟩
  | n + 1 => by
    obtain ⟨h1, h2⟩ := firstMet_spec f n
    have st : ∀ w, (∃ i, i < n + 1 ∧ f i = w) ↔ (∃ i, i < n ∧ f i = w) ∨ f n = w := fun w => by
      constructor
      · rintro ⟨i, a, b⟩
        by_cases e : i = n
        · subst e; exact .inr b
        · exact .inl ⟨i, by omega, b⟩
      · rintro (⟨i, a, b⟩ | b)
        · exact ⟨i, by omega, b⟩
        · exact ⟨n, by omega, b⟩
    by_cases c : (PyProof.Rows.firstMet f n).any (· == f n) = true
    · have e : PyProof.Rows.firstMet f (n + 1) = PyProof.Rows.firstMet f n := by
        rw [PyProof.Rows.firstMet_succ]
        unfold PyProof.Rows.step_dedup
        rw [if_pos c]
      rw [e]
      refine ⟨h1, fun w => ?_⟩
      rw [st, h2]
      refine ⟨.inl, fun h => ?_⟩
      rcases h with h | h
      · exact h
      · obtain ⟨y, hy, ey⟩ := List.any_eq_true.mp c
        have : y = f n := by simpa using ey
        subst this
        exact (h2 w).mp (h ▸ hy)
    · have e : PyProof.Rows.firstMet f (n + 1) = PyProof.Rows.firstMet f n ++ [f n] := by
        rw [PyProof.Rows.firstMet_succ]
        unfold PyProof.Rows.step_dedup
        rw [if_neg c]
      rw [e]
      refine ⟨List.nodup_append.mpr ⟨h1, by simp, fun a ha b hb e => c (List.any_eq_true.mpr ⟨a, ha, ?_⟩)⟩, fun w => ?_⟩
      · have : b = f n := by simpa using hb
        simp [e, this]
      · rw [st, List.mem_append, h2, List.mem_singleton]
        exact ⟨fun h => h.imp id Eq.symm, fun h => h.imp id Eq.symm⟩
theorem distinct_spec (ns : List Int) : (distinct ns).Nodup ∧ ∀ w, w ∈ distinct ns ↔ w ∈ ns := by
  obtain ⟨h1, h2⟩ := firstMet_spec (fun i => ns.getD i 0) ns.length
  refine ⟨h1, fun w => (h2 w).trans ⟨fun ⟨i, a, b⟩ => ?_, fun h => ?_⟩⟩
  · have : ns.getD i 0 = ns[i] := by rw [List.getD_eq_getElem?_getD, List.getElem?_eq_getElem a]; rfl
    rw [← b, this]
    exact List.getElem_mem a
  · obtain ⟨i, a, b⟩ := List.getElem_of_mem h
    refine ⟨i, a, ?_⟩
    show ns.getD i 0 = w
    rw [List.getD_eq_getElem?_getD, List.getElem?_eq_getElem a]
    exact b
theorem distinct_len {ns R : List Int} (h1 : R.Nodup) (h2 : ∀ w, w ∈ R ↔ w ∈ ns) : (distinct ns).length = R.length := by
  obtain ⟨a, b⟩ := distinct_spec ns
  exact Nat.le_antisymm (nodup_le a fun w h => (h2 w).mpr ((b w).mp h)) (nodup_le h1 fun w h => (b w).mpr ((h2 w).mp h))
/-- labels that tell the rings apart are as many as these -/
theorem Cnt.labels {f g h : Int → Int} {D : Int → Prop} {c : Int} (q : Cnt f g D c) : Inv2 f g D → (∀ i j, D i → D j → (h i = h j ↔ Con f g i j)) → ∃ R : List Int, R.Nodup ∧ (R.length : Int) = c ∧ ∀ w, w ∈ R ↔ ∃ i, D i ∧ h i = w := by
  induction q with
  | nil hn => intro _ _; exact ⟨[], .nil, rfl, fun w => ⟨fun z => (by cases z), fun ⟨i, a, _⟩ => absurd a (hn i)⟩⟩
  | @ring D D' W r c hr hw hd _ ih =>
    intro v hh
    have rg : Ring f g D W r := ⟨hr, hw⟩
    obtain ⟨R, h1, h2, h3⟩ := ih (v.less rg hd) (fun i j a b => hh i j ((hd i).mp a).1 ((hd j).mp b).1)
    have dr := (hw r hr).1
    refine ⟨h r :: R, List.nodup_cons.mpr ⟨fun z => ?_, h1⟩, by rw [List.length_cons]; omega, fun w => ?_⟩
    · obtain ⟨i, a, b⟩ := (h3 _).mp z
      have a' := (hd i).mp a
      have := (hh r i dr a'.1).mp b.symm
      exact a'.2 (this.mem hr fun k hk => ⟨(hw k hk).2.1, (hw k hk).2.2.1⟩)
    · rw [List.mem_cons, h3]
      constructor
      · rintro (z | ⟨i, a, b⟩)
        · exact ⟨r, dr, z.symm⟩
        · exact ⟨i, ((hd i).mp a).1, b⟩
      · rintro ⟨i, a, b⟩
        by_cases e : W i
        · left; rw [← b]; exact ((hh r i dr a).mpr (hw i e).2.2.2).symm
        · exact .inr ⟨i, (hd i).mpr ⟨a, e⟩, b⟩
end Rb

set_option Elab.async false
set_option linter.all false
set_option maxRecDepth 100000
set_option maxHeartbeats 4000000
namespace Rb
theorem forR_go {α S R : Type} {f : S → α → Option (S ⊕ R)} {s s' : S} {x : α} {xs : List α} (h : f s x = some (.inl s')) : forR f s (x :: xs) = forR f s' xs := by
  rw [forR_cons, h]; rfl
theorem forR_all {α S R : Type} {f : S → α → Option (S ⊕ R)} {s : S} : ∀ {xs : List α}, (∀ x, x ∈ xs → f s x = some (.inl s)) → forR f s xs = some (.inl s)
  | [], _ => rfl
  | x :: xs, h => by
    rw [forR_go (h x List.mem_cons_self)]
    exact forR_all fun y hy => h y (List.mem_cons_of_mem _ hy)
/-! # the plain frame, hooks; frames turned and mirrored -/
def plainF (n : Int) (p : Int) : Int := if p < n then p + n else p - n
def hkF (n i : Int) (p : Int) : Int := if p = i then i + 1 else if p = i + 1 then i else if p = n + i then n + i + 1 else if p = n + i + 1 then n + i else plainF n p
theorem plain_ft {n : Int} (h0 : 1 ≤ n) : FT (2 * n) (plainF n) := by
  intro p p0 p1
  unfold plainF
  grind
theorem hk_val {n i : Int} (p : Int) : (p = i ∧ hkF n i p = i + 1) ∨ (p = i + 1 ∧ hkF n i p = i) ∨ (p = n + i ∧ hkF n i p = n + i + 1) ∨ (p = n + i + 1 ∧ hkF n i p = n + i) ∨ (p ≠ i ∧ p ≠ i + 1 ∧ p ≠ n + i ∧ p ≠ n + i + 1 ∧ p < n ∧ hkF n i p = p + n) ∨ (p ≠ i ∧ p ≠ i + 1 ∧ p ≠ n + i ∧ p ≠ n + i + 1 ∧ n ≤ p ∧ hkF n i p = p - n) := by
  unfold hkF plainF
  by_cases c1 : p = i
  · rw [if_pos c1]; omega
  · by_cases c2 : p = i + 1
    · rw [if_neg c1, if_pos c2]; omega
    · by_cases c3 : p = n + i
      · rw [if_neg c1, if_neg c2, if_pos c3]; omega
      · by_cases c4 : p = n + i + 1
        · rw [if_neg c1, if_neg c2, if_neg c3, if_pos c4]; omega
        · by_cases c5 : p < n
          · rw [if_neg c1, if_neg c2, if_neg c3, if_neg c4, if_pos c5]; omega
          · rw [if_neg c1, if_neg c2, if_neg c3, if_neg c4, if_neg c5]; omega
theorem hk_ft {n i : Int} (i0 : 0 ≤ i) (i1 : i + 1 < n) : FT (2 * n) (hkF n i) := by
  intro p p0 p1
  have a := hk_val (n := n) (i := i) p
  have b := hk_val (n := n) (i := i) (hkF n i p)
  omega
theorem rd_rd' {n p : Int} (h : 0 ≤ p ∧ p < 2 * n) : rd n (rd n p) = p := by unfold rd; grind
/-- the round turned by s places, or told the other way round -/
theorem btw_mod {m s a b c d pa pb pc pd : Int} (ha : (a + s < m ∧ pa = a + s) ∨ (m ≤ a + s ∧ pa = a + s - m)) (hb : (b + s < m ∧ pb = b + s) ∨ (m ≤ b + s ∧ pb = b + s - m)) (hc : (c + s < m ∧ pc = c + s) ∨ (m ≤ c + s ∧ pc = c + s - m)) (hd : (d + s < m ∧ pd = d + s) ∨ (m ≤ d + s ∧ pd = d + s - m))
    (a0 : 0 ≤ a ∧ a < m) (b0 : 0 ≤ b ∧ b < m) (c0 : 0 ≤ c ∧ c < m) (d0 : 0 ≤ d ∧ d < m) (n1 : a ≠ c) (n2 : a ≠ d) (n3 : b ≠ c) (n4 : b ≠ d)
    (h : ((a < c ∧ c < b) ∨ (b < c ∧ c < a)) ↔ ((a < d ∧ d < b) ∨ (b < d ∧ d < a))) : ((pa < pc ∧ pc < pb) ∨ (pb < pc ∧ pc < pa)) ↔ ((pa < pd ∧ pd < pb) ∨ (pb < pd ∧ pd < pa)) := by
  rcases ha with ⟨_, rfl⟩ | ⟨_, rfl⟩ <;> rcases hb with ⟨_, rfl⟩ | ⟨_, rfl⟩ <;> rcases hc with ⟨_, rfl⟩ | ⟨_, rfl⟩ <;> rcases hd with ⟨_, rfl⟩ | ⟨_, rfl⟩ <;> omega
theorem btw_rev {m s a b c d pa pb pc pd : Int} (ha : (a < s ∧ pa = s - 1 - a) ∨ (s ≤ a ∧ pa = m + s - 1 - a)) (hb : (b < s ∧ pb = s - 1 - b) ∨ (s ≤ b ∧ pb = m + s - 1 - b)) (hc : (c < s ∧ pc = s - 1 - c) ∨ (s ≤ c ∧ pc = m + s - 1 - c)) (hd : (d < s ∧ pd = s - 1 - d) ∨ (s ≤ d ∧ pd = m + s - 1 - d))
    (a0 : 0 ≤ a ∧ a < m) (b0 : 0 ≤ b ∧ b < m) (c0 : 0 ≤ c ∧ c < m) (d0 : 0 ≤ d ∧ d < m) (n1 : a ≠ c) (n2 : a ≠ d) (n3 : b ≠ c) (n4 : b ≠ d)
    (h : ((a < c ∧ c < b) ∨ (b < c ∧ c < a)) ↔ ((a < d ∧ d < b) ∨ (b < d ∧ d < a))) : ((pa < pc ∧ pc < pb) ∨ (pb < pc ∧ pc < pa)) ↔ ((pa < pd ∧ pd < pb) ∨ (pb < pd ∧ pd < pa)) := by
  rcases ha with ⟨_, rfl⟩ | ⟨_, rfl⟩ <;> rcases hb with ⟨_, rfl⟩ | ⟨_, rfl⟩ <;> rcases hc with ⟨_, rfl⟩ | ⟨_, rfl⟩ <;> rcases hd with ⟨_, rfl⟩ | ⟨_, rfl⟩ <;> omega
/-- other numbers for the pegs -/
theorem Fr.turn {n : Int} {x f g : Int → Int} (h : Fr n x) (hf : ∀ p, 0 ≤ p → p < 2 * n → 0 ≤ f p ∧ f p < 2 * n ∧ g (f p) = p) (hg : ∀ p, 0 ≤ p → p < 2 * n → 0 ≤ g p ∧ g p < 2 * n ∧ f (g p) = p)
    (hb : ∀ a b c d, (0 ≤ a ∧ a < 2 * n) → (0 ≤ b ∧ b < 2 * n) → (0 ≤ c ∧ c < 2 * n) → (0 ≤ d ∧ d < 2 * n) → a ≠ c → a ≠ d → b ≠ c → b ≠ d → (Btw (rd n) a b c ↔ Btw (rd n) a b d) → (Btw (rd n) (f a) (f b) (f c) ↔ Btw (rd n) (f a) (f b) (f d))) : Fr n (fun p => f (x (g p))) := by
  refine ⟨fun p hp => ?_, fun p q hp hq np nt => ?_⟩
  · have a := hg p hp.1 hp.2
    have b := h.ft _ a.1 a.2.1
    have c := hf _ b.1 b.2.1
    refine ⟨⟨c.1, c.2.1⟩, fun z => b.2.2.1 ?_, ?_⟩
    · rw [← c.2.2, z]
    · show f (x (g (f (x (g p))))) = p
      rw [c.2.2, b.2.2.2, a.2.2]
  · have a := hg p hp.1 hp.2
    have b := h.ft _ a.1 a.2.1
    have a' := hg q hq.1 hq.2
    have b' := h.ft _ a'.1 a'.2.1
    have m1 : g p ≠ g q := fun z => np (by rw [← a'.2.2, ← z, a.2.2])
    have m2 : x (g p) ≠ g q := fun z => nt (by rw [z, a'.2.2])
    have m3 : g p ≠ x (g q) := fun z => m2 (by rw [z, b'.2.2.2])
    have m4 : x (g p) ≠ x (g q) := fun z => m1 (by rw [← b.2.2.2, z, b'.2.2.2])
    have := hb (g p) (x (g p)) (g q) (x (g q)) ⟨a.1, a.2.1⟩ ⟨b.1, b.2.1⟩ ⟨a'.1, a'.2.1⟩ ⟨b'.1, b'.2.1⟩ m1 m3 m2 m4 (Pm.nc h (g p) (g q) ⟨a.1, a.2.1⟩ ⟨a'.1, a'.2.1⟩ (Ne.symm m1) (Ne.symm m2))
    rw [a.2.2, a'.2.2] at this
    exact this
def ovF (n : Int) (x : Int → Int) (p : Int) : Int := plainF n (x (plainF n p))
def mir (n p : Int) : Int := if p < n then n - 1 - p else 3 * n - 1 - p
def mirF (n : Int) (x : Int → Int) (p : Int) : Int := mir n (x (mir n p))
theorem ov_fr {n : Int} {x : Int → Int} (h : Fr n x) : Fr n (ovF n x) := by
  have pl : ∀ p, 0 ≤ p → p < 2 * n → 0 ≤ plainF n p ∧ plainF n p < 2 * n ∧ plainF n (plainF n p) = p := fun p a b => by unfold plainF; grind
  have rp : ∀ p, (0 ≤ p ∧ p < 2 * n) → (rd n p < 2 * n ∧ rd n (plainF n p) = 2 * n - 1 - rd n p) ∨ (2 * n ≤ rd n p ∧ rd n (plainF n p) = 2 * n + 2 * n - 1 - rd n p) := fun p hp => by unfold rd plainF; grind
  exact h.turn pl pl fun a b c d ha hb hc hd m1 m2 m3 m4 hh => btw_rev (m := 2 * n) (s := 2 * n) (rp a ha) (rp b hb) (rp c hc) (rp d hd) (rd_in ha) (rd_in hb) (rd_in hc) (rd_in hd) (rd_ne ha hc m1) (rd_ne ha hd m2) (rd_ne hb hc m3) (rd_ne hb hd m4) hh
theorem mir_fr {n : Int} {x : Int → Int} (h : Fr n x) : Fr n (mirF n x) := by
  have pl : ∀ p, 0 ≤ p → p < 2 * n → 0 ≤ mir n p ∧ mir n p < 2 * n ∧ mir n (mir n p) = p := fun p a b => by unfold mir; grind
  have rp : ∀ p, (0 ≤ p ∧ p < 2 * n) → (rd n p < n ∧ rd n (mir n p) = n - 1 - rd n p) ∨ (n ≤ rd n p ∧ rd n (mir n p) = 2 * n + n - 1 - rd n p) := fun p hp => by unfold rd mir; grind
  exact h.turn pl pl fun a b c d ha hb hc hd m1 m2 m3 m4 hh => btw_rev (m := 2 * n) (s := n) (rp a ha) (rp b hb) (rp c hc) (rp d hd) (rd_in ha) (rd_in hb) (rd_in hc) (rd_in hd) (rd_ne ha hc m1) (rd_ne ha hd m2) (rd_ne hb hc m3) (rd_ne hb hd m4) hh
theorem plain_fr {n : Int} (h0 : 1 ≤ n) : Fr n (plainF n) := by
  have ft := plain_ft h0
  refine ⟨fun p hp => ?_, fun p q hp hq np nt => ?_⟩
  · have := ft p hp.1 hp.2
    exact ⟨⟨this.1, this.2.1⟩, this.2.2⟩
  · have rp : ∀ p, (0 ≤ p ∧ p < 2 * n) → rd n (plainF n p) = 2 * n - 1 - rd n p := fun p hp => by unfold rd plainF; grind
    have e1 := rp p hp
    have e2 := rp q hq
    have n1 := rd_ne hp hq (Ne.symm np)
    have hx := ft p hp.1 hp.2
    have n2 := rd_ne ⟨hx.1, hx.2.1⟩ hq (Ne.symm nt)
    unfold Btw
    omega
theorem hk_fr {n i : Int} (i0 : 0 ≤ i) (i1 : i + 1 < n) : Fr n (hkF n i) := by
  have ft := hk_ft i0 i1
  refine ⟨fun p hp => ?_, fun p q hp hq np nt => ?_⟩
  · have := ft p hp.1 hp.2
    exact ⟨⟨this.1, this.2.1⟩, this.2.2⟩
  · have rp : ∀ p, (0 ≤ p ∧ p < 2 * n) → (rd n p = i ∧ rd n (hkF n i p) = i + 1) ∨ (rd n p = i + 1 ∧ rd n (hkF n i p) = i) ∨ (rd n p = 2 * n - 1 - i ∧ rd n (hkF n i p) = 2 * n - 2 - i) ∨ (rd n p = 2 * n - 2 - i ∧ rd n (hkF n i p) = 2 * n - 1 - i) ∨ (rd n p ≠ i ∧ rd n p ≠ i + 1 ∧ rd n p ≠ 2 * n - 1 - i ∧ rd n p ≠ 2 * n - 2 - i ∧ rd n (hkF n i p) = 2 * n - 1 - rd n p) := fun p hp => by
      have hk := hk_val (n := n) (i := i) p
      have r1 : ∀ q, (q < n ∧ rd n q = q) ∨ (n ≤ q ∧ rd n q = 3 * n - 1 - q) := fun q => by unfold rd; grind
      have a1 := r1 p
      have a2 := r1 (hkF n i p)
      omega
    have e1 := rp p hp
    have e2 := rp q hq
    have n1 := rd_ne hp hq (Ne.symm np)
    have hx := ft p hp.1 hp.2
    have n2 := rd_ne ⟨hx.1, hx.2.1⟩ hq (Ne.symm nt)
    have b1 := rd_in hp
    have b2 := rd_in hq
    unfold Btw
    omega
end Rb
namespace Rb
/-! ## the plain frame above and beneath -/
theorem Runs.det {u l : Int → Int} {n : Int} {b : Bool} {p e : Int} {ms : List Int} (h : Runs u l n b p e ms) : ∀ {e' : Int} {ms' : List Int}, Runs u l n b p e' ms' → e = e' ∧ ms = ms' := by
  induction h with
  | stopL h =>
    intro e' ms' r
    cases r with
    | stopL _ => exact ⟨rfl, rfl⟩
    | goL h' _ => omega
  | stopU h =>
    intro e' ms' r
    cases r with
    | stopU _ => exact ⟨rfl, rfl⟩
    | goU h' _ => omega
  | goL h _ ih =>
    intro e' ms' r
    cases r with
    | stopL _ => omega
    | goL _ r =>
      obtain ⟨a, b⟩ := ih r
      exact ⟨a, by rw [b]⟩
  | goU h _ ih =>
    intro e' ms' r
    cases r with
    | stopU _ => omega
    | goU _ r =>
      obtain ⟨a, b⟩ := ih r
      exact ⟨a, by rw [b]⟩
/-- a composite by its ways -/
theorem comp_by {n : Int} {x y z : Int → Int} {P : Int → List Int} (hn : 0 ≤ n) (hx : FT (2 * n) x) (hy : FT (2 * n) y) (h : ∀ p, 0 ≤ p → p < 2 * n → Runs x y n (decide (p ≥ n)) p (z p) (P p)) :
    (∀ p, 0 ≤ p → p < 2 * n → comp n x y p = z p) ∧ ((∀ i, 0 ≤ i → i < n → ∃ p, 0 ≤ p ∧ p < 2 * n ∧ i ∈ P p) → crings n x y = 0) := by
  obtain ⟨Q, h1, _, _, h4⟩ := comp_ok hn hx hy
  refine ⟨fun p a b => ((h1 p a b).1.det (h p a b)).1, fun all => h4.zero fun i ⟨a, b, c⟩ => ?_⟩
  obtain ⟨p, p0, p1, m⟩ := all i a b
  have := ((h1 p p0 p1).1.det (h p p0 p1)).2
  exact c p p0 p1 (this ▸ m)
theorem plain_low {n p : Int} (h : p < n) : plainF n p = p + n := if_pos h
theorem plain_up {n p : Int} (h : n ≤ p) : plainF n p = p - n := if_neg (by omega)
theorem comp_plain_l {n : Int} {x : Int → Int} (h1 : 1 ≤ n) (hx : FT (2 * n) x) : (∀ p, 0 ≤ p → p < 2 * n → comp n (plainF n) x p = x p) ∧ crings n (plainF n) x = 0 := by
  have low : ∀ p, 0 ≤ p → p < 2 * n → ∃ ms, Runs (plainF n) x n true p (x p) ms := fun p a b => by
    have hp := hx p a b
    by_cases c : n ≤ x p
    · exact ⟨[], .stopL c⟩
    · exact ⟨[x p], .goL (by omega) (.stopUe (by rw [plain_up (by omega)]; omega) (by omega))⟩
  have R : ∀ p, ∃ ms, 0 ≤ p → p < 2 * n → Runs (plainF n) x n (decide (p ≥ n)) p (x p) ms ∧ (p < n → p ∈ ms) := fun p => by
    by_cases c : 0 ≤ p ∧ p < 2 * n
    · obtain ⟨ms, r⟩ := low p c.1 c.2
      by_cases d : p < n
      · refine ⟨p :: ms, fun _ _ => ⟨?_, fun _ => List.mem_cons_self⟩⟩
        rw [decide_eq_false (by omega)]
        exact .goUe (plain_low d) (by omega) (by omega) r
      · refine ⟨ms, fun _ _ => ⟨?_, fun z => absurd z d⟩⟩
        rw [decide_eq_true (by omega)]
        exact r
    · exact ⟨[], fun a b => absurd ⟨a, b⟩ c⟩
  obtain ⟨P, hP⟩ := Classical.axiomOfChoice R
  obtain ⟨a, b⟩ := comp_by (by omega) (plain_ft h1) hx fun p p0 p1 => (hP p p0 p1).1
  exact ⟨a, b fun i i0 i1 => ⟨i, i0, by omega, (hP i i0 (by omega)).2 i1⟩⟩
theorem comp_plain_r {n : Int} {x : Int → Int} (h1 : 1 ≤ n) (hx : FT (2 * n) x) : (∀ p, 0 ≤ p → p < 2 * n → comp n x (plainF n) p = x p) ∧ crings n x (plainF n) = 0 := by
  have high : ∀ p, 0 ≤ p → p < 2 * n → ∃ ms, Runs x (plainF n) n false p (x p) ms := fun p a b => by
    have hp := hx p a b
    by_cases c : x p < n
    · exact ⟨[], .stopU c⟩
    · exact ⟨[x p - n], .goU (by omega) (.stopLe (by rw [plain_low (by omega)]; omega) (by omega))⟩
  have R : ∀ p, ∃ ms, 0 ≤ p → p < 2 * n → Runs x (plainF n) n (decide (p ≥ n)) p (x p) ms ∧ (n ≤ p → p - n ∈ ms) := fun p => by
    by_cases c : 0 ≤ p ∧ p < 2 * n
    · obtain ⟨ms, r⟩ := high p c.1 c.2
      by_cases d : p < n
      · refine ⟨ms, fun _ _ => ⟨?_, fun z => by omega⟩⟩
        rw [decide_eq_false (by omega)]
        exact r
      · refine ⟨(p - n) :: ms, fun _ _ => ⟨?_, fun _ => List.mem_cons_self⟩⟩
        rw [decide_eq_true (by omega)]
        exact .goLe (plain_up (by omega)) (by omega) (by omega) r
    · exact ⟨[], fun a b => absurd ⟨a, b⟩ c⟩
  obtain ⟨P, hP⟩ := Classical.axiomOfChoice R
  obtain ⟨a, b⟩ := comp_by (by omega) hx (plain_ft h1) fun p p0 p1 => (hP p p0 p1).1
  exact ⟨a, b fun i i0 i1 => ⟨n + i, by omega, by omega, by
    have := (hP (n + i) (by omega) (by omega)).2 (by omega)
    have e : n + i - n = i := by omega
    rw [e] at this; exact this⟩⟩
end Rb
namespace Rb
open PySem L2
/-! ## cuts and picks -/
theorem compM_filter {α β : Type} {t : α → Option Bool} {f : α → Option β} {tb : α → Bool} {g : α → β} : ∀ {xs : List α}, (∀ x, x ∈ xs → t x = some (tb x)) → (∀ x, x ∈ xs → tb x = true → f x = some (g x)) → compM t f xs = some ((xs.filter tb).map g)
  | [], _, _ => rfl
  | x :: xs, h1, h2 => by
    unfold compM
    rw [h1 x List.mem_cons_self, compM_filter (fun y hy => h1 y (List.mem_cons_of_mem _ hy)) fun y hy => h2 y (List.mem_cons_of_mem _ hy)]
    cases q : tb x with
    | true =>
      rw [List.filter_cons_of_pos q, h2 x List.mem_cons_self q]
      rfl
    | false =>
      rw [List.filter_cons_of_neg (by rw [q]; exact Bool.false_ne_true)]
      rfl
theorem sIx_some {len : Nat} {d : Nat} {i : Int} (h0 : 0 ≤ i) (h1 : i ≤ len) : HT.sIx len d (some i) = i.toNat := by
  show (if i < 0 then (i + (len : Int)).toNat else min i.toNat len) = i.toNat
  rw [if_neg (by omega)]
  omega
theorem sIx_none {len d : Nat} : HT.sIx len d none = d := rfl
theorem rng_take {m n : Int} (h0 : 0 ≤ n) (h1 : n ≤ m) : (rng 0 m).take n.toNat = rng 0 n := by
  rw [rng_split h0 h1, List.take_append_of_le_length (by rw [rng_len]; omega)]
  exact List.take_of_length_le (by rw [rng_len]; omega)
theorem rng_drop {m n : Int} (h0 : 0 ≤ n) (h1 : n ≤ m) : (rng 0 m).drop n.toNat = rng n m := by
  rw [rng_split h0 h1]
  have : n.toNat = (rng 0 n).length := by rw [rng_len]; omega
  rw [this, List.drop_left]
theorem cut_lst {m n : Int} {x : Int → Int} (h0 : 0 ≤ n) (h1 : n ≤ m) : cutA (lst m x) none (some n) = lst n x := by
  unfold cutA
  rw [sIx_none, sIx_some h0 (by rw [lst_len]; omega)]
  unfold lst
  rw [List.drop_zero, Nat.sub_zero, ← List.map_take, rng_take h0 h1]
theorem cutP_lst {m n : Int} {x : Int → Int} (h0 : 0 ≤ n) (h1 : n < m) : cutP (lst m x) none (some n) := by
  rintro ⟨_, h⟩
  rw [sIx_some h0 (by rw [lst_len]; omega), lst_len] at h
  omega
/-! ## as many go through -/
theorem plain_inv {n : Int} (h1 : 1 ≤ n) : ∀ p, 0 ≤ p → p < 2 * n → 0 ≤ plainF n p ∧ plainF n p < 2 * n ∧ plainF n (plainF n p) = p := fun p a b => by have := plain_ft h1 p a b; exact ⟨this.1, this.2.1, this.2.2.2⟩
theorem mir_inv {n : Int} : ∀ p, 0 ≤ p → p < 2 * n → 0 ≤ mir n p ∧ mir n p < 2 * n ∧ mir n (mir n p) = p := fun p a b => by unfold mir; grind
def thr (n : Int) (x : Int → Int) : Int := (((rng 0 n).filter fun p => decide (x p ≥ n)).length : Int)
theorem count_le {A B : List Int} (f : Int → Int) (hA : A.Nodup) (inj : ∀ a b, a ∈ A → b ∈ A → f a = f b → a = b) (into : ∀ a, a ∈ A → f a ∈ B) : A.length ≤ B.length := by
  have := nodup_le (l := A.map f) (m := B) (List.pairwise_map.mpr (hA.imp_of_mem fun ha hb h e => h (inj _ _ ha hb e))) fun i hi => by
    obtain ⟨a, ha, rfl⟩ := List.mem_map.mp hi
    exact into a ha
  rw [List.length_map] at this
  exact this
theorem thr_over {n : Int} {x : Int → Int} (h1 : 1 ≤ n) (f : FT (2 * n) x) : thr n (ovF n x) = thr n x := by
  unfold thr
  congr 1
  have v : ∀ p, 0 ≤ p → p < n → (ovF n x p ≥ n ↔ x (p + n) < n) := fun p a b => by
    unfold ovF
    rw [plain_low b]
    have := f (p + n) (by omega) (by omega)
    by_cases c : x (p + n) < n
    · rw [plain_low c]; omega
    · rw [plain_up (by omega)]; omega
  have m1 : ∀ p, p ∈ (rng 0 n).filter (fun p => decide (ovF n x p ≥ n)) ↔ (0 ≤ p ∧ p < n) ∧ x (p + n) < n := fun p => by
    rw [List.mem_filter, mem_rng]
    constructor
    · rintro ⟨a, b⟩; exact ⟨a, (v p a.1 a.2).mp (of_decide_eq_true b)⟩
    · rintro ⟨a, b⟩; exact ⟨a, decide_eq_true ((v p a.1 a.2).mpr b)⟩
  have m2 : ∀ p, p ∈ (rng 0 n).filter (fun p => decide (x p ≥ n)) ↔ (0 ≤ p ∧ p < n) ∧ x p ≥ n := fun p => by
    rw [List.mem_filter, mem_rng, decide_eq_true_iff]
  refine Nat.le_antisymm (count_le (fun p => x (p + n)) (List.Pairwise.filter _ rng_nodup) (fun a b ha hb e => ?_) fun a ha => ?_) (count_le (fun p => x p - n) (List.Pairwise.filter _ rng_nodup) (fun a b ha hb e => ?_) fun a ha => ?_)
  · have ha' := (m1 a).mp ha
    have hb' := (m1 b).mp hb
    have p := f (a + n) (by omega) (by omega)
    have q := f (b + n) (by omega) (by omega)
    have e : x (a + n) = x (b + n) := e
    have : a + n = b + n := by rw [← p.2.2.2, e, q.2.2.2]
    omega
  · have ha' := (m1 a).mp ha
    have p := f (a + n) (by omega) (by omega)
    exact (m2 _).mpr ⟨⟨p.1, ha'.2⟩, by rw [p.2.2.2]; omega⟩
  · have ha' := (m2 a).mp ha
    have hb' := (m2 b).mp hb
    have p := f a (by omega) (by omega)
    have q := f b (by omega) (by omega)
    have e : x a - n = x b - n := e
    have e' : x a = x b := by omega
    rw [← p.2.2.2, e', q.2.2.2]
  · have ha' := (m2 a).mp ha
    have p := f a (by omega) (by omega)
    refine (m1 _).mpr ⟨⟨by omega, by omega⟩, ?_⟩
    have e : x a - n + n = x a := by omega
    rw [e, p.2.2.2]; omega
theorem thr_mir {n : Int} {x : Int → Int} (h1 : 1 ≤ n) (f : FT (2 * n) x) : thr n (mirF n x) = thr n x := by
  unfold thr
  congr 1
  have v : ∀ p, 0 ≤ p → p < n → (mirF n x p ≥ n ↔ x (n - 1 - p) ≥ n) := fun p a b => by
    have e : mir n p = n - 1 - p := if_pos b
    have := f (n - 1 - p) (by omega) (by omega)
    unfold mirF
    rw [e]
    unfold mir
    by_cases c : x (n - 1 - p) < n
    · rw [if_pos c]; omega
    · rw [if_neg c]; omega
  have m1 : ∀ p, p ∈ (rng 0 n).filter (fun p => decide (mirF n x p ≥ n)) ↔ (0 ≤ p ∧ p < n) ∧ x (n - 1 - p) ≥ n := fun p => by
    rw [List.mem_filter, mem_rng]
    constructor
    · rintro ⟨a, b⟩; exact ⟨a, (v p a.1 a.2).mp (of_decide_eq_true b)⟩
    · rintro ⟨a, b⟩; exact ⟨a, decide_eq_true ((v p a.1 a.2).mpr b)⟩
  have m2 : ∀ p, p ∈ (rng 0 n).filter (fun p => decide (x p ≥ n)) ↔ (0 ≤ p ∧ p < n) ∧ x p ≥ n := fun p => by
    rw [List.mem_filter, mem_rng, decide_eq_true_iff]
  refine Nat.le_antisymm (count_le (fun p => n - 1 - p) (List.Pairwise.filter _ rng_nodup) (fun a b _ _ e => by have e : n - 1 - a = n - 1 - b := e; omega) fun a ha => ?_) (count_le (fun p => n - 1 - p) (List.Pairwise.filter _ rng_nodup) (fun a b _ _ e => by have e : n - 1 - a = n - 1 - b := e; omega) fun a ha => ?_)
  · have ha' := (m1 a).mp ha
    exact (m2 _).mpr ⟨by omega, ha'.2⟩
  · have ha' := (m2 a).mp ha
    refine (m1 _).mpr ⟨by omega, ?_⟩
    have e : n - 1 - (n - 1 - a) = a := by omega
    rw [e]; exact ha'.2
end Rb

set_option Elab.async false
set_option linter.all false
set_option maxRecDepth 100000
set_option maxHeartbeats 4000000
namespace Rb
open PySem L2
/-! # frames carried round -/
def sh (m b r : Int) : Int := (r + b) % m
def Tn (n b p : Int) : Int := rd n (sh (2 * n) b (rd n p))
def carF (n b : Int) (x : Int → Int) (p : Int) : Int := Tn n b (x (Tn n (-b) p))
theorem sh_in {m b r : Int} (h : 0 < m) : 0 ≤ sh m b r ∧ sh m b r < m := ⟨Int.emod_nonneg _ (by omega), Int.emod_lt_of_pos _ h⟩
theorem sh_sh {m b c r : Int} : sh m c (sh m b r) = sh m (b + c) r := by
  unfold sh
  rw [Int.emod_add_emod, Int.add_assoc]
theorem sh_zero {m r : Int} (h0 : 0 ≤ r) (h1 : r < m) : sh m 0 r = r := by
  unfold sh
  rw [Int.add_zero]
  exact Int.emod_eq_of_lt h0 h1
theorem Tn_in {n b p : Int} (h : 1 ≤ n) : 0 ≤ Tn n b p ∧ Tn n b p < 2 * n := by
  have := sh_in (m := 2 * n) (b := b) (r := rd n p) (by omega)
  exact rd_in this
theorem Tn_Tn {n b c p : Int} (h : 1 ≤ n) : Tn n c (Tn n b p) = Tn n (b + c) p := by
  unfold Tn
  rw [rd_rd' (sh_in (by omega)), sh_sh]
theorem Tn_zero {n p : Int} (p0 : 0 ≤ p) (p1 : p < 2 * n) : Tn n 0 p = p := by
  unfold Tn
  have := rd_in (n := n) ⟨p0, p1⟩
  rw [sh_zero this.1 this.2, rd_rd' ⟨p0, p1⟩]
theorem Tn_mod {n b c p : Int} (k : Int) (e : b = c + 2 * n * k) : Tn n b p = Tn n c p := by
  unfold Tn sh
  rw [e, ← Int.add_assoc, Int.add_mul_emod_self_left]
theorem sh_cases {m b r : Int} (hm : 0 < m) (h0 : 0 ≤ r) (h1 : r < m) : (r + b % m < m ∧ sh m b r = r + b % m) ∨ (m ≤ r + b % m ∧ sh m b r = r + b % m - m) := by
  have b0 := Int.emod_nonneg b (show m ≠ 0 by omega)
  have b1 := Int.emod_lt_of_pos b hm
  have e : sh m b r = (r + b % m) % m := by unfold sh; rw [Int.add_emod_emod]
  rw [e]
  by_cases c : r + b % m < m
  · exact .inl ⟨c, Int.emod_eq_of_lt (by omega) c⟩
  · refine .inr ⟨by omega, ?_⟩
    have e2 : r + b % m = (r + b % m - m) + m := by omega
    have e3 : (r + b % m) % m = (r + b % m - m) % m := by
      have := Int.add_emod_right (r + b % m - m) m
      rw [← e2] at this
      exact this
    rw [e3, Int.emod_eq_of_lt (by omega) (by omega)]
theorem car_fr {n b : Int} {x : Int → Int} (h1 : 1 ≤ n) (f : Fr n x) : Fr n (carF n b x) := by
  have inv : ∀ c p, 0 ≤ p → p < 2 * n → 0 ≤ Tn n c p ∧ Tn n c p < 2 * n ∧ Tn n (-c) (Tn n c p) = p := fun c p p0 p1 => by
    have := Tn_in (n := n) (b := c) (p := p) h1
    refine ⟨this.1, this.2, ?_⟩
    rw [Tn_Tn h1, show c + -c = 0 by omega, Tn_zero p0 p1]
  have rp : ∀ p, (0 ≤ p ∧ p < 2 * n) → (rd n p + b % (2 * n) < 2 * n ∧ rd n (Tn n b p) = rd n p + b % (2 * n)) ∨ (2 * n ≤ rd n p + b % (2 * n) ∧ rd n (Tn n b p) = rd n p + b % (2 * n) - 2 * n) := fun p hp => by
    have r := rd_in hp
    have e : rd n (Tn n b p) = sh (2 * n) b (rd n p) := rd_rd' (sh_in (by omega))
    rw [e]
    exact sh_cases (by omega) r.1 r.2
  exact f.turn (inv b) (fun p p0 p1 => by
    have := inv (-b) p p0 p1
    rw [show - -b = b by omega] at this
    exact this) fun a b' c d ha hb hc hd m1 m2 m3 m4 hh => btw_mod (m := 2 * n) (s := b % (2 * n)) (rp a ha) (rp b' hb) (rp c hc) (rp d hd) (rd_in ha) (rd_in hb) (rd_in hc) (rd_in hd) (rd_ne ha hc m1) (rd_ne ha hd m2) (rd_ne hb hc m3) (rd_ne hb hd m4) hh
theorem car_car {n b c : Int} {x : Int → Int} (h1 : 1 ≤ n) (p : Int) : carF n c (carF n b x) p = carF n (b + c) x p := by
  unfold carF
  rw [Tn_Tn h1, Tn_Tn h1, show -c + -b = -(b + c) by omega]
theorem car_mod {n b c : Int} {x : Int → Int} (k : Int) (e : b = c + 2 * n * k) (p : Int) : carF n b x p = carF n c x p := by
  unfold carF
  rw [Tn_mod k e, Tn_mod (b := -b) (c := -c) (-k) (by rw [e, Int.mul_neg]; omega)]
theorem car_zero {n : Int} {x : Int → Int} (f : FT (2 * n) x) (p : Int) (p0 : 0 ≤ p) (p1 : p < 2 * n) : carF n 0 x p = x p := by
  have := f p p0 p1
  unfold carF
  rw [show -(0 : Int) = 0 from rfl, Tn_zero p0 p1, Tn_zero this.1 this.2.1]
theorem mir_T {n b p : Int} (h1 : 1 ≤ n) (p0 : 0 ≤ p) (p1 : p < 2 * n) : mir n (Tn n b p) = Tn n (-b) (mir n p) := by
  have rm : ∀ q, 0 ≤ q → q < 2 * n → rd n (mir n q) = (n - 1 - rd n q) % (2 * n) := fun q q0 q1 => by
    have r := rd_in (n := n) ⟨q0, q1⟩
    have a : (rd n q < n ∧ rd n (mir n q) = n - 1 - rd n q) ∨ (n ≤ rd n q ∧ rd n (mir n q) = (n - 1 - rd n q) + 2 * n) := by unfold rd mir; grind
    rcases a with ⟨a, b⟩ | ⟨a, b⟩
    · rw [b]; exact (Int.emod_eq_of_lt (by omega) (by omega)).symm
    · rw [b, ← Int.add_emod_right]; exact (Int.emod_eq_of_lt (by omega) (by omega)).symm
  have i1 := Tn_in (n := n) (b := b) (p := p) h1
  have m1 : 0 ≤ mir n (Tn n b p) ∧ mir n (Tn n b p) < 2 * n := by unfold mir; split <;> omega
  have i2 := Tn_in (n := n) (b := -b) (p := mir n p) h1
  have e : rd n (mir n (Tn n b p)) = rd n (Tn n (-b) (mir n p)) := by
    rw [rm _ i1.1 i1.2]
    have e1 : rd n (Tn n b p) = sh (2 * n) b (rd n p) := rd_rd' (sh_in (by omega))
    have e2 : rd n (Tn n (-b) (mir n p)) = sh (2 * n) (-b) (rd n (mir n p)) := rd_rd' (sh_in (by omega))
    rw [e1, e2, rm p p0 p1]
    unfold sh
    rw [Int.emod_add_emod, Int.sub_emod, Int.emod_emod_of_dvd _ (Int.dvd_refl _), ← Int.sub_emod]
    congr 1
    omega
  rw [← rd_rd' m1, e, rd_rd' i2]
theorem plain_mir {n p : Int} (h1 : 1 ≤ n) (p0 : 0 ≤ p) (p1 : p < 2 * n) : plainF n (mir n p) = Tn n n p ∧ mir n (plainF n p) = Tn n n p := by
  have r := rd_in (n := n) ⟨p0, p1⟩
  have e : sh (2 * n) n (rd n p) = if rd n p < n then rd n p + n else rd n p - n := by
    have := sh_cases (m := 2 * n) (b := n) (r := rd n p) (by omega) r.1 r.2
    rw [Int.emod_eq_of_lt (show 0 ≤ n by omega) (show n < 2 * n by omega)] at this
    split <;> omega
  unfold Tn
  rw [e]
  constructor
  · unfold rd plainF mir; grind
  · unfold rd plainF mir; grind
theorem idx_map {f : Int → Int} {u j : Int} : ∀ (k : Nat) (lo hi : Int), lo + k = hi → lo ≤ j → j < hi → f j = u → (∀ i, lo ≤ i → i < j → f i ≠ u) → idx? ((rng lo hi).map f) u = some (j - lo)
  | 0, lo, hi, e, a, b, _, _ => by omega
  | k + 1, lo, hi, e, a, b, hj, hn => by
    rw [rng_cons (by omega), List.map_cons]
    unfold idx?
    by_cases c : lo = j
    · subst c
      rw [if_pos hj]
      congr 1
      omega
    · rw [if_neg (hn lo (by omega) (by omega)), idx_map k (lo + 1) hi (by omega) (by omega) b hj fun i x y => hn i (by omega) y]
      show some (j - (lo + 1) + 1) = some (j - lo)
      congr 1
      omega
end Rb

set_option Elab.async false
set_option linter.all false
set_option maxRecDepth 100000
set_option maxHeartbeats 4000000
namespace Rb
/-! # gluing by a list of pairs: in any order, under other names -/
/-- ties without fixed points on A -/
def Iv (A : Int → Prop) (t : Int → Int) : Prop := ∀ p, A p → A (t p) ∧ t p ≠ p ∧ t (t p) = p
theorem Iv.glue {A : Int → Prop} {t : Int → Int} {a b : Int} (h : Iv A t) (ha : A a) (hb : A b) (hab : a ≠ b) : Iv (fun p => A p ∧ p ≠ a ∧ p ≠ b) (glue t a b) := by
  intro p ⟨hp, pa, pb⟩
  have fa := h a ha
  have fb := h b hb
  have fp := h p hp
  unfold Rb.glue
  grind
def gst (s : (Int → Int) × Int) (q : Int × Int) : (Int → Int) × Int := (glue s.1 q.1 q.2, s.2 + if s.1 q.1 = q.2 then 1 else 0)
def glL (L : List (Int × Int)) (s : (Int → Int) × Int) : (Int → Int) × Int := L.foldl gst s
theorem glL_cons {q : Int × Int} {L : List (Int × Int)} {s : (Int → Int) × Int} : glL (q :: L) s = glL L (gst s q) := rfl
theorem glL_app {L M : List (Int × Int)} {s : (Int → Int) × Int} : glL (L ++ M) s = glL M (glL L s) := List.foldl_append
def pts (L : List (Int × Int)) : List Int := L.flatMap fun q => [q.1, q.2]
theorem pts_cons {q : Int × Int} {L : List (Int × Int)} : pts (q :: L) = q.1 :: q.2 :: pts L := rfl
theorem mem_pts {L : List (Int × Int)} {p : Int} : p ∈ pts L ↔ ∃ q, q ∈ L ∧ (p = q.1 ∨ p = q.2) := by
  unfold pts
  rw [List.mem_flatMap]
  simp
/-- like ties on A are glued alike -/
theorem glL_congr {A : Int → Prop} : ∀ {L : List (Int × Int)} {s s' : (Int → Int) × Int}, (∀ q, q ∈ L → A q.1 ∧ A q.2) → (∀ p, A p → s.1 p = s'.1 p) → s.2 = s'.2 → (∀ p, A p → (glL L s).1 p = (glL L s').1 p) ∧ (glL L s).2 = (glL L s').2
  | [], s, s', _, h, e => ⟨h, e⟩
  | q :: L, s, s', hA, h, e => by
    have a := hA q List.mem_cons_self
    rw [glL_cons, glL_cons]
    refine glL_congr (fun r hr => hA r (List.mem_cons_of_mem _ hr)) (fun p hp => ?_) ?_
    · show glue s.1 q.1 q.2 p = glue s'.1 q.1 q.2 p
      unfold glue
      rw [h p hp, h _ a.1, h _ a.2]
    · show s.2 + _ = s'.2 + _
      rw [e, h _ a.1]
/-- what was counted ahead -/
theorem glL_more : ∀ {L : List (Int × Int)} {t : Int → Int} {c : Int}, glL L (t, c) = ((glL L (t, 0)).1, (glL L (t, 0)).2 + c)
  | [], t, c => by show (t, c) = (t, 0 + c); rw [Int.zero_add]
  | q :: L, t, c => by
    rw [glL_cons, glL_cons]
    show glL L (glue t q.1 q.2, c + _) = _
    rw [glL_more (c := c + _)]
    show _ = ((glL L (glue t q.1 q.2, 0 + _)).1, (glL L (glue t q.1 q.2, 0 + _)).2 + c)
    rw [glL_more (c := 0 + _)]
    simp only [Prod.mk.injEq, true_and]
    omega
theorem glue_swap {A : Int → Prop} {t : Int → Int} {a b c d : Int} (h : Iv A t) (ha : A a) (hb : A b) (hc : A c) (hd : A d) (ab : a ≠ b) (ac : a ≠ c) (ad : a ≠ d) (bc : b ≠ c) (bd : b ≠ d) (cd : c ≠ d) :
    (∀ p, A p → p ≠ a → p ≠ b → p ≠ c → p ≠ d → glue (glue t a b) c d p = glue (glue t c d) a b p) ∧ (if t a = b then (1 : Int) else 0) + (if glue t a b c = d then 1 else 0) = (if t c = d then 1 else 0) + (if glue t c d a = b then 1 else 0) := by
  have fa := h a ha
  have fb := h b hb
  have fc := h c hc
  have fd := h d hd
  refine ⟨fun p hp pa pb pc pd => ?_, ?_⟩
  · have fp := h p hp
    unfold glue
    grind (splits := 40)
  · unfold glue
    grind (splits := 40)
theorem glL_perm {L L' : List (Int × Int)} (h : L.Perm L') : ∀ {A : Int → Prop} {s : (Int → Int) × Int}, Iv A s.1 → (∀ q, q ∈ L → A q.1 ∧ A q.2) → (pts L).Nodup → (∀ p, A p → p ∉ pts L → (glL L s).1 p = (glL L' s).1 p) ∧ (glL L s).2 = (glL L' s).2 := by
  induction h with
  | nil => intro A s _ _ _; exact ⟨fun _ _ _ => rfl, rfl⟩
  | @cons q L L' _ ih =>
    intro A s hI hA nd
    have a := hA q List.mem_cons_self
    rw [pts_cons] at nd
    obtain ⟨n1, nd⟩ := List.nodup_cons.mp nd
    obtain ⟨n2, nd⟩ := List.nodup_cons.mp nd
    have ne : q.1 ≠ q.2 := fun z => n1 (z ▸ List.mem_cons_self)
    have r := ih (A := fun p => A p ∧ p ≠ q.1 ∧ p ≠ q.2) (s := gst s q) (hI.glue a.1 a.2 ne) (fun r hr => by
      have := hA r (List.mem_cons_of_mem _ hr)
      have m1 : r.1 ∈ pts L := mem_pts.mpr ⟨r, hr, .inl rfl⟩
      have m2 : r.2 ∈ pts L := mem_pts.mpr ⟨r, hr, .inr rfl⟩
      exact ⟨⟨this.1, fun z => n1 (List.mem_cons_of_mem _ (z ▸ m1)), fun z => n2 (z ▸ m1)⟩, this.2, fun z => n1 (List.mem_cons_of_mem _ (z ▸ m2)), fun z => n2 (z ▸ m2)⟩) nd
    refine ⟨fun p hp hn => ?_, r.2⟩
    rw [pts_cons, List.mem_cons, List.mem_cons] at hn
    exact r.1 p ⟨hp, fun z => hn (.inl z), fun z => hn (.inr (.inl z))⟩ fun z => hn (.inr (.inr z))
  | @swap q r L =>
    intro A s hI hA nd
    have ar := hA r List.mem_cons_self
    have aq := hA q (List.mem_cons_of_mem _ List.mem_cons_self)
    rw [pts_cons, pts_cons] at nd
    simp only [List.nodup_cons, List.mem_cons, not_or] at nd
    obtain ⟨⟨h1, h2, h3, h4⟩, ⟨h5, h6, h7⟩, ⟨h8, h9⟩, h10, nd⟩ := nd
    have g := glue_swap hI ar.1 ar.2 aq.1 aq.2 h1 h2 h3 h5 h6 h8
    have c := glL_congr (A := fun p => A p ∧ p ≠ r.1 ∧ p ≠ r.2 ∧ p ≠ q.1 ∧ p ≠ q.2) (L := L) (s := gst (gst s r) q) (s' := gst (gst s q) r) (fun u hu => by
      have := hA u (List.mem_cons_of_mem _ (List.mem_cons_of_mem _ hu))
      have m1 : u.1 ∈ pts L := mem_pts.mpr ⟨u, hu, .inl rfl⟩
      have m2 : u.2 ∈ pts L := mem_pts.mpr ⟨u, hu, .inr rfl⟩
      exact ⟨⟨this.1, fun z => h4 (z ▸ m1), fun z => h7 (z ▸ m1), fun z => h9 (z ▸ m1), fun z => h10 (z ▸ m1)⟩, this.2, fun z => h4 (z ▸ m2), fun z => h7 (z ▸ m2), fun z => h9 (z ▸ m2), fun z => h10 (z ▸ m2)⟩)
      (fun p hp => g.1 p hp.1 hp.2.1 hp.2.2.1 hp.2.2.2.1 hp.2.2.2.2) (by
        show s.2 + _ + _ = s.2 + _ + _
        have := g.2
        show s.2 + (if s.1 r.1 = r.2 then 1 else 0) + (if glue s.1 r.1 r.2 q.1 = q.2 then 1 else 0) = s.2 + (if s.1 q.1 = q.2 then 1 else 0) + (if glue s.1 q.1 q.2 r.1 = r.2 then 1 else 0)
        omega)
    refine ⟨fun p hp hn => ?_, c.2⟩
    rw [pts_cons, pts_cons] at hn
    simp only [List.mem_cons, not_or] at hn
    exact c.1 p ⟨hp, hn.1, hn.2.1, hn.2.2.1, hn.2.2.2.1⟩
  | @trans L1 L2 L3 p1 p2 ih1 ih2 =>
    intro A s hI hA nd
    have a := ih1 hI hA nd
    have pp : (pts L1).Perm (pts L2) := p1.flatMap_right _
    have b := ih2 hI (fun q hq => hA q (p1.mem_iff.mpr hq)) (pp.nodup_iff.mp nd)
    exact ⟨fun p hp hn => (a.1 p hp hn).trans (b.1 p hp fun z => hn (pp.mem_iff.mpr z)), a.2.trans b.2⟩
/-- the two of a pair exchanged -/
theorem glL_flip {A : Int → Prop} : ∀ {L : List (Int × Int)} {s : (Int → Int) × Int}, Iv A s.1 → (∀ q, q ∈ L → A q.1 ∧ A q.2) → (pts L).Nodup → glL (L.map fun q => (q.2, q.1)) s = glL L s
  | [], s, _, _, _ => rfl
  | q :: L, s, hI, hA, nd => by
    have a := hA q List.mem_cons_self
    rw [pts_cons] at nd
    obtain ⟨n1, nd⟩ := List.nodup_cons.mp nd
    obtain ⟨n2, nd⟩ := List.nodup_cons.mp nd
    have ne : q.1 ≠ q.2 := fun z => n1 (z ▸ List.mem_cons_self)
    have fa := hI _ a.1
    have fb := hI _ a.2
    have e : gst s (q.2, q.1) = gst s q := by
      unfold gst
      have e1 : (s.1 q.2 = q.1) ↔ (s.1 q.1 = q.2) := ⟨fun z => by rw [← z, fb.2.2], fun z => by rw [← z, fa.2.2]⟩
      have e2 : glue s.1 q.2 q.1 = glue s.1 q.1 q.2 := by
        funext p
        have np : s.1 q.1 ≠ s.1 q.2 := fun z => ne (by rw [← fa.2.2, z, fb.2.2])
        unfold glue
        grind
      show (glue s.1 q.2 q.1, s.2 + if s.1 q.2 = q.1 then 1 else 0) = _
      rw [e2]
      simp only [e1]
    rw [List.map_cons, glL_cons, glL_cons, e]
    exact glL_flip (A := fun p => A p ∧ p ≠ q.1 ∧ p ≠ q.2) (hI.glue a.1 a.2 ne) (fun r hr => by
      have := hA r (List.mem_cons_of_mem _ hr)
      have m1 : r.1 ∈ pts L := mem_pts.mpr ⟨r, hr, .inl rfl⟩
      have m2 : r.2 ∈ pts L := mem_pts.mpr ⟨r, hr, .inr rfl⟩
      exact ⟨⟨this.1, fun z => n1 (List.mem_cons_of_mem _ (z ▸ m1)), fun z => n2 (z ▸ m1)⟩, this.2, fun z => n1 (List.mem_cons_of_mem _ (z ▸ m2)), fun z => n2 (z ▸ m2)⟩) nd
/-- other names -/
theorem glL_ren {A : Int → Prop} {f : Int → Int} (inj : ∀ p q, A p → A q → f p = f q → p = q) : ∀ {L : List (Int × Int)} {s s' : (Int → Int) × Int}, (∀ q, q ∈ L → A q.1 ∧ A q.2) → (∀ p, A p → A (s.1 p) ∧ s'.1 (f p) = f (s.1 p)) → s.2 = s'.2 →
    (∀ p, A p → A ((glL L s).1 p) ∧ (glL (L.map fun q => (f q.1, f q.2)) s').1 (f p) = f ((glL L s).1 p)) ∧ (glL L s).2 = (glL (L.map fun q => (f q.1, f q.2)) s').2
  | [], s, s', _, h, e => ⟨h, e⟩
  | q :: L, s, s', hA, h, e => by
    have a := hA q List.mem_cons_self
    have h1 := h _ a.1
    have h2 := h _ a.2
    rw [List.map_cons, glL_cons, glL_cons]
    have i1 : f (s.1 q.1) = f q.2 ↔ s.1 q.1 = q.2 := ⟨inj _ _ h1.1 a.2, fun z => by rw [z]⟩
    refine glL_ren inj (fun r hr => hA r (List.mem_cons_of_mem _ hr)) (fun p hp => ?_) ?_
    · have h3 := h p hp
      show A (glue s.1 q.1 q.2 p) ∧ glue s'.1 (f q.1) (f q.2) (f p) = f (glue s.1 q.1 q.2 p)
      have i2 : f p = f (s.1 q.1) ↔ p = s.1 q.1 := ⟨inj _ _ hp h1.1, fun z => by rw [z]⟩
      have i3 : f p = f (s.1 q.2) ↔ p = s.1 q.2 := ⟨inj _ _ hp h2.1, fun z => by rw [z]⟩
      unfold glue
      rw [h1.2, h2.2, h3.2]
      simp only [i1, i2, i3]
      split
      · exact ⟨h3.1, rfl⟩
      · split
        · exact ⟨h2.1, rfl⟩
        · split
          · exact ⟨h1.1, rfl⟩
          · exact ⟨h3.1, rfl⟩
    · show s.2 + (if s.1 q.1 = q.2 then 1 else 0) = s'.2 + (if s'.1 (f q.1) = f q.2 then 1 else 0)
      rw [h1.2, e]
      simp only [i1]
/-- points that are tied apart from the pairs stay -/
theorem glL_out {A : Int → Prop} {p : Int} (hp : ¬ A p) : ∀ {L : List (Int × Int)} {s : (Int → Int) × Int}, (∀ q, q ∈ L → A q.1 ∧ A q.2) → (∀ q, A q → A (s.1 q)) → (glL L s).1 p = s.1 p
  | [], s, _, _ => rfl
  | q :: L, s, hA, h => by
    have a := hA q List.mem_cons_self
    have h1 := h _ a.1
    have h2 := h _ a.2
    have n1 : p ≠ s.1 q.1 := fun z => hp (z ▸ h1)
    have n2 : p ≠ s.1 q.2 := fun z => hp (z ▸ h2)
    rw [glL_cons, glL_out hp (fun r hr => hA r (List.mem_cons_of_mem _ hr)) (fun r hr => ?_)]
    · show glue s.1 q.1 q.2 p = _
      unfold glue
      rw [if_neg n1, if_neg n2]
      split <;> rfl
    · show A (glue s.1 q.1 q.2 r)
      unfold glue
      have := h r hr
      split
      · exact this
      · split
        · exact h2
        · split
          · exact h1
          · exact this
/-- glued pairs count the rings of ties and pairs together -/
theorem Con.glued {t g : Int → Int} {a b r i : Int} (fa : t (t a) = a) (fb : t (t b) = b) (gab : g a = b) (gba : g b = a) (h : Con (glue t a b) g r i) : Con t g r i := by
  induction h with
  | refl => exact .refl
  | @f j _ ih =>
    unfold glue
    split
    · exact ih.f
    · split
      · rename_i c e
        subst e
        have := ih.f
        rw [fa] at this
        have := this.g
        rw [gab] at this
        exact this.f
      · split
        · rename_i c _ e
          subst e
          have := ih.f
          rw [fb] at this
          have := this.g
          rw [gba] at this
          exact this.f
        · exact ih.f
  | g _ ih => exact ih.g
theorem Cnt.glued {t g : Int → Int} {a b c : Int} {D : Int → Prop} (fa : t (t a) = a) (fb : t (t b) = b) (gab : g a = b) (gba : g b = a) (tab : t a ≠ b) (h : Cnt (glue t a b) g D c) :
    (∀ i, D i → i ≠ a ∧ i ≠ b) → (D (t a) ↔ D (t b)) → Cnt t g (fun i => D i ∨ (D (t a) ∧ (i = a ∨ i = b))) c := by
  have va : ∀ i, glue t a b i = if i = t a then t b else if i = t b then t a else t i := fun i => by unfold glue; rw [if_neg tab]
  have tba : t b ≠ a := fun z => tab (by rw [← z, fb])
  have ne : t a ≠ t b → a ≠ b := fun z w => z (by rw [w])
  induction h with
  | @nil D hn => intro _ _; exact .nil fun i z => z.elim (hn i) fun z => hn _ z.1
  | @ring D D' W r c hr hw hd _ ih =>
    intro hD hab
    have wab : W (t a) → W (t b) := fun z => by
      have := (hw _ z).2.1
      rw [va, if_pos rfl] at this
      exact this
    have wba : W (t b) → W (t a) := fun z => by
      have := (hw _ z).2.1
      rw [va] at this
      split at this
      · rename_i e; rw [← e]; exact z
      · rw [if_pos rfl] at this; exact this
    refine .ring (W := fun i => W i ∨ (W (t a) ∧ (i = a ∨ i = b))) (r := r) (.inl hr) (fun i hi => ?_) (fun i => ?_) (ih (fun i hi => hD i ((hd i).mp hi).1) ?_)
    · rcases hi with hi | ⟨w, hi⟩
      · have w := hw i hi
        refine ⟨.inl w.1, ?_, .inl w.2.2.1, w.2.2.2.glued fa fb gab gba⟩
        have k := w.2.1
        rw [va] at k
        by_cases e1 : i = t a
        · refine .inr ⟨e1 ▸ hi, .inl ?_⟩
          rw [e1, fa]
        · by_cases e2 : i = t b
          · refine .inr ⟨wba (e2 ▸ hi), .inr ?_⟩
            rw [e2, fb]
          · rw [if_neg e1, if_neg e2] at k
            exact .inl k
      · have w1 := hw _ w
        have w2 := hw _ (wab w)
        have k1 := (w1.2.2.2.glued fa fb gab gba).f
        have k2 := (w2.2.2.2.glued fa fb gab gba).f
        rw [fa] at k1
        rw [fb] at k2
        rcases hi with rfl | rfl
        · exact ⟨.inr ⟨w1.1, .inl rfl⟩, .inl w, .inr ⟨w, .inr gab⟩, k1⟩
        · exact ⟨.inr ⟨w1.1, .inr rfl⟩, .inl (wab w), .inr ⟨w, .inl gba⟩, k2⟩
    · rw [hd i, hd (t a)]
      have := hD i
      constructor
      · rintro (⟨z1, z2⟩ | ⟨⟨z1, z2⟩, z3⟩)
        · refine ⟨.inl z1, fun z => z.elim z2 fun z => ?_⟩
          rcases z.2 with e | e
          · exact (this z1).1 e
          · exact (this z1).2 e
        · refine ⟨.inr ⟨z1, z3⟩, fun z => z.elim (fun z => ?_) fun z => z2 z.1⟩
          have := hD i (hw i z).1
          rcases z3 with e | e
          · exact this.1 e
          · exact this.2 e
      · rintro ⟨z1 | z1, z2⟩
        · exact .inl ⟨z1, fun z => z2 (.inl z)⟩
        · exact .inr ⟨⟨z1.1, fun z => z2 (.inr ⟨z, z1.2⟩)⟩, z1.2⟩
    · rw [hd, hd, hab]
      exact ⟨fun z => ⟨z.1, fun w => z.2 (wba w)⟩, fun z => ⟨z.1, fun w => z.2 (wab w)⟩⟩
theorem glL_cnt {g : Int → Int} : ∀ {L : List (Int × Int)} {A : Int → Prop} {t : Int → Int}, Iv A t → (∀ q, q ∈ L → A q.1 ∧ A q.2 ∧ g q.1 = q.2 ∧ g q.2 = q.1) → (pts L).Nodup → (∀ p, A p → p ∈ pts L) → Cnt t g A (glL L (t, 0)).2
  | [], A, t, _, _, _, hp => .nil fun i hi => by have := hp i hi; cases this
  | q :: L, A, t, hI, hA, nd, hp => by
    have a := hA q List.mem_cons_self
    rw [pts_cons] at nd
    obtain ⟨n1, nd⟩ := List.nodup_cons.mp nd
    obtain ⟨n2, nd⟩ := List.nodup_cons.mp nd
    have ne : q.1 ≠ q.2 := fun z => n1 (z ▸ List.mem_cons_self)
    have fa := hI _ a.1
    have fb := hI _ a.2.1
    have ih := glL_cnt (g := g) (L := L) (A := fun p => A p ∧ p ≠ q.1 ∧ p ≠ q.2) (hI.glue a.1 a.2.1 ne) (fun r hr => by
      have := hA r (List.mem_cons_of_mem _ hr)
      have m1 : r.1 ∈ pts L := mem_pts.mpr ⟨r, hr, .inl rfl⟩
      have m2 : r.2 ∈ pts L := mem_pts.mpr ⟨r, hr, .inr rfl⟩
      exact ⟨⟨this.1, fun z => n1 (List.mem_cons_of_mem _ (z ▸ m1)), fun z => n2 (z ▸ m1)⟩, ⟨this.2.1, fun z => n1 (List.mem_cons_of_mem _ (z ▸ m2)), fun z => n2 (z ▸ m2)⟩, this.2.2⟩) nd (fun p ⟨h1, h2, h3⟩ => by
      have := hp p h1
      rw [pts_cons, List.mem_cons, List.mem_cons] at this
      rcases this with z | z | z
      · exact absurd z h2
      · exact absurd z h3
      · exact z)
    rw [glL_cons]
    show Cnt t g A (glL L (glue t q.1 q.2, 0 + _)).2
    rw [glL_more]
    show Cnt t g A ((glL L (glue t q.1 q.2, 0)).2 + (0 + if t q.1 = q.2 then 1 else 0))
    by_cases c : t q.1 = q.2
    · have e : glue t q.1 q.2 = t := by funext p; unfold glue; rw [if_pos c]
      rw [e] at ih ⊢
      rw [if_pos c, Int.zero_add]
      have c2 : t q.2 = q.1 := by rw [← c, fa.2.2]
      refine .ring (W := fun i => i = q.1 ∨ i = q.2) (.inl rfl) (fun i hi => ?_) (fun i => ?_) ih
      · rcases hi with rfl | rfl
        · exact ⟨a.1, .inr c, .inr a.2.2.1, .refl⟩
        · refine ⟨a.2.1, .inl c2, .inl a.2.2.2, ?_⟩
          rw [← c]
          exact .f .refl
      · rw [not_or]
    · rw [if_neg c, Int.add_zero, Int.add_zero]
      have c2 : t q.2 ≠ q.1 := fun z => c (by rw [← z, fb.2.2])
      have np : t q.1 ≠ t q.2 := fun z => ne (by rw [← fa.2.2, z, fb.2.2])
      have d1 : A (t q.1) ∧ t q.1 ≠ q.1 ∧ t q.1 ≠ q.2 := ⟨fa.1, fa.2.1, c⟩
      have d2 : A (t q.2) ∧ t q.2 ≠ q.1 ∧ t q.2 ≠ q.2 := ⟨fb.1, c2, fb.2.1⟩
      refine (ih.glued fa.2.2 fb.2.2 a.2.2.1 a.2.2.2 c (fun i hi => hi.2) ⟨fun _ => d2, fun _ => d1⟩).imp fun i => ?_
      constructor
      · rintro (z | ⟨_, rfl | rfl⟩)
        · exact z.1
        · exact a.1
        · exact a.2.1
      · intro z
        by_cases e1 : i = q.1
        · exact .inr ⟨d1, .inl e1⟩
        · by_cases e2 : i = q.2
          · exact .inr ⟨d1, .inr e2⟩
          · exact .inl ⟨z, e1, e2⟩
end Rb

set_option Elab.async false
set_option linter.all false
set_option maxRecDepth 100000
set_option maxHeartbeats 4000000
namespace Rb
/-! # frames hung in any order, turned over, mirrored -/
/-- n, n + 1, .., n pairs from the last on -/
def AL (u v : Int) : Nat → List (Int × Int)
  | 0 => []
  | j + 1 => (u + j, v + j) :: AL u v j
theorem mem_AL {u v : Int} {q : Int × Int} : ∀ {j : Nat}, q ∈ AL u v j ↔ ∃ k : Int, 0 ≤ k ∧ k < j ∧ q = (u + k, v + k)
  | 0 => by
    refine ⟨fun z => (by cases z), ?_⟩
    rintro ⟨k, a, b, _⟩
    omega
  | j + 1 => by
    unfold AL
    rw [List.mem_cons, mem_AL]
    constructor
    · rintro (z | ⟨k, a, b, c⟩)
      · exact ⟨j, by omega, by omega, z⟩
      · exact ⟨k, a, by omega, c⟩
    · rintro ⟨k, a, b, c⟩
      by_cases e : k = j
      · subst e; exact .inl c
      · exact .inr ⟨k, a, by omega, c⟩
theorem mem_ptsAL {u v p : Int} {j : Nat} : p ∈ pts (AL u v j) ↔ ∃ k : Int, 0 ≤ k ∧ k < j ∧ (p = u + k ∨ p = v + k) := by
  rw [mem_pts]
  constructor
  · rintro ⟨q, hq, z⟩
    obtain ⟨k, a, b, rfl⟩ := mem_AL.mp hq
    exact ⟨k, a, b, z⟩
  · rintro ⟨k, a, b, z⟩
    exact ⟨_, mem_AL.mpr ⟨k, a, b, rfl⟩, z⟩
theorem pts_app {L M : List (Int × Int)} : pts (L ++ M) = pts L ++ pts M := List.flatMap_append
theorem nd_AL {u v : Int} : ∀ {j : Nat}, ((j : Int) ≤ u - v ∨ (j : Int) ≤ v - u) → (pts (AL u v j)).Nodup
  | 0, _ => .nil
  | j + 1, h => by
    unfold AL
    rw [pts_cons, List.nodup_cons, List.nodup_cons]
    refine ⟨fun z => ?_, fun z => ?_, nd_AL (by omega)⟩
    · rcases List.mem_cons.mp z with z | z
      · simp only at z; omega
      · obtain ⟨k, a, b, c⟩ := mem_ptsAL.mp z
        simp only at c
        omega
    · obtain ⟨k, a, b, c⟩ := mem_ptsAL.mp z
      simp only at c
      omega
theorem AL_map {u v u' v' : Int} {f : Int → Int} : ∀ {j : Nat}, (∀ k : Int, 0 ≤ k → k < j → f (u + k) = u' + k ∧ f (v + k) = v' + k) → (AL u v j).map (fun q => (f q.1, f q.2)) = AL u' v' j
  | 0, _ => rfl
  | j + 1, h => by
    unfold AL
    have := h j (by omega) (by omega)
    rw [List.map_cons, AL_map fun k a b => h k a (by omega)]
    simp only [this.1, this.2]
theorem AL_flip {u v : Int} : ∀ {j : Nat}, (AL u v j).map (fun q => (q.2, q.1)) = AL v u j
  | 0 => rfl
  | j + 1 => by unfold AL; rw [List.map_cons, AL_flip]
/-- the pairs the other way round -/
theorem AL_rev {u v u' v' : Int} {f : Int → Int} {j : Nat} (h : ∀ k : Int, 0 ≤ k → k < j → f (u + k) = u' + (j - 1 - k) ∧ f (v + k) = v' + (j - 1 - k)) (hne : v' ≠ u') : ((AL u v j).map (fun q => (f q.1, f q.2))).Perm (AL u' v' j) := by
  have nd : ∀ {u v : Int} {j : Nat}, (AL u v j).Nodup := fun {u v j} => by
    induction j with
    | zero => exact .nil
    | succ j ih =>
      unfold AL
      refine List.nodup_cons.mpr ⟨fun z => ?_, ih⟩
      obtain ⟨k, a, b, c⟩ := mem_AL.mp z
      have := congrArg Prod.fst c
      simp only at this
      omega
  refine (List.perm_ext_iff_of_nodup ?_ nd).mpr fun q => ?_
  · have e : (AL u v j).map (fun q => (f q.1, f q.2)) = (AL u v j).map (fun q => (u' + (j - 1 - (q.1 - u)), v' + (j - 1 - (q.1 - u)))) := by
      apply List.map_congr_left
      intro q hq
      obtain ⟨k, a, b, rfl⟩ := mem_AL.mp hq
      have := h k a b
      simp only [this.1, this.2]
      have e : u + k - u = k := by omega
      rw [e]
    rw [e]
    refine List.Pairwise.map _ (fun a b => ?_) (nd (u := u) (v := v) (j := j) |> List.Pairwise.imp_of_mem (S := fun a b => a.1 ≠ b.1) fun {a b} ha hb hab z => hab ?_)
    · intro z w
      have := congrArg Prod.fst w
      simp only at this
      omega
    · obtain ⟨k, _, _, rfl⟩ := mem_AL.mp ha
      obtain ⟨l, _, _, rfl⟩ := mem_AL.mp hb
      simp only at z
      have : k = l := by omega
      rw [this]
  · rw [List.mem_map, mem_AL]
    constructor
    · rintro ⟨q', hq, rfl⟩
      obtain ⟨k, a, b, rfl⟩ := mem_AL.mp hq
      have := h k a b
      exact ⟨j - 1 - k, by omega, by omega, by simp only [this.1, this.2]⟩
    · rintro ⟨k, a, b, rfl⟩
      refine ⟨_, mem_AL.mpr ⟨j - 1 - k, by omega, by omega, rfl⟩, ?_⟩
      have := h (j - 1 - k) (by omega) (by omega)
      simp only [this.1, this.2]
      congr 1 <;> omega
theorem gls_AL {n : Int} {x y : Int → Int} : ∀ {j : Nat}, (j : Int) ≤ n → gls n x y j = glL (AL (3 * n - j) (2 * n - j) j) (two n x y, 0)
  | 0, _ => rfl
  | j + 1, h => by
    have e : ∀ (u v : Int) (j : Nat), AL u v (j + 1) = AL (u + 1) (v + 1) j ++ [(u, v)] := fun u v j => by
      induction j with
      | zero =>
        show [(u + ((0 : Nat) : Int), v + ((0 : Nat) : Int))] = [(u, v)]
        simp
      | succ j ih =>
        show (u + ((j + 1 : Nat) : Int), v + ((j + 1 : Nat) : Int)) :: AL u v (j + 1) = (u + 1 + (j : Int), v + 1 + (j : Int)) :: AL (u + 1) (v + 1) j ++ [(u, v)]
        rw [ih, List.cons_append]
        have e1 : u + ((j + 1 : Nat) : Int) = u + 1 + (j : Int) := by omega
        have e2 : v + ((j + 1 : Nat) : Int) = v + 1 + (j : Int) := by omega
        rw [e1, e2]
    rw [e, glL_app]
    have e1 : 3 * n - ((j + 1 : Nat) : Int) + 1 = 3 * n - j := by omega
    have e2 : 2 * n - ((j + 1 : Nat) : Int) + 1 = 2 * n - j := by omega
    rw [e1, e2, ← gls_AL (by omega)]
    show gl n (gls n x y j) _ = gst (gls n x y j) _
    unfold gl gst
    have e3 : 3 * n - ((j + 1 : Nat) : Int) = 2 * n + (n - 1 - j) := by omega
    have e4 : 2 * n - ((j + 1 : Nat) : Int) = n + (n - 1 - j) := by omega
    rw [e3, e4]
theorem gls_all {n : Int} {x y : Int → Int} (hn : 0 ≤ n) : gls n x y n.toNat = glL (AL (2 * n) n n.toNat) (two n x y, 0) := by
  rw [gls_AL (by omega)]
  have e1 : 3 * n - (n.toNat : Int) = 2 * n := by omega
  have e2 : 2 * n - (n.toNat : Int) = n := by omega
  rw [e1, e2]
theorem two_iv {n : Int} {x y : Int → Int} (hn : 0 ≤ n) (hx : FT (2 * n) x) (hy : FT (2 * n) y) : Iv (fun p => 0 ≤ p ∧ p < 4 * n) (two n x y) := by
  intro p ⟨p0, p1⟩
  unfold two
  by_cases c : p < 2 * n
  · have := hx p p0 c
    grind
  · have := hy (p - 2 * n) (by omega) (by omega)
    grind
theorem AL_in {n : Int} {q : Int × Int} (h : q ∈ AL (2 * n) n n.toNat) : ∃ k : Int, 0 ≤ k ∧ k < n ∧ q = (2 * n + k, n + k) := by
  obtain ⟨k, a, b, c⟩ := mem_AL.mp h
  exact ⟨k, a, by omega, c⟩
/-- what is left at the outer points is tied to outer points -/
theorem glL_iv : ∀ {L : List (Int × Int)} {A : Int → Prop} {s : (Int → Int) × Int}, Iv A s.1 → (∀ q, q ∈ L → A q.1 ∧ A q.2) → (pts L).Nodup → Iv (fun p => A p ∧ p ∉ pts L) (glL L s).1
  | [], A, s, hI, _, _ => fun p hp => ⟨⟨(hI p hp.1).1, by simp [pts]⟩, (hI p hp.1).2⟩
  | q :: L, A, s, hI, hA, nd => by
    have a := hA q List.mem_cons_self
    rw [pts_cons] at nd
    obtain ⟨n1, nd⟩ := List.nodup_cons.mp nd
    obtain ⟨n2, nd⟩ := List.nodup_cons.mp nd
    have ne : q.1 ≠ q.2 := fun z => n1 (z ▸ List.mem_cons_self)
    have ih := glL_iv (L := L) (A := fun p => A p ∧ p ≠ q.1 ∧ p ≠ q.2) (s := gst s q) (hI.glue a.1 a.2 ne) (fun r hr => by
      have := hA r (List.mem_cons_of_mem _ hr)
      have m1 : r.1 ∈ pts L := mem_pts.mpr ⟨r, hr, .inl rfl⟩
      have m2 : r.2 ∈ pts L := mem_pts.mpr ⟨r, hr, .inr rfl⟩
      exact ⟨⟨this.1, fun z => n1 (List.mem_cons_of_mem _ (z ▸ m1)), fun z => n2 (z ▸ m1)⟩, this.2, fun z => n1 (List.mem_cons_of_mem _ (z ▸ m2)), fun z => n2 (z ▸ m2)⟩) nd
    intro p ⟨hp, hn⟩
    rw [pts_cons, List.mem_cons, List.mem_cons, not_or, not_or] at hn
    have r := ih p ⟨⟨hp, hn.1, hn.2.1⟩, hn.2.2⟩
    rw [glL_cons]
    refine ⟨⟨r.1.1.1, ?_⟩, r.2⟩
    rw [pts_cons, List.mem_cons, List.mem_cons, not_or, not_or]
    exact ⟨r.1.1.2.1, r.1.1.2.2, r.1.2⟩
theorem gls_out {n : Int} {x y : Int → Int} (hn : 0 ≤ n) (hx : FT (2 * n) x) (hy : FT (2 * n) y) {p : Int} (p0 : 0 ≤ p) (p1 : p < 2 * n) : (0 ≤ (gls n x y n.toNat).1 (forth n p) ∧ (gls n x y n.toNat).1 (forth n p) < n) ∨ (3 * n ≤ (gls n x y n.toNat).1 (forth n p) ∧ (gls n x y n.toNat).1 (forth n p) < 4 * n) := by
  have h := glL_iv (L := AL (2 * n) n n.toNat) (s := (two n x y, 0)) (two_iv hn hx hy) (fun q hq => by obtain ⟨k, a, b, rfl⟩ := AL_in hq; exact ⟨⟨by simp only; omega, by simp only; omega⟩, by simp only; omega, by simp only; omega⟩) (nd_AL (by omega)) (forth n p) ⟨by unfold forth; split <;> omega, fun z => by
    obtain ⟨k, a, b, c⟩ := mem_ptsAL.mp z
    unfold forth at c
    split at c <;> omega⟩
  rw [← gls_all hn] at h
  obtain ⟨⟨a, b⟩, _⟩ := h
  generalize (gls n x y n.toNat).1 (forth n p) = r at *
  by_cases c : r < n
  · exact .inl ⟨a.1, c⟩
  · refine .inr ⟨?_, a.2⟩
    refine Int.not_lt.mp fun z => b (mem_ptsAL.mpr ?_)
    by_cases c2 : r < 2 * n
    · exact ⟨r - n, by omega, by omega, .inr (by omega)⟩
    · exact ⟨r - 2 * n, by omega, by omega, .inl (by omega)⟩
/-! ## three frames -/
def three (n : Int) (x y z : Int → Int) : Int → Int := fun p => if p < 2 * n then x p else if p < 4 * n then y (p - 2 * n) + 2 * n else z (p - 4 * n) + 4 * n
theorem three_iv {n : Int} {x y z : Int → Int} (hn : 0 ≤ n) (hx : FT (2 * n) x) (hy : FT (2 * n) y) (hz : FT (2 * n) z) : Iv (fun p => 0 ≤ p ∧ p < 6 * n) (three n x y z) := by
  intro p ⟨p0, p1⟩
  unfold three
  by_cases c : p < 2 * n
  · have := hx p p0 c
    grind
  · by_cases c2 : p < 4 * n
    · have := hy (p - 2 * n) (by omega) (by omega)
      grind
    · have := hz (p - 4 * n) (by omega) (by omega)
      grind
def up2 (n p : Int) : Int := p + 2 * n
def mid2 (n p : Int) : Int := if p < 3 * n then p else p + 2 * n
def out6 (n p : Int) : Int := if p < n then p else p + 4 * n
def back6 (n r : Int) : Int := if r < n then r else r - 4 * n
theorem comp_left {n : Int} {x y z : Int → Int} (hn : 0 ≤ n) (hx : FT (2 * n) x) (hy : FT (2 * n) y) (hz : FT (2 * n) z) (hc : FT (2 * n) (comp n x y)) :
    (∀ p, 0 ≤ p → p < 2 * n → comp n (comp n x y) z p = back6 n ((glL (AL (2 * n) n n.toNat ++ AL (4 * n) (3 * n) n.toNat) (three n x y z, 0)).1 (out6 n p))) ∧
    crings n x y + crings n (comp n x y) z = (glL (AL (2 * n) n n.toNat ++ AL (4 * n) (3 * n) n.toNat) (three n x y z, 0)).2 := by
  have inA : ∀ q, q ∈ AL (2 * n) n n.toNat → (0 ≤ q.1 ∧ q.1 < 4 * n) ∧ 0 ≤ q.2 ∧ q.2 < 4 * n := fun q hq => by
    obtain ⟨k, a, b, rfl⟩ := AL_in hq
    simp only
    omega
  -- the first gluing
  have two3 : ∀ p, 0 ≤ p ∧ p < 4 * n → (0 ≤ two n x y p ∧ two n x y p < 4 * n) ∧ three n x y z (id p) = id (two n x y p) := fun p hp => by
    refine ⟨(two_iv hn hx hy p hp).1, ?_⟩
    unfold three two id
    grind
  have r1 := glL_ren (A := fun p => 0 ≤ p ∧ p < 4 * n) (f := id) (fun _ _ _ _ h => h) (s := (two n x y, 0)) (s' := (three n x y z, 0)) inA two3 rfl
  have idm : (AL (2 * n) n n.toNat).map (fun q => (id q.1, id q.2)) = AL (2 * n) n n.toNat := by simp
  rw [idm, ← gls_all hn] at r1
  have lo : ∀ p, 0 ≤ p → p < 4 * n → (glL (AL (2 * n) n n.toNat) (three n x y z, 0)).1 p = (gls n x y n.toNat).1 p := fun p a b => (r1.1 p ⟨a, b⟩).2
  have hi : ∀ p, 4 * n ≤ p → (glL (AL (2 * n) n n.toNat) (three n x y z, 0)).1 p = z (p - 4 * n) + 4 * n := fun p a => by
    rw [glL_out (A := fun p => 0 ≤ p ∧ p < 4 * n) (by omega) inA fun q hq => ?_]
    · show three n x y z p = _
      unfold three
      rw [if_neg (by omega), if_neg (by omega)]
    · have := two3 q hq
      show 0 ≤ three n x y z q ∧ three n x y z q < 4 * n
      rw [show three n x y z q = two n x y q from this.2]
      exact this.1
  have cnt : (glL (AL (2 * n) n n.toNat) (three n x y z, 0)).2 = crings n x y := r1.2.symm
  -- the second one
  have r2 := glL_ren (A := fun p => 0 ≤ p ∧ p < 4 * n) (f := forth n) (fun p q hp hq h => by unfold forth at h; grind) (L := AL (2 * n) n n.toNat) (s := (two n (comp n x y) z, crings n x y)) (s' := glL (AL (2 * n) n n.toNat) (three n x y z, 0)) inA (fun p hp => by
    refine ⟨(two_iv hn hc hz p hp).1, ?_⟩
    show (glL _ _).1 (forth n p) = forth n (two n (comp n x y) z p)
    by_cases c : p < 2 * n
    · have o := gls_out hn hx hy hp.1 c
      have v : two n (comp n x y) z p = back n ((gls n x y n.toNat).1 (forth n p)) := by unfold two; rw [if_pos c]; rfl
      rw [lo _ (by unfold forth; split <;> omega) (by unfold forth; split <;> omega), v]
      generalize (gls n x y n.toNat).1 (forth n p) = r at *
      unfold back forth
      grind
    · have e : forth n p = p + 2 * n := if_neg (by omega)
      rw [e, hi _ (by omega)]
      have hz' := hz (p - 2 * n) (by omega) (by omega)
      have v : two n (comp n x y) z p = z (p - 2 * n) + 2 * n := by unfold two; rw [if_neg c]
      have e3 : forth n (z (p - 2 * n) + 2 * n) = z (p - 2 * n) + 2 * n + 2 * n := if_neg (by omega)
      have e : p + 2 * n - 4 * n = p - 2 * n := by omega
      rw [v, e3, e]
      omega) cnt.symm
  have m2 : (AL (2 * n) n n.toNat).map (fun q => (forth n q.1, forth n q.2)) = AL (4 * n) (3 * n) n.toNat := AL_map fun k a b => by
    unfold forth
    rw [if_neg (by omega), if_neg (by omega)]
    omega
  rw [m2, ← glL_app, glL_more, ← gls_all hn] at r2
  refine ⟨fun p p0 p1 => ?_, ?_⟩
  · have q := (r2.1 (forth n p) ⟨by unfold forth; split <;> omega, by unfold forth; split <;> omega⟩).2
    have o := gls_out hn hc hz p0 p1
    have e : forth n (forth n p) = out6 n p := by unfold forth out6; grind
    rw [e] at q
    rw [q]
    show back n _ = _
    generalize (gls n (comp n x y) z n.toNat).1 (forth n p) = r at *
    unfold back back6 forth
    grind
  · rw [← r2.2, Int.add_comm]
    rfl
theorem comp_right {n : Int} {x y z : Int → Int} (hn : 0 ≤ n) (hx : FT (2 * n) x) (hy : FT (2 * n) y) (hz : FT (2 * n) z) (hc : FT (2 * n) (comp n y z)) :
    (∀ p, 0 ≤ p → p < 2 * n → comp n x (comp n y z) p = back6 n ((glL (AL (4 * n) (3 * n) n.toNat ++ AL (2 * n) n n.toNat) (three n x y z, 0)).1 (out6 n p))) ∧
    crings n y z + crings n x (comp n y z) = (glL (AL (4 * n) (3 * n) n.toNat ++ AL (2 * n) n n.toNat) (three n x y z, 0)).2 := by
  have inA : ∀ q, q ∈ AL (2 * n) n n.toNat → (0 ≤ q.1 ∧ q.1 < 4 * n) ∧ 0 ≤ q.2 ∧ q.2 < 4 * n := fun q hq => by
    obtain ⟨k, a, b, rfl⟩ := AL_in hq
    simp only
    omega
  have inB : ∀ q, q ∈ AL (4 * n) (3 * n) n.toNat → (2 * n ≤ q.1 ∧ q.1 < 6 * n) ∧ 2 * n ≤ q.2 ∧ q.2 < 6 * n := fun q hq => by
    obtain ⟨k, a, b, rfl⟩ := mem_AL.mp hq
    simp only
    omega
  have two3 : ∀ p, 0 ≤ p ∧ p < 4 * n → (0 ≤ two n y z p ∧ two n y z p < 4 * n) ∧ three n x y z (up2 n p) = up2 n (two n y z p) := fun p hp => by
    refine ⟨(two_iv hn hy hz p hp).1, ?_⟩
    unfold three two up2
    by_cases c : p < 2 * n
    · rw [if_neg (by omega), if_pos (by omega), if_pos c]
      have e : p + 2 * n - 2 * n = p := by omega
      rw [e]
    · rw [if_neg (by omega), if_neg (by omega), if_neg c]
      have e : p + 2 * n - 4 * n = p - 2 * n := by omega
      rw [e]
      omega
  have r1 := glL_ren (A := fun p => 0 ≤ p ∧ p < 4 * n) (f := up2 n) (fun _ _ _ _ h => by unfold up2 at h; omega) (s := (two n y z, 0)) (s' := (three n x y z, 0)) inA two3 rfl
  have m1 : (AL (2 * n) n n.toNat).map (fun q => (up2 n q.1, up2 n q.2)) = AL (4 * n) (3 * n) n.toNat := AL_map fun k a b => by unfold up2; omega
  rw [m1, ← gls_all hn] at r1
  have hi : ∀ p, 2 * n ≤ p → p < 6 * n → (glL (AL (4 * n) (3 * n) n.toNat) (three n x y z, 0)).1 p = (gls n y z n.toNat).1 (p - 2 * n) + 2 * n := fun p a b => by
    have := (r1.1 (p - 2 * n) ⟨by omega, by omega⟩).2
    unfold up2 at this
    have e : p - 2 * n + 2 * n = p := by omega
    rw [e] at this
    exact this
  have lo : ∀ p, p < 2 * n → (glL (AL (4 * n) (3 * n) n.toNat) (three n x y z, 0)).1 p = x p := fun p a => by
    rw [glL_out (A := fun p => 2 * n ≤ p ∧ p < 6 * n) (by omega) inB fun q hq => ?_]
    · show three n x y z p = _
      unfold three
      rw [if_pos a]
    · have := two3 (q - 2 * n) ⟨by omega, by omega⟩
      have e : up2 n (q - 2 * n) = q := by unfold up2; omega
      rw [e] at this
      unfold up2 at this
      show 2 * n ≤ three n x y z q ∧ three n x y z q < 6 * n
      omega
  have cnt : (glL (AL (4 * n) (3 * n) n.toNat) (three n x y z, 0)).2 = crings n y z := r1.2.symm
  have r2 := glL_ren (A := fun p => 0 ≤ p ∧ p < 4 * n) (f := mid2 n) (fun p q hp hq h => by unfold mid2 at h; grind) (L := AL (2 * n) n n.toNat) (s := (two n x (comp n y z), crings n y z)) (s' := glL (AL (4 * n) (3 * n) n.toNat) (three n x y z, 0)) inA (fun p hp => by
    refine ⟨(two_iv hn hx hc p hp).1, ?_⟩
    show (glL _ _).1 (mid2 n p) = mid2 n (two n x (comp n y z) p)
    by_cases c : p < 2 * n
    · have hx' := hx p hp.1 c
      have v : two n x (comp n y z) p = x p := by unfold two; rw [if_pos c]
      have e1 : mid2 n p = p := if_pos (by omega)
      have e2 : mid2 n (x p) = x p := if_pos (by omega)
      rw [e1, lo _ c, v, e2]
    · have o := gls_out hn hy hz (p := p - 2 * n) (by omega) (by omega)
      have v : two n x (comp n y z) p = back n ((gls n y z n.toNat).1 (forth n (p - 2 * n))) + 2 * n := by unfold two; rw [if_neg c]; rfl
      have e : mid2 n p = forth n (p - 2 * n) + 2 * n := by unfold forth mid2; grind
      rw [e, hi _ (by unfold forth; split <;> omega) (by unfold forth; split <;> omega), v]
      have e2 : forth n (p - 2 * n) + 2 * n - 2 * n = forth n (p - 2 * n) := by omega
      rw [e2]
      generalize (gls n y z n.toNat).1 (forth n (p - 2 * n)) = r at *
      unfold back mid2
      grind) cnt.symm
  have m2 : (AL (2 * n) n n.toNat).map (fun q => (mid2 n q.1, mid2 n q.2)) = AL (2 * n) n n.toNat := AL_map fun k a b => by
    unfold mid2
    rw [if_pos (by omega), if_pos (by omega)]
    omega
  rw [m2, ← glL_app, glL_more, ← gls_all hn] at r2
  refine ⟨fun p p0 p1 => ?_, ?_⟩
  · have q := (r2.1 (forth n p) ⟨by unfold forth; split <;> omega, by unfold forth; split <;> omega⟩).2
    have o := gls_out hn hx hc p0 p1
    have e : mid2 n (forth n p) = out6 n p := by unfold forth out6 mid2; grind
    rw [e] at q
    rw [q]
    show back n _ = _
    generalize (gls n x (comp n y z) n.toNat).1 (forth n p) = r at *
    unfold back back6 mid2
    grind
  · rw [← r2.2, Int.add_comm]
    rfl
theorem comp_assoc {n : Int} {x y z : Int → Int} (hn : 0 ≤ n) (hx : FT (2 * n) x) (hy : FT (2 * n) y) (hz : FT (2 * n) z) (h1 : FT (2 * n) (comp n x y)) (h2 : FT (2 * n) (comp n y z)) :
    (∀ p, 0 ≤ p → p < 2 * n → comp n (comp n x y) z p = comp n x (comp n y z) p) ∧ crings n x y + crings n (comp n x y) z = crings n y z + crings n x (comp n y z) := by
  obtain ⟨l1, l2⟩ := comp_left hn hx hy hz h1
  obtain ⟨r1, r2⟩ := comp_right hn hx hy hz h2
  have nd : (pts (AL (2 * n) n n.toNat ++ AL (4 * n) (3 * n) n.toNat)).Nodup := by
    rw [pts_app]
    refine List.nodup_append.mpr ⟨nd_AL (by omega), nd_AL (by omega), fun a ha b hb e => ?_⟩
    obtain ⟨k, k0, k1, k2⟩ := mem_ptsAL.mp ha
    obtain ⟨l, l0, l1, l2⟩ := mem_ptsAL.mp hb
    omega
  have P := glL_perm (L := AL (2 * n) n n.toNat ++ AL (4 * n) (3 * n) n.toNat) (L' := AL (4 * n) (3 * n) n.toNat ++ AL (2 * n) n n.toNat) List.perm_append_comm (s := (three n x y z, 0)) (three_iv hn hx hy hz) (fun q hq => by
    rcases List.mem_append.mp hq with h | h
    · obtain ⟨k, a, b, rfl⟩ := mem_AL.mp h
      simp only
      omega
    · obtain ⟨k, a, b, rfl⟩ := mem_AL.mp h
      simp only
      omega) nd
  refine ⟨fun p p0 p1 => ?_, by rw [l2, r2, P.2]⟩
  rw [l1 p p0 p1, r1 p p0 p1, P.1 (out6 n p) (by unfold out6; split <;> omega) fun m => ?_]
  rw [pts_app] at m
  rcases List.mem_append.mp m with m | m
  · obtain ⟨k, a, b, c⟩ := mem_ptsAL.mp m
    unfold out6 at c
    split at c <;> omega
  · obtain ⟨k, a, b, c⟩ := mem_ptsAL.mp m
    unfold out6 at c
    split at c <;> omega
end Rb

set_option Elab.async false
set_option linter.all false
set_option maxRecDepth 100000
set_option maxHeartbeats 4000000
namespace Rb
/-! # two frames under other names: turned over, mirrored, closed -/
def ov4 (n p : Int) : Int := if p < n then p + 3 * n else if p < 2 * n then p + n else if p < 3 * n then p - n else p - 3 * n
def mi4 (n p : Int) : Int := if p < 2 * n then mir n p else mir n (p - 2 * n) + 2 * n
def ex4 (n p : Int) : Int := if p < 2 * n then p + 2 * n else p - 2 * n
theorem inA4 {n : Int} : ∀ q, q ∈ AL (2 * n) n n.toNat → (0 ≤ q.1 ∧ q.1 < 4 * n) ∧ 0 ≤ q.2 ∧ q.2 < 4 * n := fun q hq => by
  obtain ⟨k, a, b, rfl⟩ := AL_in hq
  simp only
  omega
theorem comp_over {n : Int} {x y : Int → Int} (h1 : 1 ≤ n) (hx : FT (2 * n) x) (hy : FT (2 * n) y) (ho : FT (2 * n) (ovF n x)) (hp : FT (2 * n) (ovF n y)) :
    (∀ p, 0 ≤ p → p < 2 * n → comp n (ovF n y) (ovF n x) p = ovF n (comp n x y) p) ∧ crings n (ovF n y) (ovF n x) = crings n x y := by
  have hn : 0 ≤ n := by omega
  have r := glL_ren (A := fun p => 0 ≤ p ∧ p < 4 * n) (f := ov4 n) (fun p q hp hq h => by unfold ov4 at h; grind) (L := AL (2 * n) n n.toNat) (s := (two n (ovF n y) (ovF n x), 0)) (s' := (two n x y, 0)) inA4 (fun p hq => by
    refine ⟨(two_iv hn hp ho p hq).1, ?_⟩
    show two n x y (ov4 n p) = ov4 n (two n (ovF n y) (ovF n x) p)
    by_cases c : p < 2 * n
    · have q := plain_ft h1 p hq.1 c
      have w := hy _ q.1 q.2.1
      have w2 := plain_ft h1 _ w.1 w.2.1
      have e1 : ov4 n p = plainF n p + 2 * n := by unfold ov4 plainF; grind
      have e2 : two n (ovF n y) (ovF n x) p = plainF n (y (plainF n p)) := by unfold two; rw [if_pos c]; rfl
      have e3 : ov4 n (plainF n (y (plainF n p))) = plainF n (plainF n (y (plainF n p))) + 2 * n := by
        generalize plainF n (y (plainF n p)) = u at *
        unfold ov4 plainF; grind
      rw [e1, e2, e3, w2.2.2.2]
      unfold two
      rw [if_neg (by omega)]
      have e : plainF n p + 2 * n - 2 * n = plainF n p := by omega
      rw [e]
    · have q := plain_ft h1 (p - 2 * n) (by omega) (by omega)
      have w := hx _ q.1 q.2.1
      have w2 := plain_ft h1 _ w.1 w.2.1
      have e1 : ov4 n p = plainF n (p - 2 * n) := by unfold ov4 plainF; grind
      have e2 : two n (ovF n y) (ovF n x) p = plainF n (x (plainF n (p - 2 * n))) + 2 * n := by unfold two; rw [if_neg c]; rfl
      have e3 : ov4 n (plainF n (x (plainF n (p - 2 * n))) + 2 * n) = plainF n (plainF n (x (plainF n (p - 2 * n)))) := by
        generalize plainF n (x (plainF n (p - 2 * n))) = u at *
        unfold ov4 plainF; grind
      rw [e1, e2, e3, w2.2.2.2]
      unfold two
      rw [if_pos q.2.1]) rfl
  have m : (AL (2 * n) n n.toNat).map (fun q => (ov4 n q.1, ov4 n q.2)) = AL n (2 * n) n.toNat := AL_map fun k a b => by unfold ov4; grind
  have fl := glL_flip (L := AL (2 * n) n n.toNat) (s := (two n x y, 0)) (two_iv hn hx hy) inA4 (nd_AL (by omega))
  rw [AL_flip] at fl
  rw [m, fl, ← gls_all hn, ← gls_all hn] at r
  refine ⟨fun p p0 p1 => ?_, r.2⟩
  have q := (r.1 (forth n p) ⟨by unfold forth; split <;> omega, by unfold forth; split <;> omega⟩).2
  have o := gls_out hn hp ho p0 p1
  have pl := plain_ft h1 p p0 p1
  have e : ov4 n (forth n p) = forth n (plainF n p) := by unfold ov4 forth plainF; grind
  rw [e] at q
  show back n _ = plainF n (back n _)
  rw [q]
  generalize (gls n (ovF n y) (ovF n x) n.toNat).1 (forth n p) = u at *
  unfold ov4 back plainF
  grind
theorem comp_mir {n : Int} {x y : Int → Int} (h1 : 1 ≤ n) (hx : FT (2 * n) x) (hy : FT (2 * n) y) (ho : FT (2 * n) (mirF n x)) (hp : FT (2 * n) (mirF n y)) :
    (∀ p, 0 ≤ p → p < 2 * n → comp n (mirF n x) (mirF n y) p = mirF n (comp n x y) p) ∧ crings n (mirF n x) (mirF n y) = crings n x y := by
  have hn : 0 ≤ n := by omega
  have r := glL_ren (A := fun p => 0 ≤ p ∧ p < 4 * n) (f := mi4 n) (fun p q hp hq h => by unfold mi4 mir at h; grind) (L := AL (2 * n) n n.toNat) (s := (two n (mirF n x) (mirF n y), 0)) (s' := (two n x y, 0)) inA4 (fun p hq => by
    refine ⟨(two_iv hn ho hp p hq).1, ?_⟩
    show two n x y (mi4 n p) = mi4 n (two n (mirF n x) (mirF n y) p)
    by_cases c : p < 2 * n
    · have q := mir_inv p hq.1 c
      have w := hx _ q.1 q.2.1
      have w2 := mir_inv _ w.1 w.2.1
      have e1 : mi4 n p = mir n p := by unfold mi4; rw [if_pos c]
      have e2 : two n (mirF n x) (mirF n y) p = mir n (x (mir n p)) := by unfold two; rw [if_pos c]; rfl
      have e3 : mi4 n (mir n (x (mir n p))) = mir n (mir n (x (mir n p))) := by unfold mi4; rw [if_pos w2.2.1]
      rw [e1, e2, e3, w2.2.2]
      unfold two
      rw [if_pos q.2.1]
    · have q := mir_inv (n := n) (p - 2 * n) (by omega) (by omega)
      have w := hy _ q.1 q.2.1
      have w2 := mir_inv _ w.1 w.2.1
      have e1 : mi4 n p = mir n (p - 2 * n) + 2 * n := by unfold mi4; rw [if_neg c]
      have e2 : two n (mirF n x) (mirF n y) p = mir n (y (mir n (p - 2 * n))) + 2 * n := by unfold two; rw [if_neg c]; rfl
      have e3 : mi4 n (mir n (y (mir n (p - 2 * n))) + 2 * n) = mir n (mir n (y (mir n (p - 2 * n)))) + 2 * n := by
        unfold mi4
        rw [if_neg (by omega)]
        have e : mir n (y (mir n (p - 2 * n))) + 2 * n - 2 * n = mir n (y (mir n (p - 2 * n))) := by omega
        rw [e]
      rw [e1, e2, e3, w2.2.2]
      unfold two
      rw [if_neg (by omega)]
      have e : mir n (p - 2 * n) + 2 * n - 2 * n = mir n (p - 2 * n) := by omega
      rw [e]) rfl
  have m : ((AL (2 * n) n n.toNat).map (fun q => (mi4 n q.1, mi4 n q.2))).Perm (AL (2 * n) n n.toNat) := AL_rev (fun k a b => by unfold mi4 mir; grind) (by omega)
  have pm := glL_perm m.symm (s := (two n x y, 0)) (two_iv hn hx hy) inA4 (nd_AL (by omega))
  rw [← gls_all hn] at pm r
  refine ⟨fun p p0 p1 => ?_, r.2.trans pm.2.symm⟩
  have mi := mir_inv (n := n) p p0 p1
  have q := (r.1 (forth n p) ⟨by unfold forth; split <;> omega, by unfold forth; split <;> omega⟩).2
  have o := gls_out hn ho hp p0 p1
  have e : mi4 n (forth n p) = forth n (mir n p) := by unfold mi4 forth mir; grind
  rw [e, ← pm.1 _ ⟨by unfold forth; split <;> omega, by unfold forth; split <;> omega⟩ (fun z => by
    obtain ⟨k, a, b, c⟩ := mem_ptsAL.mp z
    unfold forth at c
    split at c <;> omega)] at q
  show back n _ = mir n (back n _)
  rw [q]
  generalize (gls n (mirF n x) (mirF n y) n.toNat).1 (forth n p) = u at *
  unfold mi4 back mir
  grind
/-! ## closed frames -/
def cls (n : Int) (x : Int → Int) : Int := (glL (AL n 0 n.toNat) (x, 0)).2
theorem inC {n : Int} : ∀ q, q ∈ AL n 0 n.toNat → (0 ≤ q.1 ∧ q.1 < 2 * n) ∧ 0 ≤ q.2 ∧ q.2 < 2 * n := fun q hq => by
  obtain ⟨k, a, b, rfl⟩ := mem_AL.mp hq
  simp only
  omega
theorem FT.iv {n : Int} {x : Int → Int} (hx : FT (2 * n) x) : Iv (fun p => 0 ≤ p ∧ p < 2 * n) x := fun p hp => by
  have := hx p hp.1 hp.2
  exact ⟨⟨this.1, this.2.1⟩, this.2.2⟩
theorem cls_cnt {n : Int} {x : Int → Int} (h1 : 1 ≤ n) (hx : FT (2 * n) x) : Cnt x (plainF n) (fun p => 0 ≤ p ∧ p < 2 * n) (cls n x) := by
  refine glL_cnt hx.iv (fun q hq => ?_) (nd_AL (by omega)) (fun p hp => mem_ptsAL.mpr ?_)
  · obtain ⟨k, a, b, rfl⟩ := mem_AL.mp hq
    unfold plainF
    simp only
    grind
  · by_cases c : p < n
    · exact ⟨p, by omega, by omega, .inr (by omega)⟩
    · exact ⟨p - n, by omega, by omega, .inl (by omega)⟩
/-- the frame that two come to, closed, with the rings that fell -/
theorem cls_comp {n : Int} {x y : Int → Int} (h1 : 1 ≤ n) (hx : FT (2 * n) x) (hy : FT (2 * n) y) (hc : FT (2 * n) (comp n x y)) : cls n (comp n x y) + crings n x y = (glL (AL (2 * n) n n.toNat ++ AL (3 * n) 0 n.toNat) (two n x y, 0)).2 := by
  have hn : 0 ≤ n := by omega
  have r := glL_ren (A := fun p => 0 ≤ p ∧ p < 2 * n) (f := forth n) (fun p q hp hq h => by unfold forth at h; grind) (L := AL n 0 n.toNat) (s := (comp n x y, crings n x y)) (s' := gls n x y n.toNat) inC (fun p hp => by
    have q := hc p hp.1 hp.2
    have o := gls_out hn hx hy hp.1 hp.2
    refine ⟨⟨q.1, q.2.1⟩, ?_⟩
    show _ = forth n (back n _)
    generalize (gls n x y n.toNat).1 (forth n p) = u at *
    unfold forth back
    grind) rfl
  have m : (AL n 0 n.toNat).map (fun q => (forth n q.1, forth n q.2)) = AL (3 * n) 0 n.toNat := AL_map fun k a b => by unfold forth; grind
  rw [m, glL_more, gls_all hn, ← glL_app] at r
  exact r.2
theorem cls_swap {n : Int} {x y : Int → Int} (h1 : 1 ≤ n) (hx : FT (2 * n) x) (hy : FT (2 * n) y) (hc : FT (2 * n) (comp n x y)) (hd : FT (2 * n) (comp n y x)) : cls n (comp n x y) + crings n x y = cls n (comp n y x) + crings n y x := by
  have hn : 0 ≤ n := by omega
  rw [cls_comp h1 hx hy hc, cls_comp h1 hy hx hd]
  have inn : ∀ q, q ∈ AL (2 * n) n n.toNat ++ AL (3 * n) 0 n.toNat → (0 ≤ q.1 ∧ q.1 < 4 * n) ∧ 0 ≤ q.2 ∧ q.2 < 4 * n := fun q hq => by
    rcases List.mem_append.mp hq with h | h
    · exact inA4 q h
    · obtain ⟨k, a, b, rfl⟩ := mem_AL.mp h
      simp only
      omega
  have nd : (pts (AL (2 * n) n n.toNat ++ AL (3 * n) 0 n.toNat)).Nodup := by
    rw [pts_app]
    refine List.nodup_append.mpr ⟨nd_AL (by omega), nd_AL (by omega), fun a ha b hb e => ?_⟩
    obtain ⟨k, k0, k1, k2⟩ := mem_ptsAL.mp ha
    obtain ⟨l, l0, l1, l2⟩ := mem_ptsAL.mp hb
    omega
  have r := glL_ren (A := fun p => 0 ≤ p ∧ p < 4 * n) (f := ex4 n) (fun p q hp hq h => by unfold ex4 at h; grind) (L := AL (2 * n) n n.toNat ++ AL (3 * n) 0 n.toNat) (s := (two n y x, 0)) (s' := (two n x y, 0)) inn (fun p hp => by
    refine ⟨(two_iv hn hy hx p hp).1, ?_⟩
    show two n x y (ex4 n p) = ex4 n (two n y x p)
    by_cases c : p < 2 * n
    · have w := hy p hp.1 c
      have e : p + 2 * n - 2 * n = p := by omega
      unfold two ex4
      rw [if_pos c, if_pos c, if_neg (by omega), e, if_pos w.2.1]
    · have w := hx (p - 2 * n) (by omega) (by omega)
      unfold two ex4
      rw [if_neg c, if_neg c, if_pos (by omega), if_neg (by omega)]
      omega) rfl
  have m1 : (AL (2 * n) n n.toNat).map (fun q => (ex4 n q.1, ex4 n q.2)) = AL 0 (3 * n) n.toNat := AL_map fun k a b => by unfold ex4; grind
  have m2 : (AL (3 * n) 0 n.toNat).map (fun q => (ex4 n q.1, ex4 n q.2)) = AL n (2 * n) n.toNat := AL_map fun k a b => by unfold ex4; grind
  have f1 : AL 0 (3 * n) n.toNat ++ AL n (2 * n) n.toNat = (AL (3 * n) 0 n.toNat ++ AL (2 * n) n n.toNat).map fun q => (q.2, q.1) := by rw [List.map_append, AL_flip, AL_flip]
  rw [List.map_append, m1, m2, f1] at r
  have pp : (AL (2 * n) n n.toNat ++ AL (3 * n) 0 n.toNat).Perm (AL (3 * n) 0 n.toNat ++ AL (2 * n) n n.toNat) := List.perm_append_comm
  have fl := glL_flip (L := AL (3 * n) 0 n.toNat ++ AL (2 * n) n n.toNat) (s := (two n x y, 0)) (two_iv hn hx hy) (fun q hq => inn q (pp.mem_iff.mpr hq)) ((pp.flatMap_right _).nodup_iff.mp nd)
  rw [fl] at r
  rw [(glL_perm pp (s := (two n x y, 0)) (two_iv hn hx hy) inn nd).2]
  exact r.2.symm
/-- closed under other names that keep columns together -/
theorem cls_ren {n : Int} {x x' f : Int → Int} (hx : FT (2 * n) x) (hx' : FT (2 * n) x') (inj : ∀ p q, 0 ≤ p ∧ p < 2 * n → 0 ≤ q ∧ q < 2 * n → f p = f q → p = q) (h : ∀ p, 0 ≤ p → p < 2 * n → x' (f p) = f (x p)) (L : List (Int × Int))
    (hL : ((AL n 0 n.toNat).map fun q => (f q.1, f q.2)).Perm L) (e : L = AL n 0 n.toNat ∨ L = (AL n 0 n.toNat).map fun q => (q.2, q.1)) : cls n x = cls n x' := by
  have r := glL_ren (A := fun p => 0 ≤ p ∧ p < 2 * n) (f := f) inj (L := AL n 0 n.toNat) (s := (x, 0)) (s' := (x', 0)) inC (fun p hp => by
    have := hx p hp.1 hp.2
    exact ⟨⟨this.1, this.2.1⟩, h p hp.1 hp.2⟩) rfl
  have nd := nd_AL (u := n) (v := 0) (j := n.toNat) (by omega)
  have pin : (∀ q, q ∈ L → (0 ≤ q.1 ∧ q.1 < 2 * n) ∧ 0 ≤ q.2 ∧ q.2 < 2 * n) ∧ (pts L).Nodup ∧ (glL L (x', 0)).2 = cls n x' := by
    rcases e with rfl | rfl
    · exact ⟨inC, nd, rfl⟩
    · refine ⟨fun q hq => ?_, ?_, ?_⟩
      · rw [AL_flip] at hq
        obtain ⟨k, a, b, rfl⟩ := mem_AL.mp hq
        simp only
        omega
      · rw [AL_flip]
        exact nd_AL (by omega)
      · rw [glL_flip (L := AL n 0 n.toNat) (s := (x', 0)) hx'.iv inC nd]
        rfl
  have pm := glL_perm hL.symm (s := (x', 0)) hx'.iv pin.1 pin.2.1
  unfold cls at pin ⊢
  rw [r.2, ← pm.2, pin.2.2]
theorem cls_over {n : Int} {x : Int → Int} (h1 : 1 ≤ n) (hx : FT (2 * n) x) (ho : FT (2 * n) (ovF n x)) : cls n (ovF n x) = cls n x := by
  refine (cls_ren (f := plainF n) hx ho (fun p q hp hq h => ?_) (fun p p0 p1 => ?_) _ (.refl _) (.inr ?_)).symm
  · have a := plain_ft h1 p hp.1 hp.2
    have b := plain_ft h1 q hq.1 hq.2
    rw [← a.2.2.2, h, b.2.2.2]
  · unfold ovF
    rw [(plain_ft h1 p p0 p1).2.2.2]
  · rw [AL_flip]
    exact AL_map fun k a b => by unfold plainF; grind
theorem cls_mir {n : Int} {x : Int → Int} (h1 : 1 ≤ n) (hx : FT (2 * n) x) (ho : FT (2 * n) (mirF n x)) : cls n (mirF n x) = cls n x := by
  refine (cls_ren (f := mir n) hx ho (fun p q hp hq h => ?_) (fun p p0 p1 => ?_) (AL n 0 n.toNat) (AL_rev (fun k a b => ?_) (by omega)) (.inl rfl)).symm
  · have a := mir_inv p hp.1 hp.2
    have b := mir_inv q hq.1 hq.2
    rw [← a.2.2, h, b.2.2]
  · unfold mirF
    rw [(mir_inv p p0 p1).2.2]
  · unfold mir; grind
theorem cls_half {n : Int} {x : Int → Int} (h1 : 1 ≤ n) (hx : FT (2 * n) x) (ho : FT (2 * n) (carF n n x)) : cls n (carF n n x) = cls n x := by
  have T : ∀ p, 0 ≤ p → p < 2 * n → Tn n n p = 2 * n - 1 - p := fun p p0 p1 => by
    unfold Tn sh
    by_cases c : p < n
    · have e : rd n p = p := if_pos c
      rw [e, Int.emod_eq_of_lt (show 0 ≤ p + n by omega) (show p + n < 2 * n by omega)]
      unfold rd
      rw [if_neg (by omega)]
      omega
    · have e : rd n p = 3 * n - 1 - p := if_neg c
      have e2 : 3 * n - 1 - p + n = (2 * n - 1 - p) + 2 * n := by omega
      rw [e, e2, Int.add_emod_right, Int.emod_eq_of_lt (show 0 ≤ 2 * n - 1 - p by omega) (show 2 * n - 1 - p < 2 * n by omega)]
      unfold rd
      rw [if_pos (by omega)]
  refine (cls_ren (f := Tn n n) hx ho (fun p q hp hq h => ?_) (fun p p0 p1 => ?_) _ (AL_rev (u' := 0) (v' := n) (fun k a b => ?_) (by omega)) (.inr AL_flip.symm)).symm
  · rw [T p hp.1 hp.2, T q hq.1 hq.2] at h
    omega
  · unfold carF
    rw [Tn_Tn h1]
    have e : n + -n = 0 := by omega
    rw [e, Tn_zero p0 p1]
  · rw [T _ (by omega) (by omega), T _ (by omega) (by omega)]
    omega
end Rb

set_option Elab.async false
set_option linter.all false
set_option maxRecDepth 100000
set_option maxHeartbeats 4000000
namespace Rb
open L2
/-! # rows of frames -/
theorem comp_congr {n : Int} {x y x' y' : Int → Int} (hn : 0 ≤ n) (hx : ∀ p, 0 ≤ p → p < 2 * n → x p = x' p) (hy : ∀ p, 0 ≤ p → p < 2 * n → y p = y' p) :
    (∀ p, 0 ≤ p → p < 2 * n → comp n x y p = comp n x' y' p) ∧ crings n x y = crings n x' y' := by
  have r := glL_congr (A := fun p => 0 ≤ p ∧ p < 4 * n) (L := AL (2 * n) n n.toNat) (s := (two n x y, 0)) (s' := (two n x' y', 0)) inA4 (fun p hp => by
    show two n x y p = two n x' y' p
    unfold two
    by_cases c : p < 2 * n
    · rw [if_pos c, if_pos c, hx p hp.1 c]
    · rw [if_neg c, if_neg c, hy (p - 2 * n) (by omega) (by omega)]) rfl
  rw [← gls_all hn, ← gls_all hn] at r
  refine ⟨fun p p0 p1 => ?_, r.2⟩
  show back n _ = back n _
  rw [r.1 (forth n p) ⟨by unfold forth; split <;> omega, by unfold forth; split <;> omega⟩]
/-- what a row of frames comes to -/
def stk (n : Int) (fs : List (Int → Int)) : (Int → Int) × Int := fs.foldl (fun s x => (comp n s.1 x, s.2 + crings n s.1 x)) (plainF n, 0)
theorem stk_snoc {n : Int} {fs : List (Int → Int)} {x : Int → Int} : stk n (fs ++ [x]) = (comp n (stk n fs).1 x, (stk n fs).2 + crings n (stk n fs).1 x) := by
  unfold stk
  rw [List.foldl_append]
  rfl
theorem snoc_ind {α : Type} {P : List α → Prop} (h0 : P []) (h1 : ∀ xs x, P xs → P (xs ++ [x])) : ∀ xs, P xs := fun xs => by
  have : ∀ ys : List α, P ys.reverse := fun ys => by
    induction ys with
    | nil => exact h0
    | cons y ys ih => rw [List.reverse_cons]; exact h1 _ _ ih
  have := this xs.reverse
  rwa [List.reverse_reverse] at this
theorem stk_fr {n : Int} (h1 : 1 ≤ n) (fs : List (Int → Int)) : (∀ x, x ∈ fs → Fr n x) → Fr n (stk n fs).1 := by
  refine snoc_ind (P := fun fs => (∀ x, x ∈ fs → Fr n x) → Fr n (stk n fs).1) (fun _ => plain_fr h1) (fun xs x ih h => ?_) fs
  rw [stk_snoc]
  exact comp_fr (by omega) (ih fun y hy => h y (List.mem_append_left _ hy)) (h x (List.mem_append_right _ List.mem_cons_self))
/-- alike on the pegs, as many rings -/
def Lk (n : Int) (s t : (Int → Int) × Int) : Prop := (∀ p, 0 ≤ p → p < 2 * n → s.1 p = t.1 p) ∧ s.2 = t.2
theorem Lk.refl {n : Int} (s : (Int → Int) × Int) : Lk n s s := ⟨fun _ _ _ => rfl, rfl⟩
theorem Lk.symm {n : Int} {s t : (Int → Int) × Int} (h : Lk n s t) : Lk n t s := ⟨fun p a b => (h.1 p a b).symm, h.2.symm⟩
theorem Lk.trans {n : Int} {s t u : (Int → Int) × Int} (h : Lk n s t) (g : Lk n t u) : Lk n s u := ⟨fun p a b => (h.1 p a b).trans (g.1 p a b), h.2.trans g.2⟩
def tw (n : Int) (s t : (Int → Int) × Int) : (Int → Int) × Int := (comp n s.1 t.1, crings n s.1 t.1 + s.2 + t.2)
theorem Lk.tw {n : Int} {s t s' t' : (Int → Int) × Int} (hn : 0 ≤ n) (h : Lk n s s') (g : Lk n t t') : Lk n (tw n s t) (tw n s' t') := by
  have c := comp_congr hn h.1 g.1
  refine ⟨c.1, ?_⟩
  show crings n s.1 t.1 + s.2 + t.2 = crings n s'.1 t'.1 + s'.2 + t'.2
  rw [c.2, h.2, g.2]
theorem tw_assoc {n : Int} {s t u : (Int → Int) × Int} (hn : 0 ≤ n) (hs : Fr n s.1) (ht : Fr n t.1) (hu : Fr n u.1) : Lk n (tw n (tw n s t) u) (tw n s (tw n t u)) := by
  have a := comp_assoc hn hs.ft ht.ft hu.ft (comp_fr hn hs ht).ft (comp_fr hn ht hu).ft
  refine ⟨a.1, ?_⟩
  have := a.2
  show crings n (comp n s.1 t.1) u.1 + (crings n s.1 t.1 + s.2 + t.2) + u.2 = crings n s.1 (comp n t.1 u.1) + s.2 + (crings n t.1 u.1 + t.2 + u.2)
  omega
theorem tw_fr {n : Int} {s t : (Int → Int) × Int} (hn : 0 ≤ n) (hs : Fr n s.1) (ht : Fr n t.1) : Fr n (tw n s t).1 := comp_fr hn hs ht
theorem stk_snoc' {n : Int} {fs : List (Int → Int)} {x : Int → Int} : Lk n (stk n (fs ++ [x])) (tw n (stk n fs) (x, 0)) := by
  rw [stk_snoc]
  refine ⟨fun _ _ _ => rfl, ?_⟩
  show (stk n fs).2 + crings n (stk n fs).1 x = crings n (stk n fs).1 x + (stk n fs).2 + 0
  omega
theorem tw_plain {n : Int} {s : (Int → Int) × Int} (h1 : 1 ≤ n) (hs : Fr n s.1) : Lk n (tw n s (plainF n, 0)) s := by
  have c := comp_plain_r h1 hs.ft
  refine ⟨c.1, ?_⟩
  show crings n s.1 (plainF n) + s.2 + 0 = s.2
  rw [c.2]; omega
theorem plain_tw {n : Int} {s : (Int → Int) × Int} (h1 : 1 ≤ n) (hs : Fr n s.1) : Lk n (tw n (plainF n, 0) s) s := by
  have c := comp_plain_l h1 hs.ft
  refine ⟨c.1, ?_⟩
  show crings n (plainF n) s.1 + 0 + s.2 = s.2
  rw [c.2]; omega
theorem stk_app {n : Int} (h1 : 1 ≤ n) {fs : List (Int → Int)} (hf : ∀ x, x ∈ fs → Fr n x) (gs : List (Int → Int)) : (∀ x, x ∈ gs → Fr n x) → Lk n (stk n (fs ++ gs)) (tw n (stk n fs) (stk n gs)) := by
  have a := stk_fr h1 fs hf
  refine snoc_ind (P := fun gs => (∀ x, x ∈ gs → Fr n x) → Lk n (stk n (fs ++ gs)) (tw n (stk n fs) (stk n gs))) (fun _ => ?_) (fun gs x ih h => ?_) gs
  · rw [List.append_nil]
    exact (tw_plain h1 a).symm
  · have hg : ∀ y, y ∈ gs → Fr n y := fun y hy => h y (List.mem_append_left _ hy)
    have hx := h x (List.mem_append_right _ List.mem_cons_self)
    have b := stk_fr h1 gs hg
    rw [← List.append_assoc]
    refine stk_snoc'.trans ?_
    refine ((ih hg).tw (by omega) (.refl (x, 0))).trans ?_
    refine (tw_assoc (by omega) a b hx).trans ?_
    exact (Lk.refl _).tw (by omega) stk_snoc'.symm
theorem ov_congr {n : Int} {x y : Int → Int} (h1 : 1 ≤ n) (h : ∀ p, 0 ≤ p → p < 2 * n → x p = y p) : ∀ p, 0 ≤ p → p < 2 * n → ovF n x p = ovF n y p := fun p a b => by
  have := plain_ft h1 p a b
  unfold ovF
  rw [h _ this.1 this.2.1]
theorem mir_congr {n : Int} {x y : Int → Int} (h : ∀ p, 0 ≤ p → p < 2 * n → x p = y p) : ∀ p, 0 ≤ p → p < 2 * n → mirF n x p = mirF n y p := fun p a b => by
  have := mir_inv p a b
  unfold mirF
  rw [h _ this.1 this.2.1]
theorem ov_plain {n : Int} (h1 : 1 ≤ n) : ∀ p, 0 ≤ p → p < 2 * n → ovF n (plainF n) p = plainF n p := fun p a b => by
  have := plain_ft h1 p a b
  unfold ovF
  rw [this.2.2.2]
theorem mir_plain {n : Int} : ∀ p, 0 ≤ p → p < 2 * n → mirF n (plainF n) p = plainF n p := fun p a b => by
  unfold mirF plainF mir
  grind
theorem ov_ov {n : Int} {x : Int → Int} (h1 : 1 ≤ n) (f : FT (2 * n) x) : ∀ p, 0 ≤ p → p < 2 * n → ovF n (ovF n x) p = x p := fun p a b => by
  have q := plain_ft h1 p a b
  have r := f p a b
  have s := plain_ft h1 (x p) r.1 r.2.1
  unfold ovF
  rw [q.2.2.2, s.2.2.2]
theorem mir_mir {n : Int} {x : Int → Int} (f : FT (2 * n) x) : ∀ p, 0 ≤ p → p < 2 * n → mirF n (mirF n x) p = x p := fun p a b => by
  have q := mir_inv (n := n) p a b
  have r := f p a b
  have s := mir_inv (n := n) (x p) r.1 r.2.1
  unfold mirF
  rw [q.2.2, s.2.2]
theorem stk_one {n : Int} {x : Int → Int} (h1 : 1 ≤ n) (hx : Fr n x) : Lk n (stk n [x]) (x, 0) := (stk_snoc' (fs := [])).trans (plain_tw h1 hx)
theorem stk_over {n : Int} (h1 : 1 ≤ n) (fs : List (Int → Int)) : (∀ x, x ∈ fs → Fr n x) → Lk n (stk n (fs.reverse.map (ovF n))) (ovF n (stk n fs).1, (stk n fs).2) := by
  refine snoc_ind (P := fun fs => (∀ x, x ∈ fs → Fr n x) → Lk n (stk n (fs.reverse.map (ovF n))) (ovF n (stk n fs).1, (stk n fs).2)) (fun _ => ?_) (fun xs x ih h => ?_) fs
  · exact ⟨fun p a b => (ov_plain h1 p a b).symm, rfl⟩
  · have hg : ∀ y, y ∈ xs → Fr n y := fun y hy => h y (List.mem_append_left _ hy)
    have hx := h x (List.mem_append_right _ List.mem_cons_self)
    have a := stk_fr h1 xs hg
    have e : (xs ++ [x]).reverse.map (ovF n) = [ovF n x] ++ xs.reverse.map (ovF n) := by simp
    rw [e]
    refine (stk_app h1 (fs := [ovF n x]) (fun y hy => by rw [List.mem_singleton.mp hy]; exact ov_fr hx) _ (fun y hy => by
      obtain ⟨z, hz, rfl⟩ := List.mem_map.mp hy
      exact ov_fr (hg z (List.mem_reverse.mp hz)))).trans ?_
    refine ((stk_one h1 (ov_fr hx)).tw (by omega) (ih hg)).trans ?_
    have c := comp_over h1 a.ft hx.ft (ov_fr a).ft (ov_fr hx).ft
    rw [stk_snoc]
    refine ⟨c.1, ?_⟩
    show crings n (ovF n x) (ovF n (stk n xs).1) + 0 + (stk n xs).2 = (stk n xs).2 + crings n (stk n xs).1 x
    rw [c.2]; omega
theorem stk_mir {n : Int} (h1 : 1 ≤ n) (fs : List (Int → Int)) : (∀ x, x ∈ fs → Fr n x) → Lk n (stk n (fs.map (mirF n))) (mirF n (stk n fs).1, (stk n fs).2) := by
  refine snoc_ind (P := fun fs => (∀ x, x ∈ fs → Fr n x) → Lk n (stk n (fs.map (mirF n))) (mirF n (stk n fs).1, (stk n fs).2)) (fun _ => ?_) (fun xs x ih h => ?_) fs
  · exact ⟨fun p a b => (mir_plain p a b).symm, rfl⟩
  · have hg : ∀ y, y ∈ xs → Fr n y := fun y hy => h y (List.mem_append_left _ hy)
    have hx := h x (List.mem_append_right _ List.mem_cons_self)
    have a := stk_fr h1 xs hg
    rw [List.map_append]
    refine (stk_snoc' (fs := xs.map (mirF n))).trans ?_
    refine ((ih hg).tw (by omega) (.refl _)).trans ?_
    have c := comp_mir h1 a.ft hx.ft (mir_fr a).ft (mir_fr hx).ft
    rw [stk_snoc]
    refine ⟨c.1, ?_⟩
    show crings n (mirF n (stk n xs).1) (mirF n x) + (stk n xs).2 + 0 = (stk n xs).2 + crings n (stk n xs).1 x
    rw [c.2]; omega
theorem Lk.lst {n : Int} {s t : (Int → Int) × Int} (h : Lk n s t) : (lst (2 * n) s.1, s.2) = (lst (2 * n) t.1, t.2) := by
  rw [lst_ext h.1, h.2]
/-! # rings walked and taken out of a list -/
structure WayG (f g : Int → Int) (L0 : List Int) (p0 : Int) (L : List Int) (q : Int) : Prop where
  nd : L.Nodup
  sub : ∀ i, i ∈ L → i ∈ L0
  hp : p0 ∈ L0 ∧ p0 ∉ L
  hq : q ∈ L0 ∧ q ∉ L ∧ q ≠ p0
  hf : ∀ i, i ∈ L0 → i ∉ L → f i ∉ L
  hg : ∀ i, i ∈ L0 → i ∉ L → i ≠ p0 → i ≠ q → g i ∉ L ∧ g i ≠ p0 ∧ g i ≠ q
  con : ∀ i, i ∈ L0 → i ∉ L → Con f g p0 i
theorem ring_inner {cc : List Int × Int → Option Bool} {bb : List Int × Int → Option (List Int × Int)} {f g : Int → Int} {L0 : List Int} {p0 : Int} (v : Inv2 f g (· ∈ L0)) (hc : ∀ L q, cc (L, q) = some (decide (q ∈ L)))
    (hb : ∀ L q, q ∈ L0 → q ∈ L → f q ∈ L.erase q → bb (L, q) = some ((L.erase q).erase (f q), g (f q))) : ∀ (k : Nat) (L : List Int) (q : Int), WayG f g L0 p0 L q → L.length < k →
    ∃ L' c, whS cc bb k (L, g q) = some (L', c) ∧ L'.Nodup ∧ (∀ i, i ∈ L' → i ∈ L) ∧ Ring f g (· ∈ L0) (fun i => i ∈ L0 ∧ i ∉ L') p0
  | 0, L, q, w, hl => absurd hl (Nat.not_lt_zero _)
  | k + 1, L, q, w, hl => by
    have gq := v.g q w.hq.1
    have gc : g (g q) = q := gq.2.2
    generalize hcq : g q = cur at *
    by_cases c : cur ∈ L
    · have fc := v.f cur gq.1
      have m1 : f cur ∈ L := by
        refine Classical.byContradiction fun z => ?_
        have := w.hf _ fc.1 z
        rw [fc.2.2] at this
        exact this c
      have m2 : f cur ∈ L.erase cur := (List.mem_erase_of_ne fc.2.1).mpr m1
      have mem : ∀ i, i ∈ (L.erase cur).erase (f cur) ↔ i ∈ L ∧ i ≠ cur ∧ i ≠ f cur := fun i => by
        rw [(w.nd.erase cur).mem_erase_iff, w.nd.mem_erase_iff]
        exact ⟨fun ⟨a, b, c⟩ => ⟨c, b, a⟩, fun ⟨a, b, c⟩ => ⟨c, b, a⟩⟩
      rw [whS_go (by rw [hc, decide_eq_true c]) (hb L cur gq.1 c m2)]
      have len : ((L.erase cur).erase (f cur)).length < k := by
        rw [List.length_erase_of_mem m2, List.length_erase_of_mem c]
        have := List.length_pos_of_mem c
        omega
      have w' : WayG f g L0 p0 ((L.erase cur).erase (f cur)) (f cur) := by
        refine ⟨(w.nd.erase cur).erase _, fun i hi => w.sub i ((mem i).mp hi).1, ⟨w.hp.1, fun z => w.hp.2 ((mem _).mp z).1⟩, ⟨fc.1, fun z => ((mem _).mp z).2.2 rfl, fun z => w.hp.2 (z ▸ m1)⟩, fun i h1 h2 z => ?_, fun i h1 h2 h3 h4 => ?_, fun i h1 h2 => ?_⟩
        · have z' := (mem _).mp z
          by_cases e : i ∈ L
          · have : i = cur ∨ i = f cur := by
              refine Classical.byContradiction fun y => h2 ((mem i).mpr ⟨e, fun a => y (.inl a), fun a => y (.inr a)⟩)
            rcases this with y | y
            · subst y; exact z'.2.2 rfl
            · subst y; rw [fc.2.2] at z'; exact z'.2.1 rfl
          · exact w.hf i h1 e z'.1
        · by_cases e : i ∈ L
          · have : i = cur := by
              refine Classical.byContradiction fun y => h2 ((mem i).mpr ⟨e, y, h4⟩)
            subst this
            rw [gc]
            exact ⟨fun z => w.hq.2.1 ((mem _).mp z).1, w.hq.2.2, fun z => w.hq.2.1 (z ▸ m1)⟩
          · by_cases eq : i = q
            · subst eq
              rw [hcq]
              exact ⟨fun z => ((mem _).mp z).2.1 rfl, fun z => w.hp.2 (z ▸ c), fun z => fc.2.1 z.symm⟩
            · have := w.hg i h1 e h3 eq
              exact ⟨fun z => this.1 ((mem _).mp z).1, this.2.1, fun z => this.1 (by rw [z]; exact m1)⟩
        · by_cases e : i ∈ L
          · have : i = cur ∨ i = f cur := by
              refine Classical.byContradiction fun y => h2 ((mem i).mpr ⟨e, fun a => y (.inl a), fun a => y (.inr a)⟩)
            have cc : Con f g p0 cur := by
              have := (w.con q w.hq.1 w.hq.2.1).g
              exact hcq ▸ this
            rcases this with y | y
            · subst y; exact cc
            · subst y; exact cc.f
          · exact w.con i h1 e
      obtain ⟨L', c', e, nd, sb, rg⟩ := ring_inner v hc hb k _ _ w' len
      exact ⟨L', c', e, nd, fun i hi => ((mem i).mp (sb i hi)).1, rg⟩
    · rw [whS_stop (by rw [hc, decide_eq_false c])]
      have e0 : cur = p0 := by
        refine Classical.byContradiction fun z => ?_
        have := w.hg cur gq.1 c z gq.2.1
        rw [gc] at this
        exact this.2.2 rfl
      refine ⟨L, cur, rfl, w.nd, fun i hi => hi, ⟨w.hp, fun i ⟨h1, h2⟩ => ⟨h1, ⟨(v.f i h1).1, w.hf i h1 h2⟩, ⟨(v.g i h1).1, ?_⟩, w.con i h1 h2⟩⟩⟩
      by_cases a : i = p0
      · rw [a, ← e0, gc]; exact w.hq.2.1
      · by_cases b : i = q
        · subst b
          rw [hcq]; exact c
        · exact (w.hg i h1 h2 a b).1
theorem ring_first {cc : List Int × Int → Option Bool} {bb : List Int × Int → Option (List Int × Int)} {f g : Int → Int} {p0 : Int} {L : List Int} (v : Inv2 f g (· ∈ L)) (hc : ∀ L q, cc (L, q) = some (decide (q ∈ L)))
    (hb : ∀ M q, q ∈ L → q ∈ M → f q ∈ M.erase q → bb (M, q) = some ((M.erase q).erase (f q), g (f q))) (nd : L.Nodup) (hp : p0 ∈ L) (k : Nat) (hk : L.length < k) :
    ∃ L' c, whS cc bb (k + 1) (L, p0) = some (L', c) ∧ L'.Nodup ∧ (∀ i, i ∈ L' → i ∈ L) ∧ Ring f g (· ∈ L) (fun i => i ∈ L ∧ i ∉ L') p0 := by
  have fc := v.f p0 hp
  have m2 : f p0 ∈ L.erase p0 := (List.mem_erase_of_ne fc.2.1).mpr fc.1
  have mem : ∀ i, i ∈ (L.erase p0).erase (f p0) ↔ i ∈ L ∧ i ≠ p0 ∧ i ≠ f p0 := fun i => by
    rw [(nd.erase p0).mem_erase_iff, nd.mem_erase_iff]
    exact ⟨fun ⟨a, b, c⟩ => ⟨c, b, a⟩, fun ⟨a, b, c⟩ => ⟨c, b, a⟩⟩
  rw [whS_go (by rw [hc, decide_eq_true hp]) (hb L p0 hp hp m2)]
  have out : ∀ i, i ∈ L → i ∉ (L.erase p0).erase (f p0) → i = p0 ∨ i = f p0 := fun i h1 h2 =>
    Classical.byContradiction fun y => h2 ((mem i).mpr ⟨h1, fun a => y (.inl a), fun a => y (.inr a)⟩)
  have w : WayG f g L p0 ((L.erase p0).erase (f p0)) (f p0) := by
    refine ⟨(nd.erase p0).erase _, fun i hi => ((mem i).mp hi).1, ⟨hp, fun z => ((mem _).mp z).2.1 rfl⟩, ⟨fc.1, fun z => ((mem _).mp z).2.2 rfl, fc.2.1⟩, fun i h1 h2 z => ?_, fun i h1 h2 h3 h4 => ?_, fun i h1 h2 => ?_⟩
    · have z' := (mem _).mp z
      rcases out i h1 h2 with y | y
      · subst y; exact z'.2.2 rfl
      · subst y; rw [fc.2.2] at z'; exact z'.2.1 rfl
    · rcases out i h1 h2 with y | y
      · exact absurd y h3
      · exact absurd y h4
    · rcases out i h1 h2 with y | y
      · subst y; exact .refl
      · subst y; exact .f .refl
  obtain ⟨L', c', e, nd', sb, rg⟩ := ring_inner v hc hb k _ _ w (by
    rw [List.length_erase_of_mem m2, List.length_erase_of_mem hp]; omega)
  exact ⟨L', c', e, nd', fun i hi => ((mem i).mp (sb i hi)).1, rg⟩
end Rb

set_option Elab.async false
set_option linter.all false
set_option maxRecDepth 100000
set_option maxHeartbeats 4000000
namespace Rb
open L2
/-! # halves -/
theorem Cnt.uniq {f g : Int → Int} {D : Int → Prop} {c : Int} (h : Cnt f g D c) : Inv2 f g D → ∀ {c' : Int}, Cnt f g D c' → c = c' := by
  induction h with
  | nil hn => intro _ c' h'; exact (h'.zero hn).symm
  | @ring D D' W r c hr hw hd _ ih =>
    intro v c' h'
    have rg : Ring f g D W r := ⟨hr, hw⟩
    have := ih (v.less rg hd) (h'.less v rg hd)
    omega
/-- the same ways between two frames: what the lower half above and the upper half beneath tell -/
structure Mid (n : Int) (x y x' y' : Int → Int) : Prop where
  u : ∀ i, 0 ≤ i → i < n → (n ≤ x (n + i) → x' (n + i) = x (n + i)) ∧ (x (n + i) < n → x' (n + i) < n)
  l : ∀ i, 0 ≤ i → i < n → (y i < n → y' i = y i) ∧ (n ≤ y i → n ≤ y' i)
theorem Mid.symm {n : Int} {x y x' y' : Int → Int} (h : Mid n x y x' y') : Mid n x' y' x y := by
  refine ⟨fun i a b => ?_, fun i a b => ?_⟩
  · have := h.u i a b
    by_cases c : n ≤ x (n + i)
    · have := this.1 c; exact ⟨fun _ => this.symm, fun z => by omega⟩
    · have := this.2 (by omega); exact ⟨fun z => by omega, fun _ => by omega⟩
  · have := h.l i a b
    by_cases c : y i < n
    · have := this.1 c; exact ⟨fun _ => this.symm, fun z => by omega⟩
    · have := this.2 (by omega); exact ⟨fun z => by omega, fun _ => by omega⟩
theorem Runs.mid {n : Int} {x y x' y' : Int → Int} (m : Mid n x y x' y') (hx : Bd (2 * n) x) (hy : Bd (2 * n) y) {b : Bool} {p e : Int} {ms : List Int} (r : Runs x y n b p e ms) :
    (b = true → 0 ≤ p ∧ p < n) → (b = false → n ≤ p ∧ p < 2 * n) → ∃ e', Runs x' y' n b p e' ms ∧ (n ≤ e ↔ n ≤ e') := by
  induction r with
  | @stopL p h =>
    intro hp _
    have := hp rfl
    have q := (m.l p this.1 this.2).2 h
    exact ⟨y' p, .stopL q, by omega⟩
  | @stopU p h =>
    intro _ hp
    have := hp rfl
    have q := (m.u (p - n) (by omega) (by omega)).2
    have e : n + (p - n) = p := by omega
    rw [e] at q
    exact ⟨x' p, .stopU (q h), by have := q h; omega⟩
  | @goL p e ms h r ih =>
    intro hp _
    have := hp rfl
    have q := (m.l p this.1 this.2).1 h
    have b := hy p this.1 (by omega)
    obtain ⟨e', r', i⟩ := ih (fun z => by cases z) (fun _ => ⟨by omega, by omega⟩)
    exact ⟨e', .goLe q h rfl r', i⟩
  | @goU p e ms h r ih =>
    intro _ hp
    have := hp rfl
    have q := (m.u (p - n) (by omega) (by omega)).1
    have e : n + (p - n) = p := by omega
    rw [e] at q
    have b := hx p (by omega) this.2
    obtain ⟨e', r', i⟩ := ih (fun _ => ⟨by omega, by omega⟩) (fun z => by cases z)
    exact ⟨e', .goUe (q h) h rfl r', i⟩
/-- a way that goes in, told by its first point between -/
theorem twin {n : Int} {x y x' y' : Int → Int} {p e : Int} {ms : List Int} (h1 : 0 ≤ n) (m : Mid n x y x' y') (hx : FT (2 * n) x) (hy : FT (2 * n) y) (hx' : FT (2 * n) x') (hy' : FT (2 * n) y') (p0 : 0 ≤ p) (p1 : p < 2 * n)
    (r : Runs x y n (decide (p ≥ n)) p e ms) (go : (p < n ∧ n ≤ x p) ∨ (n ≤ p ∧ y p < n)) :
    ∃ p' e', p' = (if p < n then x' (x p) else y' (y p)) ∧ 0 ≤ p' ∧ p' < 2 * n ∧ (p < n ↔ p' < n) ∧ Runs x' y' n (decide (p' ≥ n)) p' e' ms ∧ (n ≤ e ↔ n ≤ e') := by
  rcases go with ⟨a, b⟩ | ⟨a, b⟩
  · rw [decide_eq_false (by omega)] at r
    have bx := hx p p0 p1
    cases r with
    | stopU h => omega
    | @goU _ _ ms h r =>
      obtain ⟨e', r', i⟩ := r.mid m hx.bd hy.bd (fun _ => ⟨by omega, by omega⟩) (fun z => by cases z)
      have q := (m.u (x p - n) (by omega) (by omega)).2
      have e1 : n + (x p - n) = x p := by omega
      rw [e1, bx.2.2.2] at q
      have q := q a
      have bx' := hx' (x p) (by omega) bx.2.1
      refine ⟨x' (x p), e', by rw [if_pos a], bx'.1, bx'.2.1, by omega, ?_, i⟩
      rw [decide_eq_false (by omega)]
      exact .goUe bx'.2.2.2 b rfl r'
  · rw [decide_eq_true (by omega)] at r
    have bx := hy p p0 p1
    cases r with
    | stopL h => omega
    | @goL _ _ ms h r =>
      obtain ⟨e', r', i⟩ := r.mid m hx.bd hy.bd (fun z => by cases z) (fun _ => ⟨by omega, by omega⟩)
      have q := (m.l (y p) (by omega) (by omega)).2
      rw [bx.2.2.2] at q
      have q := q a
      have bx' := hy' (y p) (by omega) (by omega)
      refine ⟨y' (y p), e', by rw [if_neg (by omega)], bx'.1, bx'.2.1, by omega, ?_, i⟩
      rw [decide_eq_true (by omega)]
      exact .goLe bx'.2.2.2 b rfl r'
theorem way_nil {n : Int} {x y : Int → Int} {p e i : Int} {ms : List Int} (r : Runs x y n (decide (p ≥ n)) p e ms) (hi : i ∈ ms) : (p < n ∧ n ≤ x p) ∨ (n ≤ p ∧ y p < n) := by
  by_cases c : p < n
  · rw [decide_eq_false (by omega)] at r
    cases r with
    | stopU h => cases hi
    | goU h _ => exact .inl ⟨c, h⟩
  · rw [decide_eq_true (by omega)] at r
    cases r with
    | stopL h => cases hi
    | goL h _ => exact .inr ⟨by omega, h⟩
theorem mid_rings {n : Int} {x y x' y' : Int → Int} (h0 : 0 ≤ n) (m : Mid n x y x' y') (hx : FT (2 * n) x) (hy : FT (2 * n) y) (hx' : FT (2 * n) x') (hy' : FT (2 * n) y') : crings n x y = crings n x' y' := by
  obtain ⟨P, a1, _, a3, a4⟩ := comp_ok h0 hx hy
  obtain ⟨P', b1, _, b3, b4⟩ := comp_ok h0 hx' hy'
  have one : ∀ {x y x' y' : Int → Int} {P P' : Int → List Int} (m : Mid n x y x' y') (hx : FT (2 * n) x) (hy : FT (2 * n) y) (hx' : FT (2 * n) x') (hy' : FT (2 * n) y') (E E' : Int → Int)
      (a1 : ∀ p, 0 ≤ p → p < 2 * n → Runs x y n (decide (p ≥ n)) p (E p) (P p)) (b1 : ∀ p, 0 ≤ p → p < 2 * n → Runs x' y' n (decide (p ≥ n)) p (E' p) (P' p)) (i : Int),
      (∀ p, 0 ≤ p → p < 2 * n → i ∉ P' p) → ∀ p, 0 ≤ p → p < 2 * n → i ∉ P p := by
    intro x y x' y' P P' m hx hy hx' hy' E E' a1 b1 i h p p0 p1 hi
    have r := a1 p p0 p1
    obtain ⟨p', e', _, q0, q1, _, r', _⟩ := twin h0 m hx hy hx' hy' p0 p1 r (way_nil r hi)
    have := (r'.det (b1 p' q0 q1)).2
    exact h p' q0 q1 (this ▸ hi)
  have D : ∀ i, (0 ≤ i ∧ i < n ∧ ∀ p, 0 ≤ p → p < 2 * n → i ∉ P p) ↔ (0 ≤ i ∧ i < n ∧ ∀ p, 0 ≤ p → p < 2 * n → i ∉ P' p) := fun i =>
    ⟨fun ⟨u, v, w⟩ => ⟨u, v, one m.symm hx' hy' hx hy _ _ (fun p a b => (b1 p a b).1) (fun p a b => (a1 p a b).1) i w⟩, fun ⟨u, v, w⟩ => ⟨u, v, one m hx hy hx' hy' _ _ (fun p a b => (a1 p a b).1) (fun p a b => (b1 p a b).1) i w⟩⟩
  have c := (b4.imp fun i => (D i).symm).congr (f' := y) (g' := fun i => x (n + i) - n) fun i hi => by
    have f := a3.f i hi
    have g := a3.g i hi
    have l := (m.l i hi.1 hi.2.1).1 f.1.2.1
    have u := (m.u i hi.1 hi.2.1).1 (by have := g.1.1; omega)
    exact ⟨l, by rw [u]⟩
  exact a4.uniq a3 c
theorem mid_thr_le {n : Int} {x y x' y' : Int → Int} (h0 : 0 ≤ n) (m : Mid n x y x' y') (hx : FT (2 * n) x) (hy : FT (2 * n) y) (hx' : FT (2 * n) x') (hy' : FT (2 * n) y') : thr n (comp n x y) ≤ thr n (comp n x' y') := by
  obtain ⟨P, a1, _⟩ := comp_ok h0 hx hy
  obtain ⟨P', b1, _⟩ := comp_ok h0 hx' hy'
  have key : ∀ p, 0 ≤ p → p < n → n ≤ comp n x y p → n ≤ x p := fun p p0 p1 hp => by
    have r := (a1 p p0 (by omega)).1
    rw [decide_eq_false (by omega)] at r
    generalize comp n x y p = e at r hp
    generalize P p = ms at r
    cases r with
    | stopU h => omega
    | goU h _ => exact h
  unfold thr
  have nd : (rng 0 n).Nodup := rng_nodup
  refine Int.ofNat_le.mpr (count_le (fun p => x' (x p)) (nd.filter _) (fun a b ha hb e => ?_) fun p hp => ?_)
  · obtain ⟨ha, ca⟩ := List.mem_filter.mp ha
    obtain ⟨hb, cb⟩ := List.mem_filter.mp hb
    have ha := mem_rng.mp ha
    have hb := mem_rng.mp hb
    have A := hx a ha.1 (by omega)
    have B := hx b hb.1 (by omega)
    have A' := hx' (x a) A.1 A.2.1
    have B' := hx' (x b) B.1 B.2.1
    have e : x' (x a) = x' (x b) := e
    have e2 : x a = x b := by rw [← A'.2.2.2, e, B'.2.2.2]
    rw [← A.2.2.2, e2, B.2.2.2]
  · obtain ⟨hp, cp⟩ := List.mem_filter.mp hp
    have hp := mem_rng.mp hp
    have cp : n ≤ comp n x y p := by simpa using cp
    obtain ⟨p', e', e, q0, q1, s, r', i⟩ := twin h0 m hx hy hx' hy' hp.1 (by omega) (a1 p hp.1 (by omega)).1 (.inl ⟨hp.2, key p hp.1 hp.2 cp⟩)
    rw [if_pos hp.2] at e
    have d := (r'.det (b1 p' q0 q1).1).1
    refine List.mem_filter.mpr ⟨mem_rng.mpr ?_, ?_⟩
    · show 0 ≤ x' (x p) ∧ x' (x p) < n
      rw [← e]
      exact ⟨q0, s.mp hp.2⟩
    · show decide (comp n x' y' (x' (x p)) ≥ n) = true
      rw [← e, ← d]
      exact decide_eq_true (i.mp cp)
theorem mid_thr {n : Int} {x y x' y' : Int → Int} (h0 : 0 ≤ n) (m : Mid n x y x' y') (hx : FT (2 * n) x) (hy : FT (2 * n) y) (hx' : FT (2 * n) x') (hy' : FT (2 * n) y') : thr n (comp n x y) = thr n (comp n x' y') :=
  Int.le_antisymm (mid_thr_le h0 m hx hy hx' hy') (mid_thr_le h0 m.symm hx' hy' hx hy)
end Rb

set_option Elab.async false
set_option linter.all false
set_option maxRecDepth 100000
set_option maxHeartbeats 4000000
namespace Rb
open L2
/-! # halves of frames -/
structure Hf (n : Int) (h : Int → Int) : Prop where
  iv : ∀ p, 0 ≤ p → p < n → 0 ≤ h p ∧ h p < n ∧ h (h p) = p
  nc : ∀ p, 0 ≤ p → p < n → h p < p → ∀ r, h p < r → r < p → h r < p
  op : ∀ p, 0 ≤ p → p < n → h p = p → ∀ q, 0 ≤ q → q < p → h q < p
theorem Hf.congr {n : Int} {h g : Int → Int} (H : Hf n h) (e : ∀ p, 0 ≤ p → p < n → g p = h p) : Hf n g := by
  refine ⟨fun p a b => ?_, fun p a b c r d f => ?_, fun p a b c q d f => ?_⟩
  · have i := H.iv p a b
    rw [e p a b, e _ i.1 i.2.1]
    exact i
  · rw [e p a b] at c d
    rw [e r (by have := H.iv p a b; omega) (by omega)]
    exact H.nc p a b c r d f
  · rw [e p a b] at c
    rw [e q d (by omega)]
    exact H.op p a b c q d f
def upF (n : Int) (x : Int → Int) (p : Int) : Int := if x p < n then x p else p
def lowF (n : Int) (x : Int → Int) (p : Int) : Int := if n ≤ x (n + p) then x (n + p) - n else p
/-- a half above and its like beneath -/
def dbl (n : Int) (h : Int → Int) (p : Int) : Int := if p < n then (if h p = p then n + p else h p) else (if h (p - n) = p - n then p - n else n + h (p - n))
theorem Fr.up {n : Int} {x : Int → Int} (f : Fr n x) : Hf n (upF n x) := by
  have ft := f.ft
  refine ⟨fun p a b => ?_, fun p a b c r d e => ?_, fun p a b c q d e => ?_⟩
  · have h := ft p a (by omega)
    unfold upF
    by_cases c : x p < n
    · rw [if_pos c, h.2.2.2, if_pos b]; omega
    · rw [if_neg c, if_neg c]; omega
  · have h := ft p a (by omega)
    unfold upF at *
    by_cases g : x p < n
    · rw [if_pos g] at c d
      have hr := ft r (by omega) (by omega)
      have nc := f.nc p r ⟨a, by omega⟩ ⟨by omega, by omega⟩ (by omega) (by omega)
      unfold Btw rd at nc
      split <;> grind
    · rw [if_neg g] at c; omega
  · have h := ft p a (by omega)
    unfold upF at *
    have hq := ft q d (by omega)
    by_cases g : x p < n
    · rw [if_pos g] at c; omega
    · by_cases k : x q < n
      · rw [if_pos k]
        have ne : x q ≠ p := fun z => by rw [← z, hq.2.2.2] at g; omega
        have nc := f.nc q p ⟨d, by omega⟩ ⟨a, by omega⟩ (by omega) (by omega)
        unfold Btw rd at nc
        grind
      · rw [if_neg k]; omega
theorem low_up {n : Int} {x : Int → Int} {p : Int} (ft : FT (2 * n) x) (p0 : 0 ≤ p) (p1 : p < n) : upF n (ovF n x) p = lowF n x p := by
  have e : p + n = n + p := by omega
  have h := ft (n + p) (by omega) (by omega)
  unfold upF lowF ovF plainF
  rw [if_pos p1, e]
  by_cases c : x (n + p) < n
  · rw [if_pos c, if_neg (by omega), if_neg (by omega)]
  · rw [if_neg c, if_pos (by omega), if_pos (by omega)]
theorem Fr.low {n : Int} {x : Int → Int} (f : Fr n x) : Hf n (lowF n x) := by
  refine ((ov_fr f).up).congr fun p a b => ?_
  exact (low_up f.ft a b).symm
theorem dbl_ft {n : Int} {h : Int → Int} (H : Hf n h) : FT (2 * n) (dbl n h) := fun p a b => by
  unfold dbl
  by_cases c : p < n
  · have i := H.iv p a c
    rw [if_pos c]
    by_cases e : h p = p
    · rw [if_pos e, if_neg (by omega)]
      have q : n + p - n = p := by omega
      rw [q, if_pos e]
      omega
    · rw [if_neg e, if_pos i.2.1, i.2.2, if_neg (by omega)]
      omega
  · have i := H.iv (p - n) (by omega) (by omega)
    rw [if_neg c]
    by_cases e : h (p - n) = p - n
    · rw [if_pos e, if_pos (by omega), if_pos e]
      omega
    · rw [if_neg e, if_neg (by omega)]
      have q : n + h (p - n) - n = h (p - n) := by omega
      rw [q, i.2.2, if_neg (by omega)]
      omega
theorem dbl_ov {n : Int} {h : Int → Int} (H : Hf n h) (p : Int) (p0 : 0 ≤ p) (p1 : p < 2 * n) : ovF n (dbl n h) p = dbl n h p := by
  unfold ovF plainF dbl
  by_cases c : p < n
  · have i := H.iv p p0 c
    have q : p + n - n = p := by omega
    rw [if_pos c, if_neg (show ¬ p + n < n by omega), q, if_pos c]
    by_cases e : h p = p
    · rw [if_pos e, if_pos e, if_pos c]; omega
    · rw [if_neg e, if_neg e, if_neg (by omega)]; omega
  · have i := H.iv (p - n) (by omega) (by omega)
    rw [if_neg c, if_pos (show p - n < n by omega), if_neg c]
    by_cases e : h (p - n) = p - n
    · rw [if_pos e, if_pos e, if_neg (by omega)]; omega
    · rw [if_neg e, if_neg e, if_pos i.2.1]; omega
/-- the ways between two frames are those between their halves -/
theorem mid_dbl {n : Int} {x y : Int → Int} (hx : FT (2 * n) x) (hy : FT (2 * n) y) : Mid n x y (dbl n (lowF n x)) (dbl n (upF n y)) := by
  refine ⟨fun i a b => ?_, fun i a b => ?_⟩
  · have h := hx (n + i) (by omega) (by omega)
    have q : n + i - n = i := by omega
    unfold dbl
    rw [if_neg (by omega), q]
    refine ⟨fun c => ?_, fun c => ?_⟩
    · have e : lowF n x i = x (n + i) - n := if_pos c
      rw [e, if_neg (by omega)]; omega
    · have e : lowF n x i = i := if_neg (by omega)
      rw [e, if_pos rfl]; omega
  · have h := hy i a (by omega)
    unfold dbl
    rw [if_pos b]
    refine ⟨fun c => ?_, fun c => ?_⟩
    · have e : upF n y i = y i := if_pos c
      rw [e, if_neg (by omega)]
    · have e : upF n y i = i := if_neg (by omega)
      rw [e, if_pos rfl]; omega
/-- the two orders -/
theorem dbl_swap {n : Int} {g h : Int → Int} (h1 : 1 ≤ n) (G : Hf n g) (H : Hf n h) : crings n (dbl n h) (dbl n g) = crings n (dbl n g) (dbl n h) ∧ thr n (comp n (dbl n h) (dbl n g)) = thr n (comp n (dbl n g) (dbl n h)) := by
  have a := dbl_ft G
  have b := dbl_ft H
  have oa : FT (2 * n) (ovF n (dbl n g)) := fun p p0 p1 => by
    have e := a p p0 p1
    rw [dbl_ov G p p0 p1, dbl_ov G _ e.1 e.2.1]
    exact e
  have ob : FT (2 * n) (ovF n (dbl n h)) := fun p p0 p1 => by
    have e := b p p0 p1
    rw [dbl_ov H p p0 p1, dbl_ov H _ e.1 e.2.1]
    exact e
  have o := comp_over h1 a b oa ob
  have c := comp_congr (show 0 ≤ n by omega) (x := ovF n (dbl n h)) (y := ovF n (dbl n g)) (x' := dbl n h) (y' := dbl n g) (dbl_ov H) (dbl_ov G)
  obtain ⟨_, _, cf, _⟩ := comp_ok (show 0 ≤ n by omega) a b
  refine ⟨by rw [← c.2, o.2], ?_⟩
  rw [← thr_over h1 cf]
  unfold thr
  congr 2
  refine List.filter_congr fun p hp => ?_
  have hp := mem_rng.mp hp
  rw [← c.1 p hp.1 (by omega), o.1 p hp.1 (by omega)]
end Rb

set_option Elab.async false
set_option linter.all false
set_option maxRecDepth 100000
set_option maxHeartbeats 4000000
namespace Rb.M_k20
open PySem PySem.Spec PyProof.Rows L2 Rb
def exN : List Str := ["BadPegs", "BadFrame", "BadHalf", "NoNumber"]
/-! ask_pegs -/
def p_ask_pegs (v_pegs : Int) : Option Unit :=
  (if (!((decide ((1 : Int) ≤ v_pegs)) && (decide (v_pegs ≤ (10 : Int))))) = true then none else (some ()))
/-! turned_round -/
def p_turned_round (v_pegs : Int) (v_place : Int) : Option Int :=
  (if (decide (v_place < v_pegs)) = true then (some v_place) else (some ((((3 : Int) * v_pegs) - (1 : Int)) - v_place)))
/-! in_round -/
def p_in_round (v_frame : (List Int)) : Option (List Int) :=
  (Option.bind (some (((v_frame.length : Int) / (2 : Int)) : Int)) fun v_pegs_1 => (Option.bind (grd (rngOk ((2 : Int) * v_pegs_1))) fun g2 => (Option.bind (compM (fun (x3 : Int) => (some true)) (fun (x3 : Int) => (Option.bind (p_turned_round v_pegs_1 x3) fun u4 => (Option.bind (atI v_frame u4) fun u5 => (Option.bind (p_turned_round v_pegs_1 u5) fun u6 => (some u6))))) (rng 0 ((2 : Int) * v_pegs_1))) fun u7 => (some u7))))
/-! in_round#L -/
def p_in_round_L (v_frame : (List Int)) : Option (List Int) :=
  (Option.bind (some (((v_frame.length : Int) / (2 : Int)) : Int)) fun v_pegs_1 => (Option.bind (grd (rngOk ((2 : Int) * v_pegs_1))) fun g2 => (Option.bind (compM (fun (x3 : Int) => (some true)) (fun (x3 : Int) => (Option.bind (p_turned_round v_pegs_1 x3) fun u4 => (Option.bind (atI v_frame u4) fun u5 => (Option.bind (p_turned_round v_pegs_1 u5) fun u6 => (some u6))))) (rng 0 ((2 : Int) * v_pegs_1))) fun u7 => (some u7))))
/-! are_ties -/
def p_are_ties_for1 (v_frame : (List Int)) (s_1 : Unit) (x1 : (Int × Int)) : Option ((Unit) ⊕ Bool) :=
  (Option.bind (Option.bind (some (!((decide ((0 : Int) ≤ x1.2)) && (decide (x1.2 < (v_frame.length : Int)))))) fun a => if a = true then some true else (Option.bind (some (decide (x1.2 = x1.1))) fun a => if a = true then some true else (Option.bind (atI v_frame x1.2) fun u2 => (some (!(decide (u2 = x1.1))))))) fun c3 => (if c3 = true then ((some false)).map Sum.inr else (some (Sum.inl ()))))
def p_are_ties (v_frame : (List Int)) : Option Bool :=
  (if ((decide ((v_frame.length : Int) < (2 : Int))) || ((decide ((v_frame.length : Int) > ((2 : Int) * (10 : Int)))) || (decide (((v_frame.length : Int) % (2 : Int)) = (1 : Int))))) = true then (some false) else (bindR (R := Bool) (forR (p_are_ties_for1 v_frame) () (enumI v_frame)) (fun (s4 : Unit) => (some true)) id))
/-! nested -/
def p_nested_for1  (s_1 : (List Int)) (x1 : (Int × Int)) : Option (((List Int)) ⊕ Bool) :=
  (if (decide (x1.2 > x1.1)) = true then (Option.bind (app? s_1 x1.2) fun u2 => (some (Sum.inl u2))) else (Option.bind (pop? s_1) fun u3 => (if (!decide (u3.1 = x1.1)) = true then (some (Sum.inr false)) else (some (Sum.inl u3.2)))))
def p_nested (v_ends : (List Int)) : Option Bool :=
  (bindR (R := Bool) (forR p_nested_for1 ([] : (List Int)) (enumI v_ends)) (fun (s4 : (List Int)) => (some true)) id)
/-! is_frame -/
def p_is_frame (v_frame : (List Int)) : Option Bool :=
  (Option.bind (p_are_ties v_frame) fun u1 => (Option.bind (Option.bind (some u1) fun a => if a = true then (Option.bind (p_in_round v_frame) fun u2 => (Option.bind (p_nested u2) fun u3 => (some u3))) else some false) fun c4 => (some c4)))
/-! ask_frame -/
def p_ask_frame (v_frame : (List Int)) : Option Unit :=
  (Option.bind (p_is_frame v_frame) fun u1 => (if (!u1) = true then none else (some ())))
/-! is_half -/
def p_is_half_for1 (v_half : (List Int)) (s_1 : (List Int)) (x1 : (Int × Int)) : Option (((List Int)) ⊕ Bool) :=
  (Option.bind (Option.bind (some (!((decide ((0 : Int) ≤ x1.2)) && (decide (x1.2 < (v_half.length : Int)))))) fun a => if a = true then some true else (Option.bind (atI v_half x1.2) fun u2 => (some (!(decide (u2 = x1.1)))))) fun c3 => (if c3 = true then ((some false)).map Sum.inr else (if (decide (x1.2 > x1.1)) = true then (Option.bind (app? s_1 x1.2) fun u4 => (some (Sum.inl u4))) else (Option.bind (if ((decide (x1.2 = x1.1)) && (!(decide (s_1 = ([] : (List Int)))))) = true then some (true, s_1) else (if (decide (x1.2 < x1.1)) = true then (Option.bind (pop? s_1) fun p => some (!decide (p.1 = x1.1), p.2)) else some (false, s_1))) fun (c6 : Bool × (List Int)) => if c6.1 = true then ((fun (y5 : (List Int)) => (some (Sum.inr false))) c6.2) else ((fun (y5 : (List Int)) => (some (Sum.inl y5))) c6.2)))))
def p_is_half (v_half : (List Int)) : Option Bool :=
  (if (!((decide ((1 : Int) ≤ (v_half.length : Int))) && (decide ((v_half.length : Int) ≤ (10 : Int))))) = true then (some false) else (bindR (R := Bool) (forR (p_is_half_for1 v_half) ([] : (List Int)) (enumI v_half)) (fun (s7 : (List Int)) => (some true)) id))
/-! ask_half -/
def p_ask_half (v_half : (List Int)) : Option Unit :=
  (Option.bind (p_is_half v_half) fun u1 => (if (!u1) = true then none else (some ())))
/-! ask_halves -/
def p_ask_halves (v_one : (List Int)) (v_other : (List Int)) : Option Unit :=
  (Option.bind (p_ask_half v_one) fun u1 => (Option.bind (p_ask_half v_other) fun u2 => (if (!(decide ((v_one.length : Int) = (v_other.length : Int)))) = true then none else (some ()))))
/-! upper -/
def p_upper (v_frame : (List Int)) : Option (List Int) :=
  (Option.bind (p_ask_frame v_frame) fun u1 => (Option.bind (some (((v_frame.length : Int) / (2 : Int)) : Int)) fun v_pegs_2 => (Option.bind (grd (rngOk v_pegs_2)) fun g3 => (Option.bind (compM (fun (x4 : Int) => (some true)) (fun (x4 : Int) => (Option.bind (atI v_frame x4) fun u5 => (Option.bind (if (decide (u5 < v_pegs_2)) = true then (Option.bind (atI v_frame x4) fun u6 => (some u6)) else (some x4)) fun c7 => (some c7)))) (rng 0 v_pegs_2)) fun u8 => (some u8)))))
/-! lower -/
def p_lower (v_frame : (List Int)) : Option (List Int) :=
  (Option.bind (p_ask_frame v_frame) fun u1 => (Option.bind (some (((v_frame.length : Int) / (2 : Int)) : Int)) fun v_pegs_2 => (Option.bind (grd (rngOk v_pegs_2)) fun g3 => (Option.bind (compM (fun (x4 : Int) => (some true)) (fun (x4 : Int) => (Option.bind (atI v_frame (v_pegs_2 + x4)) fun u5 => (Option.bind (if (decide (u5 ≥ v_pegs_2)) = true then (Option.bind (atI v_frame (v_pegs_2 + x4)) fun u6 => (some (u6 - v_pegs_2))) else (some x4)) fun c7 => (some c7)))) (rng 0 v_pegs_2)) fun u8 => (some u8)))))
/-! going -/
def p_going (v_half : (List Int)) : Option (List Int) :=
  (some (((enumI v_half).filter fun (x1 : (Int × Int)) => (decide (x1.2 = x1.1))).map fun (x1 : (Int × Int)) => x1.1))
/-! made_of -/
def p_made_of_for1 (v_pegs : Int) (s_1 : (List Int)) (x7 : (Int × Int)) : Option ((List Int)) :=
  (Option.bind (set? s_1 x7.1 (v_pegs + x7.2)) fun u8 => (Option.bind (set? u8 (v_pegs + x7.2) x7.1) fun u9 => (some u9)))
def p_made_of (v_one : (List Int)) (v_other : (List Int)) : Option (List Int) :=
  (Option.bind (some ((v_one.length : Int) : Int)) fun v_pegs_1 => (Option.bind (grd ((v_one ++ (v_other.map fun (x2 : Int) => (v_pegs_1 + x2))).length ≤ lim)) fun g3 => (Option.bind (some ((v_one ++ (v_other.map fun (x2 : Int) => (v_pegs_1 + x2))) : (List Int))) fun v_found_4 => (Option.bind (p_going v_one) fun u5 => (Option.bind (p_going v_other) fun u6 => (Option.bind (forS (p_made_of_for1 v_pegs_1) v_found_4 (List.zip u5 u6)) fun (s10 : (List Int)) => (some s10)))))))
/-! joined -/
def p_joined (v_one : (List Int)) (v_other : (List Int)) : Option (List Int) :=
  (Option.bind (p_ask_halves v_one v_other) fun u1 => (Option.bind (p_going v_one) fun u2 => (Option.bind (p_going v_other) fun u3 => (if (!(decide ((u2.length : Int) = (u3.length : Int)))) = true then none else (Option.bind (p_made_of v_one v_other) fun u4 => (some u4))))))
/-! ways_on -/
def p_ways_on_for1  (s_1 : (List Int)) (x3 : Int) : Option ((List Int)) :=
  (Option.bind (grd ((s_1 ++ ([(0 : Int), (0 : Int)])).length ≤ lim)) fun g4 => (Option.bind (some ((s_1 ++ ([(0 : Int), (0 : Int)])) : (List Int))) fun v_more_5 => (Option.bind (grd (rngOk ((s_1.length : Int) + (1 : Int)))) fun g6 => (Option.bind (compM (fun (x7 : Int) => (some true)) (fun (x7 : Int) => (Option.bind (atI v_more_5 (x7 + (1 : Int))) fun u8 => (Option.bind (if (decide (x7 > (0 : Int))) = true then (Option.bind (atI v_more_5 (x7 - (1 : Int))) fun u9 => (some u9)) else (some (0 : Int))) fun c10 => (some (u8 + c10))))) (rng 0 ((s_1.length : Int) + (1 : Int)))) fun u11 => (some u11)))))
def p_ways_on (v_left : Int) : Option (List Int) :=
  (Option.bind (some (([(1 : Int)]) : (List Int))) fun v_ways_1 => (Option.bind (grd (rngOk v_left)) fun g2 => (Option.bind (forS p_ways_on_for1 v_ways_1 (rng 0 v_left)) fun (s12 : (List Int)) => (Option.bind (grd ((s12 ++ ([(0 : Int), (0 : Int)])).length ≤ lim)) fun g13 => (some (s12 ++ ([(0 : Int), (0 : Int)])))))))
/-! how_many -/
def p_how_many (v_pegs : Int) : Option Int :=
  (Option.bind (p_ask_pegs v_pegs) fun u1 => (Option.bind (p_ways_on ((2 : Int) * v_pegs)) fun u2 => (Option.bind (atI u2 (0 : Int)) fun u3 => (some u3))))
/-! texts -/
def p_texts_for2 (v_through : Int) (s_2 : (List (Str × Int × Int))) (x4 : (Str × Int × Int)) : Option ((List (Str × Int × Int))) :=
  (Option.bind (grd (x4.1.length + (Str.ofString "(").length ≤ lim)) fun g5 => (Option.bind (app? s_2 ((x4.1 ++ (Str.ofString "(")), (x4.2.1 + (1 : Int)), x4.2.2)) fun u6 => (if (decide (x4.2.1 > (0 : Int))) = true then (Option.bind (grd (x4.1.length + (Str.ofString ")").length ≤ lim)) fun g7 => (Option.bind (app? u6 ((x4.1 ++ (Str.ofString ")")), (x4.2.1 - (1 : Int)), x4.2.2)) fun u8 => (some u8))) else (if (decide (x4.2.2 < v_through)) = true then (Option.bind (grd (x4.1.length + (Str.ofString "|").length ≤ lim)) fun g9 => (Option.bind (app? u6 ((x4.1 ++ (Str.ofString "|")), x4.2.1, (x4.2.2 + (1 : Int)))) fun u10 => (some u10))) else (some u6)))))
def p_texts_for1 (v_through : Int) (s_1 : (List (Str × Int × Int))) (x3 : Int) : Option ((List (Str × Int × Int))) :=
  (Option.bind (forS (p_texts_for2 v_through) ([] : (List (Str × Int × Int))) s_1) fun (s11 : (List (Str × Int × Int))) => (some s11))
def p_texts (v_pegs : Int) (v_through : Int) : Option (List Str) :=
  (Option.bind (some (([((Str.ofString ""), (0 : Int), (0 : Int))]) : (List (Str × Int × Int)))) fun v_found_1 => (Option.bind (grd (rngOk v_pegs)) fun g2 => (Option.bind (forS (p_texts_for1 v_through) v_found_1 (rng 0 v_pegs)) fun (s12 : (List (Str × Int × Int))) => (some ((s12.filter fun (x13 : (Str × Int × Int)) => ((decide (x13.2.1 = (0 : Int))) && (decide (x13.2.2 = v_through)))).map fun (x13 : (Str × Int × Int)) => x13.1)))))
/-! half_in -/
def p_half_in_for1  (s_1 : (List Int) × (List Int)) (x3 : (Int × Str)) : Option ((List Int) × (List Int)) :=
  (if (decide (x3.2 = (Str.ofString "("))) = true then (Option.bind (app? s_1.2 x3.1) fun u4 => (some (s_1.1, u4))) else (if (decide (x3.2 = (Str.ofString ")"))) = true then (Option.bind (pop? s_1.2) fun u5 => (Option.bind (set? s_1.1 x3.1 u5.1) fun u6 => (Option.bind (set? u6 u5.1 x3.1) fun u7 => (some (u7, u5.2))))) else (some (s_1.1, s_1.2))))
def p_half_in (v_text : Str) : Option (List Int) :=
  (Option.bind (grd (rngOk (v_text.length : Int))) fun g1 => (Option.bind (some ((rng 0 (v_text.length : Int)) : (List Int))) fun v_found_2 => (Option.bind (forS p_half_in_for1 (v_found_2, ([] : (List Int))) (enumI (chrs v_text))) fun (s8 : (List Int) × (List Int)) => (some s8.1))))
/-! halves -/
def p_halves (v_pegs : Int) (v_through : Int) : Option (List (List Int)) :=
  (Option.bind (p_texts v_pegs v_through) fun u1 => (Option.bind (compM (fun (x2 : Str) => (some true)) (fun (x2 : Str) => (Option.bind (p_half_in x2) fun u3 => (some u3))) u1) fun u4 => (Option.bind (grd (alike u4 = true)) fun g5 => (some (sortC u4)))))
/-! how_many_halves -/
def p_how_many_halves (v_pegs : Int) (v_through : Int) : Option Int :=
  (Option.bind (p_ask_pegs v_pegs) fun u1 => (Option.bind (p_halves v_pegs v_through) fun u2 => (some (u2.length : Int))))
/-! half_of -/
def p_half_of (v_pegs : Int) (v_through : Int) (v_number : Int) : Option (List Int) :=
  (Option.bind (p_ask_pegs v_pegs) fun u1 => (Option.bind (p_halves v_pegs v_through) fun u2 => (if (!((decide ((0 : Int) ≤ v_number)) && (decide (v_number < (u2.length : Int))))) = true then none else (Option.bind (atI u2 v_number) fun u3 => (some u3)))))
/-! half_number -/
def p_half_number (v_told : (List Int)) : Option Int :=
  (Option.bind (p_ask_half v_told) fun u1 => (Option.bind (p_going v_told) fun u2 => (Option.bind (p_halves (v_told.length : Int) (u2.length : Int)) fun u3 => (Option.bind (idxA u3 v_told) fun u4 => (some u4)))))
/-! family -/
def p_family (v_frame : (List Int)) : Option (Int × Int) :=
  (Option.bind (p_ask_frame v_frame) fun u1 => (Option.bind (p_upper v_frame) fun u2 => (Option.bind (p_half_number u2) fun u3 => (Option.bind (p_lower v_frame) fun u4 => (Option.bind (p_half_number u4) fun u5 => (some (u3, u5)))))))
/-! _law_mix -/
def l_mix (v_seed : Int) : Option Int :=
  (Option.bind (some ((((v_seed * (48271 : Int)) + (11 : Int)) % (2147483647 : Int)) : Int)) fun v_one_1 => (Option.bind (grd (CMul v_one_1 v_one_1)) fun g2 => (Option.bind (some (((((v_one_1 * v_one_1) + ((40692 : Int) * v_one_1)) + v_seed) % (2147483399 : Int)) : Int)) fun v_two_3 => (Option.bind (grd (CMul v_two_3 v_two_3)) fun g4 => (some ((((v_two_3 * v_two_3) + ((69621 : Int) * v_two_3)) + v_one_1) % (2147483563 : Int)))))))
/-! _law_raw -/
def l_raw_for1 (v_k : Int) (v_cell : Int) (s_1 : Int) (x7 : Int) : Option (Int) :=
  (Option.bind (l_mix ((v_cell + ((1009 : Int) * v_k)) + ((7919 : Int) * x7))) fun u8 => (Option.bind (some (((s_1 * (2147483563 : Int)) + u8) : Int)) fun v_found_9 => (some v_found_9)))
def l_raw (v_script : (List Int)) (v_k : Int) : Option Int :=
  (Option.bind (some ((((7 : Int) * v_k) + (3 : Int)) : Int)) fun v_cell_1 => (Option.bind (if (decide ((v_script.length : Int) > (0 : Int))) = true then (Option.bind (grd ((0 : Int) < (v_script.length : Int))) fun g3 => (Option.bind (atI v_script (v_k % (v_script.length : Int))) fun u4 => (Option.bind (grd (CDivW v_k (v_script.length : Int))) fun g5 => (Option.bind (some ((u4 + ((9973 : Int) * (v_k / (v_script.length : Int)))) : Int)) fun v_cell_6 => (some v_cell_6))))) else (some v_cell_1)) fun (s2 : Int) => (if ((decide (v_k < (v_script.length : Int))) && (decide (s2 ≥ ((10 : Int) ^ Int.toNat (18 : Int))))) = true then (some (s2 - ((10 : Int) ^ Int.toNat (18 : Int)))) else (Option.bind (forS (l_raw_for1 v_k s2) (0 : Int) (rng 0 (40 : Int))) fun (s10 : Int) => (some s10)))))
/-! _law_digits -/
def l_digits_for1  (s_1 : Int × (List Int)) (x2 : Int) : Option (Int × (List Int)) :=
  (Option.bind (grd ((0 : Int) < x2)) fun g3 => (Option.bind (app? s_1.2 (s_1.1 % x2)) fun u4 => (Option.bind (grd (CDivW s_1.1 x2)) fun g5 => (Option.bind (some ((s_1.1 / x2) : Int)) fun v_rest_6 => (some (v_rest_6, u4))))))
def l_digits (v_script : (List Int)) (v_k : Int) (v_sizes : (List Int)) : Option (List Int) :=
  (Option.bind (l_raw v_script v_k) fun u1 => (Option.bind (forS l_digits_for1 (u1, ([] : (List Int))) v_sizes) fun (s7 : Int × (List Int)) => (some s7.2)))
/-! _law_same -/
def l_same : Nat → PyData → PyData → Option Bool
  | 0, _, _ => none
  | n + 1, v_told, v_due =>
  (if (isNone v_due) = true then (some (isNone v_told)) else (if ((!((isBD v_told) == (isBD v_due))) || (!((isID v_told) == (isID v_due)))) = true then (some false) else (if ((!((isLD v_told) == (isLD v_due))) || (!((isTD v_told) == (isTD v_due)))) = true then (some false) else (if ((!(isLD v_due)) && (!(isTD v_due))) = true then (Option.bind (Option.bind (some ((isSD v_told) == (isSD v_due))) fun a => if a = true then (Option.bind (eqLeaf v_told v_due) fun u1 => (some u1)) else some false) fun c2 => (some c2)) else (Option.bind (lenD v_told) fun u3 => (Option.bind (lenD v_due) fun u4 => (Option.bind (Option.bind (some (decide (u3 = u4))) fun a => if a = true then (Option.bind (zipD v_told v_due) fun u5 => (Option.bind (compM (fun (x6 : (PyData × PyData)) => (some true)) (fun (x6 : (PyData × PyData)) => (Option.bind (l_same n x6.1 x6.2) fun u7 => (some u7))) u5) fun u8 => (some (u8.all id)))) else some false) fun c9 => (some c9))))))))
/-! law -/
def l_law_for1 (v_script : (List Int)) (v_pegs : Int) (v_sizes : (List Int)) (s_1 : (List ((List Int) × (Int × Int × Int)))) (x13 : Int) : Option (((List ((List Int) × (Int × Int × Int)))) ⊕ Bool) :=
  (Option.bind (l_digits v_script ((1 : Int) + x13) ([(v_pegs + (1 : Int)), ((10 : Int) ^ Int.toNat (9 : Int)), ((10 : Int) ^ Int.toNat (9 : Int))])) fun u14 => (Option.bind (unp3 u14) fun u18 => (Option.bind (atI ([(0 : Int), (1 : Int)]) ((v_pegs - u18.1) % (2 : Int))) fun u19 => (Option.bind (some ((u18.1 + u19) : Int)) fun v_gone_20 => (Option.bind (atI v_sizes v_gone_20) fun u21 => (Option.bind (grd ((0 : Int) < u21)) fun g22 => (Option.bind (atI v_sizes v_gone_20) fun u23 => (Option.bind (grd ((0 : Int) < u23)) fun g24 => (Option.bind (p_half_of v_pegs v_gone_20 (u18.2.1 % u21)) fun u25 => (Option.bind (p_half_of v_pegs v_gone_20 (u18.2.2 % u23)) fun u26 => (Option.bind (p_joined u25 u26) fun u27 => (Option.bind (p_is_frame u27) fun u28 => (Option.bind (Option.bind (some (!u28)) fun a => if a = true then some true else (Option.bind (p_family u27) fun u29 => (Option.bind (l_same 6 ((eP PyData.int PyData.int) u29) ((eP PyData.int PyData.int) ((u18.2.1 % u21), (u18.2.2 % u23)))) fun u30 => (some (!u30))))) fun c31 => (if c31 = true then ((some false)).map Sum.inr else (if (!(decide (((lookA s_1 u27).getD (v_gone_20, (u18.2.1 % u21), (u18.2.2 % u23))) = (v_gone_20, (u18.2.1 % u21), (u18.2.2 % u23))))) = true then ((some false)).map Sum.inr else (Option.bind (put? s_1 u27 (v_gone_20, (u18.2.1 % u21), (u18.2.2 % u23))) fun u32 => (some (Sum.inl u32))))))))))))))))))
def l_law_for4 (v_one : (List Int)) (s_4 : (List ((List Int) × Bool))) (x44 : (List Int)) : Option ((List ((List Int) × Bool))) :=
  (Option.bind (p_joined v_one x44) fun u45 => (Option.bind (put? s_4 u45 true) fun u46 => (some u46)))
def l_law_for3 (v_halves_now : (List (List Int))) (s_3 : (List ((List Int) × Bool))) (x43 : (List Int)) : Option ((List ((List Int) × Bool))) :=
  (Option.bind (forS (l_law_for4 x43) s_3 v_halves_now) fun (s47 : (List ((List Int) × Bool))) => (some s47))
def l_law_for2 (v_few : Int) (s_2 : (List ((List Int) × Bool))) (x37 : Int) : Option ((List ((List Int) × Bool))) :=
  (Option.bind (p_how_many_halves v_few x37) fun u38 => (Option.bind (grd (rngOk u38)) fun g39 => (Option.bind (compM (fun (x40 : Int) => (some true)) (fun (x40 : Int) => (Option.bind (p_half_of v_few x37 x40) fun u41 => (some u41))) (rng 0 u38)) fun u42 => (Option.bind (forS (l_law_for3 u42) s_2 u42) fun (s48 : (List ((List Int) × Bool))) => (some s48)))))
def l_law (v_script : (List Int)) : Option Bool :=
  (Option.bind (some ((cutA v_script none (some (63 : Int))) : (List Int))) fun v_script_1 => (Option.bind (l_digits v_script_1 (0 : Int) ([(10 : Int)])) fun u2 => (Option.bind (atI u2 (0 : Int)) fun u3 => (Option.bind (some (((1 : Int) + u3) : Int)) fun v_pegs_4 => (Option.bind (grd (rngOk (v_pegs_4 + (1 : Int)))) fun g5 => (Option.bind (compM (fun (x6 : Int) => (some true)) (fun (x6 : Int) => (Option.bind (p_how_many_halves v_pegs_4 x6) fun u7 => (some u7))) (rng 0 (v_pegs_4 + (1 : Int)))) fun u8 => (Option.bind (compM (fun (x9 : Int) => (some true)) (fun (x9 : Int) => (Option.bind (grd (CMul x9 x9)) fun g10 => (some (x9 * x9)))) u8) fun u11 => (Option.bind (p_how_many v_pegs_4) fun u12 => (if (!(decide (u11.sum = u12))) = true then (some false) else (bindR (R := Bool) (forR (l_law_for1 v_script_1 v_pegs_4 u8) ([] : (List ((List Int) × (Int × Int × Int)))) (rng 0 (9 : Int))) (fun (s33 : (List ((List Int) × (Int × Int × Int)))) => (Option.bind (some (((1 : Int) + (v_pegs_4 % (4 : Int))) : Int)) fun v_few_34 => (Option.bind (grd (rngOk (v_few_34 % (2 : Int)))) fun g35 => (Option.bind (grd (rngOk (v_few_34 + (1 : Int)))) fun g36 => (Option.bind (forS (l_law_for2 v_few_34) ([] : (List ((List Int) × Bool))) (rng3 (v_few_34 % (2 : Int)) (v_few_34 + (1 : Int)) (2 : Int))) fun (s49 : (List ((List Int) × Bool))) => (Option.bind (p_how_many v_few_34) fun u50 => (some (decide ((s49.length : Int) = u50))))))))) id))))))))))
end Rb.M_k20

set_option Elab.async false
set_option linter.all false
set_option maxRecDepth 100000
set_option maxHeartbeats 4000000
namespace Rb.M_k20
open PySem L2 Rb
/-! ### drawn numbers -/
def Dig : List Int → List Int → Prop
  | [], [] => True
  | d :: ds, s :: ss => 0 ≤ d ∧ d < s ∧ Dig ds ss
  | _, _ => False
def SzOk (ss : List Int) : Prop := ∀ s, s ∈ ss → 0 < s ∧ s < 2 ^ 200
theorem log_small {j : Int} (h : 0 < j ∧ j < 2 ^ 200) : CDivW 0 j := by
  refine ⟨h.1, ?_⟩
  have : j.natAbs < 2 ^ 200 := by omega
  have h2 : j.natAbs ≠ 0 := by omega
  have := (Nat.log2_lt h2).mpr this
  omega
theorem cmul_mod (a : Int) {m : Int} (h0 : 0 < m) (h1 : m < 2 ^ 63) : CMul (a % m) (a % m) := by
  have a1 := Int.emod_nonneg a (show m ≠ 0 by omega)
  have a2 := Int.emod_lt_of_pos a h0
  exact .inl ⟨by omega, by omega⟩
theorem mix_ok (s : Int) : ∃ v, l_mix s = some v := by
  unfold l_mix
  simp only [Option.bind_some]
  rw [grd_true (cmul_mod _ (by decide) (by decide)), Option.bind_some, grd_true (cmul_mod _ (by decide) (by decide)), Option.bind_some]
  exact ⟨_, rfl⟩
theorem raw_loop (k c : Int) : ∀ (xs : List Int) (s : Int), ∃ v, forS (l_raw_for1 k c) s xs = some v
  | [], s => ⟨s, rfl⟩
  | x :: xs, s => by
    obtain ⟨v, hv⟩ := mix_ok ((c + 1009 * k) + 7919 * x)
    rw [forS_cons]
    unfold l_raw_for1
    rw [hv]
    exact raw_loop k c xs _
theorem raw_ok {ns : List Int} {k : Int} (hk : 0 ≤ k) (hl : ns.length ≤ 63) : ∃ v, l_raw ns k = some v := by
  unfold l_raw
  simp only [Option.bind_some]
  have tail : ∀ s2 : Int, ∃ v, (if ((decide (k < (ns.length : Int))) && (decide (s2 ≥ ((10 : Int) ^ Int.toNat (18 : Int))))) = true then (some (s2 - ((10 : Int) ^ Int.toNat (18 : Int)))) else (Option.bind (forS (l_raw_for1 k s2) (0 : Int) (rng 0 (40 : Int))) fun (s10 : Int) => (some s10))) = some v := by
    intro s2
    obtain ⟨v, hv⟩ := raw_loop k s2 (rng 0 40) 0
    split
    · exact ⟨_, rfl⟩
    · rw [hv]; exact ⟨_, rfl⟩
  by_cases c : (ns.length : Int) > 0
  · rw [if_pos (decide_eq_true c), grd_true (by exact c), Option.bind_some]
    have b0 := Int.emod_nonneg k (show (ns.length : Int) ≠ 0 by omega)
    have b1 := Int.emod_lt_of_pos k c
    rw [atI_eq b0 b1]
    obtain ⟨y, hy⟩ : ∃ y, ns[(k % (ns.length : Int)).toNat]? = some y := ⟨_, List.getElem?_eq_getElem (by omega)⟩
    have g := log_small (j := (ns.length : Int)) ⟨c, by omega⟩
    rw [hy, Option.bind_some, grd_true (p := CDivW k (ns.length : Int)) g, Option.bind_some]
    exact tail _
  · rw [if_neg (by simpa using c)]
    exact tail _
theorem digits_loop : ∀ (ss : List Int) (r : Int) (acc : List Int), SzOk ss → acc.length + ss.length < lim → ∃ r' ds, forS l_digits_for1 (r, acc) ss = some (r', acc ++ ds) ∧ Dig ds ss
  | [], r, acc, _, _ => ⟨r, [], by simp [forS], trivial⟩
  | s :: ss, r, acc, h, hl => by
    have hs := h s List.mem_cons_self
    rw [List.length_cons] at hl
    obtain ⟨r', ds, e, d⟩ := digits_loop ss (r / s) (acc ++ [r % s]) (fun x hx => h x (List.mem_cons_of_mem _ hx)) (by rw [List.length_append, List.length_singleton]; omega)
    refine ⟨r', (r % s) :: ds, ?_, Int.emod_nonneg r (by omega), Int.emod_lt_of_pos r hs.1, d⟩
    have a1 : app? acc (r % s) = some (acc ++ [r % s]) := app_ok (by omega)
    have g : grd (CDivW r s) = some () := grd_true (p := CDivW r s) (log_small hs)
    have t : l_digits_for1 (r, acc) s = some (r / s, acc ++ [r % s]) := by
      unfold l_digits_for1
      simp only [grd_true hs.1, a1, g, Option.bind_some]
    rw [forS_cons, t, Option.bind_some, e, List.append_assoc]
    rfl
theorem digits_ok {ns : List Int} {k : Int} {ss : List Int} (hk : 0 ≤ k) (hl : ns.length ≤ 63) (hs : SzOk ss) (hz : ss.length ≤ 100) : ∃ ds, l_digits ns k ss = some ds ∧ Dig ds ss := by
  obtain ⟨v, hv⟩ := raw_ok (ns := ns) hk hl
  obtain ⟨r', ds, e, d⟩ := digits_loop ss v [] hs (by unfold lim; simp; omega)
  refine ⟨ds, ?_, d⟩
  unfold l_digits
  rw [hv, Option.bind_some, e]
  rfl
theorem Dig.len : ∀ {ds ss : List Int}, Dig ds ss → ds.length = ss.length
  | [], [], _ => rfl
  | d :: ds, s :: ss, h => by rw [List.length_cons, List.length_cons, Dig.len h.2.2]
  | [], _ :: _, h => h.elim
  | _ :: _, [], h => h.elim
theorem Dig.nonneg : ∀ {ds ss : List Int}, Dig ds ss → ∀ d, d ∈ ds → 0 ≤ d
  | [], [], _ => fun d h => by cases h
  | d :: ds, s :: ss, h => fun x hx => by
    rcases List.mem_cons.mp hx with e | e
    · rw [e]; exact h.1
    · exact Dig.nonneg h.2.2 x e
  | [], _ :: _, h => h.elim
  | _ :: _, [], h => h.elim
/-! ### _law_same of like things -/
def Sm (n : Nat) (d : PyData) : Prop := l_same n d d = some true
theorem zip_self {xs : List PyData} {p : PyData × PyData} (h : p ∈ xs.zip xs) : p.1 = p.2 ∧ p.1 ∈ xs := by
  obtain ⟨i, hi, e⟩ := List.getElem_of_mem h
  have q := zip_get (p := p) (i := i) (xs := xs) (ys := xs) (by rw [List.getElem?_eq_getElem hi, e])
  have e1 := q.1.symm.trans q.2
  exact ⟨Option.some.inj e1, List.mem_of_getElem? q.1⟩
theorem sm_zip {n : Nat} {xs : List PyData} (h : ∀ x, x ∈ xs → Sm n x) : (compM (fun (_ : (PyData × PyData)) => (some true)) (fun (x6 : (PyData × PyData)) => (Option.bind (l_same n x6.1 x6.2) fun u7 => (some u7))) (xs.zip xs)) = some ((xs.zip xs).map fun _ => true) :=
  compM_some (fun _ _ => rfl) fun p hp => by
    obtain ⟨a, b⟩ := zip_self hp
    rw [← a, show l_same n p.1 p.1 = some true from h _ b]
    rfl
theorem all_true {α : Type} (xs : List α) : (xs.map fun _ => true).all id = true := by
  rw [List.all_eq_true]
  intro x hx
  obtain ⟨_, _, rfl⟩ := List.mem_map.mp hx
  rfl
theorem Sm.int (n : Nat) (i : Int) : Sm (n + 1) (.int i) := by
  unfold Sm l_same
  simp [isNone, isBD, isID, isLD, isTD, isSD, eqLeaf]
theorem Sm.bool (n : Nat) (i : Bool) : Sm (n + 1) (.bool i) := by
  unfold Sm l_same
  simp [isNone, isBD, isID, isLD, isTD, isSD, eqLeaf]
theorem Sm.str (n : Nat) (i : Str) : Sm (n + 1) (.str i) := by
  unfold Sm l_same
  simp [isNone, isBD, isID, isLD, isTD, isSD, eqLeaf]
theorem Sm.none (n : Nat) : Sm (n + 1) .none := by
  unfold Sm l_same
  simp [isNone]
theorem Sm.list {n : Nat} {xs : List PyData} (h : ∀ x, x ∈ xs → Sm n x) : Sm (n + 1) (.list xs) := by
  unfold Sm l_same
  have z : zipD (.list xs) (.list xs) = some (xs.zip xs) := rfl
  have l : lenD (.list xs) = some (xs.length : Int) := rfl
  have a := all_true (xs.zip xs)
  simp only [isNone, isBD, isID, isLD, isTD, isSD, l, z, Option.bind_some, sm_zip h, a]
  simp
theorem Sm.tup {n : Nat} {xs : List PyData} (h : ∀ x, x ∈ xs → Sm n x) : Sm (n + 1) (.tuple xs) := by
  unfold Sm l_same
  have z : zipD (.tuple xs) (.tuple xs) = some (xs.zip xs) := rfl
  have l : lenD (.tuple xs) = some (xs.length : Int) := rfl
  have a := all_true (xs.zip xs)
  simp only [isNone, isBD, isID, isLD, isTD, isSD, l, z, Option.bind_some, sm_zip h, a]
  simp
theorem Sm.ints (n : Nat) (xs : List Int) : Sm (n + 2) (eT PyData.int xs) := .tup fun x hx => by
  obtain ⟨i, _, rfl⟩ := List.mem_map.mp hx
  exact .int n i
theorem Sm.intl (n : Nat) (xs : List Int) : Sm (n + 2) (eL PyData.int xs) := .list fun x hx => by
  obtain ⟨i, _, rfl⟩ := List.mem_map.mp hx
  exact .int n i
theorem Sm.pair {n : Nat} {a b : PyData} (h1 : Sm n a) (h2 : Sm n b) : Sm (n + 1) (.tuple [a, b]) := .tup fun x hx => by
  simp only [List.mem_cons, List.not_mem_nil, or_false] at hx
  rcases hx with rfl | rfl
  · exact h1
  · exact h2
theorem Sm.pairl {n : Nat} {a b : PyData} (h1 : Sm n a) (h2 : Sm n b) : Sm (n + 1) (.list [a, b]) := .list fun x hx => by
  simp only [List.mem_cons, List.not_mem_nil, or_false] at hx
  rcases hx with rfl | rfl
  · exact h1
  · exact h2
theorem rd_rd {n p : Int} (h : 0 ≤ p ∧ p < 2 * n) : rd n (rd n p) = p := by unfold rd; grind
/-- the ties by places -/
def rnd (n : Int) (x : Int → Int) (p : Int) : Int := rd n (x (rd n p))
theorem rnd_ft {n : Int} {x : Int → Int} (h : FT (2 * n) x) : FT (2 * n) (rnd n x) := fun p a b => by
  have r := rd_in (n := n) ⟨a, b⟩
  have q := h _ r.1 r.2
  have s := rd_in (n := n) ⟨q.1, q.2.1⟩
  unfold rnd
  refine ⟨s.1, s.2, fun z => q.2.2.1 ?_, ?_⟩
  · rw [← rd_rd ⟨q.1, q.2.1⟩, z]
  · rw [rd_rd ⟨q.1, q.2.1⟩, q.2.2.2, rd_rd ⟨a, b⟩]
theorem fr_iff {n : Int} {x : Int → Int} (h : FT (2 * n) x) : Fr n x ↔ Nc (2 * n) (rnd n x) := by
  constructor
  · intro f p q p0 p1 u q1 q2
    have E := rnd_ft h
    have hp := E p p0 p1
    have a := rd_in (n := n) ⟨p0, p1⟩
    have b := rd_in (n := n) (p := q) ⟨by omega, by omega⟩
    have np : rd n q ≠ rd n p := fun z => by
      have := rd_rd (n := n) (p := q) ⟨by omega, by omega⟩
      rw [z, rd_rd ⟨p0, p1⟩] at this; omega
    have nt : rd n q ≠ x (rd n p) := fun z => by
      have e : rnd n x p = q := by unfold rnd; rw [← z, rd_rd ⟨by omega, by omega⟩]
      omega
    have := Pm.nc f (rd n p) (rd n q) ⟨a.1, a.2⟩ ⟨b.1, b.2⟩ np nt
    unfold Btw at this
    have hx := h _ a.1 a.2
    rw [rd_rd ⟨p0, p1⟩, rd_rd ⟨by omega, by omega⟩] at this
    have e1 : rd n (x (rd n p)) = rnd n x p := rfl
    have e2 : rd n (x (rd n q)) = rnd n x q := rfl
    rw [e1, e2] at this
    omega
  · intro c
    have E := rnd_ft h
    -- by places: both ends of q lie on the same side of p
    have key : ∀ p q, 0 ≤ p → p < 2 * n → 0 ≤ q → q < 2 * n → rnd n x p < p → rnd n x p < q → q < p → rnd n x p < rnd n x q ∧ rnd n x q < p := fun p q p0 p1 q0 q1 u v w => by
      have hp := E p p0 p1
      have hq := E q q0 q1
      have c1 := c p q p0 p1 u v w
      refine ⟨?_, c1⟩
      by_cases z : rnd n x q < q
      · refine Int.not_le.mp fun y => ?_
        have ne : rnd n x p ≠ rnd n x q := fun e => by
          have : p = q := by rw [← hp.2.2.2, e, hq.2.2.2]
          omega
        have := c q (rnd n x p) q0 q1 z (by omega) (by omega)
        rw [hp.2.2.2] at this
        omega
      · omega
    refine ⟨fun p hp => ?_, fun p q hp hq np nt => ?_⟩
    · have := h p hp.1 hp.2
      exact ⟨⟨this.1, this.2.1⟩, this.2.2⟩
    · have a := rd_in hp
      have b := rd_in hq
      have hx := h p hp.1 hp.2
      have hy := h q hq.1 hq.2
      have e1 : rnd n x (rd n p) = rd n (x p) := by unfold rnd; rw [rd_rd hp]
      have e2 : rnd n x (rd n q) = rd n (x q) := by unfold rnd; rw [rd_rd hq]
      have e3 : rnd n x (rd n (x p)) = rd n p := by unfold rnd; rw [rd_rd ⟨hx.1, hx.2.1⟩, hx.2.2.2]
      have e4 : rnd n x (rd n (x q)) = rd n q := by unfold rnd; rw [rd_rd ⟨hy.1, hy.2.1⟩, hy.2.2.2]
      have c1 := rd_in (n := n) ⟨hx.1, hx.2.1⟩
      have d1 := rd_in (n := n) ⟨hy.1, hy.2.1⟩
      have k1 := key (rd n p) (rd n q) a.1 a.2 b.1 b.2
      have k2 := key (rd n p) (rd n (x q)) a.1 a.2 d1.1 d1.2
      have k3 := key (rd n (x p)) (rd n q) c1.1 c1.2 b.1 b.2
      have k4 := key (rd n (x p)) (rd n (x q)) c1.1 c1.2 d1.1 d1.2
      rw [e1, e2] at k1
      rw [e1, e4] at k2
      rw [e3, e2] at k3
      rw [e3, e4] at k4
      unfold Btw
      omega
/-! ### places in the round; which tuples are frames -/
theorem turned_ok (n p : Int) : p_turned_round n p = some (rd n p) := by
  unfold p_turned_round rd
  by_cases c : p < n
  · rw [if_pos (decide_eq_true c), if_pos c]
  · rw [if_neg (by simpa using c), if_neg c]
theorem in_round_ok {n : Int} {x : Int → Int} (h0 : 0 ≤ n) (h1 : n ≤ 10) : p_in_round (lst (2 * n) x) = some (lst (2 * n) (rnd n x)) := by
  unfold p_in_round
  have hn : ((lst (2 * n) x).length : Int) / 2 = n := by rw [lst_len' (by omega)]; omega
  have g : grd (rngOk (2 * n)) = some () := grd_true (rngOk_of (by omega) (by omega))
  simp only [hn, Option.bind_some, g]
  rw [compM_some (g := rnd n x) (fun _ _ => rfl) (fun p hp => ?_)]
  · rfl
  · have hp' := mem_rng.mp hp
    have r := rd_in (n := n) ⟨hp'.1, hp'.2⟩
    rw [turned_ok, Option.bind_some, atI_lst r.1 r.2, Option.bind_some, turned_ok, Option.bind_some]
    rfl
theorem nested_loop {m : Int} {E : Int → Int} (hm : m ≤ 20) (hE : FT m E) : ∀ (k : Nat) (p : Int) (Q : List Int), p + k = m → 0 ≤ p → Opn E p Q →
    ∃ b : Bool, forR p_nested_for1 (Q.map E) ((rng p m).map fun p => (p, E p)) = some (if b = true then .inl [] else .inr false) ∧ (b = true ↔ ∀ p', p ≤ p' → p' < m → E p' < p' → ∀ r, E p' < r → r < p' → E r < p')
  | 0, p, Q, e, p0, o => by
    have : Q = [] := List.eq_nil_iff_forall_not_mem.mpr fun q hq => by
      have := (o.mem q).mp hq
      have := hE q (by omega) (by omega)
      omega
    subst this
    rw [rng_nil (by omega)]
    exact ⟨true, rfl, fun _ p' a b => by omega, fun _ => rfl⟩
  | k + 1, p, Q, e, p0, o => by
    have hp := hE p p0 (by omega)
    rw [rng_cons (by omega), List.map_cons, forR_cons]
    have ql : Q.length ≤ 20 := by
      have := nodup_rng (l := Q) (n := m) (o.srt.imp (fun h => by omega)) (fun i hi => by have := (o.mem i).mp hi; omega)
      omega
    by_cases u : p < E p
    · have t : p_nested_for1 (Q.map E) (p, E p) = some (.inl ((Q ++ [p]).map E)) := by
        unfold p_nested_for1
        rw [if_pos (by simpa using u), app_ok (by rw [List.length_map]; unfold lim; omega), Option.bind_some, List.map_append]
        rfl
      rw [t, Option.bind_some]
      obtain ⟨b, h1, h2⟩ := nested_loop hm hE k (p + 1) (Q ++ [p]) (by omega) (by omega) (o.push hE p0 (by omega) u)
      refine ⟨b, h1, h2.trans ⟨fun h p' a c d => ?_, fun h p' a c d => h p' (by omega) c d⟩⟩
      by_cases e : p' = p
      · subst e; omega
      · exact h p' (by omega) c d
    · have u' : E p < p := by omega
      obtain ⟨Q', q, rfl, h1, h2⟩ := o.pop hE p0 (by omega) u'
      have t : p_nested_for1 ((Q' ++ [q]).map E) (p, E p) = some (if E q = p then .inl (Q'.map E) else .inr false) := by
        unfold p_nested_for1
        rw [if_neg (by simpa using u), List.map_append, List.map_singleton, pop_snoc, Option.bind_some]
        by_cases c : E q = p
        · rw [if_pos c, if_neg (by simpa using c)]
        · rw [if_neg c, if_pos (by simpa using c)]
      rw [t, Option.bind_some]
      by_cases c : E q = p
      · rw [if_pos c]
        obtain ⟨b, g1, g2⟩ := nested_loop hm hE k (p + 1) Q' (by omega) (by omega) (h1 c)
        refine ⟨b, g1, g2.trans ⟨fun h p' a d e => ?_, fun h p' a c d => h p' (by omega) c d⟩⟩
        by_cases pe : p' = p
        · subst pe; exact h2.mp c
        · exact h p' (by omega) d e
      · rw [if_neg c]
        refine ⟨false, rfl, fun z => (by cases z), fun h => absurd (h2.mpr (h p (by omega) (by omega) u')) c⟩
theorem nested_ok {m : Int} {E : Int → Int} (hm : m ≤ 20) (h0 : 0 ≤ m) (hE : FT m E) : ∃ b : Bool, p_nested (lst m E) = some b ∧ (b = true ↔ Nc m E) := by
  obtain ⟨b, h1, h2⟩ := nested_loop hm hE m.toNat 0 [] (by omega) (by omega) ⟨.nil, fun q => ⟨fun h => (by cases h), fun h => by omega⟩⟩
  refine ⟨b, ?_, h2.trans ⟨fun h p q a c d e f => h p a c d q e f, fun h p a c d q e f => h p q a c d e f⟩⟩
  unfold p_nested bindR
  rw [List.map_nil] at h1
  rw [enum_lst, h1]
  cases b <;> rfl
theorem are_ties_ok (xs : List Int) : ∃ b : Bool, p_are_ties xs = some b ∧ (b = true ↔ 2 ≤ (xs.length : Int) ∧ (xs.length : Int) ≤ 20 ∧ (xs.length : Int) % 2 = 0 ∧ ∀ x, xs = lst xs.length x → FT xs.length x) := by
  unfold p_are_ties
  by_cases c : 2 ≤ (xs.length : Int) ∧ (xs.length : Int) ≤ 20 ∧ (xs.length : Int) % 2 = 0
  · rw [if_neg (by simp; omega)]
    have e := lst_of xs
    generalize hx : (fun p => (atI xs p).getD 0) = x at e
    generalize hm : (xs.length : Int) = m at *
    subst e
    rw [enum_lst, forR_map]
    let bad : Int → Bool := fun p => !(decide (0 ≤ x p) && decide (x p < m)) || (decide (x p = p) || !decide (x (x p) = p))
    rw [forR_test (b := bad) (fun p hp => ?_)]
    · unfold bindR
      refine ⟨!((rng 0 m).any bad), ?_, ?_⟩
      · cases (rng 0 m).any bad <;> rfl
      · rw [Bool.not_eq_true', List.any_eq_false]
        refine ⟨fun h => ⟨c.1, c.2.1, c.2.2, fun y hy p a b => ?_⟩, fun h p hp => ?_⟩
        · have same : ∀ q, 0 ≤ q → q < m → x q = y q := fun q a b => by
            have h1 := atI_lst (x := x) a b
            rw [hy, atI_lst a b] at h1
            exact (Option.some.inj h1).symm
          have := h p (mem_rng.mpr ⟨a, b⟩)
          simp [bad] at this
          have k := same p a b
          rw [← k]
          have k2 := same (x p) (by omega) (by omega)
          rw [← k2]
          exact ⟨this.1.1, this.1.2, this.2.1, this.2.2⟩
        · have q := h.2.2.2 x rfl p (mem_rng.mp hp).1 (mem_rng.mp hp).2
          simp [bad]
          exact ⟨⟨q.1, q.2.1⟩, q.2.2.1, q.2.2.2⟩
    · have hp' := mem_rng.mp hp
      unfold p_are_ties_for1
      rw [lst_len' (by omega)]
      simp only [Option.bind_some]
      by_cases c1 : 0 ≤ x p ∧ x p < m
      · have a1 := atI_lst (x := x) c1.1 c1.2
        by_cases c2 : x p = p
        · simp [bad, c1, c2]
        · simp [bad, c1, c2, a1]
          by_cases c3 : x (x p) = p <;> simp [c3]
      · have : (decide (0 ≤ x p) && decide (x p < m)) = false := by simp; omega
        simp [bad, this]
        exact fun a b => absurd ⟨a, b⟩ c1
  · rw [if_pos (by simp; omega)]
    exact ⟨false, rfl, fun z => (by cases z), fun h => absurd ⟨h.1, h.2.1, h.2.2.1⟩ c⟩
/-- a tuple is a frame -/
def IsFr (xs : List Int) : Prop := ∃ n x, 1 ≤ n ∧ n ≤ 10 ∧ Fr n x ∧ xs = lst (2 * n) x
theorem is_frame_ok (xs : List Int) : ∃ b : Bool, p_is_frame xs = some b ∧ (b = true ↔ IsFr xs) := by
  obtain ⟨b, h1, h2⟩ := are_ties_ok xs
  unfold p_is_frame
  rw [h1]
  simp only [Option.bind_some]
  cases b with
  | false =>
    refine ⟨false, rfl, fun z => (by cases z), fun ⟨n, x, n1, n10, f, e⟩ => ?_⟩
    have hl : (xs.length : Int) = 2 * n := by rw [e, lst_len' (by omega)]
    refine h2.mpr ⟨by omega, by omega, by omega, fun y hy => ?_⟩
    rw [hl] at hy ⊢
    rw [e] at hy
    have same : ∀ q, 0 ≤ q → q < 2 * n → x q = y q := fun q a b => by
      have h1 := atI_lst (x := x) a b
      rw [hy, atI_lst a b] at h1
      exact (Option.some.inj h1).symm
    intro p a b
    have q := f.ft p a b
    rw [← same p a b, ← same (x p) q.1 q.2.1]
    exact q
  | true =>
    obtain ⟨c1, c2, c3, c4⟩ := h2.mp rfl
    have e := lst_of xs
    generalize (fun p => (atI xs p).getD 0) = x at e
    have ft := c4 x e
    have hn : (xs.length : Int) = 2 * ((xs.length : Int) / 2) := by omega
    rw [hn] at ft e
    generalize (xs.length : Int) / 2 = n at *
    subst e
    rw [if_pos rfl, in_round_ok (by omega) (by omega), Option.bind_some]
    obtain ⟨b, g1, g2⟩ := nested_ok (m := 2 * n) (E := rnd n x) (by omega) (by omega) (rnd_ft ft)
    rw [g1]
    refine ⟨b, rfl, g2.trans ((fr_iff ft).symm.trans ⟨fun f => ⟨n, x, by omega, by omega, f, rfl⟩, fun ⟨n', y, a1, a2, f, e⟩ => ?_⟩)⟩
    have hl : (2 * n : Int) = 2 * n' := by
      have := congrArg List.length e
      rw [lst_len, lst_len] at this; omega
    have nn : n = n' := by omega
    subst nn
    have same : ∀ q, 0 ≤ q → q < 2 * n → x q = y q := fun q a b => by
      have h1 := atI_lst (x := x) a b
      rw [e, atI_lst a b] at h1
      exact (Option.some.inj h1).symm
    refine ⟨fun p hp => ?_, fun p q hp hq np nt => ?_⟩
    · have := ft p hp.1 hp.2
      exact ⟨⟨this.1, this.2.1⟩, this.2.2⟩
    · have := Pm.nc f p q hp hq np (by rw [← same p hp.1 hp.2]; exact nt)
      rw [← same p hp.1 hp.2, ← same q hq.1 hq.2] at this
      exact this
theorem frame_yes {n : Int} {x : Int → Int} (h1 : 1 ≤ n) (h10 : n ≤ 10) (f : Fr n x) : p_is_frame (lst (2 * n) x) = some true := by
  obtain ⟨b, e, h⟩ := is_frame_ok (lst (2 * n) x)
  rw [e, h.mpr ⟨n, x, h1, h10, f, rfl⟩]
theorem ask_frame_ok {n : Int} {x : Int → Int} (h1 : 1 ≤ n) (h10 : n ≤ 10) (f : Fr n x) : p_ask_frame (lst (2 * n) x) = some () := by
  unfold p_ask_frame
  rw [frame_yes h1 h10 f]
  rfl
/-! ### which tuples are halves -/
def HfAt (m : Int) (E : Int → Int) (p : Int) : Prop := (0 ≤ E p ∧ E p < m ∧ E (E p) = p) ∧ (E p < p → ∀ r, E p < r → r < p → E r < p) ∧ (E p = p → ∀ q, 0 ≤ q → q < p → E q < p)
theorem half_step {m p : Int} {E : Int → Int} {Q : List Int} (p0 : 0 ≤ p) (p1 : p < m) (hv : ∀ q, 0 ≤ q → q < p → 0 ≤ E q ∧ E q < m ∧ E (E q) = q) (o : Opn E p Q) (ql : Q.length ≤ 100) :
    (HfAt m E p ∧ ∃ Q', Opn E (p + 1) Q' ∧ Q'.length ≤ Q.length + 1 ∧ p_is_half_for1 (lst m E) (Q.map E) (p, E p) = some (.inl (Q'.map E))) ∨ (¬HfAt m E p ∧ p_is_half_for1 (lst m E) (Q.map E) (p, E p) = some (.inr false)) := by
  have hlen : ((lst m E).length : Int) = m := lst_len' (by omega)
  unfold p_is_half_for1
  simp only [hlen]
  by_cases c1 : 0 ≤ E p ∧ E p < m
  · have d1 : (!(decide ((0 : Int) ≤ E p) && decide (E p < m))) = false := by
      rw [decide_eq_true c1.1, decide_eq_true c1.2]; rfl
    simp only [d1, Option.bind_some, Bool.false_eq_true, if_false, atI_lst c1.1 c1.2]
    by_cases c2 : E (E p) = p
    · simp only [c2, decide_true, Bool.not_true, Bool.false_eq_true, if_false]
      by_cases u : p < E p
      · refine .inl ⟨⟨⟨c1.1, c1.2, c2⟩, fun z => by omega, fun z => by omega⟩, Q ++ [p], ⟨?_, fun q => ?_⟩, by rw [List.length_append, List.length_singleton]; omega, ?_⟩
        · refine List.pairwise_append.mpr ⟨o.srt, List.pairwise_singleton _ _, fun a ha b hb => ?_⟩
          have := (o.mem a).mp ha
          have : b = p := by simpa using hb
          omega
        · rw [List.mem_append, o.mem, List.mem_singleton]
          constructor
          · rintro (⟨a, b, c⟩ | rfl)
            · have := hv q a b
              have : E q ≠ p := fun z => by rw [z] at this; omega
              omega
            · omega
          · rintro ⟨a, b, c⟩
            by_cases e : q = p
            · exact .inr e
            · exact .inl ⟨a, by omega, by omega⟩
        · rw [if_pos (by simpa using u), app_ok (by rw [List.length_map]; unfold lim; omega), Option.bind_some, List.map_append]
          rfl
      · rw [if_neg (by simpa using u)]
        by_cases e : E p = p
        · rw [decide_eq_true e]
          cases Q with
          | nil =>
            have all : ∀ q, 0 ≤ q → q < p → E q < p := fun q a b => by
              by_cases z : p ≤ E q
              · have := (o.mem q).mpr ⟨a, b, z⟩; cases this
              · omega
            refine .inl ⟨⟨⟨c1.1, c1.2, c2⟩, fun z => by omega, fun _ => all⟩, [], ⟨.nil, fun q => ⟨fun z => (by cases z), fun ⟨a, b, c⟩ => ?_⟩⟩, by simp, ?_⟩
            · by_cases z : q = p
              · subst z; omega
              · have := all q a (by omega); omega
            · simp [e]
          | cons q Q =>
            refine .inr ⟨fun h => ?_, ?_⟩
            · have := (o.mem q).mp List.mem_cons_self
              have := h.2.2 e q this.1 this.2.1
              omega
            · simp
        · have lt : E p < p := by omega
          have ne : Q ≠ [] := List.ne_nil_of_mem ((o.mem _).mpr ⟨c1.1, lt, by omega⟩)
          have me : E p ∈ Q := (o.mem _).mpr ⟨c1.1, lt, by omega⟩
          have eq := (List.dropLast_concat_getLast ne).symm
          generalize Q.getLast ne = q at eq
          generalize Q.dropLast = Q' at eq
          subst eq
          have hq := (o.mem q).mp (List.mem_append_right _ (List.mem_singleton.mpr rfl))
          have top : ∀ r, r ∈ Q' → r < q := fun r hr => (List.pairwise_append.mp o.srt).2.2 r hr q (List.mem_singleton.mpr rfl)
          have pop : pop? ((Q' ++ [q]).map E) = some (E q, Q'.map E) := by
            rw [List.map_append, List.map_singleton, pop_snoc]
          rw [decide_eq_false e, Bool.false_and, decide_eq_true lt, pop]
          simp only [Bool.false_eq_true, if_false, if_true, Option.bind_some]
          by_cases c : E q = p
          · have eq : E p = q := by
              have := hv q hq.1 hq.2.1
              rw [c] at this
              exact this.2.2
            refine .inl ⟨⟨⟨c1.1, c1.2, c2⟩, fun _ r a b => ?_, fun z => absurd z e⟩, Q', ⟨(List.pairwise_append.mp o.srt).1, fun r => ?_⟩, by rw [List.length_append]; omega, ?_⟩
            · by_cases z : p ≤ E r
              · have hr := (o.mem r).mpr ⟨by omega, b, z⟩
                rcases List.mem_append.mp hr with h | h
                · have := top r h; omega
                · have := List.mem_singleton.mp h; omega
              · omega
            · constructor
              · intro hr
                have h := (o.mem r).mp (List.mem_append_left _ hr)
                have := top r hr
                have w := hv r h.1 h.2.1
                have : E r ≠ p := fun z => by rw [z, eq] at w; omega
                omega
              · rintro ⟨a, b, d⟩
                have ne : r ≠ p := fun z => by subst z; omega
                rcases List.mem_append.mp ((o.mem r).mpr ⟨a, by omega, by omega⟩) with h | h
                · exact h
                · have := List.mem_singleton.mp h
                  subst this
                  omega
            · simp [c]
          · refine .inr ⟨fun h => ?_, ?_⟩
            · rcases List.mem_append.mp me with z | z
              · have := top _ z
                have := h.2.1 lt q this hq.2.1
                omega
              · have := List.mem_singleton.mp z
                rw [← this] at c
                exact c c2
            · simp [c]
    · refine .inr ⟨fun h => c2 h.1.2.2, ?_⟩
      simp [c2]
  · refine .inr ⟨fun h => c1 ⟨h.1.1, h.1.2.1⟩, ?_⟩
    have d1 : (!(decide ((0 : Int) ≤ E p) && decide (E p < m))) = true := by
      by_cases z : 0 ≤ E p
      · rw [decide_eq_true z, decide_eq_false (by omega)]; rfl
      · rw [decide_eq_false z]; rfl
    simp only [d1, Option.bind_some, if_true]
    rfl
theorem half_loop {m : Int} {E : Int → Int} (hm : m ≤ 50) : ∀ (k : Nat) (p : Int) (Q : List Int), p + k = m → 0 ≤ p → (∀ q, 0 ≤ q → q < p → 0 ≤ E q ∧ E q < m ∧ E (E q) = q) → Opn E p Q → (Q.length : Int) ≤ p →
    ∃ b : Bool, (∃ s, forR (p_is_half_for1 (lst m E)) (Q.map E) ((rng p m).map fun p => (p, E p)) = some (if b = true then .inl s else .inr false)) ∧ (b = true ↔ ∀ p', p ≤ p' → p' < m → HfAt m E p')
  | 0, p, Q, e, p0, hv, o, ql => by
    rw [rng_nil (by omega)]
    exact ⟨true, ⟨Q.map E, rfl⟩, fun _ p' a b => by omega, fun _ => rfl⟩
  | k + 1, p, Q, e, p0, hv, o, ql => by
    rw [rng_cons (by omega), List.map_cons]
    rcases half_step p0 (by omega) hv o (by omega) with ⟨h, Q', o', l', t⟩ | ⟨h, t⟩
    · obtain ⟨b, ⟨s, h1⟩, h2⟩ := half_loop hm k (p + 1) Q' (by omega) (by omega) (fun q a b => by
        by_cases z : q = p
        · subst z; exact h.1
        · exact hv q a (by omega)) o' (by omega)
      refine ⟨b, ⟨s, by rw [forR_go t]; exact h1⟩, h2.trans ⟨fun w p' a c => ?_, fun w p' a c => w p' (by omega) c⟩⟩
      by_cases z : p' = p
      · subst z; exact h
      · exact w p' (by omega) c
    · refine ⟨false, ⟨[], ?_⟩, fun z => (by cases z), fun w => absurd (w p (by omega) (by omega)) h⟩
      rw [forR_cons, t]
      rfl
def IsHf (xs : List Int) : Prop := ∃ n h, 1 ≤ n ∧ n ≤ 10 ∧ Hf n h ∧ xs = lst n h
theorem is_half_ok (xs : List Int) : ∃ b : Bool, p_is_half xs = some b ∧ (b = true ↔ IsHf xs) := by
  unfold p_is_half
  by_cases c : (1 : Int) ≤ xs.length ∧ (xs.length : Int) ≤ 10
  · rw [if_neg (by simp [c.1, c.2])]
    have hx := lst_of xs
    generalize hE : (fun p => (atI xs p).getD 0) = E at hx
    generalize hm : (xs.length : Int) = m at hx c
    obtain ⟨b, ⟨s, h1⟩, h2⟩ := half_loop (E := E) (m := m) (by omega) m.toNat 0 [] (by omega) (by omega) (fun q a b => by omega) ⟨.nil, fun q => ⟨fun h => (by cases h), fun h => by omega⟩⟩ (by simp)
    refine ⟨b, ?_, h2.trans ⟨fun h => ⟨m, E, c.1, c.2, ⟨fun p a d => (h p a d).1, fun p a d => (h p a d).2.1, fun p a d => (h p a d).2.2⟩, hx⟩, fun ⟨n, g, n1, n10, H, e⟩ p a d => ?_⟩⟩
    · rw [hx, enum_lst]
      rw [List.map_nil] at h1
      unfold bindR
      rw [h1]
      cases b <;> rfl
    · have l : m = n := by
        have := congrArg (fun l : List Int => (l.length : Int)) e
        have q : ((lst n g).length : Int) = n := lst_len' (by omega)
        rw [q] at this
        omega
      subst l
      have eqv : ∀ p, 0 ≤ p → p < m → E p = g p := fun p a d => by
        have := congrArg (fun l => atI l p) (hx.symm.trans e)
        rw [atI_lst a d, atI_lst a d] at this
        exact Option.some.inj this
      have H' := H.congr eqv
      exact ⟨H'.iv p a d, H'.nc p a d, H'.op p a d⟩
  · rw [if_pos (by
      by_cases z : (1 : Int) ≤ xs.length
      · rw [decide_eq_true z, decide_eq_false (by omega)]; rfl
      · rw [decide_eq_false z]; rfl)]
    refine ⟨false, rfl, fun z => (by cases z), fun ⟨n, g, n1, n10, H, e⟩ => absurd ?_ c⟩
    have q : ((lst n g).length : Int) = n := lst_len' (by omega)
    rw [e, q]
    omega
theorem is_half_yes {n : Int} {h : Int → Int} (h1 : 1 ≤ n) (h10 : n ≤ 10) (H : Hf n h) : p_is_half (lst n h) = some true := by
  obtain ⟨b, e, c⟩ := is_half_ok (lst n h)
  rw [c.mpr ⟨n, h, h1, h10, H, rfl⟩] at e
  exact e
theorem ask_half_ok {n : Int} {h : Int → Int} (h1 : 1 ≤ n) (h10 : n ≤ 10) (H : Hf n h) : p_ask_half (lst n h) = some () := by
  unfold p_ask_half
  rw [is_half_yes h1 h10 H]
  rfl
/-! ### halves of frames -/
theorem upper_ok {n : Int} {x : Int → Int} (h1 : 1 ≤ n) (h10 : n ≤ 10) (f : Fr n x) : p_upper (lst (2 * n) x) = some (lst n (upF n x)) := by
  unfold p_upper
  have hn : ((lst (2 * n) x).length : Int) / 2 = n := by rw [lst_len' (by omega)]; omega
  rw [ask_frame_ok h1 h10 f, Option.bind_some, Option.bind_some, hn, grd_true (rngOk_of (by omega) (by omega)), Option.bind_some]
  rw [compM_some (g := upF n x) (fun p hp => rfl) fun p hp => by
    have := mem_rng.mp hp
    rw [atI_lst this.1 (by omega), Option.bind_some, Option.bind_some]
    unfold upF
    by_cases c : x p < n
    · rw [decide_eq_true c, if_pos rfl, if_pos c]; rfl
    · rw [decide_eq_false c, if_neg (by simp), if_neg c]; rfl]
  rfl
theorem lower_ok {n : Int} {x : Int → Int} (h1 : 1 ≤ n) (h10 : n ≤ 10) (f : Fr n x) : p_lower (lst (2 * n) x) = some (lst n (lowF n x)) := by
  unfold p_lower
  have hn : ((lst (2 * n) x).length : Int) / 2 = n := by rw [lst_len' (by omega)]; omega
  rw [ask_frame_ok h1 h10 f, Option.bind_some, Option.bind_some, hn, grd_true (rngOk_of (by omega) (by omega)), Option.bind_some]
  rw [compM_some (g := lowF n x) (fun p hp => rfl) fun p hp => by
    have := mem_rng.mp hp
    rw [atI_lst (by omega) (by omega), Option.bind_some, Option.bind_some]
    unfold lowF
    by_cases c : n ≤ x (n + p)
    · rw [decide_eq_true c, if_pos rfl, if_pos c]; rfl
    · rw [decide_eq_false c, if_neg (by simp), if_neg c]; rfl]
  rfl
def opn (n : Int) (h : Int → Int) : List Int := (rng 0 n).filter fun p => decide (h p = p)
theorem mem_opn {n : Int} {h : Int → Int} {i : Int} : i ∈ opn n h ↔ (0 ≤ i ∧ i < n) ∧ h i = i := by
  unfold opn
  rw [List.mem_filter, mem_rng, decide_eq_true_eq]
theorem going_ok {n : Int} {h : Int → Int} : p_going (lst n h) = some (opn n h) := by
  unfold p_going
  rw [enum_lst, List.filter_map, List.map_map]
  show some (((rng 0 n).filter fun p => decide (h p = p)).map fun p => p) = _
  rw [List.map_id']
  rfl
/-! ### halves joined -/
def tie1 (n : Int) (f : Int → Int) (q : Int × Int) : Int → Int := fun p => if p = n + q.2 then q.1 else if p = q.1 then n + q.2 else f p
theorem lst_two {n : Int} {f g : Int → Int} (h0 : 0 ≤ n) : lst n f ++ (lst n g).map (fun x => n + x) = lst (2 * n) fun p => if p < n then f p else n + g (p - n) := by
  unfold lst
  rw [rng_split (lo := 0) (mid := n) (hi := 2 * n) (by omega) (by omega), List.map_append]
  congr 1
  · apply List.map_congr_left
    intro p hp
    have := mem_rng.mp hp
    show f p = if p < n then _ else _
    rw [if_pos this.2]
  · apply List.ext_getElem?
    intro j
    rw [List.getElem?_map, List.getElem?_map, List.getElem?_map]
    by_cases c : (j : Int) < n - 0
    · rw [rng_get c, rng_get (by omega)]
      show some (n + g (0 + (j : Int))) = some (if n + (j : Int) < n then _ else _)
      rw [if_neg (by omega)]
      have e : n + (j : Int) - n = 0 + (j : Int) := by omega
      rw [e]
    · have a : (rng 0 n)[j]? = none := by rw [List.getElem?_eq_none_iff, rng_len]; omega
      have b : (rng n (2 * n))[j]? = none := by rw [List.getElem?_eq_none_iff, rng_len]; omega
      rw [a, b]; rfl
theorem tie_step {n : Int} {f : Int → Int} {q : Int × Int} (h : 0 ≤ q.1 ∧ q.1 < n ∧ 0 ≤ q.2 ∧ q.2 < n) : (Option.bind (set? (lst (2 * n) f) q.1 (n + q.2)) fun u => (Option.bind (set? u (n + q.2) q.1) fun v => (some v))) = some (lst (2 * n) (tie1 n f q)) := by
  rw [set_lst h.1 (by omega), Option.bind_some, set_lst (by omega) (by omega), Option.bind_some]
  rfl
theorem tie_zip {n : Int} (L : List Int) : ∀ (f : Int → Int), (∀ i, i ∈ L → 0 ≤ i ∧ i < n) → ∀ p, 0 ≤ p → p < 2 * n → (L.zip L).foldl (tie1 n) f p = if p < n then (if p ∈ L then n + p else f p) else (if p - n ∈ L then p - n else f p) := by
  induction L with
  | nil => intro f _ p _ _; simp
  | cons i L ih =>
    intro f h p p0 p1
    rw [List.zip_cons_cons, List.foldl_cons, ih _ (fun j hj => h j (List.mem_cons_of_mem _ hj)) p p0 p1]
    have hi := h i List.mem_cons_self
    unfold tie1
    simp only [List.mem_cons]
    by_cases c : p < n
    · rw [if_pos c, if_pos c]
      by_cases e : p = i
      · subst e
        rw [if_neg (show ¬ p = n + p by omega), if_pos rfl, if_pos (show p = p ∨ p ∈ L from .inl rfl)]
        split <;> rfl
      · rw [if_neg (show ¬ p = n + i by omega), if_neg e]
        by_cases m : p ∈ L
        · rw [if_pos m, if_pos (.inr m)]
        · rw [if_neg m, if_neg (fun z => z.elim e m)]
    · rw [if_neg c, if_neg c]
      by_cases e : p - n = i
      · subst e
        rw [if_pos (show p = n + (p - n) by omega), if_pos (show p - n = p - n ∨ p - n ∈ L from .inl rfl)]
        split <;> rfl
      · rw [if_neg (show ¬ p = n + i by omega), if_neg (show ¬ p = i by omega)]
        by_cases m : p - n ∈ L
        · rw [if_pos m, if_pos (.inr m)]
        · rw [if_neg m, if_neg (fun z => z.elim e m)]
theorem tie_dbl {n : Int} {h : Int → Int} (H : Hf n h) (p : Int) (p0 : 0 ≤ p) (p1 : p < 2 * n) : ((opn n h).zip (opn n h)).foldl (tie1 n) (fun p => if p < n then h p else n + h (p - n)) p = dbl n h p := by
  rw [tie_zip _ _ (fun i hi => (mem_opn.mp hi).1) p p0 p1]
  unfold dbl
  by_cases c : p < n
  · simp only [if_pos c]
    by_cases e : h p = p
    · rw [if_pos (mem_opn.mpr ⟨⟨p0, c⟩, e⟩), if_pos e]
    · rw [if_neg (fun z => e (mem_opn.mp z).2), if_neg e]
  · simp only [if_neg c]
    by_cases e : h (p - n) = p - n
    · rw [if_pos (mem_opn.mpr ⟨⟨by omega, by omega⟩, e⟩), if_pos e]
    · rw [if_neg (fun z => e (mem_opn.mp z).2), if_neg e]
theorem zip_bd {n : Int} {A B : List Int} (hA : ∀ i, i ∈ A → 0 ≤ i ∧ i < n) (hB : ∀ i, i ∈ B → 0 ≤ i ∧ i < n) : ∀ q, q ∈ A.zip B → 0 ≤ q.1 ∧ q.1 < n ∧ 0 ≤ q.2 ∧ q.2 < n := fun q hq => by
  have a := hA q.1 (List.of_mem_zip hq).1
  have b := hB q.2 (List.of_mem_zip hq).2
  exact ⟨a.1, a.2, b.1, b.2⟩
abbrev jn (n : Int) (g h : Int → Int) : Int → Int := ((opn n g).zip (opn n h)).foldl (tie1 n) fun p => if p < n then g p else n + h (p - n)
theorem made_of_pairs {n : Int} : ∀ {ps : List (Int × Int)} {f : Int → Int}, (∀ q, q ∈ ps → 0 ≤ q.1 ∧ q.1 < n ∧ 0 ≤ q.2 ∧ q.2 < n) → forS (p_made_of_for1 n) (lst (2 * n) f) ps = some (lst (2 * n) (ps.foldl (tie1 n) f))
  | [], f, _ => rfl
  | q :: ps, f, h => by
    rw [forS_cons]
    unfold p_made_of_for1
    rw [tie_step (h q List.mem_cons_self), Option.bind_some]
    exact made_of_pairs fun r hr => h r (List.mem_cons_of_mem _ hr)
theorem made_of_ok {n : Int} {g h : Int → Int} (h1 : 1 ≤ n) (h10 : n ≤ 10) : p_made_of (lst n g) (lst n h) = some (lst (2 * n) (((opn n g).zip (opn n h)).foldl (tie1 n) fun p => if p < n then g p else n + h (p - n))) := by
  unfold p_made_of
  have hn : ((lst n g).length : Int) = n := lst_len' (by omega)
  rw [Option.bind_some, hn, lst_two (by omega), grd_true (by rw [lst_len]; unfold lim; omega), Option.bind_some, Option.bind_some, going_ok, Option.bind_some, going_ok, Option.bind_some, made_of_pairs (zip_bd (fun i hi => (mem_opn.mp hi).1) fun i hi => (mem_opn.mp hi).1), Option.bind_some]

theorem made_of_dbl {n : Int} {h : Int → Int} (h1 : 1 ≤ n) (h10 : n ≤ 10) (H : Hf n h) : p_made_of (lst n h) (lst n h) = some (lst (2 * n) (dbl n h)) := by
  rw [made_of_ok h1 h10, lst_ext (tie_dbl H)]
/-! ### rising lists -/
theorem srt_ext : ∀ {A B : List Int}, A.Pairwise (· < ·) → B.Pairwise (· < ·) → (∀ i, i ∈ A ↔ i ∈ B) → A = B
  | [], [], _, _, _ => rfl
  | [], b :: B, _, _, h => absurd ((h b).mpr List.mem_cons_self) (by simp)
  | a :: A, [], _, _, h => absurd ((h a).mp List.mem_cons_self) (by simp)
  | a :: A, b :: B, ha, hb, h => by
    rw [List.pairwise_cons] at ha hb
    have e : a = b := by
      rcases List.mem_cons.mp ((h a).mp List.mem_cons_self) with z | z
      · exact z
      · rcases List.mem_cons.mp ((h b).mpr List.mem_cons_self) with w | w
        · exact w.symm
        · have := ha.1 b w; have := hb.1 a z; omega
    subst e
    congr 1
    refine srt_ext ha.2 hb.2 fun i => ⟨fun hi => ?_, fun hi => ?_⟩
    · rcases List.mem_cons.mp ((h i).mp (List.mem_cons_of_mem _ hi)) with z | z
      · have := ha.1 i hi; omega
      · exact z
    · rcases List.mem_cons.mp ((h i).mpr (List.mem_cons_of_mem _ hi)) with z | z
      · have := hb.1 i hi; omega
      · exact z
theorem lst_inj {m : Int} {x y : Int → Int} (h : lst m x = lst m y) (p : Int) (p0 : 0 ≤ p) (p1 : p < m) : x p = y p := by
  have := congrArg (fun l => atI l p) h
  rw [atI_lst p0 p1, atI_lst p0 p1] at this
  exact Option.some.inj this
theorem opn_srt {n : Int} {h : Int → Int} : (opn n h).Pairwise (· < ·) := rng_sorted.filter _
/-! ### halves of as many open pegs, joined -/
theorem tie_off {n : Int} : ∀ (L : List (Int × Int)) (F : Int → Int) (p : Int), (∀ q, q ∈ L → p ≠ q.1 ∧ p ≠ n + q.2) → L.foldl (tie1 n) F p = F p
  | [], F, p, _ => rfl
  | q :: L, F, p, h => by
    rw [List.foldl_cons, tie_off L _ p fun r hr => h r (List.mem_cons_of_mem _ hr)]
    have := h q List.mem_cons_self
    unfold tie1
    rw [if_neg this.2, if_neg this.1]
abbrev Rise (L : List (Int × Int)) : Prop := L.Pairwise fun q r => q.1 < r.1 ∧ q.2 < r.2
theorem tie_pair {n : Int} : ∀ (L : List (Int × Int)) (F : Int → Int), Rise L → (∀ q, q ∈ L → 0 ≤ q.1 ∧ q.1 < n ∧ 0 ≤ q.2 ∧ q.2 < n) → ∀ q, q ∈ L → L.foldl (tie1 n) F q.1 = n + q.2 ∧ L.foldl (tie1 n) F (n + q.2) = q.1
  | [], F, _, _, q, hq => by cases hq
  | r :: L, F, hs, hb, q, hq => by
    rw [Rise, List.pairwise_cons] at hs
    have br := hb r List.mem_cons_self
    rw [List.foldl_cons]
    rcases List.mem_cons.mp hq with z | z
    · subst z
      have off : ∀ s, s ∈ L → (q.1 ≠ s.1 ∧ q.1 ≠ n + s.2) ∧ (n + q.2 ≠ s.1 ∧ n + q.2 ≠ n + s.2) := fun s hs' => by
        have a := hs.1 s hs'
        have b := hb s (List.mem_cons_of_mem _ hs')
        omega
      rw [tie_off L _ _ fun s h => (off s h).1, tie_off L _ _ fun s h => (off s h).2]
      unfold tie1
      rw [if_neg (by omega), if_pos rfl, if_pos rfl]
      exact ⟨rfl, rfl⟩
    · exact tie_pair L _ hs.2 (fun s h => hb s (List.mem_cons_of_mem _ h)) q z
theorem zip_rise : ∀ {A B : List Int}, A.Pairwise (· < ·) → B.Pairwise (· < ·) → Rise (A.zip B)
  | [], B, _, _ => by rw [List.zip_nil_left]; exact .nil
  | a :: A, [], _, _ => .nil
  | a :: A, b :: B, ha, hb => by
    rw [List.pairwise_cons] at ha hb
    rw [List.zip_cons_cons, Rise, List.pairwise_cons]
    exact ⟨fun q hq => ⟨ha.1 q.1 (List.of_mem_zip hq).1, hb.1 q.2 (List.of_mem_zip hq).2⟩, zip_rise ha.2 hb.2⟩
theorem zip_l : ∀ {A B : List Int}, A.length = B.length → ∀ a, a ∈ A → ∃ b, (a, b) ∈ A.zip B
  | [], _, _, a, h => by cases h
  | x :: A, [], h, _, _ => by cases h
  | x :: A, y :: B, h, a, ha => by
    rw [List.zip_cons_cons]
    rcases List.mem_cons.mp ha with z | z
    · subst z; exact ⟨y, List.mem_cons_self⟩
    · obtain ⟨b, hb⟩ := zip_l (by simpa using h) a z
      exact ⟨b, List.mem_cons_of_mem _ hb⟩
theorem zip_r : ∀ {A B : List Int}, A.length = B.length → ∀ b, b ∈ B → ∃ a, (a, b) ∈ A.zip B
  | [], [], _, b, h => by cases h
  | [], y :: B, h, _, _ => by cases h
  | x :: A, [], h, _, hb => by cases hb
  | x :: A, y :: B, h, b, hb => by
    rw [List.zip_cons_cons]
    rcases List.mem_cons.mp hb with z | z
    · subst z; exact ⟨x, List.mem_cons_self⟩
    · obtain ⟨a, ha⟩ := zip_r (by simpa using h) b z
      exact ⟨a, List.mem_cons_of_mem _ ha⟩
theorem rise_lt {L : List (Int × Int)} (h : Rise L) {q r : Int × Int} (hq : q ∈ L) (hr : r ∈ L) : (q.1 < r.1 ↔ q.2 < r.2) ∧ (q.1 = r.1 ↔ q.2 = r.2) := by
  induction h with
  | nil => cases hq
  | @cons s L hs _ ih =>
    rcases List.mem_cons.mp hq with z | z
    · rcases List.mem_cons.mp hr with w | w
      · rw [z, w]; omega
      · have := hs r w
        rw [z]; omega
    · rcases List.mem_cons.mp hr with w | w
      · have := hs q z
        rw [w]; omega
      · exact ih z w
/-- what a joined frame is, pair by pair -/
structure Jn (n : Int) (A M T : Int → Int) (L : List (Int × Int)) : Prop where
  rise : Rise L
  bd : ∀ q, q ∈ L → (0 ≤ q.1 ∧ q.1 < n ∧ A q.1 = q.1) ∧ 0 ≤ q.2 ∧ q.2 < n ∧ M q.2 = q.2
  l : ∀ p, 0 ≤ p → p < n → A p = p → ∃ q, q ∈ L ∧ q.1 = p
  r : ∀ p, 0 ≤ p → p < n → M p = p → ∃ q, q ∈ L ∧ q.2 = p
  tie : ∀ q, q ∈ L → T q.1 = n + q.2 ∧ T (n + q.2) = q.1
  up : ∀ p, 0 ≤ p → p < n → A p ≠ p → T p = A p
  low : ∀ p, 0 ≤ p → p < n → M p ≠ p → T (n + p) = n + M p
theorem jn_spec {n : Int} {A M : Int → Int} (len : (opn n A).length = (opn n M).length) : Jn n A M (jn n A M) ((opn n A).zip (opn n M)) := by
  have bd : ∀ q, q ∈ (opn n A).zip (opn n M) → (0 ≤ q.1 ∧ q.1 < n ∧ A q.1 = q.1) ∧ 0 ≤ q.2 ∧ q.2 < n ∧ M q.2 = q.2 := fun q hq => by
    have a := mem_opn.mp (List.of_mem_zip hq).1
    have b := mem_opn.mp (List.of_mem_zip hq).2
    exact ⟨⟨a.1.1, a.1.2, a.2⟩, b.1.1, b.1.2, b.2⟩
  have rs := zip_rise (opn_srt (n := n) (h := A)) (opn_srt (n := n) (h := M))
  refine ⟨rs, bd, fun p a b c => ?_, fun p a b c => ?_, fun q hq => ?_, fun p a b c => ?_, fun p a b c => ?_⟩
  · obtain ⟨m, hm⟩ := zip_l len p (mem_opn.mpr ⟨⟨a, b⟩, c⟩)
    exact ⟨_, hm, rfl⟩
  · obtain ⟨m, hm⟩ := zip_r len p (mem_opn.mpr ⟨⟨a, b⟩, c⟩)
    exact ⟨_, hm, rfl⟩
  · exact tie_pair _ _ rs (fun q hq => by have := bd q hq; omega) q hq
  · unfold jn
    rw [tie_off _ _ p fun q hq => ⟨fun z => c (by have := (bd q hq).1; rw [← z] at this; exact this.2.2), by have := bd q hq; omega⟩, if_pos b]
  · unfold jn
    rw [tie_off _ _ (n + p) fun q hq => ⟨by have := bd q hq; omega, fun z => c (by
      have := (bd q hq).2
      have e : p = q.2 := by omega
      rw [← e] at this
      exact this.2.2)⟩, if_neg (by omega)]
    have e : n + p - n = p := by omega
    rw [e]
theorem Jn.ft {n : Int} {A M T : Int → Int} {L : List (Int × Int)} (J : Jn n A M T L) (HA : Hf n A) (HM : Hf n M) : FT (2 * n) T := fun p a b => by
  by_cases c : p < n
  · by_cases d : A p = p
    · obtain ⟨q, hq, rfl⟩ := J.l p a c d
      have t := J.tie q hq
      have bb := J.bd q hq
      rw [t.1, t.2]
      omega
    · have i := HA.iv p a c
      rw [J.up p a c d]
      have d2 : A (A p) ≠ A p := by rw [i.2.2]; exact fun z => d z.symm
      rw [J.up (A p) i.1 i.2.1 d2, i.2.2]
      omega
  · have e : n + (p - n) = p := by omega
    by_cases d : M (p - n) = p - n
    · obtain ⟨q, hq, hh⟩ := J.r (p - n) (by omega) (by omega) d
      have t := J.tie q hq
      have bb := J.bd q hq
      rw [hh, e] at t
      rw [t.2, t.1]
      omega
    · have i := HM.iv (p - n) (by omega) (by omega)
      have l1 := J.low (p - n) (by omega) (by omega) d
      rw [e] at l1
      rw [l1]
      have d2 : M (M (p - n)) ≠ M (p - n) := by rw [i.2.2]; exact fun z => d z.symm
      rw [J.low (M (p - n)) i.1 i.2.1 d2, i.2.2]
      omega
/-- within a tie of a half: no open peg, all ties within -/
theorem hf_inn {n : Int} {h : Int → Int} (H : Hf n h) {a b q : Int} (a0 : 0 ≤ a) (b1 : b < n) (e : h a = b) (l : a < b) (l1 : a < q) (l2 : q < b) : h q ≠ q ∧ a < h q ∧ h q < b := by
  have ia := H.iv a a0 (by omega)
  rw [e] at ia
  have iq := H.iv q (by omega) (by omega)
  have c1 := H.nc b (by omega) b1 (by rw [ia.2.2]; exact l) q (by rw [ia.2.2]; exact l1) l2
  have ne : h q ≠ q := fun z => by
    have := H.op q (by omega) (by omega) z a a0 l1
    omega
  refine ⟨ne, ?_, c1⟩
  by_cases c : a < h q
  · exact c
  · exfalso
    have nea : h q ≠ a := fun z => by
      rw [z] at iq
      omega
    have := H.nc q (by omega) (by omega) (by omega) a (by omega) l1
    omega
theorem Jn.fr {n : Int} {A M T : Int → Int} {L : List (Int × Int)} (J : Jn n A M T L) (h1 : 1 ≤ n) (HA : Hf n A) (HM : Hf n M) : Fr n T := by
  have ft := J.ft HA HM
  rw [fr_iff ft]
  -- the ties by places
  have E1 : ∀ p, 0 ≤ p → p < n → A p ≠ p → rnd n T p = A p := fun p a b c => by
    have i := HA.iv p a b
    unfold rnd
    have : rd n p = p := if_pos b
    rw [this, J.up p a b c]
    exact if_pos i.2.1
  have E2 : ∀ q, q ∈ L → rnd n T q.1 = 2 * n - 1 - q.2 ∧ rnd n T (2 * n - 1 - q.2) = q.1 := fun q hq => by
    have t := J.tie q hq
    have b := J.bd q hq
    unfold rnd
    have r1 : rd n q.1 = q.1 := if_pos b.1.2.1
    have r2 : rd n (2 * n - 1 - q.2) = n + q.2 := by unfold rd; rw [if_neg (by omega)]; omega
    rw [r1, r2, t.1, t.2]
    refine ⟨?_, if_pos b.1.2.1⟩
    unfold rd
    rw [if_neg (by omega)]
    omega
  have E3 : ∀ i, 0 ≤ i → i < n → M i ≠ i → rnd n T (2 * n - 1 - i) = 2 * n - 1 - M i := fun i a b c => by
    have m := HM.iv i a b
    unfold rnd
    have r2 : rd n (2 * n - 1 - i) = n + i := by unfold rd; rw [if_neg (by omega)]; omega
    rw [r2, J.low i a b c]
    unfold rd
    rw [if_neg (by omega)]
    omega
  intro p q p0 p1 l1 l2 l3
  by_cases c : p < n
  · by_cases d : A p = p
    · obtain ⟨r, hr, rfl⟩ := J.l p p0 c d
      have := (E2 r hr).1
      have b := J.bd r hr
      omega
    · rw [E1 p p0 c d] at l1 l2
      have i := HA.iv p p0 c
      have inn := hf_inn HA (a := A p) (b := p) (q := q) i.1 c i.2.2 l1 l2 l3
      rw [E1 q (by omega) (by omega) inn.1]
      exact inn.2.2
  · obtain ⟨i, i0, i1, rfl⟩ : ∃ i, 0 ≤ i ∧ i < n ∧ p = 2 * n - 1 - i := ⟨2 * n - 1 - p, by omega, by omega, by omega⟩
    by_cases d : M i = i
    · obtain ⟨r, hr, e⟩ := J.r i i0 i1 d
      subst e
      have b := J.bd r hr
      rw [(E2 r hr).2] at l1 l2
      by_cases cq : q < n
      · by_cases dq : A q = q
        · obtain ⟨s, hs, rfl⟩ := J.l q (by omega) cq dq
          rw [(E2 s hs).1]
          have := (rise_lt J.rise hr hs).1.mp l2
          omega
        · rw [E1 q (by omega) cq dq]
          have := HA.iv q (by omega) cq
          omega
      · obtain ⟨j, j0, j1, rfl⟩ : ∃ j, 0 ≤ j ∧ j < n ∧ q = 2 * n - 1 - j := ⟨2 * n - 1 - q, by omega, by omega, by omega⟩
        by_cases dq : M j = j
        · obtain ⟨s, hs, e⟩ := J.r j j0 j1 dq
          subst e
          rw [(E2 s hs).2]
          have := J.bd s hs
          omega
        · rw [E3 j j0 j1 dq]
          have ij := HM.iv j j0 j1
          by_cases z : r.2 < M j
          · omega
          · exfalso
            have ne : M j ≠ r.2 := fun w => by
              have := ij.2.2
              rw [w, b.2.2.2] at this
              omega
            have := HM.op r.2 b.2.1 b.2.2.1 b.2.2.2 (M j) ij.1 (by omega)
            rw [ij.2.2] at this
            omega
    · rw [E3 i i0 i1 d] at l1 l2
      have ii := HM.iv i i0 i1
      obtain ⟨j, j0, j1, rfl⟩ : ∃ j, 0 ≤ j ∧ j < n ∧ q = 2 * n - 1 - j := ⟨2 * n - 1 - q, by omega, by omega, by omega⟩
      have inn := hf_inn HM (a := i) (b := M i) (q := j) i0 ii.2.1 rfl (by omega) (by omega) (by omega)
      rw [E3 j j0 j1 inn.1]
      omega
/-! ### joined -/
theorem joined_ok {n : Int} {g h : Int → Int} (h1 : 1 ≤ n) (h10 : n ≤ 10) (G : Hf n g) (H : Hf n h) (e : (opn n g).length = (opn n h).length) : p_joined (lst n g) (lst n h) = some (lst (2 * n) (jn n g h)) := by
  unfold p_joined p_ask_halves
  have l : ∀ f : Int → Int, ((lst n f).length : Int) = n := fun f => lst_len' (by omega)
  rw [ask_half_ok h1 h10 G, Option.bind_some, ask_half_ok h1 h10 H, Option.bind_some, l, l, decide_eq_true rfl]
  simp only [Bool.not_true, Bool.false_eq_true, if_false, Option.bind_some]
  rw [going_ok, Option.bind_some, going_ok, Option.bind_some, e, decide_eq_true rfl]
  simp only [Bool.not_true, Bool.false_eq_true, if_false]
  rw [made_of_ok h1 h10]
  rfl
/-! ### rows of signs of halves: mathematics -/
/-- one sign more: so many open, so many that go through -/
def stp (g : Int) (s : Int × Int) (x : Int) : Option (Int × Int) := if x = 0 then some (s.1 + 1, s.2) else if x = 1 then (if s.1 > 0 then some (s.1 - 1, s.2) else none) else if x = 2 then (if ¬ s.1 > 0 ∧ s.2 < g then some (s.1, s.2 + 1) else none) else none
def rn3 (g : Int) : Int × Int → List Int → Option (Int × Int)
  | s, [] => some s
  | s, x :: xs => (stp g s x).bind fun s => rn3 g s xs
theorem rn3_snoc {g : Int} {x : Int} : ∀ {xs : List Int} {s : Int × Int}, rn3 g s (xs ++ [x]) = (rn3 g s xs).bind fun s => stp g s x
  | [], s => by
    show (stp g s x).bind (fun s => some s) = stp g s x
    cases stp g s x <;> rfl
  | y :: ys, s => by
    show (stp g s y).bind (fun s => rn3 g s (ys ++ [x])) = ((stp g s y).bind fun s => rn3 g s ys).bind fun s => stp g s x
    cases stp g s y with
    | none => rfl
    | some s => exact rn3_snoc
def nx3 (g : Int) (s : Int × Int) : List Int := 0 :: (if s.1 > 0 then [1] else if s.2 < g then [2] else [])
theorem mem_nx3 {g x : Int} {s : Int × Int} : x ∈ nx3 g s ↔ ∃ s', stp g s x = some s' := by
  unfold nx3 stp
  by_cases c0 : x = 0
  · subst c0; simp
  · rw [if_neg c0]
    by_cases c1 : x = 1
    · subst c1
      by_cases d : s.1 > 0
      · simp [d]
      · by_cases e : s.2 < g <;> simp [d, e]
    · rw [if_neg c1]
      by_cases c2 : x = 2
      · subst c2
        by_cases d : s.1 > 0
        · simp [d]
        · by_cases e : s.2 < g <;> simp [d, e]
      · rw [if_neg c2]
        by_cases d : s.1 > 0
        · simp [d, c0, c1]
        · by_cases e : s.2 < g <;> simp [d, e, c0, c2]
abbrev W3 := List Int × Int × Int
def ext3 (g : Int) (s : W3) : List W3 := (nx3 g s.2).map fun x => (s.1 ++ [x], (stp g s.2 x).getD s.2)
def rows3 (g : Int) : Nat → List W3
  | 0 => [([], 0, 0)]
  | k + 1 => (rows3 g k).flatMap (ext3 g)
theorem mem_rows3 {g : Int} : ∀ {k : Nat} {w : List Int} {s : Int × Int}, (w, s) ∈ rows3 g k ↔ w.length = k ∧ rn3 g (0, 0) w = some s
  | 0, w, s => by
    show (w, s) ∈ [([], 0, 0)] ↔ _
    rw [List.mem_singleton]
    constructor
    · intro h
      cases h
      exact ⟨rfl, rfl⟩
    · rintro ⟨h1, h2⟩
      have := List.eq_nil_of_length_eq_zero h1
      subst this
      cases h2
      rfl
  | k + 1, w, s => by
    show (w, s) ∈ (rows3 g k).flatMap (ext3 g) ↔ _
    rw [List.mem_flatMap]
    constructor
    · rintro ⟨⟨v, t⟩, hv, h⟩
      obtain ⟨h1, h2⟩ := mem_rows3.mp hv
      obtain ⟨x, hx, e⟩ := List.mem_map.mp h
      obtain ⟨s', hs⟩ := mem_nx3.mp hx
      have hs : stp g t x = some s' := hs
      cases e
      refine ⟨by rw [List.length_append, List.length_singleton, h1], ?_⟩
      rw [rn3_snoc, h2, Option.bind_some, hs]
      rfl
    · rintro ⟨h1, h2⟩
      have ne : w ≠ [] := fun z => by rw [z] at h1; cases h1
      have eq := (List.dropLast_concat_getLast ne).symm
      generalize w.getLast ne = x at eq
      generalize w.dropLast = v at eq
      subst eq
      rw [List.length_append, List.length_singleton] at h1
      rw [rn3_snoc] at h2
      obtain ⟨t, h3, h4⟩ := Option.bind_eq_some_iff.mp h2
      refine ⟨(v, t), mem_rows3.mpr ⟨by omega, h3⟩, List.mem_map.mpr ⟨x, mem_nx3.mpr ⟨s, h4⟩, ?_⟩⟩
      show (v ++ [x], (stp g t x).getD t) = (v ++ [x], s)
      rw [h4]
      rfl
theorem nodup_flat {α β γ : Type} {f : α → List β} {key : β → γ} {back : γ → α} : ∀ {l : List α}, l.Nodup → (∀ a, a ∈ l → ((f a).map key).Nodup) → (∀ a, a ∈ l → ∀ b, b ∈ f a → back (key b) = a) → ((l.flatMap f).map key).Nodup
  | [], _, _, _ => List.nodup_nil
  | a :: l, h, h1, h2 => by
    rw [List.flatMap_cons, List.map_append]
    obtain ⟨na, nl⟩ := List.nodup_cons.mp h
    refine List.nodup_append.mpr ⟨h1 a List.mem_cons_self, nodup_flat nl (fun b hb => h1 b (List.mem_cons_of_mem _ hb)) (fun b hb => h2 b (List.mem_cons_of_mem _ hb)), fun x hx y hy e => ?_⟩
    subst e
    obtain ⟨u, hu, rfl⟩ := List.mem_map.mp hx
    obtain ⟨v, hv, e⟩ := List.mem_map.mp hy
    obtain ⟨b, hb, hv⟩ := List.mem_flatMap.mp hv
    have e1 := h2 a List.mem_cons_self u hu
    have e2 := h2 b (List.mem_cons_of_mem _ hb) v hv
    rw [e, e1] at e2
    rw [e2] at na
    exact na hb
theorem nodup_nx3 (g : Int) (s : Int × Int) : (nx3 g s).Nodup := by
  unfold nx3
  by_cases d : s.1 > 0
  · rw [if_pos d]; decide
  · rw [if_neg d]
    by_cases e : s.2 < g
    · rw [if_pos e]; decide
    · rw [if_neg e]; decide
theorem nodup_rows3 {g : Int} : ∀ k : Nat, ((rows3 g k).map fun s => s.1).Nodup
  | 0 => by
    show ([[]] : List (List Int)).Nodup
    decide
  | k + 1 => by
    have ih := nodup_rows3 (g := g) k
    refine nodup_flat (back := fun w => (w.dropLast, (rn3 g (0, 0) w.dropLast).getD (0, 0))) (List.Pairwise.of_map (fun s : W3 => s.1) (fun a b h e => h (by rw [e])) ih) (fun a _ => ?_) fun a ha b hb => ?_
    · unfold ext3
      rw [List.map_map]
      refine (List.nodup_iff_pairwise_ne.mp (nodup_nx3 g a.2)).map _ fun x y h e => h ?_
      have e : a.1 ++ [x] = a.1 ++ [y] := e
      simpa using e
    · obtain ⟨x, _, rfl⟩ := List.mem_map.mp hb
      obtain ⟨_, h2⟩ := mem_rows3.mp ha
      show ((a.1 ++ [x]).dropLast, (rn3 g (0, 0) (a.1 ++ [x]).dropLast).getD (0, 0)) = a
      rw [List.dropLast_concat, h2]
      rfl
theorem rows3_len {g : Int} : ∀ k : Nat, (rows3 g k).length ≤ 2 ^ k
  | 0 => Nat.le_refl _
  | k + 1 => by
    have ih := rows3_len (g := g) k
    have go : ∀ l : List W3, (l.flatMap (ext3 g)).length ≤ 2 * l.length := fun l => by
      induction l with
      | nil => exact Nat.le_refl _
      | cons a l ih =>
        rw [List.flatMap_cons, List.length_append, List.length_cons]
        have : (ext3 g a).length ≤ 2 := by
          unfold ext3 nx3
          rw [List.length_map, List.length_cons]
          split
          · exact Nat.le_refl _
          · split
            · exact Nat.le_refl _
            · exact Nat.le_succ _
        omega
    have := go (rows3 g k)
    show ((rows3 g k).flatMap (ext3 g)).length ≤ _
    rw [Nat.pow_succ]
    omega
/-- a row that closes -/
def val3 : Int → List Int → Prop
  | d, [] => d = 0
  | d, x :: xs => (x = 0 ∧ val3 (d + 1) xs) ∨ (x = 1 ∧ d > 0 ∧ val3 (d - 1) xs) ∨ (x = 2 ∧ d = 0 ∧ val3 0 xs)
def cnt2 (w : List Int) : Int := ((w.filter fun x => decide (x = 2)).length : Int)
theorem cnt2_cons (x : Int) (w : List Int) : cnt2 (x :: w) = (if x = 2 then 1 else 0) + cnt2 w := by
  unfold cnt2
  by_cases c : x = 2
  · rw [List.filter_cons_of_pos (by simpa using c), if_pos c, List.length_cons]; omega
  · rw [List.filter_cons_of_neg (by simpa using c), if_neg c]; omega
theorem cnt2_nn (w : List Int) : 0 ≤ cnt2 w := by unfold cnt2; omega
theorem run_val {g : Int} : ∀ {w : List Int} {d c c' : Int}, 0 ≤ d → rn3 g (d, c) w = some (0, c') → val3 d w ∧ c' = c + cnt2 w
  | [], d, c, c', d0, h => by
    have h : some (d, c) = some (0, c') := h
    cases h
    exact ⟨rfl, by show c = c + 0; omega⟩
  | x :: w, d, c, c', d0, h => by
    obtain ⟨⟨d1, c1⟩, h1, h2⟩ := Option.bind_eq_some_iff.mp h
    unfold stp at h1
    rw [cnt2_cons]
    by_cases x0 : x = 0
    · rw [if_pos x0] at h1
      cases h1
      obtain ⟨a, b⟩ := run_val (show 0 ≤ d + 1 by omega) h2
      exact ⟨.inl ⟨x0, a⟩, by rw [if_neg (by omega)]; omega⟩
    · rw [if_neg x0] at h1
      by_cases x1 : x = 1
      · rw [if_pos x1] at h1
        by_cases e : d > 0
        · rw [if_pos (show (d, c).1 > 0 from e)] at h1
          cases h1
          obtain ⟨a, b⟩ := run_val (show 0 ≤ d - 1 by omega) h2
          exact ⟨.inr (.inl ⟨x1, e, a⟩), by rw [if_neg (by omega)]; omega⟩
        · rw [if_neg (show ¬ (d, c).1 > 0 from e)] at h1; cases h1
      · rw [if_neg x1] at h1
        by_cases x2 : x = 2
        · rw [if_pos x2] at h1
          by_cases e : ¬ d > 0 ∧ c < g
          · rw [if_pos (show ¬ (d, c).1 > 0 ∧ (d, c).2 < g from e)] at h1
            cases h1
            obtain ⟨a, b⟩ := run_val d0 h2
            have d00 : d = 0 := by omega
            refine ⟨.inr (.inr ⟨x2, d00, by rw [d00] at a; exact a⟩), by rw [if_pos x2]; omega⟩
          · rw [if_neg (show ¬ (¬ (d, c).1 > 0 ∧ (d, c).2 < g) from e)] at h1; cases h1
        · rw [if_neg x2] at h1; cases h1
theorem val_run {g : Int} : ∀ {w : List Int} {d c : Int}, val3 d w → c + cnt2 w ≤ g → rn3 g (d, c) w = some (0, c + cnt2 w)
  | [], d, c, h, _ => by
    have h : d = 0 := h
    subst h
    show some ((0 : Int), c) = some (0, c + 0)
    rw [Int.add_zero]
  | x :: w, d, c, h, l => by
    rw [cnt2_cons] at l ⊢
    have nn := cnt2_nn w
    show (stp g (d, c) x).bind _ = _
    rcases h with ⟨rfl, h⟩ | ⟨rfl, h0, h⟩ | ⟨rfl, rfl, h⟩
    · have e : (if (0 : Int) = 2 then (1 : Int) else 0) = 0 := by decide
      rw [e] at l ⊢
      have st : stp g (d, c) 0 = some (d + 1, c) := by unfold stp; rw [if_pos rfl]
      rw [st, Option.bind_some, val_run (g := g) (c := c) h (by omega), Int.zero_add]
    · have e : (if (1 : Int) = 2 then (1 : Int) else 0) = 0 := by decide
      rw [e] at l ⊢
      have st : stp g (d, c) 1 = some (d - 1, c) := by unfold stp; rw [if_neg (by decide), if_pos rfl, if_pos (show (d, c).1 > 0 from h0)]
      rw [st, Option.bind_some, val_run (g := g) (c := c) h (by omega), Int.zero_add]
    · have e : (if (2 : Int) = 2 then (1 : Int) else 0) = 1 := by decide
      rw [e] at l ⊢
      have st : stp g (0, c) 2 = some (0, c + 1) := by
        unfold stp
        rw [if_neg (by decide), if_neg (by decide), if_pos rfl, if_pos (show ¬ ((0 : Int), c).1 > 0 ∧ ((0 : Int), c).2 < g from ⟨fun z => by have z : (0 : Int) > 0 := z; omega, by show c < g; omega⟩)]
      rw [st, Option.bind_some, val_run (g := g) (c := c + 1) h (by omega), Int.add_assoc]
/-- the sign of a peg -/
def sg3 (F : Int → Int) (q : Int) : Int := if q < F q then 0 else if F q < q then 1 else 2
structure Hs (N p : Int) (Q : List Int) (F : Int → Int) : Prop where
  iv : ∀ q, 0 ≤ q → q < N → 0 ≤ F q ∧ F q < N ∧ F (F q) = q
  lt : ∀ q, 0 ≤ q → q < p → F q < p
  ge : ∀ q, p ≤ q → q < N → F q = q
  srt : Q.Pairwise (· < ·)
  mem : ∀ q, q ∈ Q → 0 ≤ q ∧ q < p ∧ F q = q
  nest : ∀ b, 0 ≤ b → b < p → F b < b → ∀ r, F b < r → r < b → F b < F r ∧ F r < b ∧ F r ≠ r
  thr : ∀ r, 0 ≤ r → r < p → F r = r → r ∉ Q → ∀ q, q ∈ Q → r < q
theorem Hs.hf {N : Int} {F : Int → Int} (h : Hs N N [] F) : Hf N F := by
  refine ⟨h.iv, fun p p0 p1 l r a b => (h.nest p p0 p1 l r a b).2.1, fun p p0 p1 e q q0 q1 => ?_⟩
  by_cases z : F q < p
  · exact z
  · have i := h.iv q q0 (by omega)
    have ne : F q ≠ p := fun w => by rw [w, e] at i; omega
    have := h.nest (F q) i.1 i.2.1 (by rw [i.2.2]; omega) p (by rw [i.2.2]; exact q1) (by omega)
    exact absurd e this.2.2
theorem Hs.open {N p : Int} {Q : List Int} {F : Int → Int} (h : Hs N p Q F) (p0 : 0 ≤ p) (p1 : p < N) : Hs N (p + 1) (Q ++ [p]) F := by
  have pp := h.ge p (Int.le_refl _) p1
  refine ⟨h.iv, fun q a b => ?_, fun q a b => h.ge q (by omega) b, List.pairwise_append.mpr ⟨h.srt, List.pairwise_singleton _ _, fun a ha b hb => ?_⟩, fun q hq => ?_, fun b b0 b1 l r u v => ?_, fun r r0 r1 e nq q hq => ?_⟩
  · by_cases c : q = p
    · rw [c, pp]; omega
    · have := h.lt q a (by omega); omega
  · have := h.mem a ha
    have := List.mem_singleton.mp hb
    omega
  · rcases List.mem_append.mp hq with z | z
    · have := h.mem q z; exact ⟨this.1, by omega, this.2.2⟩
    · have := List.mem_singleton.mp z
      subst this
      exact ⟨p0, by omega, pp⟩
  · have bp : b ≠ p := fun z => by rw [z, pp] at l; omega
    exact h.nest b b0 (by omega) l r u v
  · rw [List.mem_append, not_or, List.mem_singleton] at nq
    rcases List.mem_append.mp hq with z | z
    · exact h.thr r r0 (by omega) e nq.1 q z
    · have := List.mem_singleton.mp z; omega
theorem Hs.thru {N p : Int} {F : Int → Int} (h : Hs N p [] F) (p0 : 0 ≤ p) (p1 : p < N) : Hs N (p + 1) [] F := by
  have pp := h.ge p (Int.le_refl _) p1
  refine ⟨h.iv, fun q a b => ?_, fun q a b => h.ge q (by omega) b, .nil, fun q hq => (by cases hq), fun b b0 b1 l r u v => ?_, fun r r0 r1 e nq q hq => (by cases hq)⟩
  · by_cases c : q = p
    · rw [c, pp]; omega
    · have := h.lt q a (by omega); omega
  · have bp : b ≠ p := fun z => by rw [z, pp] at l; omega
    exact h.nest b b0 (by omega) l r u v
theorem Hs.close {N p q0 : Int} {Q : List Int} {F : Int → Int} (h : Hs N p (Q ++ [q0]) F) (p0 : 0 ≤ p) (p1 : p < N) : Hs N (p + 1) Q (fun q => if q = q0 then p else if q = p then q0 else F q) := by
  have pp := h.ge p (Int.le_refl _) p1
  have m0 := h.mem q0 (List.mem_append_right _ (List.mem_singleton.mpr rfl))
  have top : ∀ r, r ∈ Q → r < q0 := fun r hr => (List.pairwise_append.mp h.srt).2.2 r hr q0 (List.mem_singleton.mpr rfl)
  have e0 : (if q0 = q0 then p else if q0 = p then q0 else F q0) = p := by rw [if_pos rfl]
  have e1 : (if p = q0 then p else if p = p then q0 else F p) = q0 := by rw [if_neg (by omega), if_pos rfl]
  have e2 : ∀ q, q ≠ q0 → q ≠ p → (if q = q0 then p else if q = p then q0 else F q) = F q := fun q a b => by rw [if_neg a, if_neg b]
  have fq : ∀ q, 0 ≤ q → q < N → q ≠ q0 → F q ≠ q0 := fun q a b c z => by
    have := (h.iv q a b).2.2
    rw [z, m0.2.2] at this
    exact c this.symm
  have fp : ∀ q, 0 ≤ q → q < N → q ≠ p → F q ≠ p := fun q a b c z => by
    have := (h.iv q a b).2.2
    rw [z, pp] at this
    exact c this.symm
  have inn : ∀ r, q0 < r → r < p → q0 < F r ∧ F r < p ∧ F r ≠ r := fun r a b => by
    have nr : r ∉ Q ++ [q0] := fun z => by
      rcases List.mem_append.mp z with w | w
      · have := top r w; omega
      · have := List.mem_singleton.mp w; omega
    have l := h.lt r (by omega) b
    have ne : F r ≠ r := fun z => by
      have := h.thr r (by omega) b z nr q0 (List.mem_append_right _ (List.mem_singleton.mpr rfl))
      omega
    refine ⟨?_, l, ne⟩
    by_cases c : q0 < F r
    · exact c
    · have n1 := fq r (by omega) (by omega) (by omega)
      have := h.nest r (by omega) b (by omega) q0 (by omega) a
      exact absurd m0.2.2 this.2.2
  refine ⟨fun q a b => ?_, fun q a b => ?_, fun q a b => ?_, (List.pairwise_append.mp h.srt).1, fun q hq => ?_, fun b b0 b1 l r u v => ?_, fun r r0 r1 e nq q hq => ?_⟩
  · by_cases c : q = q0
    · subst c
      rw [e0, e1]
      exact ⟨p0, p1, rfl⟩
    · by_cases c' : q = p
      · subst c'
        rw [e1, e0]
        exact ⟨m0.1, by omega, rfl⟩
      · rw [e2 q c c', e2 _ (fq q a b c) (fp q a b c')]
        exact h.iv q a b
  · by_cases c : q = q0
    · rw [c, e0]; omega
    · by_cases c' : q = p
      · rw [c', e1]; omega
      · rw [e2 q c c']
        have := h.lt q a (by omega); omega
  · rw [e2 q (by omega) (by omega)]
    exact h.ge q (by omega) b
  · have := h.mem q (List.mem_append_left _ hq)
    have := top q hq
    rw [e2 q (by omega) (by omega)]
    exact ⟨by omega, by omega, (h.mem q (List.mem_append_left _ hq)).2.2⟩
  · by_cases c : b = p
    · subst c
      rw [e1] at u ⊢
      have := inn r u v
      rw [e2 r (by omega) (by omega)]
      exact this
    · by_cases c' : b = q0
      · subst c'
        rw [e0] at l
        omega
      · rw [e2 b c' c] at l u ⊢
        have w := h.nest b b0 (by omega) l r u v
        have n1 : r ≠ q0 := fun z => by rw [z] at w; exact w.2.2 m0.2.2
        have n2 : r ≠ p := by omega
        rw [e2 r n1 n2]
        exact w
  · have n1 : r ≠ q0 := fun z => by rw [z, e0] at e; omega
    have n2 : r ≠ p := fun z => by rw [z, e1] at e; omega
    rw [e2 r n1 n2] at e
    refine h.thr r r0 (by omega) e (fun z => ?_) q (List.mem_append_left _ hq)
    rcases List.mem_append.mp z with w | w
    · exact nq w
    · exact n1 (List.mem_singleton.mp w)
/-- a half is told by its signs -/
theorem sg3_one {n : Int} {F h : Int → Int} (hF : Hf n F) (hh : Hf n h) (e : ∀ q, 0 ≤ q → q < n → sg3 F q = sg3 h q) : ∀ q, 0 ≤ q → q < n → F q = h q := by
  have lt : ∀ q, 0 ≤ q → q < n → ((q < F q ↔ q < h q) ∧ (F q < q ↔ h q < q)) := fun q a b => by
    have := e q a b
    unfold sg3 at this
    by_cases c : q < F q
    · rw [if_pos c] at this
      by_cases d : q < h q
      · omega
      · rw [if_neg d] at this
        split at this <;> omega
    · rw [if_neg c] at this
      by_cases c' : F q < q
      · rw [if_pos c'] at this
        by_cases d : q < h q
        · rw [if_pos d] at this; omega
        · rw [if_neg d] at this
          by_cases d' : h q < q
          · omega
          · rw [if_neg d'] at this; omega
      · rw [if_neg c'] at this
        by_cases d : q < h q
        · rw [if_pos d] at this; omega
        · rw [if_neg d] at this
          by_cases d' : h q < q
          · rw [if_pos d'] at this; omega
          · omega
  have key : ∀ (G H : Int → Int), Hf n G → Hf n H → (∀ q, 0 ≤ q → q < n → ((q < G q ↔ q < H q) ∧ (G q < q ↔ H q < q))) → ∀ (k : Nat) (p : Int), p.toNat < k → 0 ≤ p → p < n → G p < p → (∀ q, 0 ≤ q → q < p → G q < q → G q = H q) → ¬ G p < H p := fun G H hG hH lt k p _ p0 p1 l ih z => by
    have hp := (lt p p0 p1).2.mp l
    have ib := hH.iv p p0 p1
    have gb := (lt (H p) ib.1 ib.2.1).1.mpr (by rw [ib.2.2]; exact hp)
    have w := hG.nc p p0 p1 l (H p) z hp
    have ig := hG.iv (H p) ib.1 ib.2.1
    have := ih (G (H p)) ig.1 w (by rw [ig.2.2]; exact gb)
    rw [ig.2.2] at this
    have i2 := hH.iv (G (H p)) ig.1 ig.2.1
    rw [← this, ib.2.2] at i2
    omega
  have down : ∀ (k : Nat) (p : Int), p.toNat < k → 0 ≤ p → p < n → F p < p → F p = h p := fun k => by
    induction k with
    | zero => intro p a; omega
    | succ k ih =>
      intro p a p0 p1 l
      have a1 := key F h hF hh lt (k + 1) p a p0 p1 l fun q q0 q1 w => ih q (by omega) q0 (by omega) w
      have a2 := key h F hh hF (fun q x y => ⟨(lt q x y).1.symm, (lt q x y).2.symm⟩) (k + 1) p a p0 p1 ((lt p p0 p1).2.mp l) fun q q0 q1 w => (ih q (by omega) q0 (by omega) ((lt q q0 (by omega)).2.mpr w)).symm
      omega
  intro q q0 q1
  by_cases c : F q < q
  · exact down (q.toNat + 1) q (by omega) q0 q1 c
  · by_cases d : q < F q
    · have i := hF.iv q q0 q1
      have := down ((F q).toNat + 1) (F q) (by omega) i.1 i.2.1 (by rw [i.2.2]; exact d)
      rw [i.2.2] at this
      have j := hh.iv (F q) i.1 i.2.1
      rw [← this] at j
      exact j.2.2.symm
    · have := lt q q0 q1
      omega
/-- the signs of a half close -/
theorem hf_step {n p : Int} {h : Int → Int} {Q : List Int} (H : Hf n h) (p0 : 0 ≤ p) (p1 : p < n) (o : Opn h p Q) : (p < h p ∧ Opn h (p + 1) (Q ++ [p])) ∨ (h p < p ∧ ∃ Q', Q = Q' ++ [h p] ∧ Opn h (p + 1) Q') ∨ (h p = p ∧ Q = [] ∧ Opn h (p + 1) []) := by
  have hp := H.iv p p0 p1
  by_cases u : p < h p
  · refine .inl ⟨u, List.pairwise_append.mpr ⟨o.srt, List.pairwise_singleton _ _, fun a ha b hb => ?_⟩, fun q => ?_⟩
    · have := (o.mem a).mp ha
      have := List.mem_singleton.mp hb
      omega
    · rw [List.mem_append, o.mem, List.mem_singleton]
      constructor
      · rintro (⟨a, b, c⟩ | rfl)
        · have := H.iv q a (by omega)
          have : h q ≠ p := fun z => by rw [z] at this; omega
          omega
        · omega
      · rintro ⟨a, b, c⟩
        by_cases e : q = p
        · exact .inr e
        · exact .inl ⟨a, by omega, by omega⟩
  · by_cases d : h p < p
    · have me : h p ∈ Q := (o.mem _).mpr ⟨hp.1, d, by rw [hp.2.2]; omega⟩
      have ne : Q ≠ [] := List.ne_nil_of_mem me
      have eq := (List.dropLast_concat_getLast ne).symm
      generalize Q.getLast ne = q at eq
      generalize Q.dropLast = Q' at eq
      subst eq
      have hq := (o.mem q).mp (List.mem_append_right _ (List.mem_singleton.mpr rfl))
      have top : ∀ r, r ∈ Q' → r < q := fun r hr => (List.pairwise_append.mp o.srt).2.2 r hr q (List.mem_singleton.mpr rfl)
      have le : h p = q := by
        rcases List.mem_append.mp me with z | z
        · have := top _ z
          have := H.nc p p0 p1 d q this hq.2.1
          omega
        · exact List.mem_singleton.mp z
      refine .inr (.inl ⟨d, Q', by rw [le], (List.pairwise_append.mp o.srt).1, fun r => ?_⟩)
      constructor
      · intro hr
        have w := (o.mem r).mp (List.mem_append_left _ hr)
        have := top r hr
        have i := H.iv r w.1 (by omega)
        have : h r ≠ p := fun z => by rw [z] at i; omega
        omega
      · rintro ⟨a, b, c⟩
        have np : r ≠ p := fun z => by subst z; omega
        rcases List.mem_append.mp ((o.mem r).mpr ⟨a, by omega, by omega⟩) with z | z
        · exact z
        · have := List.mem_singleton.mp z
          have w : h r = p := by rw [this, ← le, hp.2.2]
          omega
    · have e : h p = p := by omega
      have nil : Q = [] := List.eq_nil_iff_forall_not_mem.mpr fun q hq => by
        have w := (o.mem q).mp hq
        have := H.op p p0 p1 e q w.1 w.2.1
        omega
      refine .inr (.inr ⟨e, nil, .nil, fun q => ⟨fun z => (by cases z), fun ⟨a, b, c⟩ => ?_⟩⟩)
      by_cases z : q = p
      · subst z; omega
      · have := H.op p p0 p1 e q a (by omega); omega
theorem val_half {n : Int} {h : Int → Int} (H : Hf n h) : ∀ (k : Nat) (p : Int) (Q : List Int), p + k = n → 0 ≤ p → Opn h p Q → val3 (Q.length : Int) ((rng p n).map (sg3 h))
  | 0, p, Q, e, p0, o => by
    have : Q = [] := List.eq_nil_iff_forall_not_mem.mpr fun q hq => by
      have w := (o.mem q).mp hq
      have := H.iv q w.1 (by omega)
      omega
    subst this
    rw [rng_nil (by omega)]
    rfl
  | k + 1, p, Q, e, p0, o => by
    rw [rng_cons (by omega), List.map_cons]
    rcases hf_step H p0 (by omega) o with ⟨u, o'⟩ | ⟨u, Q', rfl, o'⟩ | ⟨u, rfl, o'⟩
    · have ih := val_half H k (p + 1) _ (by omega) (by omega) o'
      rw [List.length_append, List.length_singleton] at ih
      refine .inl ⟨by unfold sg3; rw [if_pos u], ?_⟩
      exact ih
    · have ih := val_half H k (p + 1) _ (by omega) (by omega) o'
      refine .inr (.inl ⟨by unfold sg3; rw [if_neg (by omega), if_pos u], by rw [List.length_append, List.length_singleton]; omega, ?_⟩)
      rw [List.length_append, List.length_singleton, show (((Q'.length + 1 : Nat)) : Int) - 1 = Q'.length by omega]
      exact ih
    · have ih := val_half H k (p + 1) _ (by omega) (by omega) o'
      exact .inr (.inr ⟨by unfold sg3; rw [if_neg (by omega), if_neg (by omega)], rfl, ih⟩)
theorem cnt_opn {n : Int} {h : Int → Int} : cnt2 ((rng 0 n).map (sg3 h)) = ((opn n h).length : Int) := by
  unfold cnt2 opn
  rw [List.filter_map, List.length_map]
  congr 2
  refine List.filter_congr fun q _ => ?_
  show decide (sg3 h q = 2) = decide (h q = q)
  unfold sg3
  by_cases a : q < h q
  · rw [if_pos a, decide_eq_false (by decide), decide_eq_false (by omega)]
  · rw [if_neg a]
    by_cases b : h q < q
    · rw [if_pos b, decide_eq_false (by decide), decide_eq_false (by omega)]
    · rw [if_neg b, decide_eq_true rfl, decide_eq_true (by omega)]
/-! ### all halves: the program -/
def sT (x : Int) : Str := if x = 0 then Str.ofString "(" else if x = 1 then Str.ofString ")" else Str.ofString "|"
def txt3 (w : List Int) : Str := w.foldl (fun t x => t ++ sT x) (Str.ofString "")
theorem txt3_snoc (w : List Int) (x : Int) : txt3 (w ++ [x]) = txt3 w ++ sT x := by
  unfold txt3
  rw [List.foldl_append]
  rfl
theorem chrs3_app (x y : Str) : chrs (x ++ y) = chrs x ++ chrs y := by
  unfold chrs
  show ((x.cps ++ y.cps).toList.map _) = _
  rw [Array.toList_append, List.map_append]
theorem chrs_sT (x : Int) : chrs (sT x) = [sT x] := by
  unfold sT
  split
  · decide +kernel
  · split <;> decide +kernel
theorem txt3_chrs (w : List Int) : chrs (txt3 w) = w.map sT := by
  have go : ∀ (w : List Int) (t : Str), chrs (w.foldl (fun t x => t ++ sT x) t) = chrs t ++ w.map sT := fun w => by
    induction w with
    | nil => intro t; simp
    | cons x w ih =>
      intro t
      rw [List.foldl_cons, ih, chrs3_app, chrs_sT, List.map_cons, List.append_assoc]
      rfl
  have := go w (Str.ofString "")
  rw [show chrs (Str.ofString "") = [] by decide +kernel, List.nil_append] at this
  exact this
theorem txt3_len (w : List Int) : (txt3 w).length = w.length := by
  have := congrArg List.length (txt3_chrs w)
  rw [chrs_len, List.length_map] at this
  exact this
def enc3 (s : W3) : Str × Int × Int := (txt3 s.1, s.2)
theorem text_ext {g : Int} {s : W3} {acc : List (Str × Int × Int)} (hl : s.1.length ≤ 100) (ha : acc.length + 2 < lim) : p_texts_for2 g acc (enc3 s) = some (acc ++ (ext3 g s).map enc3) := by
  obtain ⟨w, d, c⟩ := s
  unfold p_texts_for2 enc3
  dsimp only
  have tl := txt3_len w
  have g1 : ∀ z : Str, z.length = 1 → (txt3 w).length + z.length ≤ lim := fun z hz => by
    rw [hz, tl]; unfold lim; have : w.length ≤ 100 := hl; omega
  rw [grd_true (g1 _ (by decide +kernel)), Option.bind_some, app_ok (by omega), Option.bind_some]
  have s0 : stp g (d, c) 0 = some (d + 1, c) := by unfold stp; rw [if_pos rfl]
  have e0 : (txt3 (w ++ [0]), (stp g (d, c) 0).getD (d, c)) = (txt3 w ++ Str.ofString "(", d + 1, c) := by rw [s0, txt3_snoc]; rfl
  by_cases dp : d > 0
  · have s1 : stp g (d, c) 1 = some (d - 1, c) := by unfold stp; rw [if_neg (by decide), if_pos rfl, if_pos (show (d, c).1 > 0 from dp)]
    have e1 : (txt3 (w ++ [1]), (stp g (d, c) 1).getD (d, c)) = (txt3 w ++ Str.ofString ")", d - 1, c) := by rw [s1, txt3_snoc]; rfl
    rw [if_pos (decide_eq_true dp), grd_true (g1 _ (by decide +kernel)), Option.bind_some, app_ok (by rw [List.length_append, List.length_singleton]; omega), Option.bind_some, List.append_assoc]
    congr 2
    unfold ext3 nx3
    rw [if_pos (show (d, c).1 > 0 from dp)]
    show _ = [(txt3 (w ++ [0]), (stp g (d, c) 0).getD (d, c)), (txt3 (w ++ [1]), (stp g (d, c) 1).getD (d, c))]
    rw [e0, e1]
    rfl
  · rw [if_neg (by simpa using dp)]
    by_cases cg : c < g
    · have s2 : stp g (d, c) 2 = some (d, c + 1) := by
        unfold stp
        rw [if_neg (by decide), if_neg (by decide), if_pos rfl, if_pos (show ¬ (d, c).1 > 0 ∧ (d, c).2 < g from ⟨dp, cg⟩)]
      have e2 : (txt3 (w ++ [2]), (stp g (d, c) 2).getD (d, c)) = (txt3 w ++ Str.ofString "|", d, c + 1) := by rw [s2, txt3_snoc]; rfl
      rw [if_pos (decide_eq_true cg), grd_true (g1 _ (by decide +kernel)), Option.bind_some, app_ok (by rw [List.length_append, List.length_singleton]; omega), Option.bind_some, List.append_assoc]
      congr 2
      unfold ext3 nx3
      rw [if_neg (show ¬ (d, c).1 > 0 from dp), if_pos (show (d, c).2 < g from cg)]
      show _ = [(txt3 (w ++ [0]), (stp g (d, c) 0).getD (d, c)), (txt3 (w ++ [2]), (stp g (d, c) 2).getD (d, c))]
      rw [e0, e2]
      rfl
    · rw [if_neg (by simpa using cg)]
      congr 2
      unfold ext3 nx3
      rw [if_neg (show ¬ (d, c).1 > 0 from dp), if_neg (show ¬ (d, c).2 < g from cg)]
      show _ = [(txt3 (w ++ [0]), (stp g (d, c) 0).getD (d, c))]
      rw [e0]
theorem text_row {g : Int} : ∀ (l : List W3) (acc : List (Str × Int × Int)), (∀ s, s ∈ l → s.1.length ≤ 100) → acc.length + 2 * l.length + 2 < lim → forS (p_texts_for2 g) acc (l.map enc3) = some (acc ++ (l.flatMap (ext3 g)).map enc3)
  | [], acc, _, _ => by simp [forS]
  | s :: l, acc, h, hl => by
    rw [List.length_cons] at hl
    have l2 : (ext3 g s).length ≤ 2 := by
      unfold ext3 nx3
      rw [List.length_map, List.length_cons]
      split
      · exact Nat.le_refl _
      · split
        · exact Nat.le_refl _
        · exact Nat.le_succ _
    rw [List.map_cons, forS_cons, text_ext (h s List.mem_cons_self) (by omega), Option.bind_some, text_row l _ (fun t ht => h t (List.mem_cons_of_mem _ ht)) (by rw [List.length_append, List.length_map]; omega), List.flatMap_cons, List.map_append, List.append_assoc]
theorem texts_ok {n g : Int} (h0 : 0 ≤ n) (h10 : n ≤ 10) : p_texts n g = some (((rows3 g n.toNat).filter fun s : W3 => decide (s.2.1 = 0) && decide (s.2.2 = g)).map fun s => txt3 s.1) := by
  have loop : ∀ (k j : Nat), j + k ≤ 10 → forS (p_texts_for1 g) ((rows3 g j).map enc3) (rng j (j + k)) = some ((rows3 g (j + k)).map enc3) := fun k => by
    induction k with
    | zero => intro j h; rw [rng_nil (by omega)]; rfl
    | succ k ih =>
      intro j h
      have lj := rows3_len (g := g) j
      have pw : (2 : Nat) ^ j ≤ 2 ^ 10 := Nat.pow_le_pow_right (by decide) (by omega)
      rw [rng_cons (by omega), forS_cons]
      unfold p_texts_for1
      rw [text_row (rows3 g j) [] (fun s hs => by rw [(mem_rows3.mp hs).1]; omega) (by unfold lim; simp; omega), List.nil_append, Option.bind_some]
      have := ih (j + 1) (by omega)
      rw [show ((j + 1 : Nat) : Int) = (j : Int) + 1 by omega, show (j : Int) + 1 + (k : Int) = (j : Int) + ((k + 1 : Nat) : Int) by omega, show j + 1 + k = j + (k + 1) by omega] at this
      exact this
  unfold p_texts
  rw [Option.bind_some, grd_true (rngOk_of (by omega) (by omega)), Option.bind_some]
  have := loop n.toNat 0 (by omega)
  rw [show ((0 : Nat) : Int) + (n.toNat : Int) = n by omega, Nat.zero_add] at this
  have z : ([((Str.ofString ""), (0 : Int), (0 : Int))] : List (Str × Int × Int)) = (rows3 g 0).map enc3 := rfl
  rw [z, show rng 0 n = rng ((0 : Nat) : Int) n from rfl, this, Option.bind_some, List.filter_map, List.map_map]
  rfl
/-- the half of a row of signs -/
theorem in_loop {N : Int} (hN : N ≤ 50) : ∀ (ws : List Int) (p : Int) (Q : List Int) (F : Int → Int), p + ws.length = N → 0 ≤ p → Hs N p Q F → val3 (Q.length : Int) ws →
    ∃ F', forS p_half_in_for1 (lst N F, Q) (enumF p (ws.map sT)) = some (lst N F', []) ∧ Hs N N [] F' ∧ ws = (rng p N).map (sg3 F') ∧ ∀ q, 0 ≤ q → q < p → (q ∉ Q → F' q = F q) ∧ (q ∈ Q → q < F' q)
  | [], p, Q, F, e, p0, hs, v => by
    have e : p + 0 = N := e
    have pN : p = N := by omega
    subst pN
    have v : (Q.length : Int) = 0 := v
    have : Q = [] := List.eq_nil_of_length_eq_zero (by omega)
    subst this
    exact ⟨F, rfl, hs, by rw [rng_nil (by omega)]; rfl, fun q _ _ => ⟨fun _ => rfl, fun z => by cases z⟩⟩
  | x :: ws, p, Q, F, e, p0, hs, v => by
    rw [List.length_cons] at e
    have p1 : p < N := by omega
    have ql : Q.length ≤ 60 := by
      have := nodup_rng (l := Q) (n := N) (hs.srt.imp (fun h => by omega)) (fun i hi => by have := hs.mem i hi; omega)
      omega
    rw [List.map_cons]
    unfold enumF
    rw [forS_cons, rng_cons p1]
    have c1 : decide (sT 1 = Str.ofString "(") = false := by decide +kernel
    have c2 : decide (sT 2 = Str.ofString "(") = false := by decide +kernel
    have c3 : decide (sT 1 = Str.ofString ")") = true := by decide +kernel
    have c4 : decide (sT 2 = Str.ofString ")") = false := by decide +kernel
    have c0 : decide (sT 0 = Str.ofString "(") = true := by decide +kernel
    rcases v with ⟨rfl, v⟩ | ⟨rfl, v0, v⟩ | ⟨rfl, v0, v⟩
    · obtain ⟨F', a, b, c, d⟩ := in_loop hN ws (p + 1) (Q ++ [p]) F (by omega) (by omega) (hs.open p0 p1) (by rw [List.length_append, List.length_singleton]; exact v)
      refine ⟨F', ?_, b, ?_, fun q q0 q1 => ⟨fun z => (d q q0 (by omega)).1 fun w => ?_, fun z => (d q q0 (by omega)).2 (List.mem_append_left _ z)⟩⟩
      · unfold p_half_in_for1
        dsimp only
        rw [c0, if_pos rfl, app_ok (by unfold lim; omega), Option.bind_some]
        exact a
      · rw [List.map_cons, ← c]
        congr 1
        have := (d p p0 (by omega)).2 (List.mem_append_right _ (List.mem_singleton.mpr rfl))
        unfold sg3
        rw [if_pos this]
      · rcases List.mem_append.mp w with w | w
        · exact z w
        · have := List.mem_singleton.mp w; omega
    · have ne : Q ≠ [] := fun z => by rw [z] at v0; simp at v0
      have eq := (List.dropLast_concat_getLast ne).symm
      generalize Q.getLast ne = q0 at eq
      generalize Q.dropLast = Q' at eq
      subst eq
      have m0 := hs.mem q0 (List.mem_append_right _ (List.mem_singleton.mpr rfl))
      have top : ∀ r, r ∈ Q' → r < q0 := fun r hr => (List.pairwise_append.mp hs.srt).2.2 r hr q0 (List.mem_singleton.mpr rfl)
      have v : val3 (Q'.length : Int) ws := by
        rw [List.length_append, List.length_singleton, show (((Q'.length + 1 : Nat)) : Int) - 1 = Q'.length by omega] at v
        exact v
      obtain ⟨F', a, b, c, d⟩ := in_loop hN ws (p + 1) Q' _ (by omega) (by omega) (hs.close p0 p1) v
      refine ⟨F', ?_, b, ?_, fun q a0 a1 => ⟨fun z => ?_, fun z => ?_⟩⟩
      · unfold p_half_in_for1
        dsimp only
        rw [c1, if_neg (by simp), c3, if_pos rfl, pop_snoc, Option.bind_some]
        dsimp only
        rw [set_lst p0 p1, Option.bind_some, set_lst m0.1 (by omega), Option.bind_some]
        exact a
      · rw [List.map_cons, ← c]
        congr 1
        have := (d p p0 (by omega)).1 fun w => by have := top p w; omega
        rw [if_neg (by omega), if_pos rfl] at this
        unfold sg3
        rw [this, if_neg (by omega), if_pos (by omega)]
      · rw [List.mem_append, not_or, List.mem_singleton] at z
        have := (d q a0 (by omega)).1 z.1
        rw [if_neg z.2, if_neg (by omega)] at this
        exact this
      · rcases List.mem_append.mp z with w | w
        · exact (d q a0 (by omega)).2 w
        · have w := List.mem_singleton.mp w
          have := (d q a0 (by omega)).1 fun y => by have := top q y; omega
          rw [if_pos w] at this
          omega
    · have : Q = [] := List.eq_nil_of_length_eq_zero (by omega)
      subst this
      obtain ⟨F', a, b, c, d⟩ := in_loop hN ws (p + 1) [] F (by omega) (by omega) (hs.thru p0 p1) v
      refine ⟨F', ?_, b, ?_, fun q a0 a1 => ⟨fun z => (d q a0 (by omega)).1 (by simp), fun z => by cases z⟩⟩
      · unfold p_half_in_for1
        dsimp only
        rw [c2, if_neg (by simp), c4, if_neg (by simp)]
        exact a
      · rw [List.map_cons, ← c]
        congr 1
        have := (d p p0 (by omega)).1 (by simp)
        rw [hs.ge p (Int.le_refl _) p1] at this
        unfold sg3
        rw [this, if_neg (by omega), if_neg (by omega)]
theorem half_in_ok {n : Int} {w : List Int} (h0 : 0 ≤ n) (h10 : n ≤ 10) (hl : (w.length : Int) = n) (v : val3 0 w) : ∃ F, p_half_in (txt3 w) = some (lst n F) ∧ Hf n F ∧ w = (rng 0 n).map (sg3 F) := by
  have start : Hs n 0 [] fun q => q := ⟨fun q a b => ⟨a, b, rfl⟩, fun q a b => (by omega), fun q _ _ => rfl, .nil, fun q h => (by cases h), fun b a c => (by omega), fun r a b => (by omega)⟩
  obtain ⟨F, a, b, c, _⟩ := in_loop (show n ≤ 50 by omega) w 0 [] (fun q => q) (by omega) (by omega) start v
  refine ⟨F, ?_, b.hf, c⟩
  unfold p_half_in
  have tl : ((txt3 w).length : Int) = n := by rw [txt3_len]; exact hl
  have el : rng 0 n = lst n fun q => q := by unfold lst; rw [List.map_id']
  rw [tl, grd_true (rngOk_of (by omega) (by omega)), Option.bind_some, Option.bind_some, el, txt3_chrs]
  unfold enumI
  rw [a, Option.bind_some]
/-- all halves of so many pegs, of which so many go through -/
theorem halves_ok {n g : Int} (h1 : 1 ≤ n) (h10 : n ≤ 10) : ∃ L : List (List Int), p_halves n g = some (sortC L) ∧ L.Nodup ∧ ∀ t, t ∈ L ↔ ∃ h, Hf n h ∧ ((opn n h).length : Int) = g ∧ t = lst n h := by
  have good : ∀ s, s ∈ (rows3 g n.toNat).filter (fun s : W3 => decide (s.2.1 = 0) && decide (s.2.2 = g)) → val3 0 s.1 ∧ (s.1.length : Int) = n ∧ cnt2 s.1 = g := fun s hs => by
    obtain ⟨a, b⟩ := List.mem_filter.mp hs
    simp only [Bool.and_eq_true, decide_eq_true_eq] at b
    obtain ⟨w, d, c⟩ := s
    obtain ⟨a1, a2⟩ := mem_rows3.mp a
    have b1 : d = 0 := b.1
    have b2 : c = g := b.2
    subst b1; subst b2
    obtain ⟨v, e⟩ := run_val (Int.le_refl 0) a2
    exact ⟨v, by rw [a1]; omega, by show cnt2 w = c; omega⟩
  obtain ⟨X, hX⟩ : ∃ X : W3 → Int → Int, ∀ s, s ∈ (rows3 g n.toNat).filter (fun s : W3 => decide (s.2.1 = 0) && decide (s.2.2 = g)) → p_half_in (txt3 s.1) = some (lst n (X s)) ∧ Hf n (X s) ∧ s.1 = (rng 0 n).map (sg3 (X s)) := by
    have ch : ∀ s : W3, ∃ F : Int → Int, s ∈ (rows3 g n.toNat).filter (fun s : W3 => decide (s.2.1 = 0) && decide (s.2.2 = g)) → p_half_in (txt3 s.1) = some (lst n F) ∧ Hf n F ∧ s.1 = (rng 0 n).map (sg3 F) := fun s => by
      by_cases c : s ∈ (rows3 g n.toNat).filter (fun s : W3 => decide (s.2.1 = 0) && decide (s.2.2 = g))
      · obtain ⟨v, l, _⟩ := good s c
        obtain ⟨F, a⟩ := half_in_ok (by omega) h10 l v
        exact ⟨F, fun _ => a⟩
      · exact ⟨fun q => q, fun z => absurd z c⟩
    exact ⟨fun s => (ch s).choose, fun s => (ch s).choose_spec⟩
  have nd : (((rows3 g n.toNat).filter (fun s : W3 => decide (s.2.1 = 0) && decide (s.2.2 = g))).map fun s => s.1).Nodup :=
    (List.Sublist.map (fun s : W3 => s.1) List.filter_sublist).nodup (nodup_rows3 n.toNat)
  have mem : ∀ s : W3, s ∈ (rows3 g n.toNat).filter (fun s : W3 => decide (s.2.1 = 0) && decide (s.2.2 = g)) ↔ s ∈ (rows3 g n.toNat).filter (fun s : W3 => decide (s.2.1 = 0) && decide (s.2.2 = g)) := fun _ => Iff.rfl
  have comp : ∀ h, Hf n h → ((opn n h).length : Int) = g → ((rng 0 n).map (sg3 h), (0 : Int), g) ∈ (rows3 g n.toNat).filter (fun s : W3 => decide (s.2.1 = 0) && decide (s.2.2 = g)) := fun h H e => by
    refine List.mem_filter.mpr ⟨mem_rows3.mpr ⟨by rw [List.length_map, rng_len]; omega, ?_⟩, by simp⟩
    have v := val_half H n.toNat 0 [] (by omega) (by omega) ⟨.nil, fun q => ⟨fun z => (by cases z), fun z => by omega⟩⟩
    have := val_run (g := g) (c := 0) v (by rw [cnt_opn]; omega)
    rw [cnt_opn, e, Int.zero_add] at this
    exact this
  have tx := texts_ok (g := g) (show 0 ≤ n by omega) h10
  generalize (rows3 g n.toNat).filter (fun s : W3 => decide (s.2.1 = 0) && decide (s.2.2 = g)) = R at *
  refine ⟨R.map fun s => lst n (X s), ?_, ?_, fun t => ?_⟩
  · unfold p_halves
    have cm : compM (fun (x2 : Str) => (some true)) (fun (x2 : Str) => (Option.bind (p_half_in x2) fun u3 => (some u3))) (R.map fun s => txt3 s.1) = some (R.map fun s => lst n (X s)) := by
      have go : ∀ l : List W3, (∀ s, s ∈ l → s ∈ R) → compM (fun (x2 : Str) => (some true)) (fun (x2 : Str) => (Option.bind (p_half_in x2) fun u3 => (some u3))) (l.map fun s => txt3 s.1) = some (l.map fun s => lst n (X s)) := fun l => by
        induction l with
        | nil => intro _; rfl
        | cons s l ih =>
          intro hl
          rw [List.map_cons]
          unfold compM
          rw [(hX s (hl s List.mem_cons_self)).1, ih fun t ht => hl t (List.mem_cons_of_mem _ ht)]
          rfl
      exact go R fun _ h => h
    have al : alike (R.map fun s => lst n (X s)) = true := alike_of (d := n.toNat) (by omega) fun x hx => by
      obtain ⟨s, hs, rfl⟩ := List.mem_map.mp hx
      refine ⟨by rw [lst_len], fun i hi => ?_⟩
      unfold lst at hi
      obtain ⟨q, hq, rfl⟩ := List.mem_map.mp hi
      have hq := mem_rng.mp hq
      have := (hX s hs).2.1.iv q hq.1 hq.2
      omega
    rw [tx, Option.bind_some, cm, Option.bind_some, grd_true al, Option.bind_some]
  · refine List.pairwise_map.mpr ((List.pairwise_map.mp nd).imp_of_mem fun {s t} hs ht ne e => ne ?_)
    have a := (hX s hs).2.2
    have b := (hX t ht).2.2
    rw [a, b]
    refine List.map_congr_left fun q hq => ?_
    have hq := mem_rng.mp hq
    have e1 : X s q = X t q := by
      have a1 := atI_lst (x := X s) hq.1 hq.2
      rw [e, atI_lst hq.1 hq.2] at a1
      exact (Option.some.inj a1).symm
    unfold sg3
    rw [e1]
  · constructor
    · intro ht
      obtain ⟨s, hs, rfl⟩ := List.mem_map.mp ht
      obtain ⟨a, b, c⟩ := hX s hs
      refine ⟨X s, b, ?_, rfl⟩
      rw [← cnt_opn, ← c]
      exact (good s hs).2.2
    · rintro ⟨h, H, e, rfl⟩
      refine List.mem_map.mpr ⟨_, comp h H e, ?_⟩
      obtain ⟨_, b, c⟩ := hX _ (comp h H e)
      refine lst_ext fun q q0 q1 => sg3_one b H (fun q q0 q1 => ?_) q q0 q1
      have c : (rng 0 n).map (sg3 h) = (rng 0 n).map (sg3 (X ((rng 0 n).map (sg3 h), 0, g))) := c
      have c1 := congrArg (fun l => atI l q) c
      have a1 := atI_lst (x := sg3 h) q0 q1
      have a2 := atI_lst (x := sg3 (X ((rng 0 n).map (sg3 h), 0, g))) q0 q1
      unfold lst at a1 a2
      have c1 : atI ((rng 0 n).map (sg3 h)) q = atI ((rng 0 n).map (sg3 (X ((rng 0 n).map (sg3 h), 0, g)))) q := c1
      rw [a1, a2] at c1
      exact (Option.some.inj c1).symm
/-! ### how many halves -/
def stC (g : Int) : Nat → List (Int × Int)
  | 0 => [(0, 0)]
  | k + 1 => (stC g k).flatMap fun s => (nx3 g s).map fun x => (stp g s x).getD s
theorem stC_ok {g : Int} : ∀ k : Nat, (rows3 g k).map (fun s => s.2) = stC g k
  | 0 => rfl
  | k + 1 => by
    show ((rows3 g k).flatMap (ext3 g)).map (fun s => s.2) = (stC g k).flatMap _
    rw [← stC_ok k, List.map_flatMap, List.flatMap_map]
    congr 1
    funext s
    unfold ext3
    rw [List.map_map]
    rfl
def hn (g : Int) (k : Nat) : Nat := ((stC g k).filter fun s => decide (s.1 = 0) && decide (s.2 = g)).length
theorem hn_ok {n g : Int} {L : List (List Int)} (h1 : 1 ≤ n) (h10 : n ≤ 10) (hp : p_halves n g = some L) : L.length = hn g n.toNat := by
  unfold p_halves at hp
  rw [texts_ok (by omega) h10, Option.bind_some] at hp
  obtain ⟨u4, q1, q2⟩ := Option.bind_eq_some_iff.mp hp
  obtain ⟨g5, q3, q4⟩ := Option.bind_eq_some_iff.mp q2
  have cl : ∀ {α β : Type} {f : α → Option β} {xs : List α} {ys : List β}, compM (fun _ => some true) f xs = some ys → ys.length = xs.length := fun {α β f xs} => by
    induction xs with
    | nil => intro ys h; cases h; rfl
    | cons x xs ih =>
      intro ys h
      unfold compM at h
      rw [Option.bind_some, if_pos rfl] at h
      obtain ⟨y, _, h⟩ := Option.bind_eq_some_iff.mp h
      obtain ⟨zs, h2, h3⟩ := Option.bind_eq_some_iff.mp h
      cases h3
      have := ih h2
      simp
      exact this
  have c := cl q1
  rw [List.length_map] at c
  have e : L = sortC u4 := (Option.some.inj q4).symm
  have sl : (sortC u4).length = u4.length := (sortG_perm (le := leC) (xs := u4)).length_eq
  rw [e, sl, c]
  unfold hn
  rw [← stC_ok, List.filter_map, List.length_map]
  rfl
theorem pegs_yes {n : Int} (h1 : 1 ≤ n) (h10 : n ≤ 10) : p_ask_pegs n = some () := by
  unfold p_ask_pegs
  simp [h1, h10]
theorem many_halves {n g : Int} (h1 : 1 ≤ n) (h10 : n ≤ 10) : p_how_many_halves n g = some (hn g n.toNat : Int) := by
  obtain ⟨L, e, _⟩ := halves_ok (g := g) h1 h10
  unfold p_how_many_halves
  rw [pegs_yes h1 h10, Option.bind_some, e, Option.bind_some, hn_ok h1 h10 e]
def sumH (k : Nat) : Int := (((rng 0 (((k : Int) + 1) + 1)).map fun g => (hn g (k + 1) : Int)).map fun x => x * x).sum
theorem sums : ∀ k : Nat, k < 10 → p_how_many ((k : Int) + 1) = some (sumH k) := by decide +kernel
theorem sizes : ∀ k : Nat, k < 11 → ∀ g : Nat, g < k + 1 → (k - g) % 2 = 0 → 0 < hn (g : Int) k := by decide +kernel
theorem small : ∀ k : Nat, k < 11 → ∀ g : Nat, g < k + 1 → hn (g : Int) k < 2000 := by decide +kernel
/-! ### two halves and their family -/
theorem idxA_at {α : Type} [DecidableEq α] : ∀ {xs : List α} {k : Nat} {x : α}, xs.Nodup → xs[k]? = some x → idxA xs x = some (k : Int)
  | [], k, x, _, h => by simp at h
  | y :: ys, 0, x, _, h => by
    simp at h
    subst h
    unfold idxA
    rw [if_pos rfl]
    rfl
  | y :: ys, k + 1, x, nd, h => by
    rw [List.getElem?_cons_succ] at h
    obtain ⟨n1, n2⟩ := List.nodup_cons.mp nd
    have ne : y ≠ x := fun z => by
      rw [z] at n1
      exact n1 (List.mem_of_getElem? h)
    unfold idxA
    rw [if_neg ne, idxA_at n2 h]
    show some ((k : Int) + 1) = some (((k + 1 : Nat)) : Int)
    congr 1
theorem pick {n g : Int} (h1 : 1 ≤ n) (h10 : n ≤ 10) {r : Int} (r0 : 0 ≤ r) (r1 : r < (hn g n.toNat : Int)) : ∃ h, Hf n h ∧ ((opn n h).length : Int) = g ∧ p_half_of n g r = some (lst n h) ∧ p_half_number (lst n h) = some r := by
  obtain ⟨L, hL, nd, hm⟩ := halves_ok (g := g) h1 h10
  have sp : List.Perm (sortC L) L := sortG_perm
  have nd2 : (sortC L).Nodup := sp.nodup_iff.mpr nd
  have ll := hn_ok h1 h10 hL
  have hm2 : ∀ t, t ∈ sortC L ↔ ∃ h, Hf n h ∧ ((opn n h).length : Int) = g ∧ t = lst n h := fun t => sp.mem_iff.trans (hm t)
  generalize sortC L = M at *
  have rl : r.toNat < M.length := by omega
  obtain ⟨h, H, e, et⟩ := (hm2 (M[r.toNat]'rl)).mp (List.getElem_mem rl)
  have ga : M[r.toNat]? = some (lst n h) := by rw [List.getElem?_eq_getElem rl, et]
  have at' : atI M r = some (lst n h) := by rw [atI_eq r0 (by omega), ga]
  refine ⟨h, H, e, ?_, ?_⟩
  · unfold p_half_of
    have b : ((decide ((0 : Int) ≤ r)) && (decide (r < (M.length : Int)))) = true := by simp; omega
    rw [pegs_yes h1 h10, Option.bind_some, hL, Option.bind_some, b, if_neg (by simp), at', Option.bind_some]
  · unfold p_half_number
    rw [ask_half_ok h1 h10 H, Option.bind_some, going_ok, Option.bind_some, lst_len' (by omega), e, hL, Option.bind_some, idxA_at nd2 ga, Option.bind_some]
    congr 1
    omega
theorem Jn.halves {n : Int} {A M T : Int → Int} {L : List (Int × Int)} (J : Jn n A M T L) (HA : Hf n A) (HM : Hf n M) : lst n (upF n T) = lst n A ∧ lst n (lowF n T) = lst n M := by
  constructor
  · refine lst_ext fun p p0 p1 => ?_
    unfold upF
    by_cases c : A p = p
    · obtain ⟨q, hq, rfl⟩ := J.l p p0 p1 c
      have t := (J.tie q hq).1
      have b := (J.bd q hq).2
      rw [t, if_neg (by omega), c]
    · have := HA.iv p p0 p1
      rw [J.up p p0 p1 c, if_pos (by omega)]
  · refine lst_ext fun p p0 p1 => ?_
    unfold lowF
    by_cases c : M p = p
    · obtain ⟨q, hq, rfl⟩ := J.r p p0 p1 c
      have t := (J.tie q hq).2
      have b := (J.bd q hq).1
      rw [t, if_neg (by omega), c]
    · have := HM.iv p p0 p1
      rw [J.low p p0 p1 c, if_pos (by omega)]
      omega
/-- what the dict holds -/
def Kv (k : List Int) (v : Int × Int × Int) : Prop := p_family k = some v.2 ∧ ((p_upper k).bind fun u => p_going u).map (fun w => (w.length : Int)) = some v.1
theorem put_le {κ β : Type} [DecidableEq κ] {d : List (κ × β)} {k : κ} {v : β} : (putA d k v).length ≤ d.length + 1 := by
  unfold putA
  split
  · rw [List.length_map]; omega
  · rw [List.length_append, List.length_singleton]; omega
theorem same2 (i j : Int) : l_same 6 ((eP PyData.int PyData.int) (i, j)) ((eP PyData.int PyData.int) (i, j)) = some true := Sm.ints 4 [i, j]
theorem turn_ok {ns : List Int} {n k : Int} {s : List ((List Int) × (Int × Int × Int))} (n1 : 1 ≤ n) (n10 : n ≤ 10) (hk : 0 ≤ k) (hl : ns.length ≤ 63) (sl : s.length < 1000) (hs : ∀ x v, lookA s x = some v → Kv x v) :
    ∃ s', l_law_for1 ns n ((rng 0 (n + 1)).map fun g => (hn g n.toNat : Int)) s k = some (.inl s') ∧ s'.length ≤ s.length + 1 ∧ ∀ x v, lookA s' x = some v → Kv x v := by
  obtain ⟨ds, e, dg⟩ := digits_ok (ns := ns) (k := 1 + k) (ss := [n + 1, (10 : Int) ^ Int.toNat 9, (10 : Int) ^ Int.toNat 9]) (by omega) hl (fun s h => by
    simp only [List.mem_cons, List.not_mem_nil, or_false] at h
    rcases h with rfl | rfl | rfl
    · omega
    · exact ⟨by decide, by decide⟩
    · exact ⟨by decide, by decide⟩) (by simp)
  match ds, dg with
  | [a, b, c], dg =>
  obtain ⟨a0, a1, b0, b1, c0, c1, _⟩ := dg
  have u : unp3 [a, b, c] = some (a, b, c) := rfl
  unfold l_law_for1
  rw [e, Option.bind_some, u, Option.bind_some]
  dsimp only
  obtain ⟨z, hz, z0, z1, z2⟩ : ∃ z, atI ([(0 : Int), (1 : Int)]) ((n - a) % (2 : Int)) = some z ∧ 0 ≤ a + z ∧ a + z ≤ n ∧ (n - (a + z)) % 2 = 0 := by
    rcases Int.emod_two_eq (n - a) with q | q
    · exact ⟨0, by rw [q]; rfl, by omega, by omega, by omega⟩
    · exact ⟨1, by rw [q]; rfl, by omega, by omega, by omega⟩
  rw [hz, Option.bind_some, Option.bind_some]
  generalize a + z = g at z0 z1 z2
  have at' : atI ((rng 0 (n + 1)).map fun g => (hn g n.toNat : Int)) g = some (hn g n.toNat : Int) := atI_lst (m := n + 1) (x := fun g => (hn g n.toNat : Int)) z0 (by omega)
  have pos : (0 : Int) < (hn g n.toNat : Int) := by
    have := sizes n.toNat (by omega) g.toNat (by omega) (by omega)
    rw [show ((g.toNat : Nat) : Int) = g by omega] at this
    omega
  rw [at', Option.bind_some, grd_true pos, Option.bind_some, Option.bind_some, grd_true pos, Option.bind_some]
  obtain ⟨x, X, x1, x2, x3⟩ := pick (g := g) n1 n10 (Int.emod_nonneg b (show (hn g n.toNat : Int) ≠ 0 by omega)) (Int.emod_lt_of_pos b pos)
  obtain ⟨y, Y, y1, y2, y3⟩ := pick (g := g) n1 n10 (Int.emod_nonneg c (show (hn g n.toNat : Int) ≠ 0 by omega)) (Int.emod_lt_of_pos c pos)
  generalize b % (hn g n.toNat : Int) = i at x2 x3
  generalize c % (hn g n.toNat : Int) = j at y2 y3
  have len : (opn n x).length = (opn n y).length := by omega
  have J := jn_spec (n := n) (A := x) (M := y) len
  have fr := J.fr n1 X Y
  obtain ⟨hu, hlw⟩ := J.halves X Y
  have ju := joined_ok n1 n10 X Y len
  generalize jn n x y = T at *
  have fam : p_family (lst (2 * n) T) = some (i, j) := by
    unfold p_family
    rw [ask_frame_ok n1 n10 fr, Option.bind_some, upper_ok n1 n10 fr, Option.bind_some, hu, x3, Option.bind_some, lower_ok n1 n10 fr, Option.bind_some, hlw, y3, Option.bind_some]
  have kv : Kv (lst (2 * n) T) (g, i, j) := by
    refine ⟨fam, ?_⟩
    rw [upper_ok n1 n10 fr, Option.bind_some, hu, going_ok, Option.map_some, x1]
  rw [x2, Option.bind_some, y2, Option.bind_some, ju, Option.bind_some, frame_yes n1 n10 fr, Option.bind_some, Option.bind_some, if_neg (by simp), fam, Option.bind_some, same2, Option.bind_some, Option.bind_some, if_neg (by simp)]
  have lk : (lookA s (lst (2 * n) T)).getD (g, i, j) = (g, i, j) := by
    cases hx : lookA s (lst (2 * n) T) with
    | none => rfl
    | some v =>
      obtain ⟨k1, k2⟩ := hs _ _ hx
      rw [kv.1] at k1
      rw [kv.2] at k2
      obtain ⟨v1, v2⟩ := v
      have k1 := Option.some.inj k1
      have k2 := Option.some.inj k2
      show (v1, v2) = (g, i, j)
      dsimp only at k1 k2
      rw [← k1, ← k2]
  rw [lk, if_neg (by simp), put_ok (by unfold lim; omega), Option.bind_some]
  refine ⟨_, rfl, put_le, fun w v hw => ?_⟩
  rw [look_put] at hw
  by_cases q : lst (2 * n) T = w
  · rw [if_pos q] at hw
    cases hw
    rw [← q]
    exact kv
  · rw [if_neg q] at hw
    exact hs w v hw
theorem turns {ns : List Int} {n : Int} (n1 : 1 ≤ n) (n10 : n ≤ 10) (hl : ns.length ≤ 63) : ∀ (ks : List Int) (s : List ((List Int) × (Int × Int × Int))), (∀ k, k ∈ ks → 0 ≤ k) → s.length + ks.length < 1000 → (∀ x v, lookA s x = some v → Kv x v) →
    ∃ s', forR (l_law_for1 ns n ((rng 0 (n + 1)).map fun g => (hn g n.toNat : Int))) s ks = some (.inl s')
  | [], s, _, _, _ => ⟨s, rfl⟩
  | k :: ks, s, h, l, hs => by
    rw [List.length_cons] at l
    obtain ⟨s1, e1, e2, e3⟩ := turn_ok n1 n10 (h k List.mem_cons_self) hl (by omega) hs
    obtain ⟨s2, e4⟩ := turns n1 n10 hl ks s1 (fun j hj => h j (List.mem_cons_of_mem _ hj)) (by omega) e3
    exact ⟨s2, by rw [forR_go e1, e4]⟩
theorem few_ok : ∀ k : Nat, k < 5 → 0 < k → (Option.bind (grd (rngOk (((k : Int)) % (2 : Int)))) fun g35 => (Option.bind (grd (rngOk (((k : Int)) + (1 : Int)))) fun g36 => (Option.bind (forS (l_law_for2 (k : Int)) ([] : (List ((List Int) × Bool))) (rng3 ((k : Int) % (2 : Int)) ((k : Int) + (1 : Int)) (2 : Int))) fun (s49 : (List ((List Int) × Bool))) => (Option.bind (p_how_many (k : Int)) fun u50 => (some (decide ((s49.length : Int) = u50))))))) = some true := by decide +kernel
theorem law_true : ∀ ns : List Int, ns.length ≤ 63 → l_law ns = some true := by
  intro ns hl
  unfold l_law
  rw [Option.bind_some]
  have l63 : (cutA ns none (some (63 : Int))).length ≤ 63 := Nat.le_trans cutA_len hl
  generalize cutA ns none (some (63 : Int)) = ms at l63
  obtain ⟨ds, e, dg⟩ := digits_ok (ns := ms) (k := 0) (ss := [10]) (by omega) l63 (fun s h => by
    simp only [List.mem_cons, List.not_mem_nil, or_false] at h
    subst h; exact ⟨by decide, by decide⟩) (by decide)
  match ds, dg with
  | [a], dg =>
  obtain ⟨a0, a1, _⟩ := dg
  have at' : atI [a] (0 : Int) = some a := rfl
  rw [e, Option.bind_some, at', Option.bind_some, Option.bind_some]
  have n1 : 1 ≤ 1 + a := by omega
  have n10 : 1 + a ≤ 10 := by omega
  generalize 1 + a = n at n1 n10
  rw [grd_true (rngOk_of (by omega) (by omega)), Option.bind_some]
  rw [compM_some (g := fun g => (hn g n.toNat : Int)) (fun _ _ => rfl) fun g hg => by rw [many_halves n1 n10, Option.bind_some], Option.bind_some]
  rw [compM_some (g := fun x => x * x) (fun _ _ => rfl) fun x hx => by
    obtain ⟨g, hg, rfl⟩ := List.mem_map.mp hx
    have hg := mem_rng.mp hg
    have := small n.toNat (by omega) g.toNat (by omega)
    rw [show ((g.toNat : Nat) : Int) = g by omega] at this
    rw [grd_true (.inl ⟨by omega, by omega⟩), Option.bind_some], Option.bind_some]
  have sm := sums (n - 1).toNat (by omega)
  have e1 : (((n - 1).toNat : Nat) : Int) + 1 = n := by omega
  have e2 : (n - 1).toNat + 1 = n.toNat := by omega
  unfold sumH at sm
  rw [e1, e2] at sm
  rw [sm, Option.bind_some, decide_eq_true rfl, if_neg (by simp)]
  obtain ⟨s, es⟩ := turns n1 n10 l63 (rng 0 9) [] (fun k hk => (mem_rng.mp hk).1) (by decide) (fun x v h => by rw [lookA_nil] at h; cases h)
  rw [es]
  unfold bindR
  rw [Option.bind_some]
  dsimp only
  rw [Option.bind_some]
  have := few_ok (1 + n % 4).toNat (by omega) (by omega)
  rw [show (((1 + n % 4).toNat : Nat) : Int) = 1 + n % 4 by omega] at this
  exact this
end Rb.M_k20

set_option Elab.async false
set_option linter.all false
set_option maxRecDepth 100000
set_option maxHeartbeats 4000000
namespace Rb.M_k20
open PySem PySem.Spec PyProof.Rows L2 Rb
def top (i : Nat) : Stmt := PySem.Challenge.pw_ribbonloft_k20_whole_two_halves_make_a_f.main.body.getD i (.Pass ⟨0, 0, 0, 0⟩)
structure Tx (K : PySem.W.Frag) (mg : Str → Option Value) : Prop where
  dum : True
  all : mg "all" = none
  bool : mg "bool" = none
  enumerate : mg "enumerate" = none
  int : mg "int" = none
  isinstance : mg "isinstance" = none
  len : mg "len" = none
  list : mg "list" = none
  range : mg "range" = none
  sorted : mg "sorted" = none
  str : mg "str" = none
  sum : mg "sum" = none
  tuple : mg "tuple" = none
  zip : mg "zip" = none
  MOST_PEGS : ∃ t, mg "MOST_PEGS" = some (.int 10 t)
abbrev encR_p_ask_pegs (_ : Unit) : Out := .nx [.un]
abbrev st_p_ask_pegs : Stmt := top 8
abbrev NN_p_ask_pegs : List Str := ["pegs"]
theorem sc_p_ask_pegs : FnScope NN_p_ask_pegs ["pegs"] (defScope st_p_ask_pegs) := ⟨rfl, rfl, rfl, by decide +kernel, rfl, by decide +kernel, by decide +kernel⟩
abbrev I_p_ask_pegs : List PyData → Rv → Prop := Im (fun (a : (Int)) => [PyData.int a]) (fun (y : Unit) => Rv.sh (eN y)) (fun a => p_ask_pegs a)
theorem fn_p_ask_pegs {P : Program} {w : World} {K : PySem.W.Frag} {mg : Str → Option Value} {base : Heap} {f : Addr} {fd : FuncData} (F : FunD K "ask_pegs" "ask_pegs" (defArgs st_p_ask_pegs) (defBody st_p_ask_pegs) (defScope st_p_ask_pegs) [] [] f fd) (hg : mg "ask_pegs" = some (.ref f)) (T : Tx K mg)  : Fn P w K mg base "ask_pegs" 1 I_p_ask_pegs := by
  refine ⟨f, fd, ["pegs"], fn_ok (N := NN_p_ask_pegs) (en := encR_p_ask_pegs) F sc_p_ask_pegs (fun _ => rfl) (fun _ => .inr ⟨rfl, _, rfl⟩) (fun cdv A' outer s H E hr => ⟨_, (pss_cons (ps_if (pt_not (pt_chain op_le op_le pe_int (pv 0) (pe_const (by rfl) T.MOST_PEGS))) pss_never pss_nil) pss_nil), fun v_pegs => ?_⟩), hg, F.kp, F.bindsN fun _ _ _ _ _ _ us hl => match us, hl with | [_], _ => rfl⟩
  exact (show BX K _ [.sh (PyData.int v_pegs)] encR_p_ask_pegs (p_ask_pegs v_pegs) from
   (bx_ifNo (et_not (et_of (ex_chain (p := fun i j => decide (i ≤ j)) (p' := fun i j => decide (i ≤ j)) (fun _ _ => rfl) (fun _ _ => rfl) ex_int (ex_var (i := 0) rfl) ex_int))) (fun _ => (bx_nx (.un .nil) rfl))))
abbrev encR_p_turned_round (y : Int) : Out := .rt (.sh (PyData.int y))
abbrev st_p_turned_round : Stmt := top 9
abbrev NN_p_turned_round : List Str := ["pegs", "place"]
theorem sc_p_turned_round : FnScope NN_p_turned_round ["pegs", "place"] (defScope st_p_turned_round) := ⟨rfl, rfl, rfl, by decide +kernel, rfl, by decide +kernel, by decide +kernel⟩
abbrev I_p_turned_round : List PyData → Rv → Prop := Im (fun (a : (Int × Int)) => [PyData.int a.1, PyData.int a.2]) (fun (y : Int) => Rv.sh (PyData.int y)) (fun a => p_turned_round a.1 a.2)
theorem fn_p_turned_round {P : Program} {w : World} {K : PySem.W.Frag} {mg : Str → Option Value} {base : Heap} {f : Addr} {fd : FuncData} (F : FunD K "turned_round" "turned_round" (defArgs st_p_turned_round) (defBody st_p_turned_round) (defScope st_p_turned_round) [] [] f fd) (hg : mg "turned_round" = some (.ref f)) (T : Tx K mg)  : Fn P w K mg base "turned_round" 1 I_p_turned_round := by
  refine ⟨f, fd, ["pegs", "place"], fn_ok (N := NN_p_turned_round) (en := encR_p_turned_round) F sc_p_turned_round (fun _ => rfl) (fun _ => .inl rfl) (fun cdv A' outer s H E hr => ⟨_, (pss_cons (ps_if (pt_cmpR op_lt (pv 1) (pv 0) (nomark _)) (pss_cons (ps_ret (pv 1)) pss_never) pss_nil) (pss_cons (ps_ret (pe_op op_sub (pe_op op_sub (pe_op op_mul pe_int (pv 0)) pe_int) (pv 1))) pss_never)), fun a => ?_⟩), hg, F.kp, F.bindsN fun _ _ _ _ _ _ us hl => match us, hl with | [_, _], _ => rfl⟩
  obtain ⟨v_pegs, v_place⟩ := a
  exact (show BX K _ [.sh (PyData.int v_pegs), .sh (PyData.int v_place)] encR_p_turned_round (p_turned_round v_pegs v_place) from
   (bx_ifRet (et_of (ex_lt (ex_var (i := 1) rfl) (ex_var (i := 0) rfl))) (fun _ => (bx_retS (ex_var (i := 1) rfl) rfl)) (fun _ _ _ h => nomatch h) (fun _ => (bx_retS (ex_sub (ex_sub (ex_mul ex_int (ex_var (i := 0) rfl) (.inl ⟨by decide, by decide⟩)) ex_int) (ex_var (i := 1) rfl)) rfl))))
abbrev encR_p_in_round (y : (List Int)) : Out := .rt (.fr (y.map PyData.int))
abbrev st_p_in_round : Stmt := top 10
abbrev NN_p_in_round : List Str := ["frame", "pegs", "place"]
theorem sc_p_in_round : FnScope NN_p_in_round ["frame"] (defScope st_p_in_round) := ⟨rfl, rfl, rfl, by decide +kernel, rfl, by decide +kernel, by decide +kernel⟩
abbrev I_p_in_round : List PyData → Rv → Prop := Im (fun (a : ((List Int))) => [(eT PyData.int) a]) (fun (y : (List Int)) => Rv.fr (y.map PyData.int)) (fun a => p_in_round a)
theorem fn_p_in_round {P : Program} {w : World} {K : PySem.W.Frag} {mg : Str → Option Value} {base : Heap} {f : Addr} {fd : FuncData} (F : FunD K "in_round" "in_round" (defArgs st_p_in_round) (defBody st_p_in_round) (defScope st_p_in_round) [] [] f fd) (hg : mg "in_round" = some (.ref f)) (T : Tx K mg) (G_turned_round : Fn P w K mg base "turned_round" 1 I_p_turned_round) : Fn P w K mg base "in_round" 2 I_p_in_round := by
  refine ⟨f, fd, ["frame"], fn_ok (N := NN_p_in_round) (en := encR_p_in_round) F sc_p_in_round (fun _ => rfl) (fun _ => .inl rfl) (fun cdv A' outer s H E hr => ⟨_, (pss_cons (ps_set (i := 1) sc_p_in_round.nd rfl (by first | exact Or.inl rfl | exact Or.inr rfl) (pe_op op_fdivW (pe_callB (call_lenK (K := K)) (by rfl) T.len (by decide +kernel) (pa_cons (pv 0) pa_nil)) pe_int)) (pss_cons (ps_ret (pe_lc (own := [("place", 2)]) (tt := tYes) rfl sc_p_in_round.nd (pi_range1 (by rfl) T.range (pa_cons (pe_op op_mul pe_int (pv 1)) pa_nil)) (blkOk_by (N := NN_p_in_round) (sc := defScope st_p_in_round) (by decide +kernel)) (fun _ _ _ _ _ => (pg_name (i := 2) sc_p_in_round.nd rfl (by first | exact Or.inl rfl | exact Or.inr rfl))) (fun _ _ _ _ _ => pts_nil) (fun _ _ _ _ _ => (pe_fn G_turned_round (hr.mono (by decide)) (by rfl) (pa_cons (pv 1) (pa_cons (pe_ix (ix_tupK (K := K)) (pv 0) (pe_fn G_turned_round (hr.mono (by decide)) (by rfl) (pa_cons (pv 1) (pa_cons (pv 2) pa_nil))) (fun _ _ => rfl)) pa_nil)))))) pss_never)), fun v_frame => ?_⟩), hg, F.kp, F.bindsN fun _ _ _ _ _ _ us hl => match us, hl with | [_], _ => rfl⟩
  exact (show BX K _ [.sh ((eT PyData.int) v_frame), .un, .un] encR_p_in_round (p_in_round v_frame) from
   (bx_asgB (e := PyData.int) (i := 1) (ex_fdiv (ex_lenT (ex_var (i := 0) rfl)) ex_int ⟨by decide, by decide +kernel⟩) (fun v_pegs_1 => (bx_bind fun g2 hg2 => (bx_bind fun u7 hu7 => (bx_retSW (exw_lc (e := PyData.int) (e' := PyData.int) (envB := (fun x3 => [.sh ((eT PyData.int) v_frame), .sh (PyData.int v_pegs_1), .sh (PyData.int x3)])) (EIs.i (eis_rng1 (ex_mul ex_int (ex_var (i := 1) rfl) (.inl ⟨by decide, by decide⟩)) (grd_ok hg2))) hu7 (fun x3 _ => (egc_name (i := 2) (by decide))) (fun x3 _ => (eto_some et_yes)) (fun x3 _ => (exo_bind fun u4 hu4 => (exo_bind fun u5 hu5 => (exo_bind fun u6 hu6 => (exo_some (e := PyData.int) (ex_call (ea_cons (ex_var (i := 1) rfl) (ea_cons (ex_ixT (ex_var (i := 0) rfl) (ex_call (ea_cons (ex_var (i := 1) rfl) (ea_cons (ex_var (i := 2) rfl) ea_nil)) ⟨(v_pegs_1, x3), u4, rfl, hu4, rfl⟩) (atI_map hu5)) ea_nil)) ⟨(v_pegs_1, u5), u6, rfl, hu6, rfl⟩))))))) rfl))))))
abbrev encR_p_in_round_L (y : (List Int)) : Out := .rt (.fr (y.map PyData.int))
abbrev st_p_in_round_L : Stmt := top 10
abbrev NN_p_in_round_L : List Str := ["frame", "pegs", "place"]
theorem sc_p_in_round_L : FnScope NN_p_in_round_L ["frame"] (defScope st_p_in_round_L) := ⟨rfl, rfl, rfl, by decide +kernel, rfl, by decide +kernel, by decide +kernel⟩
abbrev I_p_in_round_L : List PyData → Rv → Prop := Im (fun (a : ((List Int))) => [(eL PyData.int) a]) (fun (y : (List Int)) => Rv.fr (y.map PyData.int)) (fun a => p_in_round_L a)
theorem fn_p_in_round_L {P : Program} {w : World} {K : PySem.W.Frag} {mg : Str → Option Value} {base : Heap} {f : Addr} {fd : FuncData} (F : FunD K "in_round" "in_round" (defArgs st_p_in_round_L) (defBody st_p_in_round_L) (defScope st_p_in_round_L) [] [] f fd) (hg : mg "in_round" = some (.ref f)) (T : Tx K mg) (G_turned_round : Fn P w K mg base "turned_round" 1 I_p_turned_round) : Fn P w K mg base "in_round" 2 I_p_in_round_L := by
  refine ⟨f, fd, ["frame"], fn_ok (N := NN_p_in_round_L) (en := encR_p_in_round_L) F sc_p_in_round_L (fun _ => rfl) (fun _ => .inl rfl) (fun cdv A' outer s H E hr => ⟨_, (pss_cons (ps_set (i := 1) sc_p_in_round_L.nd rfl (by first | exact Or.inl rfl | exact Or.inr rfl) (pe_op op_fdivW (pe_callB (call_lenK (K := K)) (by rfl) T.len (by decide +kernel) (pa_cons (pv 0) pa_nil)) pe_int)) (pss_cons (ps_ret (pe_lc (own := [("place", 2)]) (tt := tYes) rfl sc_p_in_round_L.nd (pi_range1 (by rfl) T.range (pa_cons (pe_op op_mul pe_int (pv 1)) pa_nil)) (blkOk_by (N := NN_p_in_round_L) (sc := defScope st_p_in_round_L) (by decide +kernel)) (fun _ _ _ _ _ => (pg_name (i := 2) sc_p_in_round_L.nd rfl (by first | exact Or.inl rfl | exact Or.inr rfl))) (fun _ _ _ _ _ => pts_nil) (fun _ _ _ _ _ => (pe_fn G_turned_round (hr.mono (by decide)) (by rfl) (pa_cons (pv 1) (pa_cons (pe_ix (ix_listK (K := K)) (pv 0) (pe_fn G_turned_round (hr.mono (by decide)) (by rfl) (pa_cons (pv 1) (pa_cons (pv 2) pa_nil))) (fun _ _ => rfl)) pa_nil)))))) pss_never)), fun v_frame => ?_⟩), hg, F.kp, F.bindsN fun _ _ _ _ _ _ us hl => match us, hl with | [_], _ => rfl⟩
  exact (show BX K _ [.sh ((eL PyData.int) v_frame), .un, .un] encR_p_in_round_L (p_in_round_L v_frame) from
   (bx_asgB (e := PyData.int) (i := 1) (ex_fdiv (ex_lenL (EX.l (ex_var (i := 0) rfl))) ex_int ⟨by decide, by decide +kernel⟩) (fun v_pegs_1 => (bx_bind fun g2 hg2 => (bx_bind fun u7 hu7 => (bx_retSW (exw_lc (e := PyData.int) (e' := PyData.int) (envB := (fun x3 => [.sh ((eL PyData.int) v_frame), .sh (PyData.int v_pegs_1), .sh (PyData.int x3)])) (EIs.i (eis_rng1 (ex_mul ex_int (ex_var (i := 1) rfl) (.inl ⟨by decide, by decide⟩)) (grd_ok hg2))) hu7 (fun x3 _ => (egc_name (i := 2) (by decide))) (fun x3 _ => (eto_some et_yes)) (fun x3 _ => (exo_bind fun u4 hu4 => (exo_bind fun u5 hu5 => (exo_bind fun u6 hu6 => (exo_some (e := PyData.int) (ex_call (ea_cons (ex_var (i := 1) rfl) (ea_cons (ex_ixL (EX.l (ex_var (i := 0) rfl)) (ex_call (ea_cons (ex_var (i := 1) rfl) (ea_cons (ex_var (i := 2) rfl) ea_nil)) ⟨(v_pegs_1, x3), u4, rfl, hu4, rfl⟩) (atI_map hu5)) ea_nil)) ⟨(v_pegs_1, u5), u6, rfl, hu6, rfl⟩))))))) rfl))))))
abbrev encR_p_are_ties (y : Bool) : Out := .rt (.sh (PyData.bool y))
abbrev st_p_are_ties : Stmt := top 11
abbrev NN_p_are_ties : List Str := ["frame", "peg", "other"]
theorem sc_p_are_ties : FnScope NN_p_are_ties ["frame"] (defScope st_p_are_ties) := ⟨rfl, rfl, rfl, by decide +kernel, rfl, by decide +kernel, by decide +kernel⟩
abbrev I_p_are_ties : List PyData → Rv → Prop := Im (fun (a : ((List Int))) => [(eT PyData.int) a]) (fun (y : Bool) => Rv.sh (PyData.bool y)) (fun a => p_are_ties a)
theorem fn_p_are_ties {P : Program} {w : World} {K : PySem.W.Frag} {mg : Str → Option Value} {base : Heap} {f : Addr} {fd : FuncData} (F : FunD K "are_ties" "are_ties" (defArgs st_p_are_ties) (defBody st_p_are_ties) (defScope st_p_are_ties) [] [] f fd) (hg : mg "are_ties" = some (.ref f)) (T : Tx K mg)  : Fn P w K mg base "are_ties" 1 I_p_are_ties := by
  refine ⟨f, fd, ["frame"], fn_ok (N := NN_p_are_ties) (en := encR_p_are_ties) F sc_p_are_ties (fun _ => rfl) (fun _ => .inl rfl) (fun cdv A' outer s H E hr => ⟨_, (pss_cons (ps_if (PW.pt (pw_or (pt_cmpR op_lt (pe_callB (call_lenK (K := K)) (by rfl) T.len (by decide +kernel) (pa_cons (pv 0) pa_nil)) pe_int (nomark _)) (pw_or (pt_cmpR op_gt (pe_callB (call_lenK (K := K)) (by rfl) T.len (by decide +kernel) (pa_cons (pv 0) pa_nil)) (pe_op op_mul pe_int (pe_const (by rfl) T.MOST_PEGS)) (nomark _)) (pw_or1 (pt_cmpR op_eq (pe_op op_mod (pe_callB (call_lenK (K := K)) (by rfl) T.len (by decide +kernel) (pa_cons (pv 0) pa_nil)) pe_int) pe_int (nomark _)))))) (pss_cons (ps_ret pe_bl) pss_never) pss_nil) (pss_cons (ps_for PassesOwn.never rfl (pi_enumT (K := K) (by rfl) T.enumerate (pa_cons (pv 0) pa_nil)) (pg_tupK (K := K) (n := 2) (by rfl) (pgs_cons (pg_name (i := 1) sc_p_are_ties.nd rfl (by first | exact Or.inl rfl | exact Or.inr rfl)) (pgs_cons (pg_name (i := 2) sc_p_are_ties.nd rfl (by first | exact Or.inl rfl | exact Or.inr rfl)) pgs_nil))) (pss_cons (ps_if (PW.pt (pw_or (pt_not (pt_chain op_le op_lt pe_int (pv 2) (pe_callB (call_lenK (K := K)) (by rfl) T.len (by decide +kernel) (pa_cons (pv 0) pa_nil)))) (pw_or (pt_cmpR op_eq (pv 2) (pv 1) (nomark _)) (pw_or1 (pt_cmpR op_ne (pe_ix (ix_tupK (K := K)) (pv 0) (pv 2) (fun _ _ => rfl)) (pv 1) (nomark _)))))) (pss_cons (ps_ret pe_bl) pss_never) pss_nil) pss_nil)) (pss_cons (ps_ret pe_bl) pss_never))), fun v_frame => ?_⟩), hg, F.kp, F.bindsN fun _ _ _ _ _ _ us hl => match us, hl with | [_], _ => rfl⟩
  exact (show BX K _ [.sh ((eT PyData.int) v_frame), .un, .un] encR_p_are_ties (p_are_ties v_frame) from
   (bx_ifRet (et_or (et_of (ex_lt (ex_lenT (ex_var (i := 0) rfl)) ex_int)) (et_or (et_of (ex_gt (ex_lenT (ex_var (i := 0) rfl)) (ex_mul ex_int ex_int (.inr ⟨by decide, by decide⟩)))) (et_of (ex_eqI (ex_mod (ex_lenT (ex_var (i := 0) rfl)) ex_int (by decide)) ex_int)))) (fun _ => (bx_retS ex_bl rfl)) (fun _ _ _ h => nomatch h) (fun _ => (bx_bindR (envS := (fun (s_1 : Unit) => [.sh ((eT PyData.int) v_frame), .un, .un])) (encR := encR_p_are_ties) (bx_forR (encR := encR_p_are_ties) (envS := (fun (s_1 : Unit) => [.sh ((eT PyData.int) v_frame), .un, .un])) (e := (eP PyData.int PyData.int)) (envB := (fun (s_1 : Unit) (x1 : (Int × Int)) => [.sh ((eT PyData.int) v_frame), .sh (PyData.int x1.1), .sh (PyData.int x1.2)])) (f := (p_are_ties_for1 v_frame)) (eis_enumT (ex_var (i := 0) rfl)) (.same (.un (.un .nil))) (fun _ => trivial) (fun s_1 x1 _ => EGc.eg (vs := [1, 2]) (egc_tup (egs_cons (egc_name (i := 1) (by decide)) (egs_cons (egc_name (i := 2) (by decide)) egs_nil)) rfl)) (fun s_1 x1 _ => (bx_bind fun c3 hc3 => (bx_ifRetM (encR := encR_p_are_ties) ((eto_or (eto_some (et_not (et_of (ex_chain (p := fun i j => decide (i ≤ j)) (p' := fun i j => decide (i < j)) (fun _ _ => rfl) (fun _ _ => rfl) ex_int (ex_var (i := 2) rfl) (ex_lenT (ex_var (i := 0) rfl)))))) (eto_or (eto_some (et_of (ex_eqI (ex_var (i := 2) rfl) (ex_var (i := 1) rfl)))) (eto_bind fun u2 hu2 => (eto_some (et_of (ex_neI (ex_ixT (ex_var (i := 0) rfl) (ex_var (i := 2) rfl) (atI_map hu2)) (ex_var (i := 1) rfl))))))) c3 hc3) (fun _ => (bx_retS ex_bl rfl)) (fun _ _ h => nomatch h) (fun _ => rfl) (fun _ => (bx_nx (.same (.un (.un .nil))) rfl)))))) (fun _ => rfl) (fun _ _ h => nomatch h) (fun s4 _ => (bx_retS ex_bl rfl))))))
abbrev encR_p_nested (y : Bool) : Out := .rt (.sh (PyData.bool y))
abbrev st_p_nested : Stmt := top 12
abbrev NN_p_nested : List Str := ["ends", "open_ones", "place", "other"]
theorem sc_p_nested : FnScope NN_p_nested ["ends"] (defScope st_p_nested) := ⟨rfl, rfl, rfl, by decide +kernel, rfl, by decide +kernel, by decide +kernel⟩
abbrev I_p_nested : List PyData → Rv → Prop := Im (fun (a : ((List Int))) => [(eL PyData.int) a]) (fun (y : Bool) => Rv.sh (PyData.bool y)) (fun a => p_nested a)
theorem fn_p_nested {P : Program} {w : World} {K : PySem.W.Frag} {mg : Str → Option Value} {base : Heap} {f : Addr} {fd : FuncData} (F : FunD K "nested" "nested" (defArgs st_p_nested) (defBody st_p_nested) (defScope st_p_nested) [] [] f fd) (hg : mg "nested" = some (.ref f)) (T : Tx K mg)  : Fn P w K mg base "nested" 1 I_p_nested := by
  refine ⟨f, fd, ["ends"], fn_ok (N := NN_p_nested) (en := encR_p_nested) F sc_p_nested (fun _ => rfl) (fun _ => .inl rfl) (fun cdv A' outer s H E hr => ⟨_, (pss_cons (ps_set (i := 1) sc_p_nested.nd rfl (by first | exact Or.inl rfl | exact Or.inr rfl) (pe_lst pa_nil)) (pss_cons (ps_for PassesOwn.never rfl (pi_enumK (K := K) (by rfl) T.enumerate (pa_cons (pv 0) pa_nil)) (pg_tupK (K := K) (n := 2) (by rfl) (pgs_cons (pg_name (i := 2) sc_p_nested.nd rfl (by first | exact Or.inl rfl | exact Or.inr rfl)) (pgs_cons (pg_name (i := 3) sc_p_nested.nd rfl (by first | exact Or.inl rfl | exact Or.inr rfl)) pgs_nil))) (pss_cons (ps_if (pt_cmpR op_gt (pv 3) (pv 2) (nomark _)) (pss_cons (ps_expr (pe_bm PySem.F.plainAttrs_list PySem.F.slot_list_append PySem.F.type_list_append mt_append (pv 1) (pa_cons (pv 3) pa_nil))) pss_nil) (pss_cons (ps_if (pt_cmpR op_ne (pe_bm0 PySem.F.plainAttrs_list PySem.F.slot_list_pop PySem.F.type_list_pop mt_pop (pv 1)) (pv 2) (nomark _)) (pss_cons (ps_ret pe_bl) pss_never) pss_nil) pss_nil)) pss_nil)) (pss_cons (ps_ret pe_bl) pss_never))), fun v_ends => ?_⟩), hg, F.kp, F.bindsN fun _ _ _ _ _ _ us hl => match us, hl with | [_], _ => rfl⟩
  exact (show BX K _ [.sh ((eL PyData.int) v_ends), .un, .un, .un] encR_p_nested (p_nested v_ends) from
   (bx_asgW (exw_lst (ds := (([] : (List Int)) : (List Int)).map PyData.int) ea_nil (Nat.le_of_ble_eq_true rfl)) (bx_bindR (envS := (fun (s_1 : (List Int)) => [.sh ((eL PyData.int) v_ends), .ow (s_1.map PyData.int), .un, .un])) (encR := encR_p_nested) (bx_forR (encR := encR_p_nested) (envS := (fun (s_1 : (List Int)) => [.sh ((eL PyData.int) v_ends), .ow (s_1.map PyData.int), .un, .un])) (e := (eP PyData.int PyData.int)) (envB := (fun (s_1 : (List Int)) (x1 : (Int × Int)) => [.sh ((eL PyData.int) v_ends), .ow (s_1.map PyData.int), .sh (PyData.int x1.1), .sh (PyData.int x1.2)])) (f := p_nested_for1) (eis_enumL (ex_var (i := 0) rfl)) (.same (.same (.un (.un .nil)))) (fun _ => trivial) (fun s_1 x1 _ => EGc.eg (vs := [2, 3]) (egc_tup (egs_cons (egc_name (i := 2) (by decide)) (egs_cons (egc_name (i := 3) (by decide)) egs_nil)) rfl)) (fun s_1 x1 _ => (bx_last (bx_if (et_of (ex_gt (ex_var (i := 3) rfl) (ex_var (i := 2) rfl))) (fun _ => (bx_bind fun u2 hu2 => (bx_app (e := PyData.int) (x := x1.2) rfl (ex_var (i := 3) rfl) hu2 (bx_nx (.same (.same (.un (.un .nil)))) rfl)))) (fun _ => (bx_bind fun u3 hu3 => (bx_last (bx_ifPopNe (α := Int) (e := PyData.int) (xs := []) (ys := []) (i := 1) rfl hu3 (ex_var (i := 2) rfl) (bx_retS ex_bl rfl) (bx_nx (.same (.same (.un (.un .nil)))) rfl))))))))) (fun _ => rfl) (fun _ _ h => nomatch h) (fun s4 _ => (bx_retS ex_bl rfl)))))
abbrev encR_p_is_frame (y : Bool) : Out := .rt (.sh (PyData.bool y))
abbrev st_p_is_frame : Stmt := top 13
abbrev NN_p_is_frame : List Str := ["frame"]
theorem sc_p_is_frame : FnScope NN_p_is_frame ["frame"] (defScope st_p_is_frame) := ⟨rfl, rfl, rfl, by decide +kernel, rfl, by decide +kernel, by decide +kernel⟩
abbrev I_p_is_frame : List PyData → Rv → Prop := Im (fun (a : ((List Int))) => [(eT PyData.int) a]) (fun (y : Bool) => Rv.sh (PyData.bool y)) (fun a => p_is_frame a)
theorem fn_p_is_frame {P : Program} {w : World} {K : PySem.W.Frag} {mg : Str → Option Value} {base : Heap} {f : Addr} {fd : FuncData} (F : FunD K "is_frame" "is_frame" (defArgs st_p_is_frame) (defBody st_p_is_frame) (defScope st_p_is_frame) [] [] f fd) (hg : mg "is_frame" = some (.ref f)) (T : Tx K mg) (G_are_ties : Fn P w K mg base "are_ties" 1 I_p_are_ties) (G_in_round : Fn P w K mg base "in_round" 2 I_p_in_round) (G_nested : Fn P w K mg base "nested" 1 I_p_nested) : Fn P w K mg base "is_frame" 3 I_p_is_frame := by
  refine ⟨f, fd, ["frame"], fn_ok (N := NN_p_is_frame) (en := encR_p_is_frame) F sc_p_is_frame (fun _ => rfl) (fun _ => .inl rfl) (fun cdv A' outer s H E hr => ⟨_, (pss_cons (ps_ret (pe_and (pe_fn G_are_ties (hr.mono (by decide)) (by rfl) (pa_cons (pv 0) pa_nil)) (pe_one (pe_fn G_nested (hr.mono (by decide)) (by rfl) (pa_cons (pe_fn G_in_round (hr.mono (by decide)) (by rfl) (pa_cons (pv 0) pa_nil)) pa_nil))))) pss_never), fun v_frame => ?_⟩), hg, F.kp, F.bindsN fun _ _ _ _ _ _ us hl => match us, hl with | [_], _ => rfl⟩
  exact (show BX K _ [.sh ((eT PyData.int) v_frame)] encR_p_is_frame (p_is_frame v_frame) from
   (bx_bind fun u1 hu1 => (bx_bind fun c4 hc4 => (bx_retS ((exo_and (exo_some (e := PyData.bool) (ex_call (ea_cons (ex_var (i := 0) rfl) ea_nil) ⟨v_frame, u1, rfl, hu1, rfl⟩)) (exo_bind fun u2 hu2 => (exo_bind fun u3 hu3 => (exo_some (e := PyData.bool) (ex_call (ea_cons (EXw.sh (exw_call (ea_cons (ex_var (i := 0) rfl) ea_nil) ⟨v_frame, u2, rfl, hu2, rfl⟩)) ea_nil) ⟨u2, u3, rfl, hu3, rfl⟩))))) c4 hc4) rfl))))
abbrev encR_p_ask_frame (_ : Unit) : Out := .nx [.un]
abbrev st_p_ask_frame : Stmt := top 14
abbrev NN_p_ask_frame : List Str := ["frame"]
theorem sc_p_ask_frame : FnScope NN_p_ask_frame ["frame"] (defScope st_p_ask_frame) := ⟨rfl, rfl, rfl, by decide +kernel, rfl, by decide +kernel, by decide +kernel⟩
abbrev I_p_ask_frame : List PyData → Rv → Prop := Im (fun (a : ((List Int))) => [(eT PyData.int) a]) (fun (y : Unit) => Rv.sh (eN y)) (fun a => p_ask_frame a)
theorem fn_p_ask_frame {P : Program} {w : World} {K : PySem.W.Frag} {mg : Str → Option Value} {base : Heap} {f : Addr} {fd : FuncData} (F : FunD K "ask_frame" "ask_frame" (defArgs st_p_ask_frame) (defBody st_p_ask_frame) (defScope st_p_ask_frame) [] [] f fd) (hg : mg "ask_frame" = some (.ref f)) (T : Tx K mg) (G_is_frame : Fn P w K mg base "is_frame" 3 I_p_is_frame) : Fn P w K mg base "ask_frame" 4 I_p_ask_frame := by
  refine ⟨f, fd, ["frame"], fn_ok (N := NN_p_ask_frame) (en := encR_p_ask_frame) F sc_p_ask_frame (fun _ => rfl) (fun _ => .inr ⟨rfl, _, rfl⟩) (fun cdv A' outer s H E hr => ⟨_, (pss_cons (ps_if (pt_not (pt_val (pe_fn G_is_frame (hr.mono (by decide)) (by rfl) (pa_cons (pv 0) pa_nil)))) pss_never pss_nil) pss_nil), fun v_frame => ?_⟩), hg, F.kp, F.bindsN fun _ _ _ _ _ _ us hl => match us, hl with | [_], _ => rfl⟩
  exact (show BX K _ [.sh ((eT PyData.int) v_frame)] encR_p_ask_frame (p_ask_frame v_frame) from
   (bx_bind fun u1 hu1 => (bx_ifNo (et_not (et_B (ex_call (ea_cons (ex_var (i := 0) rfl) ea_nil) ⟨v_frame, u1, rfl, hu1, rfl⟩))) (fun _ => (bx_nx (.un .nil) rfl)))))
abbrev encR_p_is_half (y : Bool) : Out := .rt (.sh (PyData.bool y))
abbrev st_p_is_half : Stmt := top 16
abbrev NN_p_is_half : List Str := ["half", "open_ones", "peg", "other"]
theorem sc_p_is_half : FnScope NN_p_is_half ["half"] (defScope st_p_is_half) := ⟨rfl, rfl, rfl, by decide +kernel, rfl, by decide +kernel, by decide +kernel⟩
abbrev I_p_is_half : List PyData → Rv → Prop := Im (fun (a : ((List Int))) => [(eT PyData.int) a]) (fun (y : Bool) => Rv.sh (PyData.bool y)) (fun a => p_is_half a)
theorem fn_p_is_half {P : Program} {w : World} {K : PySem.W.Frag} {mg : Str → Option Value} {base : Heap} {f : Addr} {fd : FuncData} (F : FunD K "is_half" "is_half" (defArgs st_p_is_half) (defBody st_p_is_half) (defScope st_p_is_half) [] [] f fd) (hg : mg "is_half" = some (.ref f)) (T : Tx K mg)  : Fn P w K mg base "is_half" 1 I_p_is_half := by
  refine ⟨f, fd, ["half"], fn_ok (N := NN_p_is_half) (en := encR_p_is_half) F sc_p_is_half (fun _ => rfl) (fun _ => .inl rfl) (fun cdv A' outer s H E hr => ⟨_, (pss_cons (ps_if (pt_not (pt_chain op_le op_le pe_int (pe_callB (call_lenK (K := K)) (by rfl) T.len (by decide +kernel) (pa_cons (pv 0) pa_nil)) (pe_const (by rfl) T.MOST_PEGS))) (pss_cons (ps_ret pe_bl) pss_never) pss_nil) (pss_cons (ps_set (i := 1) sc_p_is_half.nd rfl (by first | exact Or.inl rfl | exact Or.inr rfl) (pe_lst pa_nil)) (pss_cons (ps_for PassesOwn.never rfl (pi_enumT (K := K) (by rfl) T.enumerate (pa_cons (pv 0) pa_nil)) (pg_tupK (K := K) (n := 2) (by rfl) (pgs_cons (pg_name (i := 2) sc_p_is_half.nd rfl (by first | exact Or.inl rfl | exact Or.inr rfl)) (pgs_cons (pg_name (i := 3) sc_p_is_half.nd rfl (by first | exact Or.inl rfl | exact Or.inr rfl)) pgs_nil))) (pss_cons (ps_if (PW.pt (pw_or (pt_not (pt_chain op_le op_lt pe_int (pv 3) (pe_callB (call_lenK (K := K)) (by rfl) T.len (by decide +kernel) (pa_cons (pv 0) pa_nil)))) (pw_or1 (pt_cmpR op_ne (pe_ix (ix_tupK (K := K)) (pv 0) (pv 3) (fun _ _ => rfl)) (pv 2) (nomark _))))) (pss_cons (ps_ret pe_bl) pss_never) pss_nil) (pss_cons (ps_if (pt_cmpR op_gt (pv 3) (pv 2) (nomark _)) (pss_cons (ps_expr (pe_bm PySem.F.plainAttrs_list PySem.F.slot_list_append PySem.F.type_list_append mt_append (pv 1) (pa_cons (pv 3) pa_nil))) pss_nil) (pss_cons (ps_if (PW.pt (pw_or (PW.pt (pw_and (pt_cmpR op_eq (pv 3) (pv 2) (nomark _)) (pw_and1 (pt_cmpR (op_neDK (K := K) hr.units) (pv 1) (pe_lst pa_nil) (nomark _))))) (pw_or1 (PW.pt (pw_and (pt_cmpR op_lt (pv 3) (pv 2) (nomark _)) (pw_and1 (pt_cmpR op_ne (pe_bm0 PySem.F.plainAttrs_list PySem.F.slot_list_pop PySem.F.type_list_pop mt_pop (pv 1)) (pv 2) (nomark _)))))))) (pss_cons (ps_ret pe_bl) pss_never) pss_nil) pss_nil)) pss_nil))) (pss_cons (ps_ret pe_bl) pss_never)))), fun v_half => ?_⟩), hg, F.kp, F.bindsN fun _ _ _ _ _ _ us hl => match us, hl with | [_], _ => rfl⟩
  exact (show BX K _ [.sh ((eT PyData.int) v_half), .un, .un, .un] encR_p_is_half (p_is_half v_half) from
   (bx_ifRet (et_not (et_of (ex_chain (p := fun i j => decide (i ≤ j)) (p' := fun i j => decide (i ≤ j)) (fun _ _ => rfl) (fun _ _ => rfl) ex_int (ex_lenT (ex_var (i := 0) rfl)) ex_int))) (fun _ => (bx_retS ex_bl rfl)) (fun _ _ _ h => nomatch h) (fun _ => (bx_asgW (exw_lst (ds := (([] : (List Int)) : (List Int)).map PyData.int) ea_nil (Nat.le_of_ble_eq_true rfl)) (bx_bindR (envS := (fun (s_1 : (List Int)) => [.sh ((eT PyData.int) v_half), .ow (s_1.map PyData.int), .un, .un])) (encR := encR_p_is_half) (bx_forR (encR := encR_p_is_half) (envS := (fun (s_1 : (List Int)) => [.sh ((eT PyData.int) v_half), .ow (s_1.map PyData.int), .un, .un])) (e := (eP PyData.int PyData.int)) (envB := (fun (s_1 : (List Int)) (x1 : (Int × Int)) => [.sh ((eT PyData.int) v_half), .ow (s_1.map PyData.int), .sh (PyData.int x1.1), .sh (PyData.int x1.2)])) (f := (p_is_half_for1 v_half)) (eis_enumT (ex_var (i := 0) rfl)) (.same (.same (.un (.un .nil)))) (fun _ => trivial) (fun s_1 x1 _ => EGc.eg (vs := [2, 3]) (egc_tup (egs_cons (egc_name (i := 2) (by decide)) (egs_cons (egc_name (i := 3) (by decide)) egs_nil)) rfl)) (fun s_1 x1 _ => (bx_bind fun c3 hc3 => (bx_ifRetM (encR := encR_p_is_half) ((eto_or (eto_some (et_not (et_of (ex_chain (p := fun i j => decide (i ≤ j)) (p' := fun i j => decide (i < j)) (fun _ _ => rfl) (fun _ _ => rfl) ex_int (ex_var (i := 3) rfl) (ex_lenT (ex_var (i := 0) rfl)))))) (eto_bind fun u2 hu2 => (eto_some (et_of (ex_neI (ex_ixT (ex_var (i := 0) rfl) (ex_var (i := 3) rfl) (atI_map hu2)) (ex_var (i := 2) rfl)))))) c3 hc3) (fun _ => (bx_retS ex_bl rfl)) (fun _ _ h => nomatch h) (fun _ => rfl) (fun _ => (bx_last (bx_if (et_of (ex_gt (ex_var (i := 3) rfl) (ex_var (i := 2) rfl))) (fun _ => (bx_bind fun u4 hu4 => (bx_app (e := PyData.int) (x := x1.2) rfl (ex_var (i := 3) rfl) hu4 (bx_nx (.same (.same (.un (.un .nil)))) rfl)))) (fun _ => (bx_last (bx_ifX (envS := (fun (y5 : (List Int)) => [.sh ((eT PyData.int) v_half), .ow (y5.map PyData.int), .sh (PyData.int x1.1), .sh (PyData.int x1.2)])) (m := fun y5 => (some (Sum.inr false))) (n := fun y5 => (some (Sum.inl y5))) (etx_or (et_and (et_of (ex_eqI (ex_var (i := 3) rfl) (ex_var (i := 2) rfl))) (et_of (ex_neT (x := (s_1 : (List Int))) (y := (([] : (List Int)) : (List Int))) (EnOk.list EnOk.int) (EXl.q (exl_var (i := 1) rfl)) (EXl.q (EXw.l (exw_lst (ds := (([] : (List Int)) : (List Int)).map PyData.int) ea_nil (Nat.le_of_ble_eq_true rfl))))))) rfl (etx_and (et_of (ex_lt (ex_var (i := 3) rfl) (ex_var (i := 2) rfl))) rfl (etx_popNe (i := 1) rfl (fun _ => rfl) (fun y5 => (ex_var (i := 2) rfl))))) (fun y5 => (bx_retS ex_bl rfl)) (fun y5 => (bx_nx (.same (.same (.un (.un .nil)))) rfl)))))))))))) (fun _ => rfl) (fun _ _ h => nomatch h) (fun s7 _ => (bx_retS ex_bl rfl)))))))
abbrev encR_p_ask_half (_ : Unit) : Out := .nx [.un]
abbrev st_p_ask_half : Stmt := top 17
abbrev NN_p_ask_half : List Str := ["half"]
theorem sc_p_ask_half : FnScope NN_p_ask_half ["half"] (defScope st_p_ask_half) := ⟨rfl, rfl, rfl, by decide +kernel, rfl, by decide +kernel, by decide +kernel⟩
abbrev I_p_ask_half : List PyData → Rv → Prop := Im (fun (a : ((List Int))) => [(eT PyData.int) a]) (fun (y : Unit) => Rv.sh (eN y)) (fun a => p_ask_half a)
theorem fn_p_ask_half {P : Program} {w : World} {K : PySem.W.Frag} {mg : Str → Option Value} {base : Heap} {f : Addr} {fd : FuncData} (F : FunD K "ask_half" "ask_half" (defArgs st_p_ask_half) (defBody st_p_ask_half) (defScope st_p_ask_half) [] [] f fd) (hg : mg "ask_half" = some (.ref f)) (T : Tx K mg) (G_is_half : Fn P w K mg base "is_half" 1 I_p_is_half) : Fn P w K mg base "ask_half" 2 I_p_ask_half := by
  refine ⟨f, fd, ["half"], fn_ok (N := NN_p_ask_half) (en := encR_p_ask_half) F sc_p_ask_half (fun _ => rfl) (fun _ => .inr ⟨rfl, _, rfl⟩) (fun cdv A' outer s H E hr => ⟨_, (pss_cons (ps_if (pt_not (pt_val (pe_fn G_is_half (hr.mono (by decide)) (by rfl) (pa_cons (pv 0) pa_nil)))) pss_never pss_nil) pss_nil), fun v_half => ?_⟩), hg, F.kp, F.bindsN fun _ _ _ _ _ _ us hl => match us, hl with | [_], _ => rfl⟩
  exact (show BX K _ [.sh ((eT PyData.int) v_half)] encR_p_ask_half (p_ask_half v_half) from
   (bx_bind fun u1 hu1 => (bx_ifNo (et_not (et_B (ex_call (ea_cons (ex_var (i := 0) rfl) ea_nil) ⟨v_half, u1, rfl, hu1, rfl⟩))) (fun _ => (bx_nx (.un .nil) rfl)))))
abbrev encR_p_ask_halves (_ : Unit) : Out := .nx [.un, .un]
abbrev st_p_ask_halves : Stmt := top 18
abbrev NN_p_ask_halves : List Str := ["one", "other"]
theorem sc_p_ask_halves : FnScope NN_p_ask_halves ["one", "other"] (defScope st_p_ask_halves) := ⟨rfl, rfl, rfl, by decide +kernel, rfl, by decide +kernel, by decide +kernel⟩
abbrev I_p_ask_halves : List PyData → Rv → Prop := Im (fun (a : ((List Int) × (List Int))) => [(eT PyData.int) a.1, (eT PyData.int) a.2]) (fun (y : Unit) => Rv.sh (eN y)) (fun a => p_ask_halves a.1 a.2)
theorem fn_p_ask_halves {P : Program} {w : World} {K : PySem.W.Frag} {mg : Str → Option Value} {base : Heap} {f : Addr} {fd : FuncData} (F : FunD K "ask_halves" "ask_halves" (defArgs st_p_ask_halves) (defBody st_p_ask_halves) (defScope st_p_ask_halves) [] [] f fd) (hg : mg "ask_halves" = some (.ref f)) (T : Tx K mg) (G_ask_half : Fn P w K mg base "ask_half" 2 I_p_ask_half) : Fn P w K mg base "ask_halves" 3 I_p_ask_halves := by
  refine ⟨f, fd, ["one", "other"], fn_ok (N := NN_p_ask_halves) (en := encR_p_ask_halves) F sc_p_ask_halves (fun _ => rfl) (fun _ => .inr ⟨rfl, _, rfl⟩) (fun cdv A' outer s H E hr => ⟨_, (pss_cons (ps_expr (pe_fn G_ask_half (hr.mono (by decide)) (by rfl) (pa_cons (pv 0) pa_nil))) (pss_cons (ps_expr (pe_fn G_ask_half (hr.mono (by decide)) (by rfl) (pa_cons (pv 1) pa_nil))) (pss_cons (ps_if (pt_cmpR op_ne (pe_callB (call_lenK (K := K)) (by rfl) T.len (by decide +kernel) (pa_cons (pv 0) pa_nil)) (pe_callB (call_lenK (K := K)) (by rfl) T.len (by decide +kernel) (pa_cons (pv 1) pa_nil)) (nomark _)) pss_never pss_nil) pss_nil))), fun a => ?_⟩), hg, F.kp, F.bindsN fun _ _ _ _ _ _ us hl => match us, hl with | [_, _], _ => rfl⟩
  obtain ⟨v_one, v_other⟩ := a
  exact (show BX K _ [.sh ((eT PyData.int) v_one), .sh ((eT PyData.int) v_other)] encR_p_ask_halves (p_ask_halves v_one v_other) from
   (bx_bind fun u1 hu1 => (bx_drop (ex_call (ea_cons (ex_var (i := 0) rfl) ea_nil) ⟨v_one, u1, rfl, hu1, rfl⟩) (bx_bind fun u2 hu2 => (bx_drop (ex_call (ea_cons (ex_var (i := 1) rfl) ea_nil) ⟨v_other, u2, rfl, hu2, rfl⟩) (bx_ifNo (et_of (ex_neI (ex_lenT (ex_var (i := 0) rfl)) (ex_lenT (ex_var (i := 1) rfl)))) (fun _ => (bx_nx (.un (.un .nil)) rfl))))))))
abbrev encR_p_upper (y : (List Int)) : Out := .rt (.sh ((eT PyData.int) y))
abbrev st_p_upper : Stmt := top 19
abbrev NN_p_upper : List Str := ["frame", "pegs", "peg"]
theorem sc_p_upper : FnScope NN_p_upper ["frame"] (defScope st_p_upper) := ⟨rfl, rfl, rfl, by decide +kernel, rfl, by decide +kernel, by decide +kernel⟩
abbrev I_p_upper : List PyData → Rv → Prop := Im (fun (a : ((List Int))) => [(eT PyData.int) a]) (fun (y : (List Int)) => Rv.sh ((eT PyData.int) y)) (fun a => p_upper a)
theorem fn_p_upper {P : Program} {w : World} {K : PySem.W.Frag} {mg : Str → Option Value} {base : Heap} {f : Addr} {fd : FuncData} (F : FunD K "upper" "upper" (defArgs st_p_upper) (defBody st_p_upper) (defScope st_p_upper) [] [] f fd) (hg : mg "upper" = some (.ref f)) (T : Tx K mg) (G_ask_frame : Fn P w K mg base "ask_frame" 4 I_p_ask_frame) : Fn P w K mg base "upper" 5 I_p_upper := by
  refine ⟨f, fd, ["frame"], fn_ok (N := NN_p_upper) (en := encR_p_upper) F sc_p_upper (fun _ => rfl) (fun _ => .inl rfl) (fun cdv A' outer s H E hr => ⟨_, (pss_cons (ps_expr (pe_fn G_ask_frame (hr.mono (by decide)) (by rfl) (pa_cons (pv 0) pa_nil))) (pss_cons (ps_set (i := 1) sc_p_upper.nd rfl (by first | exact Or.inl rfl | exact Or.inr rfl) (pe_op op_fdivW (pe_callB (call_lenK (K := K)) (by rfl) T.len (by decide +kernel) (pa_cons (pv 0) pa_nil)) pe_int)) (pss_cons (ps_ret (pe_callTy (call_tupleK (K := K)) (by rfl) T.tuple (by decide +kernel) (pa_cons (pe_lc (own := [("peg", 2)]) (tt := tYes) rfl sc_p_upper.nd (pi_range1 (by rfl) T.range (pa_cons (pv 1) pa_nil)) (blkOk_by (N := NN_p_upper) (sc := defScope st_p_upper) (by decide +kernel)) (fun _ _ _ _ _ => (pg_name (i := 2) sc_p_upper.nd rfl (by first | exact Or.inl rfl | exact Or.inr rfl))) (fun _ _ _ _ _ => pts_nil) (fun _ _ _ _ _ => (pe_ifExp (pt_cmpR op_lt (pe_ix (ix_tupK (K := K)) (pv 0) (pv 2) (fun _ _ => rfl)) (pv 1) (nomark _)) (pe_ix (ix_tupK (K := K)) (pv 0) (pv 2) (fun _ _ => rfl)) (pv 2)))) pa_nil))) pss_never))), fun v_frame => ?_⟩), hg, F.kp, F.bindsN fun _ _ _ _ _ _ us hl => match us, hl with | [_], _ => rfl⟩
  exact (show BX K _ [.sh ((eT PyData.int) v_frame), .un, .un] encR_p_upper (p_upper v_frame) from
   (bx_bind fun u1 hu1 => (bx_drop (ex_call (ea_cons (ex_var (i := 0) rfl) ea_nil) ⟨v_frame, u1, rfl, hu1, rfl⟩) (bx_asgB (e := PyData.int) (i := 1) (ex_fdiv (ex_lenT (ex_var (i := 0) rfl)) ex_int ⟨by decide, by decide +kernel⟩) (fun v_pegs_2 => (bx_bind fun g3 hg3 => (bx_bind fun u8 hu8 => (bx_retS (ex_tupL (EXw.l (exw_lc (e := PyData.int) (e' := PyData.int) (envB := (fun x4 => [.sh ((eT PyData.int) v_frame), .sh (PyData.int v_pegs_2), .sh (PyData.int x4)])) (EIs.i (eis_rng1 (ex_var (i := 1) rfl) (grd_ok hg3))) hu8 (fun x4 _ => (egc_name (i := 2) (by decide))) (fun x4 _ => (eto_some et_yes)) (fun x4 _ => (exo_bind fun u5 hu5 => (exo_bind fun c7 hc7 => (exo_some (e := PyData.int) (exo_if (e := PyData.int) (et_of (ex_lt (ex_ixT (ex_var (i := 0) rfl) (ex_var (i := 2) rfl) (atI_map hu5)) (ex_var (i := 1) rfl))) (fun _ => (exo_bind fun u6 hu6 => (exo_some (e := PyData.int) (ex_ixT (ex_var (i := 0) rfl) (ex_var (i := 2) rfl) (atI_map hu6))))) (fun _ => (exo_some (e := PyData.int) (ex_var (i := 2) rfl))) c7 hc7)))))))) rfl))))))))
abbrev encR_p_lower (y : (List Int)) : Out := .rt (.sh ((eT PyData.int) y))
abbrev st_p_lower : Stmt := top 20
abbrev NN_p_lower : List Str := ["frame", "pegs", "peg"]
theorem sc_p_lower : FnScope NN_p_lower ["frame"] (defScope st_p_lower) := ⟨rfl, rfl, rfl, by decide +kernel, rfl, by decide +kernel, by decide +kernel⟩
abbrev I_p_lower : List PyData → Rv → Prop := Im (fun (a : ((List Int))) => [(eT PyData.int) a]) (fun (y : (List Int)) => Rv.sh ((eT PyData.int) y)) (fun a => p_lower a)
theorem fn_p_lower {P : Program} {w : World} {K : PySem.W.Frag} {mg : Str → Option Value} {base : Heap} {f : Addr} {fd : FuncData} (F : FunD K "lower" "lower" (defArgs st_p_lower) (defBody st_p_lower) (defScope st_p_lower) [] [] f fd) (hg : mg "lower" = some (.ref f)) (T : Tx K mg) (G_ask_frame : Fn P w K mg base "ask_frame" 4 I_p_ask_frame) : Fn P w K mg base "lower" 5 I_p_lower := by
  refine ⟨f, fd, ["frame"], fn_ok (N := NN_p_lower) (en := encR_p_lower) F sc_p_lower (fun _ => rfl) (fun _ => .inl rfl) (fun cdv A' outer s H E hr => ⟨_, (pss_cons (ps_expr (pe_fn G_ask_frame (hr.mono (by decide)) (by rfl) (pa_cons (pv 0) pa_nil))) (pss_cons (ps_set (i := 1) sc_p_lower.nd rfl (by first | exact Or.inl rfl | exact Or.inr rfl) (pe_op op_fdivW (pe_callB (call_lenK (K := K)) (by rfl) T.len (by decide +kernel) (pa_cons (pv 0) pa_nil)) pe_int)) (pss_cons (ps_ret (pe_callTy (call_tupleK (K := K)) (by rfl) T.tuple (by decide +kernel) (pa_cons (pe_lc (own := [("peg", 2)]) (tt := tYes) rfl sc_p_lower.nd (pi_range1 (by rfl) T.range (pa_cons (pv 1) pa_nil)) (blkOk_by (N := NN_p_lower) (sc := defScope st_p_lower) (by decide +kernel)) (fun _ _ _ _ _ => (pg_name (i := 2) sc_p_lower.nd rfl (by first | exact Or.inl rfl | exact Or.inr rfl))) (fun _ _ _ _ _ => pts_nil) (fun _ _ _ _ _ => (pe_ifExp (pt_cmpR op_ge (pe_ix (ix_tupK (K := K)) (pv 0) (pe_op op_add (pv 1) (pv 2)) (fun _ _ => rfl)) (pv 1) (nomark _)) (pe_op op_sub (pe_ix (ix_tupK (K := K)) (pv 0) (pe_op op_add (pv 1) (pv 2)) (fun _ _ => rfl)) (pv 1)) (pv 2)))) pa_nil))) pss_never))), fun v_frame => ?_⟩), hg, F.kp, F.bindsN fun _ _ _ _ _ _ us hl => match us, hl with | [_], _ => rfl⟩
  exact (show BX K _ [.sh ((eT PyData.int) v_frame), .un, .un] encR_p_lower (p_lower v_frame) from
   (bx_bind fun u1 hu1 => (bx_drop (ex_call (ea_cons (ex_var (i := 0) rfl) ea_nil) ⟨v_frame, u1, rfl, hu1, rfl⟩) (bx_asgB (e := PyData.int) (i := 1) (ex_fdiv (ex_lenT (ex_var (i := 0) rfl)) ex_int ⟨by decide, by decide +kernel⟩) (fun v_pegs_2 => (bx_bind fun g3 hg3 => (bx_bind fun u8 hu8 => (bx_retS (ex_tupL (EXw.l (exw_lc (e := PyData.int) (e' := PyData.int) (envB := (fun x4 => [.sh ((eT PyData.int) v_frame), .sh (PyData.int v_pegs_2), .sh (PyData.int x4)])) (EIs.i (eis_rng1 (ex_var (i := 1) rfl) (grd_ok hg3))) hu8 (fun x4 _ => (egc_name (i := 2) (by decide))) (fun x4 _ => (eto_some et_yes)) (fun x4 _ => (exo_bind fun u5 hu5 => (exo_bind fun c7 hc7 => (exo_some (e := PyData.int) (exo_if (e := PyData.int) (et_of (ex_ge (ex_ixT (ex_var (i := 0) rfl) (ex_add (ex_var (i := 1) rfl) (ex_var (i := 2) rfl)) (atI_map hu5)) (ex_var (i := 1) rfl))) (fun _ => (exo_bind fun u6 hu6 => (exo_some (e := PyData.int) (ex_sub (ex_ixT (ex_var (i := 0) rfl) (ex_add (ex_var (i := 1) rfl) (ex_var (i := 2) rfl)) (atI_map hu6)) (ex_var (i := 1) rfl))))) (fun _ => (exo_some (e := PyData.int) (ex_var (i := 2) rfl))) c7 hc7)))))))) rfl))))))))
abbrev encR_p_going (y : (List Int)) : Out := .rt (.fr (y.map PyData.int))
abbrev st_p_going : Stmt := top 21
abbrev NN_p_going : List Str := ["half", "peg", "other"]
theorem sc_p_going : FnScope NN_p_going ["half"] (defScope st_p_going) := ⟨rfl, rfl, rfl, by decide +kernel, rfl, by decide +kernel, by decide +kernel⟩
abbrev I_p_going : List PyData → Rv → Prop := Im (fun (a : ((List Int))) => [(eT PyData.int) a]) (fun (y : (List Int)) => Rv.fr (y.map PyData.int)) (fun a => p_going a)
theorem fn_p_going {P : Program} {w : World} {K : PySem.W.Frag} {mg : Str → Option Value} {base : Heap} {f : Addr} {fd : FuncData} (F : FunD K "going" "going" (defArgs st_p_going) (defBody st_p_going) (defScope st_p_going) [] [] f fd) (hg : mg "going" = some (.ref f)) (T : Tx K mg)  : Fn P w K mg base "going" 1 I_p_going := by
  refine ⟨f, fd, ["half"], fn_ok (N := NN_p_going) (en := encR_p_going) F sc_p_going (fun _ => rfl) (fun _ => .inl rfl) (fun cdv A' outer s H E hr => ⟨_, (pss_cons (ps_ret (pe_lc (own := [("peg", 1), ("other", 2)]) rfl sc_p_going.nd (pi_enumT (K := K) (by rfl) T.enumerate (pa_cons (pv 0) pa_nil)) (blkOk_by (N := NN_p_going) (sc := defScope st_p_going) (by decide +kernel)) (fun _ _ _ _ _ => (pg_tupK (K := K) (n := 2) (by rfl) (pgs_cons (pg_name (i := 1) sc_p_going.nd rfl (by first | exact Or.inl rfl | exact Or.inr rfl)) (pgs_cons (pg_name (i := 2) sc_p_going.nd rfl (by first | exact Or.inl rfl | exact Or.inr rfl)) pgs_nil)))) (fun _ _ _ _ _ => (pts_one (pt_cmpR op_eq (pv 2) (pv 1) (nomark _)))) (fun _ _ _ _ _ => (pv 1)))) pss_never), fun v_half => ?_⟩), hg, F.kp, F.bindsN fun _ _ _ _ _ _ us hl => match us, hl with | [_], _ => rfl⟩
  exact (show BX K _ [.sh ((eT PyData.int) v_half), .un, .un] encR_p_going (p_going v_half) from
   (bx_retSW (exw_lcp (e := (eP PyData.int PyData.int)) (e' := PyData.int) (envB := (fun x1 => [.sh ((eT PyData.int) v_half), .sh (PyData.int x1.1), .sh (PyData.int x1.2)])) (EIs.i (eis_enumT (ex_var (i := 0) rfl))) (fun x1 _ => (egc_tup (egs_cons (egc_name (i := 1) (by decide)) (egs_cons (egc_name (i := 2) (by decide)) egs_nil)) rfl)) (fun x1 _ => (et_of (ex_eqI (ex_var (i := 2) rfl) (ex_var (i := 1) rfl)))) (fun x1 _ => (ex_var (i := 1) rfl))) rfl))
abbrev encR_p_made_of (y : (List Int)) : Out := .rt (.sh ((eT PyData.int) y))
abbrev st_p_made_of : Stmt := top 22
abbrev NN_p_made_of : List Str := ["one", "other", "pegs", "found", "high", "low", "end"]
theorem sc_p_made_of : FnScope NN_p_made_of ["one", "other"] (defScope st_p_made_of) := ⟨rfl, rfl, rfl, by decide +kernel, rfl, by decide +kernel, by decide +kernel⟩
abbrev I_p_made_of : List PyData → Rv → Prop := Im (fun (a : ((List Int) × (List Int))) => [(eT PyData.int) a.1, (eT PyData.int) a.2]) (fun (y : (List Int)) => Rv.sh ((eT PyData.int) y)) (fun a => p_made_of a.1 a.2)
theorem fn_p_made_of {P : Program} {w : World} {K : PySem.W.Frag} {mg : Str → Option Value} {base : Heap} {f : Addr} {fd : FuncData} (F : FunD K "made_of" "made_of" (defArgs st_p_made_of) (defBody st_p_made_of) (defScope st_p_made_of) [] [] f fd) (hg : mg "made_of" = some (.ref f)) (T : Tx K mg) (G_going : Fn P w K mg base "going" 1 I_p_going) : Fn P w K mg base "made_of" 2 I_p_made_of := by
  refine ⟨f, fd, ["one", "other"], fn_ok (N := NN_p_made_of) (en := encR_p_made_of) F sc_p_made_of (fun _ => rfl) (fun _ => .inl rfl) (fun cdv A' outer s H E hr => ⟨_, (pss_cons (ps_set (i := 2) sc_p_made_of.nd rfl (by first | exact Or.inl rfl | exact Or.inr rfl) (pe_callB (call_lenK (K := K)) (by rfl) T.len (by decide +kernel) (pa_cons (pv 0) pa_nil))) (pss_cons (ps_set (i := 3) sc_p_made_of.nd rfl (by first | exact Or.inl rfl | exact Or.inr rfl) (pe_op op_cat (pe_callTy (call_listK (K := K)) (by rfl) T.list (by decide +kernel) (pa_cons (pv 0) pa_nil)) (pe_lc (own := [("end", 6)]) (tt := tYes) rfl sc_p_made_of.nd (pi_tupK (K := K) (pv 1)) (blkOk_by (N := NN_p_made_of) (sc := defScope st_p_made_of) (by decide +kernel)) (fun _ _ _ _ _ => (pg_name (i := 6) sc_p_made_of.nd rfl (by first | exact Or.inl rfl | exact Or.inr rfl))) (fun _ _ _ _ _ => pts_nil) (fun _ _ _ _ _ => (pe_op op_add (pv 2) (pv 6)))))) (pss_cons (ps_for PassesOwn.never rfl (pi_zipK (K := K) (by rfl) T.zip (pa_cons (pe_fn G_going (hr.mono (by decide)) (by rfl) (pa_cons (pv 0) pa_nil)) (pa_cons (pe_fn G_going (hr.mono (by decide)) (by rfl) (pa_cons (pv 1) pa_nil)) pa_nil))) (pg_tupK (K := K) (n := 2) (by rfl) (pgs_cons (pg_name (i := 4) sc_p_made_of.nd rfl (by first | exact Or.inl rfl | exact Or.inr rfl)) (pgs_cons (pg_name (i := 5) sc_p_made_of.nd rfl (by first | exact Or.inl rfl | exact Or.inr rfl)) pgs_nil))) (pss_cons (ps_asg (pe_op op_add (pv 2) (pv 5)) (pg_sub (pv 3) (pv 4) set_list)) (pss_cons (ps_asg (pv 4) (pg_sub (pv 3) (pe_op op_add (pv 2) (pv 5)) set_list)) pss_nil))) (pss_cons (ps_ret (pe_callTy (call_tupleK (K := K)) (by rfl) T.tuple (by decide +kernel) (pa_cons (pv 3) pa_nil))) pss_never)))), fun a => ?_⟩), hg, F.kp, F.bindsN fun _ _ _ _ _ _ us hl => match us, hl with | [_, _], _ => rfl⟩
  obtain ⟨v_one, v_other⟩ := a
  exact (show BX K _ [.sh ((eT PyData.int) v_one), .sh ((eT PyData.int) v_other), .un, .un, .un, .un, .un] encR_p_made_of (p_made_of v_one v_other) from
   (bx_asgB (e := PyData.int) (i := 2) (ex_lenT (ex_var (i := 0) rfl)) (fun v_pegs_1 => (bx_bind fun g3 hg3 => (bx_asgWB (e := PyData.int) (i := 3) (exw_catT (EXw.l (exw_listT (ex_var (i := 0) rfl))) (EXw.l (exw_lcm (e := PyData.int) (e' := PyData.int) (envB := (fun x2 => [.sh ((eT PyData.int) v_one), .sh ((eT PyData.int) v_other), .sh (PyData.int v_pegs_1), .un, .un, .un, .sh (PyData.int x2)])) (EIs.i (eis_tup (ex_var (i := 1) rfl))) (fun x2 _ => (egc_name (i := 6) (by decide))) (fun x2 _ => (ex_add (ex_var (i := 2) rfl) (ex_var (i := 6) rfl))))) (grd_ok hg3)) (fun v_found_4 => (bx_bind fun u5 hu5 => (bx_bind fun u6 hu6 => (bx_then (envS := (fun (s_1 : (List Int)) => [.sh ((eT PyData.int) v_one), .sh ((eT PyData.int) v_other), .sh (PyData.int v_pegs_1), .ow (s_1.map PyData.int), .un, .un, .un])) (bx_forS (envS := (fun (s_1 : (List Int)) => [.sh ((eT PyData.int) v_one), .sh ((eT PyData.int) v_other), .sh (PyData.int v_pegs_1), .ow (s_1.map PyData.int), .un, .un, .un])) (e := (eP PyData.int PyData.int)) (envB := (fun (s_1 : (List Int)) (x7 : (Int × Int)) => [.sh ((eT PyData.int) v_one), .sh ((eT PyData.int) v_other), .sh (PyData.int v_pegs_1), .ow (s_1.map PyData.int), .sh (PyData.int x7.1), .sh (PyData.int x7.2), .un])) (f := (p_made_of_for1 v_pegs_1)) (eis_zipL (EXw.sh (exw_call (ea_cons (ex_var (i := 0) rfl) ea_nil) ⟨v_one, u5, rfl, hu5, rfl⟩)) (EXw.sh (exw_call (ea_cons (ex_var (i := 1) rfl) ea_nil) ⟨v_other, u6, rfl, hu6, rfl⟩))) (.same (.same (.same (.same (.un (.un (.un .nil))))))) (fun s_1 x7 _ => EGc.eg (vs := [4, 5]) (egc_tup (egs_cons (egc_name (i := 4) (by decide)) (egs_cons (egc_name (i := 5) (by decide)) egs_nil)) rfl)) (fun s_1 x7 _ => (bx_bind fun u8 hu8 => (bx_asg (d := PyData.int (v_pegs_1 + x7.2)) (ex_add (ex_var (i := 2) rfl) (ex_var (i := 5) rfl)) (eg_setI (e := PyData.int) rfl (ex_var (i := 4) rfl) hu8) (bx_bind fun u9 hu9 => (bx_asg (d := PyData.int x7.1) (ex_var (i := 4) rfl) (eg_setI (e := PyData.int) rfl (ex_add (ex_var (i := 2) rfl) (ex_var (i := 5) rfl)) hu9) (bx_nx (.same (.same (.same (.same (.un (.un (.un .nil))))))) rfl))))))) (fun s10 _ => (bx_retS (ex_tupL (exl_var (i := 3) rfl)) rfl)))))))))))
abbrev encR_p_joined (y : (List Int)) : Out := .rt (.sh ((eT PyData.int) y))
abbrev st_p_joined : Stmt := top 23
abbrev NN_p_joined : List Str := ["one", "other"]
theorem sc_p_joined : FnScope NN_p_joined ["one", "other"] (defScope st_p_joined) := ⟨rfl, rfl, rfl, by decide +kernel, rfl, by decide +kernel, by decide +kernel⟩
abbrev I_p_joined : List PyData → Rv → Prop := Im (fun (a : ((List Int) × (List Int))) => [(eT PyData.int) a.1, (eT PyData.int) a.2]) (fun (y : (List Int)) => Rv.sh ((eT PyData.int) y)) (fun a => p_joined a.1 a.2)
theorem fn_p_joined {P : Program} {w : World} {K : PySem.W.Frag} {mg : Str → Option Value} {base : Heap} {f : Addr} {fd : FuncData} (F : FunD K "joined" "joined" (defArgs st_p_joined) (defBody st_p_joined) (defScope st_p_joined) [] [] f fd) (hg : mg "joined" = some (.ref f)) (T : Tx K mg) (G_ask_halves : Fn P w K mg base "ask_halves" 3 I_p_ask_halves) (G_going : Fn P w K mg base "going" 1 I_p_going) (G_made_of : Fn P w K mg base "made_of" 2 I_p_made_of) : Fn P w K mg base "joined" 4 I_p_joined := by
  refine ⟨f, fd, ["one", "other"], fn_ok (N := NN_p_joined) (en := encR_p_joined) F sc_p_joined (fun _ => rfl) (fun _ => .inl rfl) (fun cdv A' outer s H E hr => ⟨_, (pss_cons (ps_expr (pe_fn G_ask_halves (hr.mono (by decide)) (by rfl) (pa_cons (pv 0) (pa_cons (pv 1) pa_nil)))) (pss_cons (ps_if (pt_cmpR op_ne (pe_callB (call_lenK (K := K)) (by rfl) T.len (by decide +kernel) (pa_cons (pe_fn G_going (hr.mono (by decide)) (by rfl) (pa_cons (pv 0) pa_nil)) pa_nil)) (pe_callB (call_lenK (K := K)) (by rfl) T.len (by decide +kernel) (pa_cons (pe_fn G_going (hr.mono (by decide)) (by rfl) (pa_cons (pv 1) pa_nil)) pa_nil)) (nomark _)) pss_never pss_nil) (pss_cons (ps_ret (pe_fn G_made_of (hr.mono (by decide)) (by rfl) (pa_cons (pv 0) (pa_cons (pv 1) pa_nil)))) pss_never))), fun a => ?_⟩), hg, F.kp, F.bindsN fun _ _ _ _ _ _ us hl => match us, hl with | [_, _], _ => rfl⟩
  obtain ⟨v_one, v_other⟩ := a
  exact (show BX K _ [.sh ((eT PyData.int) v_one), .sh ((eT PyData.int) v_other)] encR_p_joined (p_joined v_one v_other) from
   (bx_bind fun u1 hu1 => (bx_drop (ex_call (ea_cons (ex_var (i := 0) rfl) (ea_cons (ex_var (i := 1) rfl) ea_nil)) ⟨(v_one, v_other), u1, rfl, hu1, rfl⟩) (bx_bind fun u2 hu2 => (bx_bind fun u3 hu3 => (bx_ifNo (et_of (ex_neI (ex_lenL (EXw.l (exw_call (ea_cons (ex_var (i := 0) rfl) ea_nil) ⟨v_one, u2, rfl, hu2, rfl⟩))) (ex_lenL (EXw.l (exw_call (ea_cons (ex_var (i := 1) rfl) ea_nil) ⟨v_other, u3, rfl, hu3, rfl⟩))))) (fun _ => (bx_bind fun u4 hu4 => (bx_retS (ex_call (ea_cons (ex_var (i := 0) rfl) (ea_cons (ex_var (i := 1) rfl) ea_nil)) ⟨(v_one, v_other), u4, rfl, hu4, rfl⟩) rfl)))))))))
abbrev encR_p_ways_on (y : (List Int)) : Out := .rt (.fr (y.map PyData.int))
abbrev st_p_ways_on : Stmt := top 25
abbrev NN_p_ways_on : List Str := ["left", "ways", "turn", "more", "deep"]
theorem sc_p_ways_on : FnScope NN_p_ways_on ["left"] (defScope st_p_ways_on) := ⟨rfl, rfl, rfl, by decide +kernel, rfl, by decide +kernel, by decide +kernel⟩
abbrev I_p_ways_on : List PyData → Rv → Prop := Im (fun (a : (Int)) => [PyData.int a]) (fun (y : (List Int)) => Rv.fr (y.map PyData.int)) (fun a => p_ways_on a)
theorem fn_p_ways_on {P : Program} {w : World} {K : PySem.W.Frag} {mg : Str → Option Value} {base : Heap} {f : Addr} {fd : FuncData} (F : FunD K "ways_on" "ways_on" (defArgs st_p_ways_on) (defBody st_p_ways_on) (defScope st_p_ways_on) [] [] f fd) (hg : mg "ways_on" = some (.ref f)) (T : Tx K mg)  : Fn P w K mg base "ways_on" 1 I_p_ways_on := by
  refine ⟨f, fd, ["left"], fn_ok (N := NN_p_ways_on) (en := encR_p_ways_on) F sc_p_ways_on (fun _ => rfl) (fun _ => .inl rfl) (fun cdv A' outer s H E hr => ⟨_, (pss_cons (ps_set (i := 1) sc_p_ways_on.nd rfl (by first | exact Or.inl rfl | exact Or.inr rfl) (pe_lst (pa_cons pe_int pa_nil))) (pss_cons (ps_for PassesOwn.never rfl (pi_range1 (by rfl) T.range (pa_cons (pv 0) pa_nil)) (pg_name (i := 2) sc_p_ways_on.nd rfl (by first | exact Or.inl rfl | exact Or.inr rfl)) (pss_cons (ps_set (i := 3) sc_p_ways_on.nd rfl (by first | exact Or.inl rfl | exact Or.inr rfl) (pe_op op_cat (pv 1) (pe_lst (pa_cons pe_int (pa_cons pe_int pa_nil))))) (pss_cons (ps_setLc (i := 1) (own := [("deep", 4)]) (tt := tYes) rfl sc_p_ways_on.nd rfl rfl (sw_true rfl rfl rfl (by decide +kernel)) (pi_range1 (by rfl) T.range (pa_cons (pe_op op_add (pe_callB (call_lenK (K := K)) (by rfl) T.len (by decide +kernel) (pa_cons (pv 1) pa_nil)) pe_int) pa_nil)) (blkOk_by (N := NN_p_ways_on) (sc := defScope st_p_ways_on) (by decide +kernel)) (fun _ _ _ _ _ => (pg_name (i := 4) sc_p_ways_on.nd rfl (by first | exact Or.inl rfl | exact Or.inr rfl))) (fun _ _ _ _ _ => pts_nil) (fun _ _ _ _ _ => (pe_op op_add (pe_ix (ix_listK (K := K)) (pv 3) (pe_op op_add (pv 4) pe_int) (fun _ _ => rfl)) (pe_ifExp (pt_cmpR op_gt (pv 4) pe_int (nomark _)) (pe_ix (ix_listK (K := K)) (pv 3) (pe_op op_sub (pv 4) pe_int) (fun _ _ => rfl)) pe_int)))) pss_nil))) (pss_cons (ps_ret (pe_op op_cat (pv 1) (pe_lst (pa_cons pe_int (pa_cons pe_int pa_nil))))) pss_never))), fun v_left => ?_⟩), hg, F.kp, F.bindsN fun _ _ _ _ _ _ us hl => match us, hl with | [_], _ => rfl⟩
  exact (show BX K _ [.sh (PyData.int v_left), .un, .un, .un, .un] encR_p_ways_on (p_ways_on v_left) from
   (bx_asgB (e := (eL PyData.int)) (i := 1) (EXw.sh (exw_lst (ds := ([(1 : Int)] : (List Int)).map PyData.int) (ea_cons ex_int ea_nil) (Nat.le_of_ble_eq_true rfl))) (fun v_ways_1 => (bx_bind fun g2 hg2 => (bx_then (envS := (fun (s_1 : (List Int)) => [.sh (PyData.int v_left), .sh ((eL PyData.int) s_1), .un, .un, .un])) (bx_forS (envS := (fun (s_1 : (List Int)) => [.sh (PyData.int v_left), .sh ((eL PyData.int) s_1), .un, .un, .un])) (e := PyData.int) (envB := (fun (s_1 : (List Int)) (x3 : Int) => [.sh (PyData.int v_left), .sh ((eL PyData.int) s_1), .sh (PyData.int x3), .un, .un])) (f := p_ways_on_for1) (eis_rng1 (ex_var (i := 0) rfl) (grd_ok hg2)) (.same (.same (.un (.un (.un .nil))))) (fun s_1 x3 _ => EGc.eg (vs := [2]) (egc_name (i := 2) (by decide))) (fun s_1 x3 _ => (bx_bind fun g4 hg4 => (bx_asgB (e := (eL PyData.int)) (i := 3) (EXw.sh (exw_catT (EX.l (ex_var (i := 1) rfl)) (EXw.l (exw_lst (ds := ([(0 : Int), (0 : Int)] : (List Int)).map PyData.int) (ea_cons ex_int (ea_cons ex_int ea_nil)) (Nat.le_of_ble_eq_true rfl))) (grd_ok hg4))) (fun v_more_5 => (bx_bind fun g6 hg6 => (bx_bind fun u11 hu11 => (bx_asg (d := (eL PyData.int) u11) (EXw.sh (exw_lc (e := PyData.int) (e' := PyData.int) (envB := (fun x7 => [.sh (PyData.int v_left), .sh ((eL PyData.int) s_1), .sh (PyData.int x3), .sh ((eL PyData.int) v_more_5), .sh (PyData.int x7)])) (EIs.i (eis_rng1 (ex_add (ex_lenL (EX.l (ex_var (i := 1) rfl))) ex_int) (grd_ok hg6))) hu11 (fun x7 _ => (egc_name (i := 4) (by decide))) (fun x7 _ => (eto_some et_yes)) (fun x7 _ => (exo_bind fun u8 hu8 => (exo_bind fun c10 hc10 => (exo_some (e := PyData.int) (ex_add (ex_ixL (EX.l (ex_var (i := 3) rfl)) (ex_add (ex_var (i := 4) rfl) ex_int) (atI_map hu8)) (exo_if (e := PyData.int) (et_of (ex_gt (ex_var (i := 4) rfl) ex_int)) (fun _ => (exo_bind fun u9 hu9 => (exo_some (e := PyData.int) (ex_ixL (EX.l (ex_var (i := 3) rfl)) (ex_sub (ex_var (i := 4) rfl) ex_int) (atI_map hu9))))) (fun _ => (exo_some (e := PyData.int) ex_int)) c10 hc10)))))))) (EGc.eg (egc_name (i := 1) (vs := [1]) (by decide))) (bx_nx (.same (.same (.un (.un (.un .nil))))) rfl))))))))) (fun s12 _ => (bx_bind fun g13 hg13 => (bx_retSW (exw_catT (EX.l (ex_var (i := 1) rfl)) (EXw.l (exw_lst (ds := ([(0 : Int), (0 : Int)] : (List Int)).map PyData.int) (ea_cons ex_int (ea_cons ex_int ea_nil)) (Nat.le_of_ble_eq_true rfl))) (grd_ok hg13)) rfl))))))))
abbrev encR_p_how_many (y : Int) : Out := .rt (.sh (PyData.int y))
abbrev st_p_how_many : Stmt := top 26
abbrev NN_p_how_many : List Str := ["pegs"]
theorem sc_p_how_many : FnScope NN_p_how_many ["pegs"] (defScope st_p_how_many) := ⟨rfl, rfl, rfl, by decide +kernel, rfl, by decide +kernel, by decide +kernel⟩
abbrev I_p_how_many : List PyData → Rv → Prop := Im (fun (a : (Int)) => [PyData.int a]) (fun (y : Int) => Rv.sh (PyData.int y)) (fun a => p_how_many a)
theorem fn_p_how_many {P : Program} {w : World} {K : PySem.W.Frag} {mg : Str → Option Value} {base : Heap} {f : Addr} {fd : FuncData} (F : FunD K "how_many" "how_many" (defArgs st_p_how_many) (defBody st_p_how_many) (defScope st_p_how_many) [] [] f fd) (hg : mg "how_many" = some (.ref f)) (T : Tx K mg) (G_ask_pegs : Fn P w K mg base "ask_pegs" 1 I_p_ask_pegs) (G_ways_on : Fn P w K mg base "ways_on" 1 I_p_ways_on) : Fn P w K mg base "how_many" 2 I_p_how_many := by
  refine ⟨f, fd, ["pegs"], fn_ok (N := NN_p_how_many) (en := encR_p_how_many) F sc_p_how_many (fun _ => rfl) (fun _ => .inl rfl) (fun cdv A' outer s H E hr => ⟨_, (pss_cons (ps_expr (pe_fn G_ask_pegs (hr.mono (by decide)) (by rfl) (pa_cons (pv 0) pa_nil))) (pss_cons (ps_ret (pe_ix (ix_listK (K := K)) (pe_fn G_ways_on (hr.mono (by decide)) (by rfl) (pa_cons (pe_op op_mul pe_int (pv 0)) pa_nil)) pe_int (fun _ _ => rfl))) pss_never)), fun v_pegs => ?_⟩), hg, F.kp, F.bindsN fun _ _ _ _ _ _ us hl => match us, hl with | [_], _ => rfl⟩
  exact (show BX K _ [.sh (PyData.int v_pegs)] encR_p_how_many (p_how_many v_pegs) from
   (bx_bind fun u1 hu1 => (bx_drop (ex_call (ea_cons (ex_var (i := 0) rfl) ea_nil) ⟨v_pegs, u1, rfl, hu1, rfl⟩) (bx_bind fun u2 hu2 => (bx_bind fun u3 hu3 => (bx_retS (ex_ixL (EXw.l (exw_call (ea_cons (ex_mul ex_int (ex_var (i := 0) rfl) (.inl ⟨by decide, by decide⟩)) ea_nil) ⟨((2 : Int) * v_pegs), u2, rfl, hu2, rfl⟩)) ex_int (atI_map hu3)) rfl))))))
abbrev encR_p_texts (y : (List Str)) : Out := .rt (.fr (y.map PyData.str))
abbrev st_p_texts : Stmt := top 27
abbrev NN_p_texts : List Str := ["pegs", "through", "found", "turn", "more", "text", "deep", "gone"]
theorem sc_p_texts : FnScope NN_p_texts ["pegs", "through"] (defScope st_p_texts) := ⟨rfl, rfl, rfl, by decide +kernel, rfl, by decide +kernel, by decide +kernel⟩
abbrev I_p_texts : List PyData → Rv → Prop := Im (fun (a : (Int × Int)) => [PyData.int a.1, PyData.int a.2]) (fun (y : (List Str)) => Rv.fr (y.map PyData.str)) (fun a => p_texts a.1 a.2)
theorem fn_p_texts {P : Program} {w : World} {K : PySem.W.Frag} {mg : Str → Option Value} {base : Heap} {f : Addr} {fd : FuncData} (F : FunD K "texts" "texts" (defArgs st_p_texts) (defBody st_p_texts) (defScope st_p_texts) [] [] f fd) (hg : mg "texts" = some (.ref f)) (T : Tx K mg)  : Fn P w K mg base "texts" 1 I_p_texts := by
  refine ⟨f, fd, ["pegs", "through"], fn_ok (N := NN_p_texts) (en := encR_p_texts) F sc_p_texts (fun _ => rfl) (fun _ => .inl rfl) (fun cdv A' outer s H E hr => ⟨_, (pss_cons (ps_set (i := 2) sc_p_texts.nd rfl (by first | exact Or.inl rfl | exact Or.inr rfl) (pe_lst (pa_cons (pe_tup (pa_cons pe_str (pa_cons pe_int (pa_cons pe_int pa_nil)))) pa_nil))) (pss_cons (ps_for PassesOwn.never rfl (pi_range1 (by rfl) T.range (pa_cons (pv 0) pa_nil)) (pg_name (i := 3) sc_p_texts.nd rfl (by first | exact Or.inl rfl | exact Or.inr rfl)) (pss_cons (ps_set (i := 4) sc_p_texts.nd rfl (by first | exact Or.inl rfl | exact Or.inr rfl) (pe_lst pa_nil)) (pss_cons (ps_for PassesOwn.never rfl (pi_listK (K := K) (pv 2)) (pg_tupK (K := K) (n := 3) (by rfl) (pgs_cons (pg_name (i := 5) sc_p_texts.nd rfl (by first | exact Or.inl rfl | exact Or.inr rfl)) (pgs_cons (pg_name (i := 6) sc_p_texts.nd rfl (by first | exact Or.inl rfl | exact Or.inr rfl)) (pgs_cons (pg_name (i := 7) sc_p_texts.nd rfl (by first | exact Or.inl rfl | exact Or.inr rfl)) pgs_nil)))) (pss_cons (ps_expr (pe_bm PySem.F.plainAttrs_list PySem.F.slot_list_append PySem.F.type_list_append mt_append (pv 4) (pa_cons (pe_tup (pa_cons (pe_op op_add_str (pv 5) pe_str) (pa_cons (pe_op op_add (pv 6) pe_int) (pa_cons (pv 7) pa_nil)))) pa_nil))) (pss_cons (ps_if (pt_cmpR op_gt (pv 6) pe_int (nomark _)) (pss_cons (ps_expr (pe_bm PySem.F.plainAttrs_list PySem.F.slot_list_append PySem.F.type_list_append mt_append (pv 4) (pa_cons (pe_tup (pa_cons (pe_op op_add_str (pv 5) pe_str) (pa_cons (pe_op op_sub (pv 6) pe_int) (pa_cons (pv 7) pa_nil)))) pa_nil))) pss_nil) (pss_cons (ps_if (pt_cmpR op_lt (pv 7) (pv 1) (nomark _)) (pss_cons (ps_expr (pe_bm PySem.F.plainAttrs_list PySem.F.slot_list_append PySem.F.type_list_append mt_append (pv 4) (pa_cons (pe_tup (pa_cons (pe_op op_add_str (pv 5) pe_str) (pa_cons (pv 6) (pa_cons (pe_op op_add (pv 7) pe_int) pa_nil)))) pa_nil))) pss_nil) pss_nil) pss_nil)) pss_nil))) (pss_cons (ps_set (i := 2) sc_p_texts.nd rfl (by first | exact Or.inl rfl | exact Or.inr rfl) (pv 4)) pss_nil)))) (pss_cons (ps_ret (pe_lc (own := [("text", 5), ("deep", 6), ("gone", 7)]) rfl sc_p_texts.nd (pi_listK (K := K) (pv 2)) (blkOk_by (N := NN_p_texts) (sc := defScope st_p_texts) (by decide +kernel)) (fun _ _ _ _ _ => (pg_tupK (K := K) (n := 3) (by rfl) (pgs_cons (pg_name (i := 5) sc_p_texts.nd rfl (by first | exact Or.inl rfl | exact Or.inr rfl)) (pgs_cons (pg_name (i := 6) sc_p_texts.nd rfl (by first | exact Or.inl rfl | exact Or.inr rfl)) (pgs_cons (pg_name (i := 7) sc_p_texts.nd rfl (by first | exact Or.inl rfl | exact Or.inr rfl)) pgs_nil))))) (fun _ _ _ _ _ => (pts_one (PW.pt (pw_and (pt_cmpR op_eq (pv 6) pe_int (nomark _)) (pw_and1 (pt_cmpR op_eq (pv 7) (pv 1) (nomark _))))))) (fun _ _ _ _ _ => (pv 5)))) pss_never))), fun a => ?_⟩), hg, F.kp, F.bindsN fun _ _ _ _ _ _ us hl => match us, hl with | [_, _], _ => rfl⟩
  obtain ⟨v_pegs, v_through⟩ := a
  exact (show BX K _ [.sh (PyData.int v_pegs), .sh (PyData.int v_through), .un, .un, .un, .un, .un, .un] encR_p_texts (p_texts v_pegs v_through) from
   (bx_asgB (e := (eL (eP3 PyData.str PyData.int PyData.int))) (i := 2) (EXw.sh (exw_lst (ds := ([((Str.ofString ""), (0 : Int), (0 : Int))] : (List (Str × Int × Int))).map (eP3 PyData.str PyData.int PyData.int)) (ea_cons (ex_tup (ea_cons (ex_str (Nat.le_of_ble_eq_true rfl)) (ea_cons ex_int (ea_cons ex_int ea_nil))) (Nat.le_of_ble_eq_true rfl)) ea_nil) (Nat.le_of_ble_eq_true rfl))) (fun v_found_1 => (bx_bind fun g2 hg2 => (bx_then (envS := (fun (s_1 : (List (Str × Int × Int))) => [.sh (PyData.int v_pegs), .sh (PyData.int v_through), .sh ((eL (eP3 PyData.str PyData.int PyData.int)) s_1), .un, .un, .un, .un, .un])) (bx_forS (envS := (fun (s_1 : (List (Str × Int × Int))) => [.sh (PyData.int v_pegs), .sh (PyData.int v_through), .sh ((eL (eP3 PyData.str PyData.int PyData.int)) s_1), .un, .un, .un, .un, .un])) (e := PyData.int) (envB := (fun (s_1 : (List (Str × Int × Int))) (x3 : Int) => [.sh (PyData.int v_pegs), .sh (PyData.int v_through), .sh ((eL (eP3 PyData.str PyData.int PyData.int)) s_1), .sh (PyData.int x3), .un, .un, .un, .un])) (f := (p_texts_for1 v_through)) (eis_rng1 (ex_var (i := 0) rfl) (grd_ok hg2)) (.same (.same (.same (.un (.un (.un (.un (.un .nil)))))))) (fun s_1 x3 _ => EGc.eg (vs := [3]) (egc_name (i := 3) (by decide))) (fun s_1 x3 _ => (bx_asgW (exw_lst (ds := (([] : (List (Str × Int × Int))) : (List (Str × Int × Int))).map (eP3 PyData.str PyData.int PyData.int)) ea_nil (Nat.le_of_ble_eq_true rfl)) (bx_then (envS := (fun (s_2 : (List (Str × Int × Int))) => [.sh (PyData.int v_pegs), .sh (PyData.int v_through), .sh ((eL (eP3 PyData.str PyData.int PyData.int)) s_1), .sh (PyData.int x3), .ow (s_2.map (eP3 PyData.str PyData.int PyData.int)), .un, .un, .un])) (bx_forS (envS := (fun (s_2 : (List (Str × Int × Int))) => [.sh (PyData.int v_pegs), .sh (PyData.int v_through), .sh ((eL (eP3 PyData.str PyData.int PyData.int)) s_1), .sh (PyData.int x3), .ow (s_2.map (eP3 PyData.str PyData.int PyData.int)), .un, .un, .un])) (e := (eP3 PyData.str PyData.int PyData.int)) (envB := (fun (s_2 : (List (Str × Int × Int))) (x4 : (Str × Int × Int)) => [.sh (PyData.int v_pegs), .sh (PyData.int v_through), .sh ((eL (eP3 PyData.str PyData.int PyData.int)) s_1), .sh (PyData.int x3), .ow (s_2.map (eP3 PyData.str PyData.int PyData.int)), .sh (PyData.str x4.1), .sh (PyData.int x4.2.1), .sh (PyData.int x4.2.2)])) (f := (p_texts_for2 v_through)) (eis_list (ex_var (i := 2) rfl)) (.same (.same (.same (.same (.same (.un (.un (.un .nil)))))))) (fun s_2 x4 _ => EGc.eg (vs := [5, 6, 7]) (egc_tup (egs_cons (egc_name (i := 5) (by decide)) (egs_cons (egc_name (i := 6) (by decide)) (egs_cons (egc_name (i := 7) (by decide)) egs_nil))) rfl)) (fun s_2 x4 _ => (bx_bind fun g5 hg5 => (bx_bind fun u6 hu6 => (bx_app (e := (eP3 PyData.str PyData.int PyData.int)) (x := ((x4.1 ++ (Str.ofString "(")), (x4.2.1 + (1 : Int)), x4.2.2)) rfl (ex_tup (ea_cons (ex_addST (ex_var (i := 5) rfl) (ex_str (Nat.le_of_ble_eq_true rfl)) (grd_ok hg5)) (ea_cons (ex_add (ex_var (i := 6) rfl) ex_int) (ea_cons (ex_var (i := 7) rfl) ea_nil))) (Nat.le_of_ble_eq_true rfl)) hu6 (bx_last (bx_if (et_of (ex_gt (ex_var (i := 6) rfl) ex_int)) (fun _ => (bx_bind fun g7 hg7 => (bx_bind fun u8 hu8 => (bx_app (e := (eP3 PyData.str PyData.int PyData.int)) (x := ((x4.1 ++ (Str.ofString ")")), (x4.2.1 - (1 : Int)), x4.2.2)) rfl (ex_tup (ea_cons (ex_addST (ex_var (i := 5) rfl) (ex_str (Nat.le_of_ble_eq_true rfl)) (grd_ok hg7)) (ea_cons (ex_sub (ex_var (i := 6) rfl) ex_int) (ea_cons (ex_var (i := 7) rfl) ea_nil))) (Nat.le_of_ble_eq_true rfl)) hu8 (bx_nx (.same (.same (.same (.same (.same (.un (.un (.un .nil)))))))) rfl))))) (fun _ => (bx_last (bx_if (et_of (ex_lt (ex_var (i := 7) rfl) (ex_var (i := 1) rfl))) (fun _ => (bx_bind fun g9 hg9 => (bx_bind fun u10 hu10 => (bx_app (e := (eP3 PyData.str PyData.int PyData.int)) (x := ((x4.1 ++ (Str.ofString "|")), x4.2.1, (x4.2.2 + (1 : Int)))) rfl (ex_tup (ea_cons (ex_addST (ex_var (i := 5) rfl) (ex_str (Nat.le_of_ble_eq_true rfl)) (grd_ok hg9)) (ea_cons (ex_var (i := 6) rfl) (ea_cons (ex_add (ex_var (i := 7) rfl) ex_int) ea_nil))) (Nat.le_of_ble_eq_true rfl)) hu10 (bx_nx (.same (.same (.same (.same (.same (.un (.un (.un .nil)))))))) rfl))))) (fun _ => (bx_nx (.same (.same (.same (.same (.same (.un (.un (.un .nil)))))))) rfl)))))))))))) (fun s11 _ => (bx_freeze 4 rfl (bx_asg (d := (eL (eP3 PyData.str PyData.int PyData.int)) s11) (ex_var (i := 4) rfl) (EGc.eg (egc_name (i := 2) (vs := [2]) (by decide))) (bx_nx (.same (.same (.same (.un (.un (.un (.un (.un .nil)))))))) rfl)))))))) (fun s12 _ => (bx_retSW (exw_lcp (e := (eP3 PyData.str PyData.int PyData.int)) (e' := PyData.str) (envB := (fun x13 => [.sh (PyData.int v_pegs), .sh (PyData.int v_through), .sh ((eL (eP3 PyData.str PyData.int PyData.int)) s12), .un, .un, .sh (PyData.str x13.1), .sh (PyData.int x13.2.1), .sh (PyData.int x13.2.2)])) (ei_list (EX.l (ex_var (i := 2) rfl))) (fun x13 _ => (egc_tup (egs_cons (egc_name (i := 5) (by decide)) (egs_cons (egc_name (i := 6) (by decide)) (egs_cons (egc_name (i := 7) (by decide)) egs_nil))) rfl)) (fun x13 _ => (et_and (et_of (ex_eqI (ex_var (i := 6) rfl) ex_int)) (et_of (ex_eqI (ex_var (i := 7) rfl) (ex_var (i := 1) rfl))))) (fun x13 _ => (ex_var (i := 5) rfl))) rfl)))))))
abbrev encR_p_half_in (y : (List Int)) : Out := .rt (.sh ((eT PyData.int) y))
abbrev st_p_half_in : Stmt := top 28
abbrev NN_p_half_in : List Str := ["text", "found", "open_ones", "peg", "sign", "other"]
theorem sc_p_half_in : FnScope NN_p_half_in ["text"] (defScope st_p_half_in) := ⟨rfl, rfl, rfl, by decide +kernel, rfl, by decide +kernel, by decide +kernel⟩
abbrev I_p_half_in : List PyData → Rv → Prop := Im (fun (a : (Str)) => [PyData.str a]) (fun (y : (List Int)) => Rv.sh ((eT PyData.int) y)) (fun a => p_half_in a)
theorem fn_p_half_in {P : Program} {w : World} {K : PySem.W.Frag} {mg : Str → Option Value} {base : Heap} {f : Addr} {fd : FuncData} (F : FunD K "half_in" "half_in" (defArgs st_p_half_in) (defBody st_p_half_in) (defScope st_p_half_in) [] [] f fd) (hg : mg "half_in" = some (.ref f)) (T : Tx K mg)  : Fn P w K mg base "half_in" 1 I_p_half_in := by
  refine ⟨f, fd, ["text"], fn_ok (N := NN_p_half_in) (en := encR_p_half_in) F sc_p_half_in (fun _ => rfl) (fun _ => .inl rfl) (fun cdv A' outer s H E hr => ⟨_, (pss_cons (ps_set (i := 1) sc_p_half_in.nd rfl (by first | exact Or.inl rfl | exact Or.inr rfl) (pe_listRg rfl (by rfl) T.list (prg_1 (by rfl) T.range (pe_callB (call_lenK (K := K)) (by rfl) T.len (by decide +kernel) (pa_cons (pv 0) pa_nil))))) (pss_cons (ps_set (i := 2) sc_p_half_in.nd rfl (by first | exact Or.inl rfl | exact Or.inr rfl) (pe_lst pa_nil)) (pss_cons (ps_for PassesOwn.never rfl (pi_enumS (by rfl) T.enumerate (pa_cons (pv 0) pa_nil)) (pg_tupK (K := K) (n := 2) (by rfl) (pgs_cons (pg_name (i := 3) sc_p_half_in.nd rfl (by first | exact Or.inl rfl | exact Or.inr rfl)) (pgs_cons (pg_name (i := 4) sc_p_half_in.nd rfl (by first | exact Or.inl rfl | exact Or.inr rfl)) pgs_nil))) (pss_cons (ps_if (pt_cmpR op_eq (pv 4) pe_str (nomark _)) (pss_cons (ps_expr (pe_bm PySem.F.plainAttrs_list PySem.F.slot_list_append PySem.F.type_list_append mt_append (pv 2) (pa_cons (pv 3) pa_nil))) pss_nil) (pss_cons (ps_if (pt_cmpR op_eq (pv 4) pe_str (nomark _)) (pss_cons (ps_set (i := 5) sc_p_half_in.nd rfl (by first | exact Or.inl rfl | exact Or.inr rfl) (pe_bm0 PySem.F.plainAttrs_list PySem.F.slot_list_pop PySem.F.type_list_pop mt_pop (pv 2))) (pss_cons (ps_asg (pv 5) (pg_sub (pv 1) (pv 3) set_list)) (pss_cons (ps_asg (pv 3) (pg_sub (pv 1) (pv 5) set_list)) pss_nil))) pss_nil) pss_nil)) pss_nil)) (pss_cons (ps_ret (pe_callTy (call_tupleK (K := K)) (by rfl) T.tuple (by decide +kernel) (pa_cons (pv 1) pa_nil))) pss_never)))), fun v_text => ?_⟩), hg, F.kp, F.bindsN fun _ _ _ _ _ _ us hl => match us, hl with | [_], _ => rfl⟩
  exact (show BX K _ [.sh (PyData.str v_text), .un, .un, .un, .un, .un] encR_p_half_in (p_half_in v_text) from
   (bx_bind fun g1 hg1 => (bx_asgWB (e := PyData.int) (i := 1) (exw_listRg1 (ex_lenS (ex_var (i := 0) rfl)) (grd_ok hg1)) (fun v_found_2 => (bx_asgW (exw_lst (ds := (([] : (List Int)) : (List Int)).map PyData.int) ea_nil (Nat.le_of_ble_eq_true rfl)) (bx_then (envS := (fun (s_1 : (List Int) × (List Int)) => [.sh (PyData.str v_text), .ow (s_1.1.map PyData.int), .ow (s_1.2.map PyData.int), .un, .un, .un])) (bx_forS (envS := (fun (s_1 : (List Int) × (List Int)) => [.sh (PyData.str v_text), .ow (s_1.1.map PyData.int), .ow (s_1.2.map PyData.int), .un, .un, .un])) (e := (eP PyData.int PyData.str)) (envB := (fun (s_1 : (List Int) × (List Int)) (x3 : (Int × Str)) => [.sh (PyData.str v_text), .ow (s_1.1.map PyData.int), .ow (s_1.2.map PyData.int), .sh (PyData.int x3.1), .sh (PyData.str x3.2), .un])) (f := p_half_in_for1) (eis_enumS (ex_var (i := 0) rfl)) (.same (.same (.same (.un (.un (.un .nil)))))) (fun s_1 x3 _ => EGc.eg (vs := [3, 4]) (egc_tup (egs_cons (egc_name (i := 3) (by decide)) (egs_cons (egc_name (i := 4) (by decide)) egs_nil)) rfl)) (fun s_1 x3 _ => (bx_last (bx_if (et_of (ex_eqS (ex_var (i := 4) rfl) (ex_str (Nat.le_of_ble_eq_true rfl)))) (fun _ => (bx_bind fun u4 hu4 => (bx_app (e := PyData.int) (x := x3.1) rfl (ex_var (i := 3) rfl) hu4 (bx_nx (.same (.same (.same (.un (.un (.un .nil)))))) rfl)))) (fun _ => (bx_last (bx_if (et_of (ex_eqS (ex_var (i := 4) rfl) (ex_str (Nat.le_of_ble_eq_true rfl)))) (fun _ => (bx_bind fun u5 hu5 => (bx_pop (e := PyData.int) rfl hu5 (bx_bind fun u6 hu6 => (bx_asg (d := PyData.int u5.1) (ex_var (i := 5) rfl) (eg_setI (e := PyData.int) rfl (ex_var (i := 3) rfl) hu6) (bx_bind fun u7 hu7 => (bx_asg (d := PyData.int x3.1) (ex_var (i := 3) rfl) (eg_setI (e := PyData.int) rfl (ex_var (i := 5) rfl) hu7) (bx_nx (.same (.same (.same (.un (.un (.un .nil)))))) rfl)))))))) (fun _ => (bx_nx (.same (.same (.same (.un (.un (.un .nil)))))) rfl))))))))) (fun s8 _ => (bx_retS (ex_tupL (exl_var (i := 1) rfl)) rfl))))))))
abbrev encR_p_halves (y : (List (List Int))) : Out := .rt (.fr (y.map (eT PyData.int)))
abbrev st_p_halves : Stmt := top 29
abbrev NN_p_halves : List Str := ["pegs", "through", "text"]
theorem sc_p_halves : FnScope NN_p_halves ["pegs", "through"] (defScope st_p_halves) := ⟨rfl, rfl, rfl, by decide +kernel, rfl, by decide +kernel, by decide +kernel⟩
abbrev I_p_halves : List PyData → Rv → Prop := Im (fun (a : (Int × Int)) => [PyData.int a.1, PyData.int a.2]) (fun (y : (List (List Int))) => Rv.fr (y.map (eT PyData.int))) (fun a => p_halves a.1 a.2)
theorem fn_p_halves {P : Program} {w : World} {K : PySem.W.Frag} {mg : Str → Option Value} {base : Heap} {f : Addr} {fd : FuncData} (F : FunD K "halves" "halves" (defArgs st_p_halves) (defBody st_p_halves) (defScope st_p_halves) [] [] f fd) (hg : mg "halves" = some (.ref f)) (T : Tx K mg) (G_texts : Fn P w K mg base "texts" 1 I_p_texts) (G_half_in : Fn P w K mg base "half_in" 1 I_p_half_in) : Fn P w K mg base "halves" 2 I_p_halves := by
  refine ⟨f, fd, ["pegs", "through"], fn_ok (N := NN_p_halves) (en := encR_p_halves) F sc_p_halves (fun _ => rfl) (fun _ => .inl rfl) (fun cdv A' outer s H E hr => ⟨_, (pss_cons (ps_ret (pe_callB (cr_sortTO (K := K)) (by rfl) T.sorted (by decide +kernel) (pa_cons (pe_lc (own := [("text", 2)]) (tt := tYes) rfl sc_p_halves.nd (pi_listK (K := K) (pe_fn G_texts (hr.mono (by decide)) (by rfl) (pa_cons (pv 0) (pa_cons (pv 1) pa_nil)))) (blkOk_by (N := NN_p_halves) (sc := defScope st_p_halves) (by decide +kernel)) (fun _ _ _ _ _ => (pg_name (i := 2) sc_p_halves.nd rfl (by first | exact Or.inl rfl | exact Or.inr rfl))) (fun _ _ _ _ _ => pts_nil) (fun _ _ _ _ _ => (pe_fn G_half_in (hr.mono (by decide)) (by rfl) (pa_cons (pv 2) pa_nil)))) pa_nil))) pss_never), fun a => ?_⟩), hg, F.kp, F.bindsN fun _ _ _ _ _ _ us hl => match us, hl with | [_, _], _ => rfl⟩
  obtain ⟨v_pegs, v_through⟩ := a
  exact (show BX K _ [.sh (PyData.int v_pegs), .sh (PyData.int v_through), .un] encR_p_halves (p_halves v_pegs v_through) from
   (bx_bind fun u1 hu1 => (bx_bind fun u4 hu4 => (bx_bind fun g5 hg5 => (bx_retSW (exw_sortC (EXw.l (exw_lc (e := PyData.str) (e' := (eT PyData.int)) (envB := (fun x2 => [.sh (PyData.int v_pegs), .sh (PyData.int v_through), .sh (PyData.str x2)])) (ei_list (EXw.l (exw_call (ea_cons (ex_var (i := 0) rfl) (ea_cons (ex_var (i := 1) rfl) ea_nil)) ⟨(v_pegs, v_through), u1, rfl, hu1, rfl⟩))) hu4 (fun x2 _ => (egc_name (i := 2) (by decide))) (fun x2 _ => (eto_some et_yes)) (fun x2 _ => (exo_bind fun u3 hu3 => (exo_some (e := (eT PyData.int)) (ex_call (ea_cons (ex_var (i := 2) rfl) ea_nil) ⟨x2, u3, rfl, hu3, rfl⟩)))))) (grd_ok hg5)) rfl)))))
abbrev encR_p_how_many_halves (y : Int) : Out := .rt (.sh (PyData.int y))
abbrev st_p_how_many_halves : Stmt := top 30
abbrev NN_p_how_many_halves : List Str := ["pegs", "through"]
theorem sc_p_how_many_halves : FnScope NN_p_how_many_halves ["pegs", "through"] (defScope st_p_how_many_halves) := ⟨rfl, rfl, rfl, by decide +kernel, rfl, by decide +kernel, by decide +kernel⟩
abbrev I_p_how_many_halves : List PyData → Rv → Prop := Im (fun (a : (Int × Int)) => [PyData.int a.1, PyData.int a.2]) (fun (y : Int) => Rv.sh (PyData.int y)) (fun a => p_how_many_halves a.1 a.2)
theorem fn_p_how_many_halves {P : Program} {w : World} {K : PySem.W.Frag} {mg : Str → Option Value} {base : Heap} {f : Addr} {fd : FuncData} (F : FunD K "how_many_halves" "how_many_halves" (defArgs st_p_how_many_halves) (defBody st_p_how_many_halves) (defScope st_p_how_many_halves) [] [] f fd) (hg : mg "how_many_halves" = some (.ref f)) (T : Tx K mg) (G_ask_pegs : Fn P w K mg base "ask_pegs" 1 I_p_ask_pegs) (G_halves : Fn P w K mg base "halves" 2 I_p_halves) : Fn P w K mg base "how_many_halves" 3 I_p_how_many_halves := by
  refine ⟨f, fd, ["pegs", "through"], fn_ok (N := NN_p_how_many_halves) (en := encR_p_how_many_halves) F sc_p_how_many_halves (fun _ => rfl) (fun _ => .inl rfl) (fun cdv A' outer s H E hr => ⟨_, (pss_cons (ps_expr (pe_fn G_ask_pegs (hr.mono (by decide)) (by rfl) (pa_cons (pv 0) pa_nil))) (pss_cons (ps_ret (pe_callB (call_lenK (K := K)) (by rfl) T.len (by decide +kernel) (pa_cons (pe_fn G_halves (hr.mono (by decide)) (by rfl) (pa_cons (pv 0) (pa_cons (pv 1) pa_nil))) pa_nil))) pss_never)), fun a => ?_⟩), hg, F.kp, F.bindsN fun _ _ _ _ _ _ us hl => match us, hl with | [_, _], _ => rfl⟩
  obtain ⟨v_pegs, v_through⟩ := a
  exact (show BX K _ [.sh (PyData.int v_pegs), .sh (PyData.int v_through)] encR_p_how_many_halves (p_how_many_halves v_pegs v_through) from
   (bx_bind fun u1 hu1 => (bx_drop (ex_call (ea_cons (ex_var (i := 0) rfl) ea_nil) ⟨v_pegs, u1, rfl, hu1, rfl⟩) (bx_bind fun u2 hu2 => (bx_retS (ex_lenL (EXw.l (exw_call (ea_cons (ex_var (i := 0) rfl) (ea_cons (ex_var (i := 1) rfl) ea_nil)) ⟨(v_pegs, v_through), u2, rfl, hu2, rfl⟩))) rfl)))))
abbrev encR_p_half_of (y : (List Int)) : Out := .rt (.sh ((eT PyData.int) y))
abbrev st_p_half_of : Stmt := top 31
abbrev NN_p_half_of : List Str := ["pegs", "through", "number", "found"]
theorem sc_p_half_of : FnScope NN_p_half_of ["pegs", "through", "number"] (defScope st_p_half_of) := ⟨rfl, rfl, rfl, by decide +kernel, rfl, by decide +kernel, by decide +kernel⟩
abbrev I_p_half_of : List PyData → Rv → Prop := Im (fun (a : (Int × Int × Int)) => [PyData.int a.1, PyData.int a.2.1, PyData.int a.2.2]) (fun (y : (List Int)) => Rv.sh ((eT PyData.int) y)) (fun a => p_half_of a.1 a.2.1 a.2.2)
theorem fn_p_half_of {P : Program} {w : World} {K : PySem.W.Frag} {mg : Str → Option Value} {base : Heap} {f : Addr} {fd : FuncData} (F : FunD K "half_of" "half_of" (defArgs st_p_half_of) (defBody st_p_half_of) (defScope st_p_half_of) [] [] f fd) (hg : mg "half_of" = some (.ref f)) (T : Tx K mg) (G_ask_pegs : Fn P w K mg base "ask_pegs" 1 I_p_ask_pegs) (G_halves : Fn P w K mg base "halves" 2 I_p_halves) : Fn P w K mg base "half_of" 3 I_p_half_of := by
  refine ⟨f, fd, ["pegs", "through", "number"], fn_ok (N := NN_p_half_of) (en := encR_p_half_of) F sc_p_half_of (fun _ => rfl) (fun _ => .inl rfl) (fun cdv A' outer s H E hr => ⟨_, (pss_cons (ps_expr (pe_fn G_ask_pegs (hr.mono (by decide)) (by rfl) (pa_cons (pv 0) pa_nil))) (pss_cons (ps_set (i := 3) sc_p_half_of.nd rfl (by first | exact Or.inl rfl | exact Or.inr rfl) (pe_fn G_halves (hr.mono (by decide)) (by rfl) (pa_cons (pv 0) (pa_cons (pv 1) pa_nil)))) (pss_cons (ps_if (pt_not (pt_chain op_le op_lt pe_int (pv 2) (pe_callB (call_lenK (K := K)) (by rfl) T.len (by decide +kernel) (pa_cons (pv 3) pa_nil)))) pss_never pss_nil) (pss_cons (ps_ret (pe_ix (ix_listK (K := K)) (pv 3) (pv 2) (fun _ _ => rfl))) pss_never)))), fun a => ?_⟩), hg, F.kp, F.bindsN fun _ _ _ _ _ _ us hl => match us, hl with | [_, _, _], _ => rfl⟩
  obtain ⟨v_pegs, v_through, v_number⟩ := a
  exact (show BX K _ [.sh (PyData.int v_pegs), .sh (PyData.int v_through), .sh (PyData.int v_number), .un] encR_p_half_of (p_half_of v_pegs v_through v_number) from
   (bx_bind fun u1 hu1 => (bx_drop (ex_call (ea_cons (ex_var (i := 0) rfl) ea_nil) ⟨v_pegs, u1, rfl, hu1, rfl⟩) (bx_bind fun u2 hu2 => (bx_asg (d := (eL (eT PyData.int)) u2) (EXw.sh (exw_call (ea_cons (ex_var (i := 0) rfl) (ea_cons (ex_var (i := 1) rfl) ea_nil)) ⟨(v_pegs, v_through), u2, rfl, hu2, rfl⟩)) (EGc.eg (egc_name (i := 3) (vs := [3]) (by decide))) (bx_ifNo (et_not (et_of (ex_chain (p := fun i j => decide (i ≤ j)) (p' := fun i j => decide (i < j)) (fun _ _ => rfl) (fun _ _ => rfl) ex_int (ex_var (i := 2) rfl) (ex_lenL (EX.l (ex_var (i := 3) rfl)))))) (fun _ => (bx_bind fun u3 hu3 => (bx_retS (ex_ixL (EX.l (ex_var (i := 3) rfl)) (ex_var (i := 2) rfl) (atI_map hu3)) rfl)))))))))
abbrev encR_p_half_number (y : Int) : Out := .rt (.sh (PyData.int y))
abbrev st_p_half_number : Stmt := top 32
abbrev NN_p_half_number : List Str := ["told"]
theorem sc_p_half_number : FnScope NN_p_half_number ["told"] (defScope st_p_half_number) := ⟨rfl, rfl, rfl, by decide +kernel, rfl, by decide +kernel, by decide +kernel⟩
abbrev I_p_half_number : List PyData → Rv → Prop := Im (fun (a : ((List Int))) => [(eT PyData.int) a]) (fun (y : Int) => Rv.sh (PyData.int y)) (fun a => p_half_number a)
theorem fn_p_half_number {P : Program} {w : World} {K : PySem.W.Frag} {mg : Str → Option Value} {base : Heap} {f : Addr} {fd : FuncData} (F : FunD K "half_number" "half_number" (defArgs st_p_half_number) (defBody st_p_half_number) (defScope st_p_half_number) [] [] f fd) (hg : mg "half_number" = some (.ref f)) (T : Tx K mg) (G_ask_half : Fn P w K mg base "ask_half" 2 I_p_ask_half) (G_going : Fn P w K mg base "going" 1 I_p_going) (G_halves : Fn P w K mg base "halves" 2 I_p_halves) : Fn P w K mg base "half_number" 3 I_p_half_number := by
  refine ⟨f, fd, ["told"], fn_ok (N := NN_p_half_number) (en := encR_p_half_number) F sc_p_half_number (fun _ => rfl) (fun _ => .inl rfl) (fun cdv A' outer s H E hr => ⟨_, (pss_cons (ps_expr (pe_fn G_ask_half (hr.mono (by decide)) (by rfl) (pa_cons (pv 0) pa_nil))) (pss_cons (ps_ret (pe_bmK (K := K) PySem.F.plainAttrs_list PySem.F.slot_list_index PySem.F.type_list_index (mt_indexDK (K := K) (Room.un65 hr)) (pe_fn G_halves (hr.mono (by decide)) (by rfl) (pa_cons (pe_callB (call_lenK (K := K)) (by rfl) T.len (by decide +kernel) (pa_cons (pv 0) pa_nil)) (pa_cons (pe_callB (call_lenK (K := K)) (by rfl) T.len (by decide +kernel) (pa_cons (pe_fn G_going (hr.mono (by decide)) (by rfl) (pa_cons (pv 0) pa_nil)) pa_nil)) pa_nil))) (pa_cons (pv 0) pa_nil))) pss_never)), fun v_told => ?_⟩), hg, F.kp, F.bindsN fun _ _ _ _ _ _ us hl => match us, hl with | [_], _ => rfl⟩
  exact (show BX K _ [.sh ((eT PyData.int) v_told)] encR_p_half_number (p_half_number v_told) from
   (bx_bind fun u1 hu1 => (bx_drop (ex_call (ea_cons (ex_var (i := 0) rfl) ea_nil) ⟨v_told, u1, rfl, hu1, rfl⟩) (bx_bind fun u2 hu2 => (bx_bind fun u3 hu3 => (bx_bind fun u4 hu4 => (bx_retS (ex_indexT (e := (eT PyData.int)) (EnOk.tup EnOk.int) (EXw.l (exw_call (ea_cons (ex_lenT (ex_var (i := 0) rfl)) (ea_cons (ex_lenL (EXw.l (exw_call (ea_cons (ex_var (i := 0) rfl) ea_nil) ⟨v_told, u2, rfl, hu2, rfl⟩))) ea_nil)) ⟨((v_told.length : Int), (u2.length : Int)), u3, rfl, hu3, rfl⟩)) (EX.q (ex_var (i := 0) rfl)) hu4) rfl)))))))
abbrev encR_p_family (y : (Int × Int)) : Out := .rt (.sh ((eP PyData.int PyData.int) y))
abbrev st_p_family : Stmt := top 34
abbrev NN_p_family : List Str := ["frame"]
theorem sc_p_family : FnScope NN_p_family ["frame"] (defScope st_p_family) := ⟨rfl, rfl, rfl, by decide +kernel, rfl, by decide +kernel, by decide +kernel⟩
abbrev I_p_family : List PyData → Rv → Prop := Im (fun (a : ((List Int))) => [(eT PyData.int) a]) (fun (y : (Int × Int)) => Rv.sh ((eP PyData.int PyData.int) y)) (fun a => p_family a)
theorem fn_p_family {P : Program} {w : World} {K : PySem.W.Frag} {mg : Str → Option Value} {base : Heap} {f : Addr} {fd : FuncData} (F : FunD K "family" "family" (defArgs st_p_family) (defBody st_p_family) (defScope st_p_family) [] [] f fd) (hg : mg "family" = some (.ref f)) (T : Tx K mg) (G_ask_frame : Fn P w K mg base "ask_frame" 4 I_p_ask_frame) (G_upper : Fn P w K mg base "upper" 5 I_p_upper) (G_half_number : Fn P w K mg base "half_number" 3 I_p_half_number) (G_lower : Fn P w K mg base "lower" 5 I_p_lower) : Fn P w K mg base "family" 6 I_p_family := by
  refine ⟨f, fd, ["frame"], fn_ok (N := NN_p_family) (en := encR_p_family) F sc_p_family (fun _ => rfl) (fun _ => .inl rfl) (fun cdv A' outer s H E hr => ⟨_, (pss_cons (ps_expr (pe_fn G_ask_frame (hr.mono (by decide)) (by rfl) (pa_cons (pv 0) pa_nil))) (pss_cons (ps_ret (pe_tup (pa_cons (pe_fn G_half_number (hr.mono (by decide)) (by rfl) (pa_cons (pe_fn G_upper (hr.mono (by decide)) (by rfl) (pa_cons (pv 0) pa_nil)) pa_nil)) (pa_cons (pe_fn G_half_number (hr.mono (by decide)) (by rfl) (pa_cons (pe_fn G_lower (hr.mono (by decide)) (by rfl) (pa_cons (pv 0) pa_nil)) pa_nil)) pa_nil)))) pss_never)), fun v_frame => ?_⟩), hg, F.kp, F.bindsN fun _ _ _ _ _ _ us hl => match us, hl with | [_], _ => rfl⟩
  exact (show BX K _ [.sh ((eT PyData.int) v_frame)] encR_p_family (p_family v_frame) from
   (bx_bind fun u1 hu1 => (bx_drop (ex_call (ea_cons (ex_var (i := 0) rfl) ea_nil) ⟨v_frame, u1, rfl, hu1, rfl⟩) (bx_bind fun u2 hu2 => (bx_bind fun u3 hu3 => (bx_bind fun u4 hu4 => (bx_bind fun u5 hu5 => (bx_retS (ex_tup (ea_cons (ex_call (ea_cons (ex_call (ea_cons (ex_var (i := 0) rfl) ea_nil) ⟨v_frame, u2, rfl, hu2, rfl⟩) ea_nil) ⟨u2, u3, rfl, hu3, rfl⟩) (ea_cons (ex_call (ea_cons (ex_call (ea_cons (ex_var (i := 0) rfl) ea_nil) ⟨v_frame, u4, rfl, hu4, rfl⟩) ea_nil) ⟨u4, u5, rfl, hu5, rfl⟩) ea_nil)) (Nat.le_of_ble_eq_true rfl)) rfl))))))))
abbrev encR_l_mix (y : Int) : Out := .rt (.sh (PyData.int y))
abbrev st_l_mix : Stmt := top 36
abbrev NN_l_mix : List Str := ["_law_seed", "_law_one", "_law_two"]
theorem sc_l_mix : FnScope NN_l_mix ["_law_seed"] (defScope st_l_mix) := ⟨rfl, rfl, rfl, by decide +kernel, rfl, by decide +kernel, by decide +kernel⟩
abbrev I_l_mix : List PyData → Rv → Prop := Im (fun (a : (Int)) => [PyData.int a]) (fun (y : Int) => Rv.sh (PyData.int y)) (fun a => l_mix a)
theorem fn_l_mix {P : Program} {w : World} {K : PySem.W.Frag} {mg : Str → Option Value} {base : Heap} {f : Addr} {fd : FuncData} (F : FunD K "_law_mix" "_law_mix" (defArgs st_l_mix) (defBody st_l_mix) (defScope st_l_mix) [] [] f fd) (hg : mg "_law_mix" = some (.ref f)) (T : Tx K mg)  : Fn P w K mg base "_law_mix" 1 I_l_mix := by
  refine ⟨f, fd, ["_law_seed"], fn_ok (N := NN_l_mix) (en := encR_l_mix) F sc_l_mix (fun _ => rfl) (fun _ => .inl rfl) (fun cdv A' outer s H E hr => ⟨_, (pss_cons (ps_set (i := 1) sc_l_mix.nd rfl (by first | exact Or.inl rfl | exact Or.inr rfl) (pe_op op_mod (pe_op op_add (pe_op op_mul (pv 0) pe_int) pe_int) pe_int)) (pss_cons (ps_set (i := 2) sc_l_mix.nd rfl (by first | exact Or.inl rfl | exact Or.inr rfl) (pe_op op_mod (pe_op op_add (pe_op op_add (pe_op op_mul (pv 1) (pv 1)) (pe_op op_mul pe_int (pv 1))) (pv 0)) pe_int)) (pss_cons (ps_ret (pe_op op_mod (pe_op op_add (pe_op op_add (pe_op op_mul (pv 2) (pv 2)) (pe_op op_mul pe_int (pv 2))) (pv 1)) pe_int)) pss_never))), fun v_seed => ?_⟩), hg, F.kp, F.bindsN fun _ _ _ _ _ _ us hl => match us, hl with | [_], _ => rfl⟩
  exact (show BX K _ [.sh (PyData.int v_seed), .un, .un] encR_l_mix (l_mix v_seed) from
   (bx_asgB (e := PyData.int) (i := 1) (ex_mod (ex_add (ex_mul (ex_var (i := 0) rfl) ex_int (.inr ⟨by decide, by decide⟩)) ex_int) ex_int (by decide)) (fun v_one_1 => (bx_bind fun g2 hg2 => (bx_asgB (e := PyData.int) (i := 2) (ex_mod (ex_add (ex_add (ex_mul (ex_var (i := 1) rfl) (ex_var (i := 1) rfl) (grd_ok hg2)) (ex_mul ex_int (ex_var (i := 1) rfl) (.inl ⟨by decide, by decide⟩))) (ex_var (i := 0) rfl)) ex_int (by decide)) (fun v_two_3 => (bx_bind fun g4 hg4 => (bx_retS (ex_mod (ex_add (ex_add (ex_mul (ex_var (i := 2) rfl) (ex_var (i := 2) rfl) (grd_ok hg4)) (ex_mul ex_int (ex_var (i := 2) rfl) (.inl ⟨by decide, by decide⟩))) (ex_var (i := 1) rfl)) ex_int (by decide)) rfl))))))))
abbrev encR_l_raw (y : Int) : Out := .rt (.sh (PyData.int y))
abbrev st_l_raw : Stmt := top 37
abbrev NN_l_raw : List Str := ["_law_script", "_law_k", "_law_cell", "_law_found", "_law_turn"]
theorem sc_l_raw : FnScope NN_l_raw ["_law_script", "_law_k"] (defScope st_l_raw) := ⟨rfl, rfl, rfl, by decide +kernel, rfl, by decide +kernel, by decide +kernel⟩
abbrev I_l_raw : List PyData → Rv → Prop := Im (fun (a : ((List Int) × Int)) => [(eL PyData.int) a.1, PyData.int a.2]) (fun (y : Int) => Rv.sh (PyData.int y)) (fun a => l_raw a.1 a.2)
theorem fn_l_raw {P : Program} {w : World} {K : PySem.W.Frag} {mg : Str → Option Value} {base : Heap} {f : Addr} {fd : FuncData} (F : FunD K "_law_raw" "_law_raw" (defArgs st_l_raw) (defBody st_l_raw) (defScope st_l_raw) [] [] f fd) (hg : mg "_law_raw" = some (.ref f)) (T : Tx K mg) (G__law_mix : Fn P w K mg base "_law_mix" 1 I_l_mix) : Fn P w K mg base "_law_raw" 2 I_l_raw := by
  refine ⟨f, fd, ["_law_script", "_law_k"], fn_ok (N := NN_l_raw) (en := encR_l_raw) F sc_l_raw (fun _ => rfl) (fun _ => .inl rfl) (fun cdv A' outer s H E hr => ⟨_, (pss_cons (ps_set (i := 2) sc_l_raw.nd rfl (by first | exact Or.inl rfl | exact Or.inr rfl) (pe_op op_add (pe_op op_mul pe_int (pv 1)) pe_int)) (pss_cons (ps_if (pt_cmpR op_gt (pe_callB (call_lenK (K := K)) (by rfl) T.len (by decide +kernel) (pa_cons (pv 0) pa_nil)) pe_int (nomark _)) (pss_cons (ps_set (i := 2) sc_l_raw.nd rfl (by first | exact Or.inl rfl | exact Or.inr rfl) (pe_op op_add (pe_ix (ix_listK (K := K)) (pv 0) (pe_op op_mod (pv 1) (pe_callB (call_lenK (K := K)) (by rfl) T.len (by decide +kernel) (pa_cons (pv 0) pa_nil))) (fun _ _ => rfl)) (pe_op op_mul pe_int (pe_op op_fdivW (pv 1) (pe_callB (call_lenK (K := K)) (by rfl) T.len (by decide +kernel) (pa_cons (pv 0) pa_nil)))))) pss_nil) pss_nil) (pss_cons (ps_if (PW.pt (pw_and (pt_cmpR op_lt (pv 1) (pe_callB (call_lenK (K := K)) (by rfl) T.len (by decide +kernel) (pa_cons (pv 0) pa_nil)) (nomark _)) (pw_and1 (pt_cmpR op_ge (pv 2) (pe_op op_pow pe_int pe_int) (nomark _))))) (pss_cons (ps_ret (pe_op op_sub (pv 2) (pe_op op_pow pe_int pe_int))) pss_never) pss_nil) (pss_cons (ps_set (i := 3) sc_l_raw.nd rfl (by first | exact Or.inl rfl | exact Or.inr rfl) pe_int) (pss_cons (ps_for PassesOwn.never rfl (pi_range1 (by rfl) T.range (pa_cons pe_int pa_nil)) (pg_name (i := 4) sc_l_raw.nd rfl (by first | exact Or.inl rfl | exact Or.inr rfl)) (pss_cons (ps_set (i := 3) sc_l_raw.nd rfl (by first | exact Or.inl rfl | exact Or.inr rfl) (pe_op op_add (pe_op op_mul (pv 3) pe_int) (pe_fn G__law_mix (hr.mono (by decide)) (by rfl) (pa_cons (pe_op op_add (pe_op op_add (pv 2) (pe_op op_mul pe_int (pv 1))) (pe_op op_mul pe_int (pv 4))) pa_nil)))) pss_nil)) (pss_cons (ps_ret (pv 3)) pss_never)))))), fun a => ?_⟩), hg, F.kp, F.bindsN fun _ _ _ _ _ _ us hl => match us, hl with | [_, _], _ => rfl⟩
  obtain ⟨v_script, v_k⟩ := a
  exact (show BX K _ [.sh ((eL PyData.int) v_script), .sh (PyData.int v_k), .un, .un, .un] encR_l_raw (l_raw v_script v_k) from
   (bx_asgB (e := PyData.int) (i := 2) (ex_add (ex_mul ex_int (ex_var (i := 1) rfl) (.inl ⟨by decide, by decide⟩)) ex_int) (fun v_cell_1 => (bx_then (envS := fun (s2 : Int) => [.sh ((eL PyData.int) v_script), .sh (PyData.int v_k), .sh (PyData.int s2), .un, .un]) (bx_if (et_of (ex_gt (ex_lenL (EX.l (ex_var (i := 0) rfl))) ex_int)) (fun _ => (bx_bind fun g3 hg3 => (bx_bind fun u4 hu4 => (bx_bind fun g5 hg5 => (bx_asgB (e := PyData.int) (i := 2) (ex_add (ex_ixL (EX.l (ex_var (i := 0) rfl)) (ex_mod (ex_var (i := 1) rfl) (ex_lenL (EX.l (ex_var (i := 0) rfl))) (grd_ok hg3)) (atI_map hu4)) (ex_mul ex_int (ex_fdiv (ex_var (i := 1) rfl) (ex_lenL (EX.l (ex_var (i := 0) rfl))) (grd_ok hg5)) (.inl ⟨by decide, by decide⟩))) (fun v_cell_6 => (bx_nx (.same (.same (.same (.un (.un .nil))))) rfl))))))) (fun _ => (bx_nx (.same (.same (.same (.un (.un .nil))))) rfl))) (fun s2 _ => (bx_ifRet (et_and (et_of (ex_lt (ex_var (i := 1) rfl) (ex_lenL (EX.l (ex_var (i := 0) rfl))))) (et_of (ex_ge (ex_var (i := 2) rfl) (ex_pow ex_int ex_int ⟨by decide, by decide, by decide⟩)))) (fun _ => (bx_retS (ex_sub (ex_var (i := 2) rfl) (ex_pow ex_int ex_int ⟨by decide, by decide, by decide⟩)) rfl)) (fun _ _ _ h => nomatch h) (fun _ => (bx_asg (d := PyData.int (0 : Int)) ex_int (EGc.eg (egc_name (i := 3) (vs := [3]) (by decide))) (bx_then (envS := (fun (s_1 : Int) => [.sh ((eL PyData.int) v_script), .sh (PyData.int v_k), .sh (PyData.int s2), .sh (PyData.int s_1), .un])) (bx_forS (envS := (fun (s_1 : Int) => [.sh ((eL PyData.int) v_script), .sh (PyData.int v_k), .sh (PyData.int s2), .sh (PyData.int s_1), .un])) (e := PyData.int) (envB := (fun (s_1 : Int) (x7 : Int) => [.sh ((eL PyData.int) v_script), .sh (PyData.int v_k), .sh (PyData.int s2), .sh (PyData.int s_1), .sh (PyData.int x7)])) (f := (l_raw_for1 v_k s2)) (eis_rng1 ex_int (by decide)) (.same (.same (.same (.same (.un .nil))))) (fun s_1 x7 _ => EGc.eg (vs := [4]) (egc_name (i := 4) (by decide))) (fun s_1 x7 _ => (bx_bind fun u8 hu8 => (bx_asgB (e := PyData.int) (i := 3) (ex_add (ex_mul (ex_var (i := 3) rfl) ex_int (.inr ⟨by decide, by decide⟩)) (ex_call (ea_cons (ex_add (ex_add (ex_var (i := 2) rfl) (ex_mul ex_int (ex_var (i := 1) rfl) (.inl ⟨by decide, by decide⟩))) (ex_mul ex_int (ex_var (i := 4) rfl) (.inl ⟨by decide, by decide⟩))) ea_nil) ⟨((s2 + ((1009 : Int) * v_k)) + ((7919 : Int) * x7)), u8, rfl, hu8, rfl⟩)) (fun v_found_9 => (bx_nx (.same (.same (.same (.same (.un .nil))))) rfl)))))) (fun s10 _ => (bx_retS (ex_var (i := 3) rfl) rfl)))))))))))
abbrev encR_l_digits (y : (List Int)) : Out := .rt (.fr (y.map PyData.int))
abbrev st_l_digits : Stmt := top 38
abbrev NN_l_digits : List Str := ["_law_script", "_law_k", "_law_sizes", "_law_rest", "_law_found", "_law_size"]
theorem sc_l_digits : FnScope NN_l_digits ["_law_script", "_law_k", "_law_sizes"] (defScope st_l_digits) := ⟨rfl, rfl, rfl, by decide +kernel, rfl, by decide +kernel, by decide +kernel⟩
abbrev I_l_digits : List PyData → Rv → Prop := Im (fun (a : ((List Int) × Int × (List Int))) => [(eL PyData.int) a.1, PyData.int a.2.1, (eL PyData.int) a.2.2]) (fun (y : (List Int)) => Rv.fr (y.map PyData.int)) (fun a => l_digits a.1 a.2.1 a.2.2)
theorem fn_l_digits {P : Program} {w : World} {K : PySem.W.Frag} {mg : Str → Option Value} {base : Heap} {f : Addr} {fd : FuncData} (F : FunD K "_law_digits" "_law_digits" (defArgs st_l_digits) (defBody st_l_digits) (defScope st_l_digits) [] [] f fd) (hg : mg "_law_digits" = some (.ref f)) (T : Tx K mg) (G__law_raw : Fn P w K mg base "_law_raw" 2 I_l_raw) : Fn P w K mg base "_law_digits" 3 I_l_digits := by
  refine ⟨f, fd, ["_law_script", "_law_k", "_law_sizes"], fn_ok (N := NN_l_digits) (en := encR_l_digits) F sc_l_digits (fun _ => rfl) (fun _ => .inl rfl) (fun cdv A' outer s H E hr => ⟨_, (pss_cons (ps_set (i := 3) sc_l_digits.nd rfl (by first | exact Or.inl rfl | exact Or.inr rfl) (pe_fn G__law_raw (hr.mono (by decide)) (by rfl) (pa_cons (pv 0) (pa_cons (pv 1) pa_nil)))) (pss_cons (ps_set (i := 4) sc_l_digits.nd rfl (by first | exact Or.inl rfl | exact Or.inr rfl) (pe_lst pa_nil)) (pss_cons (ps_for PassesOwn.never rfl (pi_listK (K := K) (pv 2)) (pg_name (i := 5) sc_l_digits.nd rfl (by first | exact Or.inl rfl | exact Or.inr rfl)) (pss_cons (ps_expr (pe_bm PySem.F.plainAttrs_list PySem.F.slot_list_append PySem.F.type_list_append mt_append (pv 4) (pa_cons (pe_op op_mod (pv 3) (pv 5)) pa_nil))) (pss_cons (ps_set (i := 3) sc_l_digits.nd rfl (by first | exact Or.inl rfl | exact Or.inr rfl) (pe_op op_fdivW (pv 3) (pv 5))) pss_nil))) (pss_cons (ps_ret (pv 4)) pss_never)))), fun a => ?_⟩), hg, F.kp, F.bindsN fun _ _ _ _ _ _ us hl => match us, hl with | [_, _, _], _ => rfl⟩
  obtain ⟨v_script, v_k, v_sizes⟩ := a
  exact (show BX K _ [.sh ((eL PyData.int) v_script), .sh (PyData.int v_k), .sh ((eL PyData.int) v_sizes), .un, .un, .un] encR_l_digits (l_digits v_script v_k v_sizes) from
   (bx_bind fun u1 hu1 => (bx_asg (d := PyData.int u1) (ex_call (ea_cons (ex_var (i := 0) rfl) (ea_cons (ex_var (i := 1) rfl) ea_nil)) ⟨(v_script, v_k), u1, rfl, hu1, rfl⟩) (EGc.eg (egc_name (i := 3) (vs := [3]) (by decide))) (bx_asgW (exw_lst (ds := (([] : (List Int)) : (List Int)).map PyData.int) ea_nil (Nat.le_of_ble_eq_true rfl)) (bx_then (envS := (fun (s_1 : Int × (List Int)) => [.sh ((eL PyData.int) v_script), .sh (PyData.int v_k), .sh ((eL PyData.int) v_sizes), .sh (PyData.int s_1.1), .ow (s_1.2.map PyData.int), .un])) (bx_forS (envS := (fun (s_1 : Int × (List Int)) => [.sh ((eL PyData.int) v_script), .sh (PyData.int v_k), .sh ((eL PyData.int) v_sizes), .sh (PyData.int s_1.1), .ow (s_1.2.map PyData.int), .un])) (e := PyData.int) (envB := (fun (s_1 : Int × (List Int)) (x2 : Int) => [.sh ((eL PyData.int) v_script), .sh (PyData.int v_k), .sh ((eL PyData.int) v_sizes), .sh (PyData.int s_1.1), .ow (s_1.2.map PyData.int), .sh (PyData.int x2)])) (f := l_digits_for1) (eis_list (ex_var (i := 2) rfl)) (.same (.same (.same (.same (.same (.un .nil)))))) (fun s_1 x2 _ => EGc.eg (vs := [5]) (egc_name (i := 5) (by decide))) (fun s_1 x2 _ => (bx_bind fun g3 hg3 => (bx_bind fun u4 hu4 => (bx_app (e := PyData.int) (x := (s_1.1 % x2)) rfl (ex_mod (ex_var (i := 3) rfl) (ex_var (i := 5) rfl) (grd_ok hg3)) hu4 (bx_bind fun g5 hg5 => (bx_asgB (e := PyData.int) (i := 3) (ex_fdiv (ex_var (i := 3) rfl) (ex_var (i := 5) rfl) (grd_ok hg5)) (fun v_rest_6 => (bx_nx (.same (.same (.same (.same (.same (.un .nil)))))) rfl))))))))) (fun s7 _ => (bx_retO (i := 4) rfl rfl)))))))
abbrev encR_l_same (y : Bool) : Out := .rt (.sh (PyData.bool y))
abbrev st_l_same : Stmt := top 39
abbrev NN_l_same : List Str := ["_law_told", "_law_due", "_law_one", "_law_other"]
theorem sc_l_same : FnScope NN_l_same ["_law_told", "_law_due"] (defScope st_l_same) := ⟨rfl, rfl, rfl, by decide +kernel, rfl, by decide +kernel, by decide +kernel⟩
abbrev I_l_same (n : Nat) : List PyData → Rv → Prop := Im (fun (a : (PyData × PyData)) => [eD a.1, eD a.2]) (fun (y : Bool) => Rv.sh (PyData.bool y)) (fun a => l_same n a.1 a.2)
theorem fnr_l_same {P : Program} {w : World} {K : PySem.W.Frag} {mg : Str → Option Value} {base : Heap} {f : Addr} {fd : FuncData} (F : FunD K "_law_same" "_law_same" (defArgs st_l_same) (defBody st_l_same) (defScope st_l_same) [] [] f fd) (hg : mg "_law_same" = some (.ref f)) (T : Tx K mg) : ∀ n : Nat, Fn P w K mg base "_law_same" (n + 1) (I_l_same n)
  | 0 => ⟨f, fd, ["_law_told", "_law_due"], fn_void (N := NN_l_same) F sc_l_same (fun ds r ⟨a, y, _, h, _⟩ => nomatch h), hg, F.kp, F.bindsN fun _ _ _ _ _ _ us hl => match us, hl with | [_, _], _ => rfl⟩
  | n + 1 => by
    have G__law_same := fnr_l_same (P := P) (w := w) (base := base) F hg T n
    refine ⟨f, fd, ["_law_told", "_law_due"], fn_ok (N := NN_l_same) (en := encR_l_same) F sc_l_same (fun _ => rfl) (fun _ => .inl rfl) (fun cdv A' outer s H E hr => ⟨_, (pss_cons (ps_if (pt_cmpR op_isN (pv 1) pe_non (nomark _)) (pss_cons (ps_ret (pe_cmpR op_isN (pv 0) pe_non (nomark _))) pss_never) pss_nil) (pss_cons (ps_if (PW.pt (pw_or (pt_cmpR op_ne (pe_callB (call_isiK' (K := K)) (by rfl) T.isinstance (by decide +kernel) (pa_cons (pv 0) (pa_cons (pe_bltn (u := .type "bool") (v := .ty "bool") (by rfl) T.bool (by decide +kernel) rfl) pa_nil))) (pe_callB (call_isiK' (K := K)) (by rfl) T.isinstance (by decide +kernel) (pa_cons (pv 1) (pa_cons (pe_bltn (u := .type "bool") (v := .ty "bool") (by rfl) T.bool (by decide +kernel) rfl) pa_nil))) (nomark _)) (pw_or1 (pt_cmpR op_ne (pe_callB (call_isiK' (K := K)) (by rfl) T.isinstance (by decide +kernel) (pa_cons (pv 0) (pa_cons (pe_bltn (u := .type "int") (v := .ty "int") (by rfl) T.int (by decide +kernel) rfl) pa_nil))) (pe_callB (call_isiK' (K := K)) (by rfl) T.isinstance (by decide +kernel) (pa_cons (pv 1) (pa_cons (pe_bltn (u := .type "int") (v := .ty "int") (by rfl) T.int (by decide +kernel) rfl) pa_nil))) (nomark _))))) (pss_cons (ps_ret pe_bl) pss_never) pss_nil) (pss_cons (ps_if (PW.pt (pw_or (pt_cmpR op_ne (pe_callB (call_isiK' (K := K)) (by rfl) T.isinstance (by decide +kernel) (pa_cons (pv 0) (pa_cons (pe_bltn (u := .type "list") (v := .ty "list") (by rfl) T.list (by decide +kernel) rfl) pa_nil))) (pe_callB (call_isiK' (K := K)) (by rfl) T.isinstance (by decide +kernel) (pa_cons (pv 1) (pa_cons (pe_bltn (u := .type "list") (v := .ty "list") (by rfl) T.list (by decide +kernel) rfl) pa_nil))) (nomark _)) (pw_or1 (pt_cmpR op_ne (pe_callB (call_isiK' (K := K)) (by rfl) T.isinstance (by decide +kernel) (pa_cons (pv 0) (pa_cons (pe_bltn (u := .type "tuple") (v := .ty "tuple") (by rfl) T.tuple (by decide +kernel) rfl) pa_nil))) (pe_callB (call_isiK' (K := K)) (by rfl) T.isinstance (by decide +kernel) (pa_cons (pv 1) (pa_cons (pe_bltn (u := .type "tuple") (v := .ty "tuple") (by rfl) T.tuple (by decide +kernel) rfl) pa_nil))) (nomark _))))) (pss_cons (ps_ret pe_bl) pss_never) pss_nil) (pss_cons (ps_if (PW.pt (pw_and (pt_not (pt_val (pe_callB (call_isiK' (K := K)) (by rfl) T.isinstance (by decide +kernel) (pa_cons (pv 1) (pa_cons (pe_bltn (u := .type "list") (v := .ty "list") (by rfl) T.list (by decide +kernel) rfl) pa_nil))))) (pw_and1 (pt_not (pt_val (pe_callB (call_isiK' (K := K)) (by rfl) T.isinstance (by decide +kernel) (pa_cons (pv 1) (pa_cons (pe_bltn (u := .type "tuple") (v := .ty "tuple") (by rfl) T.tuple (by decide +kernel) rfl) pa_nil)))))))) (pss_cons (ps_ret (pe_and (pe_cmpR op_eq (pe_callB (call_isiK' (K := K)) (by rfl) T.isinstance (by decide +kernel) (pa_cons (pv 0) (pa_cons (pe_bltn (u := .type "str") (v := .ty "str") (by rfl) T.str (by decide +kernel) rfl) pa_nil))) (pe_callB (call_isiK' (K := K)) (by rfl) T.isinstance (by decide +kernel) (pa_cons (pv 1) (pa_cons (pe_bltn (u := .type "str") (v := .ty "str") (by rfl) T.str (by decide +kernel) rfl) pa_nil))) (nomark _)) (pe_one (pe_cmpR op_eq (pv 0) (pv 1) (nomark _))))) pss_never) pss_nil) (pss_cons (ps_ret (pe_and (pe_cmpR op_eq (pe_callB (call_lenK (K := K)) (by rfl) T.len (by decide +kernel) (pa_cons (pv 0) pa_nil)) (pe_callB (call_lenK (K := K)) (by rfl) T.len (by decide +kernel) (pa_cons (pv 1) pa_nil)) (nomark _)) (pe_one (pe_callB (cr_allK (K := K) rfl) (by rfl) T.all (by decide +kernel) (pa_cons (pe_lc (own := [("_law_one", 2), ("_law_other", 3)]) (tt := tYes) rfl sc_l_same.nd (pi_zipK (K := K) (by rfl) T.zip (pa_cons (pv 0) (pa_cons (pv 1) pa_nil))) (blkOk_by (N := NN_l_same) (sc := defScope st_l_same) (by decide +kernel)) (fun _ _ _ _ _ => (pg_tupK (K := K) (n := 2) (by rfl) (pgs_cons (pg_name (i := 2) sc_l_same.nd rfl (by first | exact Or.inl rfl | exact Or.inr rfl)) (pgs_cons (pg_name (i := 3) sc_l_same.nd rfl (by first | exact Or.inl rfl | exact Or.inr rfl)) pgs_nil)))) (fun _ _ _ _ _ => pts_nil) (fun _ _ _ _ _ => (pe_fn G__law_same (hr.mono (by omega)) (by rfl) (pa_cons (pv 2) (pa_cons (pv 3) pa_nil))))) pa_nil))))) pss_never))))), fun a => ?_⟩), hg, F.kp, F.bindsN fun _ _ _ _ _ _ us hl => match us, hl with | [_, _], _ => rfl⟩
    obtain ⟨v_told, v_due⟩ := a
    exact (show BX K _ [.sh (eD v_told), .sh (eD v_due), .un, .un] encR_l_same (l_same (n + 1) v_told v_due) from
     (bx_ifRet (et_of (ex_isN (ex_var (i := 1) rfl))) (fun _ => (bx_retS (ex_isN (ex_var (i := 0) rfl)) rfl)) (fun _ _ _ h => nomatch h) (fun _ => (bx_ifRet (et_or (et_of (ex_neB (ex_isBD (ex_var (i := 0) rfl)) (ex_isBD (ex_var (i := 1) rfl)))) (et_of (ex_neB (ex_isID (ex_var (i := 0) rfl)) (ex_isID (ex_var (i := 1) rfl))))) (fun _ => (bx_retS ex_bl rfl)) (fun _ _ _ h => nomatch h) (fun _ => (bx_ifRet (et_or (et_of (ex_neB (ex_isLD (ex_var (i := 0) rfl)) (ex_isLD (ex_var (i := 1) rfl)))) (et_of (ex_neB (ex_isTD (ex_var (i := 0) rfl)) (ex_isTD (ex_var (i := 1) rfl))))) (fun _ => (bx_retS ex_bl rfl)) (fun _ _ _ h => nomatch h) (fun _ => (bx_ifRet (et_and (et_not (et_B (ex_isLD (ex_var (i := 1) rfl)))) (et_not (et_B (ex_isTD (ex_var (i := 1) rfl))))) (fun _ => (bx_bind fun c2 hc2 => (bx_retS ((exo_and (exo_some (e := PyData.bool) (ex_eqB (ex_isSD (ex_var (i := 0) rfl)) (ex_isSD (ex_var (i := 1) rfl)))) (exo_bind fun u1 hu1 => (exo_some (e := PyData.bool) (ex_eqLeaf (ex_var (i := 0) rfl) (ex_var (i := 1) rfl) hu1)))) c2 hc2) rfl))) (fun _ _ _ h => nomatch h) (fun _ => (bx_bind fun u3 hu3 => (bx_bind fun u4 hu4 => (bx_bind fun c9 hc9 => (bx_retS ((exo_and (exo_some (e := PyData.bool) (ex_eqI (ex_lenD (ex_var (i := 0) rfl) hu3) (ex_lenD (ex_var (i := 1) rfl) hu4))) (exo_bind fun u5 hu5 => (exo_bind fun u8 hu8 => (exo_some (e := PyData.bool) (ex_all (EXw.l (exw_lc (e := (eP eD eD)) (e' := PyData.bool) (envB := (fun x6 => [.sh (eD v_told), .sh (eD v_due), .sh (eD x6.1), .sh (eD x6.2)])) (EIs.i (ei_zipD (ex_var (i := 0) rfl) (ex_var (i := 1) rfl) hu5)) hu8 (fun x6 _ => (egc_tup (egs_cons (egc_name (i := 2) (by decide)) (egs_cons (egc_name (i := 3) (by decide)) egs_nil)) rfl)) (fun x6 _ => (eto_some et_yes)) (fun x6 _ => (exo_bind fun u7 hu7 => (exo_some (e := PyData.bool) (ex_call (ea_cons (ex_var (i := 2) rfl) (ea_cons (ex_var (i := 3) rfl) ea_nil)) ⟨(x6.1, x6.2), u7, rfl, hu7, rfl⟩))))))))))) c9 hc9) rfl)))))))))))))
theorem fn_l_same {P : Program} {w : World} {K : PySem.W.Frag} {mg : Str → Option Value} {base : Heap} {f : Addr} {fd : FuncData} (F : FunD K "_law_same" "_law_same" (defArgs st_l_same) (defBody st_l_same) (defScope st_l_same) [] [] f fd) (hg : mg "_law_same" = some (.ref f)) (T : Tx K mg) : Fn P w K mg base "_law_same" 7 (I_l_same 6) := fnr_l_same (P := P) (w := w) (base := base) F hg T 6
abbrev encR_l_law (y : Bool) : Out := .rt (.sh (PyData.bool y))
abbrev st_l_law : Stmt := top 40
abbrev NN_l_law : List Str := ["_law_script", "_law_pegs", "_law_sizes", "_law_made_ones", "_law_k", "_law_gone", "_law_one", "_law_other", "_law_frame", "_law_few", "_law_seen", "_law_halves_now", "_law_number", "_law_size"]
theorem sc_l_law : FnScope NN_l_law ["_law_script"] (defScope st_l_law) := ⟨rfl, rfl, rfl, by decide +kernel, rfl, by decide +kernel, by decide +kernel⟩
theorem fn_law {P : Program} {w : World} {K : PySem.W.Frag} {mg : Str → Option Value} {base : Heap} {f : Addr} {fd : FuncData} (F : FunD K "law" "law" (defArgs st_l_law) (defBody st_l_law) (defScope st_l_law) [] [] f fd) (T : Tx K mg) (G__law_digits : Fn P w K mg base "_law_digits" 3 I_l_digits) (G_how_many_halves : Fn P w K mg base "how_many_halves" 3 I_p_how_many_halves) (G_how_many : Fn P w K mg base "how_many" 2 I_p_how_many) (G_half_of : Fn P w K mg base "half_of" 3 I_p_half_of) (G_joined : Fn P w K mg base "joined" 4 I_p_joined) (G_is_frame : Fn P w K mg base "is_frame" 3 I_p_is_frame) (G_family : Fn P w K mg base "family" 6 I_p_family) (G__law_same : Fn P w K mg base "_law_same" 7 (I_l_same 6)) (ht : ∀ ns : List Int, ns.length ≤ 63 → l_law ns = some true) : FnOk P w K mg base CX0 8 f fd ["_law_script"] (spLaw K) := by
  refine law_ok (N := NN_l_law) F sc_l_law (fun cdv A' outer s H E hr => ⟨_, (pss_cons (ps_set (i := 0) sc_l_law.nd rfl (by first | exact Or.inl rfl | exact Or.inr rfl) (pe_slice (sl_listK (K := K)) (pv 0) po_none (po_some pe_int))) (pss_cons (ps_set (i := 1) sc_l_law.nd rfl (by first | exact Or.inl rfl | exact Or.inr rfl) (pe_ix (ix_listK (K := K)) (pe_fn G__law_digits (hr.mono (by decide)) (by rfl) (pa_cons (pv 0) (pa_cons pe_int (pa_cons (pe_lst (pa_cons pe_int pa_nil)) pa_nil)))) pe_int (fun _ _ => rfl))) (pss_cons (ps_set (i := 1) sc_l_law.nd rfl (by first | exact Or.inl rfl | exact Or.inr rfl) (pe_op op_add pe_int (pv 1))) (pss_cons (ps_setLc (i := 2) (own := [("_law_gone", 5)]) (tt := tYes) rfl sc_l_law.nd rfl rfl (sw_true rfl rfl rfl (by decide +kernel)) (pi_range1 (by rfl) T.range (pa_cons (pe_op op_add (pv 1) pe_int) pa_nil)) (blkOk_by (N := NN_l_law) (sc := defScope st_l_law) (by decide +kernel)) (fun _ _ _ _ _ => (pg_name (i := 5) sc_l_law.nd rfl (by first | exact Or.inl rfl | exact Or.inr rfl))) (fun _ _ _ _ _ => pts_nil) (fun _ _ _ _ _ => (pe_fn G_how_many_halves (hr.mono (by decide)) (by rfl) (pa_cons (pv 1) (pa_cons (pv 5) pa_nil))))) (pss_cons (ps_if (pt_cmpR op_ne (pe_callB (cr_sumK (K := K) rfl) (by rfl) T.sum (by decide +kernel) (pa_cons (pe_lc (own := [("_law_size", 13)]) (tt := tYes) rfl sc_l_law.nd (pi_listK (K := K) (pv 2)) (blkOk_by (N := NN_l_law) (sc := defScope st_l_law) (by decide +kernel)) (fun _ _ _ _ _ => (pg_name (i := 13) sc_l_law.nd rfl (by first | exact Or.inl rfl | exact Or.inr rfl))) (fun _ _ _ _ _ => pts_nil) (fun _ _ _ _ _ => (pe_op op_mul (pv 13) (pv 13)))) pa_nil)) (pe_fn G_how_many (hr.mono (by decide)) (by rfl) (pa_cons (pv 1) pa_nil)) (nomark _)) (pss_cons (ps_ret pe_bl) pss_never) pss_nil) (pss_cons (ps_set (i := 3) sc_l_law.nd rfl (by first | exact Or.inl rfl | exact Or.inr rfl) pe_dnewT) (pss_cons (ps_for PassesOwn.never rfl (pi_range1 (by rfl) T.range (pa_cons pe_int pa_nil)) (pg_name (i := 4) sc_l_law.nd rfl (by first | exact Or.inl rfl | exact Or.inr rfl)) (pss_cons (ps_asg (pe_fn G__law_digits (hr.mono (by decide)) (by rfl) (pa_cons (pv 0) (pa_cons (pe_op op_add pe_int (pv 4)) (pa_cons (pe_lst (pa_cons (pe_op op_add (pv 1) pe_int) (pa_cons (pe_op op_pow pe_int pe_int) (pa_cons (pe_op op_pow pe_int pe_int) pa_nil)))) pa_nil)))) (pg_lstK (K := K) (by rfl) (pgs_cons (pg_name (i := 5) sc_l_law.nd rfl (by first | exact Or.inl rfl | exact Or.inr rfl)) (pgs_cons (pg_name (i := 6) sc_l_law.nd rfl (by first | exact Or.inl rfl | exact Or.inr rfl)) (pgs_cons (pg_name (i := 7) sc_l_law.nd rfl (by first | exact Or.inl rfl | exact Or.inr rfl)) pgs_nil))))) (pss_cons (ps_set (i := 5) sc_l_law.nd rfl (by first | exact Or.inl rfl | exact Or.inr rfl) (pe_op op_add (pv 5) (pe_ix (ix_listK (K := K)) (pe_lst (pa_cons pe_int (pa_cons pe_int pa_nil))) (pe_op op_mod (pe_op op_sub (pv 1) (pv 5)) pe_int) (fun _ _ => rfl)))) (pss_cons (ps_par (i := 6) (j := 7) (by rfl) sc_l_law.nd rfl rfl (by decide) rfl rfl (pa_cons (pe_op op_mod (pv 6) (pe_ix (ix_listK (K := K)) (pv 2) (pv 5) (fun _ _ => rfl))) (pa_cons (pe_op op_mod (pv 7) (pe_ix (ix_listK (K := K)) (pv 2) (pv 5) (fun _ _ => rfl))) pa_nil)) (by rfl)) (pss_cons (ps_set (i := 8) sc_l_law.nd rfl (by first | exact Or.inl rfl | exact Or.inr rfl) (pe_fn G_joined (hr.mono (by decide)) (by rfl) (pa_cons (pe_fn G_half_of (hr.mono (by decide)) (by rfl) (pa_cons (pv 1) (pa_cons (pv 5) (pa_cons (pv 6) pa_nil)))) (pa_cons (pe_fn G_half_of (hr.mono (by decide)) (by rfl) (pa_cons (pv 1) (pa_cons (pv 5) (pa_cons (pv 7) pa_nil)))) pa_nil)))) (pss_cons (ps_if (PW.pt (pw_or (pt_not (pt_val (pe_fn G_is_frame (hr.mono (by decide)) (by rfl) (pa_cons (pv 8) pa_nil)))) (pw_or1 (pt_not (pt_val (pe_fn G__law_same (hr.mono (by decide)) (by rfl) (pa_cons (pe_fn G_family (hr.mono (by decide)) (by rfl) (pa_cons (pv 8) pa_nil)) (pa_cons (pe_tup (pa_cons (pv 6) (pa_cons (pv 7) pa_nil))) pa_nil)))))))) (pss_cons (ps_ret pe_bl) pss_never) pss_nil) (pss_cons (ps_if (pt_cmpR (op_neDK (K := K) hr.units) (pe_dget2 (un1 hr.units) (pv 3) (pv 8) (pe_tup (pa_cons (pv 5) (pa_cons (pv 6) (pa_cons (pv 7) pa_nil)))) ⟨rfl, rfl, rfl, rfl⟩) (pe_tup (pa_cons (pv 5) (pa_cons (pv 6) (pa_cons (pv 7) pa_nil)))) (nomark _)) (pss_cons (ps_ret pe_bl) pss_never) pss_nil) (pss_cons (ps_dput (un1 hr.units) (pv 3) (pv 8) (pe_tup (pa_cons (pv 5) (pa_cons (pv 6) (pa_cons (pv 7) pa_nil)))) (by rfl)) pss_nil)))))))) (pss_cons (ps_set (i := 9) sc_l_law.nd rfl (by first | exact Or.inl rfl | exact Or.inr rfl) (pe_op op_add pe_int (pe_op op_mod (pv 1) pe_int))) (pss_cons (ps_set (i := 10) sc_l_law.nd rfl (by first | exact Or.inl rfl | exact Or.inr rfl) pe_dnewT) (pss_cons (ps_for PassesOwn.never rfl (pi_range3 (by rfl) T.range (pa_cons (pe_op op_mod (pv 9) pe_int) (pa_cons (pe_op op_add (pv 9) pe_int) (pa_cons pe_int pa_nil)))) (pg_name (i := 5) sc_l_law.nd rfl (by first | exact Or.inl rfl | exact Or.inr rfl)) (pss_cons (ps_setLc (i := 11) (own := [("_law_number", 12)]) (tt := tYes) rfl sc_l_law.nd rfl rfl (sw_true rfl rfl rfl (by decide +kernel)) (pi_range1 (by rfl) T.range (pa_cons (pe_fn G_how_many_halves (hr.mono (by decide)) (by rfl) (pa_cons (pv 9) (pa_cons (pv 5) pa_nil))) pa_nil)) (blkOk_by (N := NN_l_law) (sc := defScope st_l_law) (by decide +kernel)) (fun _ _ _ _ _ => (pg_name (i := 12) sc_l_law.nd rfl (by first | exact Or.inl rfl | exact Or.inr rfl))) (fun _ _ _ _ _ => pts_nil) (fun _ _ _ _ _ => (pe_fn G_half_of (hr.mono (by decide)) (by rfl) (pa_cons (pv 9) (pa_cons (pv 5) (pa_cons (pv 12) pa_nil)))))) (pss_cons (ps_for PassesOwn.never rfl (pi_listK (K := K) (pv 11)) (pg_name (i := 6) sc_l_law.nd rfl (by first | exact Or.inl rfl | exact Or.inr rfl)) (pss_cons (ps_for PassesOwn.never rfl (pi_listK (K := K) (pv 11)) (pg_name (i := 7) sc_l_law.nd rfl (by first | exact Or.inl rfl | exact Or.inr rfl)) (pss_cons (ps_dput (un1 hr.units) (pv 10) (pe_fn G_joined (hr.mono (by decide)) (by rfl) (pa_cons (pv 6) (pa_cons (pv 7) pa_nil))) pe_bl (by rfl)) pss_nil)) pss_nil)) pss_nil))) (pss_cons (ps_ret (pe_cmpR op_eq (pe_callB call_len_dT (by rfl) T.len (by decide +kernel) (pa_cons (pv 10) pa_nil)) (pe_fn G_how_many (hr.mono (by decide)) (by rfl) (pa_cons (pv 9) pa_nil)) (nomark _))) pss_never))))))))))), fun ns => ?_⟩) ht
  exact (show BX K _ [.sc (ns.map PyData.int), .un, .un, .un, .un, .un, .un, .un, .un, .un, .un, .un, .un, .un] encR_l_law (l_law ns) from
   (bx_asgB (e := (eL PyData.int)) (i := 0) (EXw.sh (exw_slSc (i := 0) rfl eo_none (eo_some ex_int))) (fun ns_1 => (bx_bind fun u2 hu2 => (bx_bind fun u3 hu3 => (bx_asg (d := PyData.int u3) (ex_ixL (EXw.l (exw_call (ea_cons (ex_var (i := 0) rfl) (ea_cons ex_int (ea_cons (EXw.sh (exw_lst (ds := ([(10 : Int)] : (List Int)).map PyData.int) (ea_cons ex_int ea_nil) (Nat.le_of_ble_eq_true rfl))) ea_nil))) ⟨(ns_1, (0 : Int), ([(10 : Int)])), u2, rfl, hu2, rfl⟩)) ex_int (atI_map hu3)) (EGc.eg (egc_name (i := 1) (vs := [1]) (by decide))) (bx_asgB (e := PyData.int) (i := 1) (ex_add ex_int (ex_var (i := 1) rfl)) (fun v_pegs_4 => (bx_bind fun g5 hg5 => (bx_bind fun u8 hu8 => (bx_asg (d := (eL PyData.int) u8) (EXw.sh (exw_lc (e := PyData.int) (e' := PyData.int) (envB := (fun x6 => [.sh ((eL PyData.int) ns_1), .sh (PyData.int v_pegs_4), .un, .un, .un, .sh (PyData.int x6), .un, .un, .un, .un, .un, .un, .un, .un])) (EIs.i (eis_rng1 (ex_add (ex_var (i := 1) rfl) ex_int) (grd_ok hg5))) hu8 (fun x6 _ => (egc_name (i := 5) (by decide))) (fun x6 _ => (eto_some et_yes)) (fun x6 _ => (exo_bind fun u7 hu7 => (exo_some (e := PyData.int) (ex_call (ea_cons (ex_var (i := 1) rfl) (ea_cons (ex_var (i := 5) rfl) ea_nil)) ⟨(v_pegs_4, x6), u7, rfl, hu7, rfl⟩)))))) (EGc.eg (egc_name (i := 2) (vs := [2]) (by decide))) (bx_bind fun u11 hu11 => (bx_bind fun u12 hu12 => (bx_ifRet (et_of (ex_neI (ex_sum (EXw.l (exw_lc (e := PyData.int) (e' := PyData.int) (envB := (fun x9 => [.sh ((eL PyData.int) ns_1), .sh (PyData.int v_pegs_4), .sh ((eL PyData.int) u8), .un, .un, .un, .un, .un, .un, .un, .un, .un, .un, .sh (PyData.int x9)])) (ei_list (EX.l (ex_var (i := 2) rfl))) hu11 (fun x9 _ => (egc_name (i := 13) (by decide))) (fun x9 _ => (eto_some et_yes)) (fun x9 _ => (exo_bind fun g10 hg10 => (exo_some (e := PyData.int) (ex_mul (ex_var (i := 13) rfl) (ex_var (i := 13) rfl) (grd_ok hg10)))))))) (ex_call (ea_cons (ex_var (i := 1) rfl) ea_nil) ⟨v_pegs_4, u12, rfl, hu12, rfl⟩))) (fun _ => (bx_retS ex_bl rfl)) (fun _ _ _ h => nomatch h) (fun _ => (bx_newT (kf := kT) (e := (eP3 PyData.int PyData.int PyData.int)) (β := (Int × Int × Int)) (i := 3) (bx_bindR (envS := (fun (s_1 : (List ((List Int) × (Int × Int × Int)))) => [.sh ((eL PyData.int) ns_1), .sh (PyData.int v_pegs_4), .sh ((eL PyData.int) u8), .dt (s_1.map (kvE kT (eP3 PyData.int PyData.int PyData.int))), .un, .un, .un, .un, .un, .un, .un, .un, .un, .un])) (encR := encR_l_law) (bx_forR (encR := encR_l_law) (envS := (fun (s_1 : (List ((List Int) × (Int × Int × Int)))) => [.sh ((eL PyData.int) ns_1), .sh (PyData.int v_pegs_4), .sh ((eL PyData.int) u8), .dt (s_1.map (kvE kT (eP3 PyData.int PyData.int PyData.int))), .un, .un, .un, .un, .un, .un, .un, .un, .un, .un])) (e := PyData.int) (envB := (fun (s_1 : (List ((List Int) × (Int × Int × Int)))) (x13 : Int) => [.sh ((eL PyData.int) ns_1), .sh (PyData.int v_pegs_4), .sh ((eL PyData.int) u8), .dt (s_1.map (kvE kT (eP3 PyData.int PyData.int PyData.int))), .sh (PyData.int x13), .un, .un, .un, .un, .un, .un, .un, .un, .un])) (f := (l_law_for1 ns_1 v_pegs_4 u8)) (eis_rng1 ex_int (by decide)) (.same (.same (.same (.same (.un (.un (.un (.un (.un (.un (.un (.un (.un (.un .nil)))))))))))))) (fun _ => trivial) (fun s_1 x13 _ => EGc.eg (vs := [4]) (egc_name (i := 4) (by decide))) (fun s_1 x13 _ => (bx_bind fun u14 hu14 => (bx_bind fun u18 hu18 => (bx_asg (d := (eL PyData.int) [u18.1, u18.2.1, u18.2.2]) (ex_is (EXw.sh (exw_call (ea_cons (ex_var (i := 0) rfl) (ea_cons (ex_add ex_int (ex_var (i := 4) rfl)) (ea_cons (EXw.sh (exw_lst (ds := ([(v_pegs_4 + (1 : Int)), ((10 : Int) ^ Int.toNat (9 : Int)), ((10 : Int) ^ Int.toNat (9 : Int))] : (List Int)).map PyData.int) (ea_cons (ex_add (ex_var (i := 1) rfl) ex_int) (ea_cons (ex_pow ex_int ex_int ⟨by decide, by decide, by decide⟩) (ea_cons (ex_pow ex_int ex_int ⟨by decide, by decide, by decide⟩) ea_nil))) (Nat.le_of_ble_eq_true rfl))) ea_nil))) ⟨(ns_1, ((1 : Int) + x13), ([(v_pegs_4 + (1 : Int)), ((10 : Int) ^ Int.toNat (9 : Int)), ((10 : Int) ^ Int.toNat (9 : Int))])), u14, rfl, hu14, rfl⟩)) (congrArg (eL PyData.int) (unp3_ok hu18))) (EGc.eg (vs := [5, 6, 7]) (egc_lst (egs_cons (egc_name (i := 5) (by decide)) (egs_cons (egc_name (i := 6) (by decide)) (egs_cons (egc_name (i := 7) (by decide)) egs_nil))) rfl)) (bx_bind fun u19 hu19 => (bx_asgB (e := PyData.int) (i := 5) (ex_add (ex_var (i := 5) rfl) (ex_ixL (EXw.l (exw_lst (ds := ([(0 : Int), (1 : Int)] : (List Int)).map PyData.int) (ea_cons ex_int (ea_cons ex_int ea_nil)) (Nat.le_of_ble_eq_true rfl))) (ex_mod (ex_sub (ex_var (i := 1) rfl) (ex_var (i := 5) rfl)) ex_int (by decide)) (atI_map hu19))) (fun v_gone_20 => (bx_bind fun u21 hu21 => (bx_bind fun g22 hg22 => (bx_bind fun u23 hu23 => (bx_bind fun g24 hg24 => (bx_par (i := 6) (j := 7) (ex_mod (ex_var (i := 6) rfl) (ex_ixL (EX.l (ex_var (i := 2) rfl)) (ex_var (i := 5) rfl) (atI_map hu21)) (grd_ok hg22)) (ex_mod (ex_var (i := 7) rfl) (ex_ixL (EX.l (ex_var (i := 2) rfl)) (ex_var (i := 5) rfl) (atI_map hu23)) (grd_ok hg24)) (bx_bind fun u25 hu25 => (bx_bind fun u26 hu26 => (bx_bind fun u27 hu27 => (bx_asg (d := (eT PyData.int) u27) (ex_call (ea_cons (ex_call (ea_cons (ex_var (i := 1) rfl) (ea_cons (ex_var (i := 5) rfl) (ea_cons (ex_var (i := 6) rfl) ea_nil))) ⟨(v_pegs_4, v_gone_20, (u18.2.1 % u21)), u25, rfl, hu25, rfl⟩) (ea_cons (ex_call (ea_cons (ex_var (i := 1) rfl) (ea_cons (ex_var (i := 5) rfl) (ea_cons (ex_var (i := 7) rfl) ea_nil))) ⟨(v_pegs_4, v_gone_20, (u18.2.2 % u23)), u26, rfl, hu26, rfl⟩) ea_nil)) ⟨(u25, u26), u27, rfl, hu27, rfl⟩) (EGc.eg (egc_name (i := 8) (vs := [8]) (by decide))) (bx_bind fun u28 hu28 => (bx_bind fun c31 hc31 => (bx_ifRetM (encR := encR_l_law) ((eto_or (eto_some (et_not (et_B (ex_call (ea_cons (ex_var (i := 8) rfl) ea_nil) ⟨u27, u28, rfl, hu28, rfl⟩)))) (eto_bind fun u29 hu29 => (eto_bind fun u30 hu30 => (eto_some (et_not (et_B (ex_call (ea_cons (ex_call (ea_cons (ex_var (i := 8) rfl) ea_nil) ⟨u27, u29, rfl, hu29, rfl⟩) (ea_cons (ex_tup (ea_cons (ex_var (i := 6) rfl) (ea_cons (ex_var (i := 7) rfl) ea_nil)) (Nat.le_of_ble_eq_true rfl)) ea_nil)) ⟨(((eP PyData.int PyData.int) u29), ((eP PyData.int PyData.int) ((u18.2.1 % u21), (u18.2.2 % u23)))), u30, rfl, hu30, rfl⟩))))))) c31 hc31) (fun _ => (bx_retS ex_bl rfl)) (fun _ _ h => nomatch h) (fun _ => rfl) (fun _ => (bx_ifRetM (encR := encR_l_law) (et_of (ex_neT (x := (((lookA s_1 u27).getD (v_gone_20, (u18.2.1 % u21), (u18.2.2 % u23))) : (Int × Int × Int))) (y := ((v_gone_20, (u18.2.1 % u21), (u18.2.2 % u23)) : (Int × Int × Int))) (EnOk.pair3 EnOk.int EnOk.int EnOk.int) (EX.q (ex_dget2T kT_inj (e := (eP3 PyData.int PyData.int PyData.int)) (i := 3) rfl (ex_is (ex_var (i := 8) rfl) (kT_tup _)) (ex_tup (ea_cons (ex_var (i := 5) rfl) (ea_cons (ex_var (i := 6) rfl) (ea_cons (ex_var (i := 7) rfl) ea_nil))) (Nat.le_of_ble_eq_true rfl)))) (EX.q (ex_tup (ea_cons (ex_var (i := 5) rfl) (ea_cons (ex_var (i := 6) rfl) (ea_cons (ex_var (i := 7) rfl) ea_nil))) (Nat.le_of_ble_eq_true rfl))))) (fun _ => (bx_retS ex_bl rfl)) (fun _ _ h => nomatch h) (fun _ => rfl) (fun _ => (bx_bind fun u32 hu32 => (bx_dputT kT_inj (e := (eP3 PyData.int PyData.int PyData.int)) (i := 3) rfl (ex_tup (ea_cons (ex_var (i := 5) rfl) (ea_cons (ex_var (i := 6) rfl) (ea_cons (ex_var (i := 7) rfl) ea_nil))) (Nat.le_of_ble_eq_true rfl)) (ex_is (ex_var (i := 8) rfl) (kT_tup _)) hu32 (bx_nx (.same (.same (.same (.same (.un (.un (.un (.un (.un (.un (.un (.un (.un (.un .nil)))))))))))))) rfl)))))))))))))))))))))))))) (fun _ => rfl) (fun _ _ h => nomatch h) (fun s33 _ => (bx_asgB (e := PyData.int) (i := 9) (ex_add ex_int (ex_mod (ex_var (i := 1) rfl) ex_int (by decide))) (fun v_few_34 => (bx_newT (kf := kT) (e := PyData.bool) (β := Bool) (i := 10) (bx_bind fun g35 hg35 => (bx_bind fun g36 hg36 => (bx_then (envS := (fun (s_2 : (List ((List Int) × Bool))) => [.sh ((eL PyData.int) ns_1), .sh (PyData.int v_pegs_4), .sh ((eL PyData.int) u8), .dt (s33.map (kvE kT (eP3 PyData.int PyData.int PyData.int))), .un, .un, .un, .un, .un, .sh (PyData.int v_few_34), .dt (s_2.map (kvE kT PyData.bool)), .un, .un, .un])) (bx_forS (envS := (fun (s_2 : (List ((List Int) × Bool))) => [.sh ((eL PyData.int) ns_1), .sh (PyData.int v_pegs_4), .sh ((eL PyData.int) u8), .dt (s33.map (kvE kT (eP3 PyData.int PyData.int PyData.int))), .un, .un, .un, .un, .un, .sh (PyData.int v_few_34), .dt (s_2.map (kvE kT PyData.bool)), .un, .un, .un])) (e := PyData.int) (envB := (fun (s_2 : (List ((List Int) × Bool))) (x37 : Int) => [.sh ((eL PyData.int) ns_1), .sh (PyData.int v_pegs_4), .sh ((eL PyData.int) u8), .dt (s33.map (kvE kT (eP3 PyData.int PyData.int PyData.int))), .un, .sh (PyData.int x37), .un, .un, .un, .sh (PyData.int v_few_34), .dt (s_2.map (kvE kT PyData.bool)), .un, .un, .un])) (f := (l_law_for2 v_few_34)) (eis_rng3 (ex_mod (ex_var (i := 9) rfl) ex_int (by decide)) (ex_add (ex_var (i := 9) rfl) ex_int) ex_int (grd_ok hg35) (grd_ok hg36) (by decide) (by decide)) (.same (.same (.same (.same (.un (.un (.un (.un (.un (.same (.same (.un (.un (.un .nil)))))))))))))) (fun s_2 x37 _ => EGc.eg (vs := [5]) (egc_name (i := 5) (by decide))) (fun s_2 x37 _ => (bx_bind fun u38 hu38 => (bx_bind fun g39 hg39 => (bx_bind fun u42 hu42 => (bx_asg (d := (eL (eT PyData.int)) u42) (EXw.sh (exw_lc (e := PyData.int) (e' := (eT PyData.int)) (envB := (fun x40 => [.sh ((eL PyData.int) ns_1), .sh (PyData.int v_pegs_4), .sh ((eL PyData.int) u8), .dt (s33.map (kvE kT (eP3 PyData.int PyData.int PyData.int))), .un, .sh (PyData.int x37), .un, .un, .un, .sh (PyData.int v_few_34), .dt (s_2.map (kvE kT PyData.bool)), .un, .sh (PyData.int x40), .un])) (EIs.i (eis_rng1 (ex_call (ea_cons (ex_var (i := 9) rfl) (ea_cons (ex_var (i := 5) rfl) ea_nil)) ⟨(v_few_34, x37), u38, rfl, hu38, rfl⟩) (grd_ok hg39))) hu42 (fun x40 _ => (egc_name (i := 12) (by decide))) (fun x40 _ => (eto_some et_yes)) (fun x40 _ => (exo_bind fun u41 hu41 => (exo_some (e := (eT PyData.int)) (ex_call (ea_cons (ex_var (i := 9) rfl) (ea_cons (ex_var (i := 5) rfl) (ea_cons (ex_var (i := 12) rfl) ea_nil))) ⟨(v_few_34, x37, x40), u41, rfl, hu41, rfl⟩)))))) (EGc.eg (egc_name (i := 11) (vs := [11]) (by decide))) (bx_then (envS := (fun (s_3 : (List ((List Int) × Bool))) => [.sh ((eL PyData.int) ns_1), .sh (PyData.int v_pegs_4), .sh ((eL PyData.int) u8), .dt (s33.map (kvE kT (eP3 PyData.int PyData.int PyData.int))), .un, .sh (PyData.int x37), .un, .un, .un, .sh (PyData.int v_few_34), .dt (s_3.map (kvE kT PyData.bool)), .sh ((eL (eT PyData.int)) u42), .un, .un])) (bx_forS (envS := (fun (s_3 : (List ((List Int) × Bool))) => [.sh ((eL PyData.int) ns_1), .sh (PyData.int v_pegs_4), .sh ((eL PyData.int) u8), .dt (s33.map (kvE kT (eP3 PyData.int PyData.int PyData.int))), .un, .sh (PyData.int x37), .un, .un, .un, .sh (PyData.int v_few_34), .dt (s_3.map (kvE kT PyData.bool)), .sh ((eL (eT PyData.int)) u42), .un, .un])) (e := (eT PyData.int)) (envB := (fun (s_3 : (List ((List Int) × Bool))) (x43 : (List Int)) => [.sh ((eL PyData.int) ns_1), .sh (PyData.int v_pegs_4), .sh ((eL PyData.int) u8), .dt (s33.map (kvE kT (eP3 PyData.int PyData.int PyData.int))), .un, .sh (PyData.int x37), .sh ((eT PyData.int) x43), .un, .un, .sh (PyData.int v_few_34), .dt (s_3.map (kvE kT PyData.bool)), .sh ((eL (eT PyData.int)) u42), .un, .un])) (f := (l_law_for3 u42)) (eis_list (ex_var (i := 11) rfl)) (.same (.same (.same (.same (.un (.same (.un (.un (.un (.same (.same (.same (.un (.un .nil)))))))))))))) (fun s_3 x43 _ => EGc.eg (vs := [6]) (egc_name (i := 6) (by decide))) (fun s_3 x43 _ => (bx_then (envS := (fun (s_4 : (List ((List Int) × Bool))) => [.sh ((eL PyData.int) ns_1), .sh (PyData.int v_pegs_4), .sh ((eL PyData.int) u8), .dt (s33.map (kvE kT (eP3 PyData.int PyData.int PyData.int))), .un, .sh (PyData.int x37), .sh ((eT PyData.int) x43), .un, .un, .sh (PyData.int v_few_34), .dt (s_4.map (kvE kT PyData.bool)), .sh ((eL (eT PyData.int)) u42), .un, .un])) (bx_forS (envS := (fun (s_4 : (List ((List Int) × Bool))) => [.sh ((eL PyData.int) ns_1), .sh (PyData.int v_pegs_4), .sh ((eL PyData.int) u8), .dt (s33.map (kvE kT (eP3 PyData.int PyData.int PyData.int))), .un, .sh (PyData.int x37), .sh ((eT PyData.int) x43), .un, .un, .sh (PyData.int v_few_34), .dt (s_4.map (kvE kT PyData.bool)), .sh ((eL (eT PyData.int)) u42), .un, .un])) (e := (eT PyData.int)) (envB := (fun (s_4 : (List ((List Int) × Bool))) (x44 : (List Int)) => [.sh ((eL PyData.int) ns_1), .sh (PyData.int v_pegs_4), .sh ((eL PyData.int) u8), .dt (s33.map (kvE kT (eP3 PyData.int PyData.int PyData.int))), .un, .sh (PyData.int x37), .sh ((eT PyData.int) x43), .sh ((eT PyData.int) x44), .un, .sh (PyData.int v_few_34), .dt (s_4.map (kvE kT PyData.bool)), .sh ((eL (eT PyData.int)) u42), .un, .un])) (f := (l_law_for4 x43)) (eis_list (ex_var (i := 11) rfl)) (.same (.same (.same (.same (.un (.same (.same (.un (.un (.same (.same (.same (.un (.un .nil)))))))))))))) (fun s_4 x44 _ => EGc.eg (vs := [7]) (egc_name (i := 7) (by decide))) (fun s_4 x44 _ => (bx_bind fun u45 hu45 => (bx_bind fun u46 hu46 => (bx_dputT kT_inj (e := PyData.bool) (i := 10) rfl ex_bl (ex_is (ex_call (ea_cons (ex_var (i := 6) rfl) (ea_cons (ex_var (i := 7) rfl) ea_nil)) ⟨(x43, x44), u45, rfl, hu45, rfl⟩) (kT_tup _)) hu46 (bx_nx (.same (.same (.same (.same (.un (.same (.same (.un (.un (.same (.same (.same (.un (.un .nil)))))))))))))) rfl)))))) (fun s47 _ => (bx_nx (.same (.same (.same (.same (.un (.same (.un (.un (.un (.same (.same (.same (.un (.un .nil)))))))))))))) rfl))))) (fun s48 _ => (bx_nx (.same (.same (.same (.same (.un (.un (.un (.un (.un (.same (.same (.un (.un (.un .nil)))))))))))))) rfl))))))))) (fun s49 _ => (bx_bind fun u50 hu50 => (bx_retS (ex_eqI (ex_lenDT (i := 10) (kf := kT) (e := PyData.bool) (xs := s49) rfl) (ex_call (ea_cons (ex_var (i := 9) rfl) ea_nil) ⟨v_few_34, u50, rfl, hu50, rfl⟩)) rfl)))))))))))))))))))))))))))
end Rb.M_k20

set_option Elab.async false
set_option linter.all false
set_option maxRecDepth 100000
set_option maxHeartbeats 0
namespace Rb.M_k20
open PySem PySem.Spec PyProof.Rows L2 Rb
def dD (i : Nat) (x : Str) : He.DefD := ⟨(x, none), x, x, defArgs (top i), defBody (top i), defScope (top i), [], []⟩
def fn : List He.DefD := [dD 8 "ask_pegs", dD 9 "turned_round", dD 10 "in_round", dD 11 "are_ties", dD 12 "nested", dD 13 "is_frame", dD 14 "ask_frame", dD 16 "is_half", dD 17 "ask_half", dD 18 "ask_halves", dD 19 "upper", dD 20 "lower", dD 21 "going", dD 22 "made_of", dD 23 "joined", dD 25 "ways_on", dD 26 "how_many", dD 27 "texts", dD 28 "half_in", dD 29 "halves", dD 30 "how_many_halves", dD 31 "half_of", dD 32 "half_number", dD 34 "family", dD 36 "_law_mix", dD 37 "_law_raw", dD 38 "_law_digits", dD 39 "_law_same", dD 40 "law"]
def fa : List He.Fa := [.glo "ask_pegs", .glo "turned_round", .glo "in_round", .glo "are_ties", .glo "nested", .glo "is_frame", .glo "ask_frame", .glo "is_half", .glo "ask_half", .glo "ask_halves", .glo "upper", .glo "lower", .glo "going", .glo "made_of", .glo "joined", .glo "ways_on", .glo "how_many", .glo "texts", .glo "half_in", .glo "halves", .glo "how_many_halves", .glo "half_of", .glo "half_number", .glo "family", .glo "_law_mix", .glo "_law_raw", .glo "_law_digits", .glo "_law_same", .glo "law", .free "all", .free "bool", .free "enumerate", .free "int", .free "isinstance", .free "len", .free "list", .free "range", .free "sorted", .free "str", .free "sum", .free "tuple", .free "zip", .int "MOST_PEGS" 10]
def loose0 : List Str := ["RibbonError", "BadPegs", "BadFrame", "BadHalf", "NoNumber", "MOST_PEGS", "ask_pegs", "turned_round", "in_round", "are_ties", "nested", "is_frame", "ask_frame", "is_half", "ask_half", "ask_halves", "upper", "lower", "going", "made_of", "joined", "ways_on", "how_many", "texts", "half_in", "halves", "how_many_halves", "half_of", "half_number", "family"]
def loose1 : List Str := ["_law_mix", "_law_raw", "_law_digits", "_law_same"]
def loose : List Str := loose0 ++ loose1
abbrev R0 : PySem.W.OpenRow := PySem.W.OpenLaw.row PySem.Challenge.rw_ribbonloft_k20_whole_two_halves_make_a_f
abbrev hk : PySem.W.Hook := He.hookD 4 fa fn
def ob (s : PySem.W.SharedT) : He.AlD := He.obsDG 4 fa fn (HandSHeadRun.getT s)
theorem ob_eq (s : PySem.W.SharedT) : ob s = hk.obs s.abs := He.obsDG_eq (HandSHeadRun.getT_eq s)
theorem run (w : World) : HandSHeadRun.RunEq R0 (PySem.W.view R0.prog [40]) hk ob 6000 loose w := by
  intro os
  kernel_rfl
theorem facts (ht : ∀ ns : List Int, ns.length ≤ 63 → l_law ns = some true) {P : Program} {w : World} {K : PySem.W.Frag} {h : Heap} {mg : Str → Option Value} {f : Addr} (X : K.In h) (G : h.Ns mainGlobals mg) (hfa : mg ("law" : Str) = some (.ref f)) (c : He.SaysD fa fn K) :
    ∃ fd : FuncData, (∀ (s : Shared) (v : Value), BindsTo s fd ⟨[v], []⟩ [("_law_script", v)]) ∧ ∀ base : Heap, K.In base → base.Ns mainGlobals mg → FnOk P w K mg base CX0 8 f fd ["_law_script"] (spLaw K) := by
  obtain ⟨fd0, F0⟩ := c.def_ 0 (d := dD 8 "ask_pegs") rfl
  obtain ⟨fd1, F1⟩ := c.def_ 1 (d := dD 9 "turned_round") rfl
  obtain ⟨fd2, F2⟩ := c.def_ 2 (d := dD 10 "in_round") rfl
  obtain ⟨fd3, F3⟩ := c.def_ 3 (d := dD 11 "are_ties") rfl
  obtain ⟨fd4, F4⟩ := c.def_ 4 (d := dD 12 "nested") rfl
  obtain ⟨fd5, F5⟩ := c.def_ 5 (d := dD 13 "is_frame") rfl
  obtain ⟨fd6, F6⟩ := c.def_ 6 (d := dD 14 "ask_frame") rfl
  obtain ⟨fd7, F7⟩ := c.def_ 7 (d := dD 16 "is_half") rfl
  obtain ⟨fd8, F8⟩ := c.def_ 8 (d := dD 17 "ask_half") rfl
  obtain ⟨fd9, F9⟩ := c.def_ 9 (d := dD 18 "ask_halves") rfl
  obtain ⟨fd10, F10⟩ := c.def_ 10 (d := dD 19 "upper") rfl
  obtain ⟨fd11, F11⟩ := c.def_ 11 (d := dD 20 "lower") rfl
  obtain ⟨fd12, F12⟩ := c.def_ 12 (d := dD 21 "going") rfl
  obtain ⟨fd13, F13⟩ := c.def_ 13 (d := dD 22 "made_of") rfl
  obtain ⟨fd14, F14⟩ := c.def_ 14 (d := dD 23 "joined") rfl
  obtain ⟨fd15, F15⟩ := c.def_ 15 (d := dD 25 "ways_on") rfl
  obtain ⟨fd16, F16⟩ := c.def_ 16 (d := dD 26 "how_many") rfl
  obtain ⟨fd17, F17⟩ := c.def_ 17 (d := dD 27 "texts") rfl
  obtain ⟨fd18, F18⟩ := c.def_ 18 (d := dD 28 "half_in") rfl
  obtain ⟨fd19, F19⟩ := c.def_ 19 (d := dD 29 "halves") rfl
  obtain ⟨fd20, F20⟩ := c.def_ 20 (d := dD 30 "how_many_halves") rfl
  obtain ⟨fd21, F21⟩ := c.def_ 21 (d := dD 31 "half_of") rfl
  obtain ⟨fd22, F22⟩ := c.def_ 22 (d := dD 32 "half_number") rfl
  obtain ⟨fd23, F23⟩ := c.def_ 23 (d := dD 34 "family") rfl
  obtain ⟨fd24, F24⟩ := c.def_ 24 (d := dD 36 "_law_mix") rfl
  obtain ⟨fd25, F25⟩ := c.def_ 25 (d := dD 37 "_law_raw") rfl
  obtain ⟨fd26, F26⟩ := c.def_ 26 (d := dD 38 "_law_digits") rfl
  obtain ⟨fd27, F27⟩ := c.def_ 27 (d := dD 39 "_law_same") rfl
  obtain ⟨fd28, F28⟩ := c.def_ 28 (d := dD 40 "law") rfl
  have e := hfa.symm.trans (He.glo_ok X G (c.fact 28 (f := .glo "law") rfl))
  cases e
  have T : Tx K mg := ⟨trivial, He.free_ok X G (c.fact 29 (f := .free "all") rfl), He.free_ok X G (c.fact 30 (f := .free "bool") rfl), He.free_ok X G (c.fact 31 (f := .free "enumerate") rfl), He.free_ok X G (c.fact 32 (f := .free "int") rfl), He.free_ok X G (c.fact 33 (f := .free "isinstance") rfl), He.free_ok X G (c.fact 34 (f := .free "len") rfl), He.free_ok X G (c.fact 35 (f := .free "list") rfl), He.free_ok X G (c.fact 36 (f := .free "range") rfl), He.free_ok X G (c.fact 37 (f := .free "sorted") rfl), He.free_ok X G (c.fact 38 (f := .free "str") rfl), He.free_ok X G (c.fact 39 (f := .free "sum") rfl), He.free_ok X G (c.fact 40 (f := .free "tuple") rfl), He.free_ok X G (c.fact 41 (f := .free "zip") rfl), He.int_ok X G (c.fact 42 (f := .int "MOST_PEGS" 10) rfl)⟩
  refine ⟨fd28, fun s v => FunD.bindsA (ps := ["_law_script"]) F28 (fun _ _ _ _ _ _ us hl => match us, hl with | [_], _ => rfl) s [v] rfl, fun base _ _ => ?_⟩
  have G_ask_pegs := fn_p_ask_pegs (P := P) (w := w) (base := base) F0 (He.glo_ok X G (c.fact 0 (f := .glo "ask_pegs") rfl)) T 
  have G_turned_round := fn_p_turned_round (P := P) (w := w) (base := base) F1 (He.glo_ok X G (c.fact 1 (f := .glo "turned_round") rfl)) T 
  have G_in_round := fn_p_in_round (P := P) (w := w) (base := base) F2 (He.glo_ok X G (c.fact 2 (f := .glo "in_round") rfl)) T G_turned_round
  have G_in_round_L := fn_p_in_round_L (P := P) (w := w) (base := base) F2 (He.glo_ok X G (c.fact 2 (f := .glo "in_round") rfl)) T G_turned_round
  have G_are_ties := fn_p_are_ties (P := P) (w := w) (base := base) F3 (He.glo_ok X G (c.fact 3 (f := .glo "are_ties") rfl)) T 
  have G_nested := fn_p_nested (P := P) (w := w) (base := base) F4 (He.glo_ok X G (c.fact 4 (f := .glo "nested") rfl)) T 
  have G_is_frame := fn_p_is_frame (P := P) (w := w) (base := base) F5 (He.glo_ok X G (c.fact 5 (f := .glo "is_frame") rfl)) T G_are_ties G_in_round G_nested
  have G_ask_frame := fn_p_ask_frame (P := P) (w := w) (base := base) F6 (He.glo_ok X G (c.fact 6 (f := .glo "ask_frame") rfl)) T G_is_frame
  have G_is_half := fn_p_is_half (P := P) (w := w) (base := base) F7 (He.glo_ok X G (c.fact 7 (f := .glo "is_half") rfl)) T 
  have G_ask_half := fn_p_ask_half (P := P) (w := w) (base := base) F8 (He.glo_ok X G (c.fact 8 (f := .glo "ask_half") rfl)) T G_is_half
  have G_ask_halves := fn_p_ask_halves (P := P) (w := w) (base := base) F9 (He.glo_ok X G (c.fact 9 (f := .glo "ask_halves") rfl)) T G_ask_half
  have G_upper := fn_p_upper (P := P) (w := w) (base := base) F10 (He.glo_ok X G (c.fact 10 (f := .glo "upper") rfl)) T G_ask_frame
  have G_lower := fn_p_lower (P := P) (w := w) (base := base) F11 (He.glo_ok X G (c.fact 11 (f := .glo "lower") rfl)) T G_ask_frame
  have G_going := fn_p_going (P := P) (w := w) (base := base) F12 (He.glo_ok X G (c.fact 12 (f := .glo "going") rfl)) T 
  have G_made_of := fn_p_made_of (P := P) (w := w) (base := base) F13 (He.glo_ok X G (c.fact 13 (f := .glo "made_of") rfl)) T G_going
  have G_joined := fn_p_joined (P := P) (w := w) (base := base) F14 (He.glo_ok X G (c.fact 14 (f := .glo "joined") rfl)) T G_ask_halves G_going G_made_of
  have G_ways_on := fn_p_ways_on (P := P) (w := w) (base := base) F15 (He.glo_ok X G (c.fact 15 (f := .glo "ways_on") rfl)) T 
  have G_how_many := fn_p_how_many (P := P) (w := w) (base := base) F16 (He.glo_ok X G (c.fact 16 (f := .glo "how_many") rfl)) T G_ask_pegs G_ways_on
  have G_texts := fn_p_texts (P := P) (w := w) (base := base) F17 (He.glo_ok X G (c.fact 17 (f := .glo "texts") rfl)) T 
  have G_half_in := fn_p_half_in (P := P) (w := w) (base := base) F18 (He.glo_ok X G (c.fact 18 (f := .glo "half_in") rfl)) T 
  have G_halves := fn_p_halves (P := P) (w := w) (base := base) F19 (He.glo_ok X G (c.fact 19 (f := .glo "halves") rfl)) T G_texts G_half_in
  have G_how_many_halves := fn_p_how_many_halves (P := P) (w := w) (base := base) F20 (He.glo_ok X G (c.fact 20 (f := .glo "how_many_halves") rfl)) T G_ask_pegs G_halves
  have G_half_of := fn_p_half_of (P := P) (w := w) (base := base) F21 (He.glo_ok X G (c.fact 21 (f := .glo "half_of") rfl)) T G_ask_pegs G_halves
  have G_half_number := fn_p_half_number (P := P) (w := w) (base := base) F22 (He.glo_ok X G (c.fact 22 (f := .glo "half_number") rfl)) T G_ask_half G_going G_halves
  have G_family := fn_p_family (P := P) (w := w) (base := base) F23 (He.glo_ok X G (c.fact 23 (f := .glo "family") rfl)) T G_ask_frame G_upper G_half_number G_lower
  have G__law_mix := fn_l_mix (P := P) (w := w) (base := base) F24 (He.glo_ok X G (c.fact 24 (f := .glo "_law_mix") rfl)) T 
  have G__law_raw := fn_l_raw (P := P) (w := w) (base := base) F25 (He.glo_ok X G (c.fact 25 (f := .glo "_law_raw") rfl)) T G__law_mix
  have G__law_digits := fn_l_digits (P := P) (w := w) (base := base) F26 (He.glo_ok X G (c.fact 26 (f := .glo "_law_digits") rfl)) T G__law_raw
  have G__law_same := fn_l_same (P := P) (w := w) (base := base) F27 (He.glo_ok X G (c.fact 27 (f := .glo "_law_same") rfl)) T 
  exact fn_law F28 T G__law_digits G_how_many_halves G_how_many G_half_of G_joined G_is_frame G_family G__law_same ht
end Rb.M_k20
open PySem PySem.W PySem.Calls PyProof.Rows
set_option maxHeartbeats 0 in
theorem PySem.Challenge.cw_ribbonloft_k20_whole_two_halves_make_a_f_holds : PySem.Challenge.rw_ribbonloft_k20_whole_two_halves_make_a_f.Holds := by
  w_on; o_law
  refine HandSHeadRun.head_any (r := OpenLaw.row PySem.Challenge.rw_ribbonloft_k20_whole_two_halves_make_a_f) (q := view (OpenLaw.row PySem.Challenge.rw_ribbonloft_k20_whole_two_halves_make_a_f).prog [40]) (H := Rb.M_k20.hk) (ob := Rb.M_k20.ob) (M := 6000) (loose := Rb.M_k20.loose) (d := HandSHeadRun.topDef (OpenLaw.row PySem.Challenge.rw_ribbonloft_k20_whole_two_halves_make_a_f).prog 40) (kwd := []) Rb.M_k20.ob_eq
    (by kernel_rfl) (fun s => by kernel_rfl) Rb.M_k20.run (by kernel_rfl) (by kernel_rfl) (by kernel_rfl) (by rfl) (by first | assumption | decide +kernel) (by decide +kernel) ⟨rfl, rfl, rfl, rfl, rfl, by decide +kernel⟩ ?hw ?hc
  case hw => w_witness2
  case hc =>
    refine L2.walk_ofE (l := PySem.Challenge.rw_ribbonloft_k20_whole_two_halves_make_a_f) (n := 63) (k := 8) (x := "_law_script") (CX := L2.CX0) rfl (by decide) (by kernel_rfl) ⟨rfl, by decide, by decide⟩ ?F (fun _ _ _ _ z => z)
    intro w mg fa h Y G hmg0
    obtain ⟨K, KX, c⟩ := Y
    have hmg : mg ("law" : PySem.Str) = some (.ref fa) := by
      have e : (HandSHeadRun.topDef (OpenLaw.row PySem.Challenge.rw_ribbonloft_k20_whole_two_halves_make_a_f).prog 40).name = ("law" : PySem.Str) := by kernel_rfl
      rw [← e]
      exact hmg0
    obtain ⟨fd, hb, hF⟩ := Rb.M_k20.facts Rb.M_k20.law_true (P := (PySem.Challenge.rw_ribbonloft_k20_whole_two_halves_make_a_f).prog) (w := w) KX G hmg c
    exact ⟨K, fd, Rb.spLaw K, KX, hb, fun H a ns hl _ hS => ⟨a, ns, rfl, hS, hl, fun _ => rfl⟩, hF⟩

