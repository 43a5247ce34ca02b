import PyProof.Rows.All
import Wide.All
import OpenK.AllK
import Wide.FinOn
import HandS.ForMost
import HandS.Exc
import HandS.TryOnly
import HandS.ExcOwn
import HandS.WordsExc
import HandS.Defaults
import HandS.Evl
import HandS.Wide
import HandS.SetFor
import HandS.Walk
import HandS.Conv
import HandS.Zip
import HandS.HeadHook2
import PySem.Challenge.RW_ribbonloft_k23_whole_three_exchanges
import KE.KStateDown
import Lean
import HandS.More
import HandS.Head0
import HandS.Head1
import HandS.Head2
import HandS.HeadEnd
set_option Elab.async false
set_option linter.all false
set_option maxRecDepth 100000
set_option maxHeartbeats 2000000
/-! # A typed layer over the hand layer: environments of data, judgements without heaps -/
namespace Rb
open PySem PySem.Spec PyProof.Rows L2
abbrev Ex := Evl.Ex
abbrev Frag := PySem.W.Frag
def lim : Nat := 100000
theorem lim_le {n : Nat} (h : n ≤ lim) : n ≤ sizeLine := Nat.le_trans h (by decide)
theorem lim_lt {n : Nat} (h : n < lim) : n < sizeLine := Nat.lt_of_lt_of_le h (by decide)

/-! ### data that a value stands for -/
mutual
inductive Dq (H : Hp) : V → PyData → Prop
  | non : Dq H .non .none
  | bl (b : Bool) : Dq H (.bl b) (.bool b)
  | int (i : Int) : Dq H (.int i) (.int i)
  | str (x : Str) : x.length ≤ lim → Dq H (.str x) (.str x)
  | lst {a : Addr} {xs : List V} {ds : List PyData} : H a = some (.lst xs) → DqAll H xs ds → ds.length ≤ lim → Dq H (.ref a) (.list ds)
  | tup {a : Addr} {xs : List V} {ds : List PyData} : H a = some (.tup xs) → DqAll H xs ds → ds.length ≤ lim → Dq H (.ref a) (.tuple ds)
inductive DqAll (H : Hp) : List V → List PyData → Prop
  | nil : DqAll H [] []
  | cons {v : V} {vs : List V} {d : PyData} {ds : List PyData} : Dq H v d → DqAll H vs ds → DqAll H (v :: vs) (d :: ds)
end
mutual
theorem Dq.mono {H H' : Hp} (e : Ex H H') : ∀ (d : PyData) (v : V), Dq H v d → Dq H' v d
  | .none, _, h => by cases h; exact .non
  | .bool b, _, h => by cases h; exact .bl b
  | .int i, _, h => by cases h; exact .int i
  | .str x, _, h => by cases h with | str _ z => exact .str x z
  | .list ds, _, h => by cases h with | lst h1 h2 h3 => exact .lst (e _ _ h1) (DqAll.mono e ds _ h2) h3
  | .tuple ds, _, h => by cases h with | tup h1 h2 h3 => exact .tup (e _ _ h1) (DqAll.mono e ds _ h2) h3
  | .dict _, _, h => by cases h
theorem DqAll.mono {H H' : Hp} (e : Ex H H') : ∀ (ds : List PyData) (vs : List V), DqAll H vs ds → DqAll H' vs ds
  | [], _, h => by cases h; exact .nil
  | d :: ds, _, h => by cases h with | cons h1 h2 => exact .cons (Dq.mono e d _ h1) (DqAll.mono e ds _ h2)
end
mutual
theorem Dq.dp {K : Frag} {H : Hp} : ∀ (d : PyData) (v : V), Dq H v d → Dp K H v d
  | .none, _, h => by cases h; exact .non
  | .bool b, _, h => by cases h; exact .bl b
  | .int i, _, h => by cases h; exact .int i
  | .str x, _, h => by cases h; exact .str x
  | .list ds, _, h => by cases h with | lst h1 h2 h3 => exact .lst (SqL.of h1) (DqAll.dp ds _ h2)
  | .tuple ds, _, h => by cases h with | tup h1 h2 h3 => exact .tup (SqT.of h1) (DqAll.dp ds _ h2)
  | .dict _, _, h => by cases h
theorem DqAll.dp {K : Frag} {H : Hp} : ∀ (ds : List PyData) (vs : List V), DqAll H vs ds → DpAll K H vs ds
  | [], _, h => by cases h; exact .nil
  | d :: ds, _, h => by cases h with | cons h1 h2 => exact .cons (Dq.dp d _ h1) (DqAll.dp ds _ h2)
end
theorem DqAll.len {H : Hp} : ∀ {ds : List PyData} {vs : List V}, DqAll H vs ds → vs.length = ds.length
  | [], _, h => by cases h; rfl
  | d :: ds, _, h => by cases h with | cons h1 h2 => rw [List.length_cons, List.length_cons, h2.len]
theorem DqAll.get {H : Hp} : ∀ {ds : List PyData} {vs : List V} {i : Nat} {d : PyData}, DqAll H vs ds → ds[i]? = some d → ∃ v, vs[i]? = some v ∧ Dq H v d
  | [], _, _, _, _, e => by simp at e
  | d :: ds, _, 0, _, .cons h1 h2, e => by simp at e; subst e; exact ⟨_, rfl, h1⟩
  | d :: ds, _, i + 1, _, .cons h1 h2, e => by
    obtain ⟨v, e1, e2⟩ := DqAll.get h2 (by simpa using e)
    exact ⟨v, by simpa using e1, e2⟩
theorem DqAll.getV {H : Hp} : ∀ {ds : List PyData} {vs : List V} {i : Nat} {v : V}, DqAll H vs ds → vs[i]? = some v → ∃ d, ds[i]? = some d ∧ Dq H v d
  | [], _, _, _, .nil, e => by simp at e
  | d :: ds, _, 0, _, .cons h1 h2, e => by simp at e; subst e; exact ⟨_, rfl, h1⟩
  | d :: ds, _, i + 1, _, .cons h1 h2, e => by
    obtain ⟨v, e1, e2⟩ := DqAll.getV h2 (by simpa using e)
    exact ⟨v, by simpa using e1, e2⟩
theorem DqAll.app {H : Hp} : ∀ {ds es : List PyData} {vs ws : List V}, DqAll H vs ds → DqAll H ws es → DqAll H (vs ++ ws) (ds ++ es)
  | [], _, _, _, .nil, h => h
  | _ :: _, _, _, _, .cons h1 h2, h => .cons h1 (h2.app h)
theorem DqAll.take {H : Hp} : ∀ {ds : List PyData} {vs : List V} (n : Nat), DqAll H vs ds → DqAll H (vs.take n) (ds.take n)
  | _, _, 0, _ => .nil
  | [], _, _ + 1, .nil => .nil
  | _ :: _, _, n + 1, .cons h1 h2 => .cons h1 (h2.take n)
theorem DqAll.drop {H : Hp} : ∀ {ds : List PyData} {vs : List V} (n : Nat), DqAll H vs ds → DqAll H (vs.drop n) (ds.drop n)
  | _, _, 0, h => h
  | [], _, _ + 1, .nil => .nil
  | _ :: _, _, n + 1, .cons h1 h2 => h2.drop n
theorem DqAll.set {H : Hp} {v : V} {d : PyData} (h : Dq H v d) : ∀ {ds : List PyData} {vs : List V} (i : Nat), DqAll H vs ds → DqAll H (vs.set i v) (ds.set i d)
  | [], _, _, .nil => .nil
  | _ :: _, _, 0, .cons h1 h2 => .cons h h2
  | _ :: _, _, n + 1, .cons h1 h2 => .cons h1 (h2.set h n)
theorem DqAll.rev {H : Hp} : ∀ {ds : List PyData} {vs : List V}, DqAll H vs ds → DqAll H vs.reverse ds.reverse
  | [], _, .nil => .nil
  | _ :: _, _, .cons h1 h2 => by
    rw [List.reverse_cons, List.reverse_cons]
    exact h2.rev.app (.cons h1 .nil)
theorem DqAll.dropLast {H : Hp} {ds : List PyData} {vs : List V} (h : DqAll H vs ds) : DqAll H vs.dropLast ds.dropLast := by
  rw [List.dropLast_eq_take, List.dropLast_eq_take, h.len]
  exact h.take _
theorem DqAll.erase {H : Hp} : ∀ {ds : List PyData} {vs : List V} (i : Nat), DqAll H vs ds → DqAll H (vs.eraseIdx i) (ds.eraseIdx i)
  | [], _, _, .nil => .nil
  | _ :: _, _, 0, .cons h1 h2 => h2
  | _ :: _, _, n + 1, .cons h1 h2 => .cons h1 (h2.erase n)
theorem DqAll.ints {H : Hp} : ∀ {ns : List Int} {vs : List V}, DqAll H vs (ns.map PyData.int) → vs = ns.map V.int
  | [], _, h => by cases h; rfl
  | n :: ns, _, h => by
    cases h with
    | cons h1 h2 =>
      cases h1
      rw [List.map_cons, h2.ints]
theorem DqAll.ints' {H : Hp} : ∀ (ns : List Int), DqAll H (ns.map V.int) (ns.map PyData.int)
  | [] => .nil
  | n :: ns => .cons (.int n) (DqAll.ints' ns)
theorem DqAll.bls {H : Hp} : ∀ {ns : List Bool} {vs : List V}, DqAll H vs (ns.map PyData.bool) → vs = ns.map V.bl
  | [], _, h => by cases h; rfl
  | n :: ns, _, h => by
    cases h with
    | cons h1 h2 =>
      cases h1
      rw [List.map_cons, h2.bls]
theorem DqAll.strs {H : Hp} : ∀ {ns : List Str} {vs : List V}, DqAll H vs (ns.map PyData.str) → vs = ns.map V.str
  | [], _, h => by cases h; rfl
  | n :: ns, _, h => by
    cases h with
    | cons h1 h2 =>
      cases h1
      rw [List.map_cons, h2.strs]
theorem DqAll.rep {H : Hp} {v : V} {d : PyData} (h : Dq H v d) : ∀ n, DqAll H (List.replicate n v) (List.replicate n d)
  | 0 => .nil
  | n + 1 => .cons h (DqAll.rep h n)

/-! ### a step of the two heaps: F what is settled for ever, H all that stands -/
structure Fz (F H F' H' : Hp) : Prop where
  f : Ex F F'
  fh : Ex F' H'
  own : ∀ p o, H p = some o → F p = none → F' p = none ∧ H' p = some o
theorem Fz.refl {F H : Hp} (e : Ex F H) : Fz F H F H := ⟨Evl.Ex.refl F, e, fun _ _ h n => ⟨n, h⟩⟩
theorem Fz.trans {F H F1 H1 F2 H2 : Hp} (a : Fz F H F1 H1) (b : Fz F1 H1 F2 H2) : Fz F H F2 H2 :=
  ⟨a.f.trans b.f, b.fh, fun p o h n => b.own p o (a.own p o h n).2 (a.own p o h n).1⟩
theorem Fz.hh {F H F' H' : Hp} (e : Ex F H) (a : Fz F H F' H') : Ex H H' := fun p o h => by
  cases q : F p with
  | none => exact (a.own p o h q).2
  | some u =>
    have e1 := e p u q
    rw [h] at e1
    cases e1
    exact a.fh p o (a.f p o q)
theorem Fz.hn {F H F' H' : Hp} (z : Fz F H F' H') {p : Addr} (h : H' p = none) : H p = none := by
  cases q : H p with
  | none => rfl
  | some o =>
    cases r : F p with
    | none => rw [(z.own p o q r).2] at h; cases h
    | some u => rw [z.fh p u (z.f p u r)] at h; cases h
/-- a new settled object -/
theorem Fz.new {F H : Hp} {p : Addr} {o : HO} (e : Ex F H) (h : H p = none) : Fz F H (upd F p o) (upd H p o) := by
  have hF : F p = none := Evl.fresh_back e h
  refine ⟨Evl.Ex.new hF, fun a u q => ?_, fun a u q n => ?_⟩
  · by_cases z : a = p
    · subst z; rw [upd_same] at q ⊢; exact q
    · rw [upd_ne z] at q ⊢; exact e a u q
  · have z := ne_of_none q h
    rw [upd_ne z, upd_ne z]
    exact ⟨n, q⟩
/-- a new object that is not settled -/
theorem Fz.add {F H : Hp} {p : Addr} {o : HO} (e : Ex F H) (h : H p = none) : Fz F H F (upd H p o) := by
  refine ⟨Evl.Ex.refl F, fun a u q => ?_, fun a u q n => ?_⟩
  · rw [upd_ne (ne_of_none (e a u q) h)]; exact e a u q
  · rw [upd_ne (ne_of_none q h)]; exact ⟨n, q⟩
/-- a new object is settled later -/
theorem Fz.settle {F H F1 H1 : Hp} {p : Addr} {o : HO} (a : Fz F H F1 H1) (h : H p = none) (h1 : H1 p = some o) (f1 : F1 p = none) : Fz F H (upd F1 p o) H1 := by
  refine ⟨a.f.trans (Evl.Ex.new f1), fun b u q => ?_, fun b u q n => ?_⟩
  · by_cases z : b = p
    · subst z; rw [upd_same] at q; rw [h1]; exact q
    · rw [upd_ne z] at q; exact a.fh b u q
  · rw [upd_ne (ne_of_none q h)]; exact a.own b u q n

/-! ### environments -/
inductive Sl where
  /-- nothing is known -/
  | un
  /-- settled data -/
  | sh (d : PyData)
  /-- a list of this frame's own, which it may change -/
  | ow (ds : List PyData)
  /-- a list that is only read -/
  | sc (ds : List PyData)
  /-- a dict of this frame's own: keys ints and texts; keys tuples of these -/
  | dk (kvs : List (Key × PyData))
  | dt (kvs : List (List Key × PyData))
def Sl.owned : Sl → Bool
  | .ow _ => true
  | .dk _ => true
  | .dt _ => true
  | _ => false
def KvOk {κ : Type} (F : Hp) (xs : List (κ × V)) (ys : List (κ × PyData)) : Prop := xs.map (·.1) = ys.map (·.1) ∧ DqAll F (xs.map (·.2)) (ys.map (·.2))
def SlOk (K : Frag) (H0 F H : Hp) (o : Option V) : Sl → Prop
  | .un => True
  | .sh d => ∃ v, o = some v ∧ Dq F v d
  | .ow ds => ∃ p vs, o = some (.ref p) ∧ H0 p = none ∧ F p = none ∧ H p = some (.lst vs) ∧ DqAll F vs ds ∧ ds.length ≤ lim
  | .sc ds => ∃ p vs, o = some (.ref p) ∧ SqL K F p vs ∧ DqAll F vs ds ∧ ds.length ≤ lim
  | .dk kvs => ∃ p xs, o = some (.ref p) ∧ H0 p = none ∧ F p = none ∧ H p = some (.dK xs) ∧ KvOk F xs kvs ∧ kvs.length ≤ lim
  | .dt kvs => ∃ p xs, o = some (.ref p) ∧ H0 p = none ∧ F p = none ∧ H p = some (.dT xs) ∧ KvOk F xs kvs ∧ kvs.length ≤ lim
structure EnvOk (K : Frag) (F0 H0 F H : Hp) (σ : List (Option V)) (env : List Sl) : Prop where
  z : Fz F0 H0 F H
  len : σ.length = env.length
  sl : ∀ (i : Nat) (s : Sl), env[i]? = some s → ∃ o : Option V, σ[i]? = some o ∧ SlOk K H0 F H o s
  dis : ∀ (i j : Nat) (s t : Sl) (p : Addr), env[i]? = some s → env[j]? = some t → s.owned = true → t.owned = true → σ[i]? = some (some (.ref p)) → σ[j]? = some (some (.ref p)) → i = j
theorem EnvOk.fh {K : Frag} {F0 H0 F H : Hp} {σ : List (Option V)} {env : List Sl} (E : EnvOk K F0 H0 F H σ env) : Ex F H := E.z.fh
theorem sq_mono {K : Frag} {F F' : Hp} {p : Addr} {vs : List V} (e : Ex F F') (h : SqL K F p vs) : SqL K F' p vs := Evl.ex_l e h
theorem KvOk.mono {κ : Type} {F F' : Hp} {xs : List (κ × V)} {ys : List (κ × PyData)} (e : Ex F F') (h : KvOk F xs ys) : KvOk F' xs ys := ⟨h.1, DqAll.mono e _ _ h.2⟩
theorem SlOk.step {K : Frag} {H0 F H F' H' : Hp} {o : Option V} : ∀ {s : Sl}, Fz F H F' H' → SlOk K H0 F H o s → SlOk K H0 F' H' o s
  | .un, _, _ => trivial
  | .sh d, z, ⟨v, e, h⟩ => ⟨v, e, Dq.mono z.f _ _ h⟩
  | .ow ds, z, ⟨p, vs, e, h0, f, h, a, l⟩ => ⟨p, vs, e, h0, (z.own p _ h f).1, (z.own p _ h f).2, DqAll.mono z.f _ _ a, l⟩
  | .sc ds, z, ⟨p, vs, e, h, a, l⟩ => ⟨p, vs, e, sq_mono z.f h, DqAll.mono z.f _ _ a, l⟩
  | .dk kvs, z, ⟨p, xs, e, h0, f, h, a, l⟩ => ⟨p, xs, e, h0, (z.own p _ h f).1, (z.own p _ h f).2, a.mono z.f, l⟩
  | .dt kvs, z, ⟨p, xs, e, h0, f, h, a, l⟩ => ⟨p, xs, e, h0, (z.own p _ h f).1, (z.own p _ h f).2, a.mono z.f, l⟩
theorem EnvOk.step {K : Frag} {F0 H0 F H F' H' : Hp} {σ : List (Option V)} {env : List Sl} (E : EnvOk K F0 H0 F H σ env) (z : Fz F H F' H') : EnvOk K F0 H0 F' H' σ env :=
  ⟨E.z.trans z, E.len, fun i s h => let ⟨o, h1, h2⟩ := E.sl i s h; ⟨o, h1, h2.step z⟩, E.dis⟩
theorem EnvOk.lt {K : Frag} {F0 H0 F H : Hp} {σ : List (Option V)} {env : List Sl} (E : EnvOk K F0 H0 F H σ env) {i : Nat} {s : Sl} (h : env[i]? = some s) : i < σ.length := by
  rw [E.len]; exact (List.getElem?_eq_some_iff.mp h).1
/-- a slot is stored with settled data -/
theorem EnvOk.set {K : Frag} {F0 H0 F H : Hp} {σ : List (Option V)} {env : List Sl} (E : EnvOk K F0 H0 F H σ env) (i : Nat) {v : V} {s : Sl} (hs : SlOk K H0 F H (some v) s) (ho : s.owned = true → ∀ j t p, env[j]? = some t → t.owned = true → σ[j]? = some (some (.ref p)) → v = .ref p → j = i) :
    EnvOk K F0 H0 F H (σ.set i (some v)) (env.set i s) := by
  refine ⟨E.z, by rw [List.length_set, List.length_set, E.len], fun j t h => ?_, fun j k t u p hj hk oj ok sj sk => ?_⟩
  · rw [List.getElem?_set] at h ⊢
    by_cases e : i = j
    · subst e
      by_cases l : i < env.length
      · rw [if_pos rfl, if_pos l] at h; cases h
        rw [if_pos rfl, if_pos (by rw [E.len]; exact l)]
        exact ⟨_, rfl, hs⟩
      · rw [if_pos rfl, if_neg l] at h; cases h
    · rw [if_neg e] at h ⊢; exact E.sl j t h
  · rw [List.getElem?_set] at hj hk sj sk
    by_cases ej : i = j
    · subst ej
      by_cases ek : i = k
      · exact ek
      · rw [if_neg ek] at hk sk
        rw [if_pos rfl] at hj sj
        by_cases l : i < env.length
        · rw [if_pos l] at hj; cases hj
          rw [if_pos (by rw [E.len]; exact l)] at sj
          exact (ho oj k u p hk ok sk (Option.some.inj (Option.some.inj sj))).symm
        · rw [if_neg l] at hj; cases hj
    · rw [if_neg ej] at hj sj
      by_cases ek : i = k
      · subst ek
        rw [if_pos rfl] at hk sk
        by_cases l : i < env.length
        · rw [if_pos l] at hk; cases hk
          rw [if_pos (by rw [E.len]; exact l)] at sk
          exact ho ok j t p hj oj sj (Option.some.inj (Option.some.inj sk))
        · rw [if_neg l] at hk; cases hk
      · rw [if_neg ek] at hk sk
        exact E.dis j k t u p hj hk oj ok sj sk
theorem EnvOk.setS {K : Frag} {F0 H0 F H : Hp} {σ : List (Option V)} {env : List Sl} (E : EnvOk K F0 H0 F H σ env) (i : Nat) {v : V} {d : PyData} (h : Dq F v d) : EnvOk K F0 H0 F H (σ.set i (some v)) (env.set i (.sh d)) :=
  E.set i (s := .sh d) ⟨v, rfl, h⟩ fun z => by cases z
/-- a slot is stored with anything -/
theorem EnvOk.setU {K : Frag} {F0 H0 F H : Hp} {σ : List (Option V)} {env : List Sl} (E : EnvOk K F0 H0 F H σ env) (i : Nat) {v : V} : EnvOk K F0 H0 F H (σ.set i (some v)) (env.set i .un) :=
  E.set i (s := .un) trivial fun z => by cases z
theorem SlOk.some {K : Frag} {H0 F H : Hp} {o : Option V} : ∀ {s : Sl}, s.owned = true → SlOk K H0 F H o s → ∃ p u, o = some (.ref p) ∧ F p = none ∧ H p = Option.some u
  | .ow _, _, ⟨p, vs, e, h0, f, h, _⟩ => ⟨p, _, e, f, h⟩
  | .dk _, _, ⟨p, vs, e, h0, f, h, _⟩ => ⟨p, _, e, f, h⟩
  | .dt _, _, ⟨p, vs, e, h0, f, h, _⟩ => ⟨p, _, e, f, h⟩
/-- a new own object at p (fresh ahead of the last step) goes into slot i -/
theorem EnvOk.setO {K : Frag} {F0 H0 F H : Hp} {σ : List (Option V)} {env : List Sl} (E : EnvOk K F0 H0 F H σ env) {F' H' : Hp} (z : Fz F H F' H') (i : Nat) {p : Addr} {s : Sl} (hn : H p = none) (hs : SlOk K H0 F' H' (Option.some (.ref p)) s) : EnvOk K F0 H0 F' H' (σ.set i (Option.some (.ref p))) (env.set i s) := by
  refine (E.step z).set i hs fun os j t q hj ot sj e => ?_
  cases e
  obtain ⟨o, e1, e2⟩ := E.sl j t hj
  rw [sj] at e1; cases e1
  obtain ⟨p', u, e3, e4, e5⟩ := e2.some ot
  cases e3
  rw [hn] at e5; cases e5
/-- an own object changes -/
theorem EnvOk.mut {K : Frag} {F0 H0 F H : Hp} {σ : List (Option V)} {env : List Sl} (E : EnvOk K F0 H0 F H σ env) {i : Nat} {p : Addr} {s t : Sl} {o : HO} (hs : env[i]? = some s) (os : s.owned = true) (hi : σ[i]? = Option.some (Option.some (.ref p))) (ht : SlOk K H0 F (upd H p o) (Option.some (.ref p)) t) (ot : t.owned = true) :
    EnvOk K F0 H0 F (upd H p o) σ (env.set i t) := by
  obtain ⟨o1, e1, e2⟩ := E.sl i s hs
  rw [hi] at e1; cases e1
  have h0 : H0 p = none := by
    cases s with
    | ow ds => obtain ⟨_, _, e, h0, _⟩ := e2; cases e; exact h0
    | dk ds => obtain ⟨_, _, e, h0, _⟩ := e2; cases e; exact h0
    | dt ds => obtain ⟨_, _, e, h0, _⟩ := e2; cases e; exact h0
    | un => cases os
    | sh d => cases os
    | sc d => cases os
  have hF : F p = none := by
    obtain ⟨p', u, e, f, _⟩ := e2.some os; cases e; exact f
  refine ⟨⟨E.z.f, fun a u q => ?_, fun a u q n => ?_⟩, by rw [List.length_set, E.len], fun j u h => ?_, fun j k a b q hj hk oa ob sj sk => ?_⟩
  · rw [upd_ne (ne_of_none q hF)]; exact E.z.fh a u q
  · rw [upd_ne (ne_of_none q h0)]; exact E.z.own a u q n
  · rw [List.getElem?_set] at h
    by_cases e : i = j
    · subst e
      by_cases l : i < env.length
      · rw [if_pos rfl, if_pos l] at h; cases h
        exact ⟨_, hi, ht⟩
      · rw [if_pos rfl, if_neg l] at h; cases h
    · rw [if_neg e] at h
      obtain ⟨o2, e3, e4⟩ := E.sl j u h
      refine ⟨o2, e3, ?_⟩
      have nd : ∀ q, u.owned = true → o2 = Option.some (.ref q) → q ≠ p := fun q ou eq z => by
        subst z; subst eq
        exact e (E.dis i j s u q hs h os ou hi e3)
      cases u with
      | un => trivial
      | sh d => exact e4
      | sc d => exact e4
      | ow ds => obtain ⟨q, vs, eq, r⟩ := e4; exact ⟨q, vs, eq, r.1, r.2.1, by rw [upd_ne (nd q rfl eq)]; exact r.2.2.1, r.2.2.2⟩
      | dk ds => obtain ⟨q, vs, eq, r⟩ := e4; exact ⟨q, vs, eq, r.1, r.2.1, by rw [upd_ne (nd q rfl eq)]; exact r.2.2.1, r.2.2.2⟩
      | dt ds => obtain ⟨q, vs, eq, r⟩ := e4; exact ⟨q, vs, eq, r.1, r.2.1, by rw [upd_ne (nd q rfl eq)]; exact r.2.2.1, r.2.2.2⟩
  · rw [List.getElem?_set] at hj hk
    have back : ∀ {j : Nat} {a : Sl}, (if i = j then if i < env.length then some t else none else env[j]?) = some a → a.owned = true → ∃ a', env[j]? = some a' ∧ a'.owned = true := fun {j a} h oa => by
      by_cases e : i = j
      · subst e; exact ⟨s, hs, os⟩
      · rw [if_neg e] at h; exact ⟨a, h, oa⟩
    obtain ⟨a', h1, o1⟩ := back hj oa
    obtain ⟨b', h2, o2⟩ := back hk ob
    exact E.dis j k a' b' q h1 h2 o1 o2 sj sk
/-- an own list is settled -/
theorem EnvOk.freeze {K : Frag} {F0 H0 F H : Hp} {σ : List (Option V)} {env : List Sl} (E : EnvOk K F0 H0 F H σ env) {i : Nat} {ds : List PyData} (hs : env[i]? = some (.ow ds)) : ∃ F', EnvOk K F0 H0 F' H σ (env.set i (.sh (.list ds))) := by
  obtain ⟨o, e1, p, vs, e, h0, f, h, a, l⟩ := E.sl i _ hs
  subst e
  refine ⟨upd F p (.lst vs), ⟨⟨E.z.f.trans (Evl.Ex.new f), fun b u q => ?_, fun b u q n => ?_⟩, by rw [List.length_set, E.len], fun j u hu => ?_, fun j k a b q hj hk oa ob sj sk => ?_⟩⟩
  · by_cases z : b = p
    · subst z; rw [upd_same] at q; rw [h]; exact q
    · rw [upd_ne z] at q; exact E.z.fh b u q
  · rw [upd_ne (ne_of_none q h0)]; exact E.z.own b u q n
  · rw [List.getElem?_set] at hu
    by_cases e : i = j
    · subst e
      by_cases l' : i < env.length
      · rw [if_pos rfl, if_pos l'] at hu; cases hu
        exact ⟨_, e1, _, rfl, .lst upd_same (DqAll.mono (Evl.Ex.new f) _ _ a) l⟩
      · rw [if_pos rfl, if_neg l'] at hu; cases hu
    · rw [if_neg e] at hu
      obtain ⟨o2, e3, e4⟩ := E.sl j u hu
      refine ⟨o2, e3, ?_⟩
      have nd : ∀ q, u.owned = true → o2 = Option.some (.ref q) → q ≠ p := fun q ou eq z => by
        subst z; subst eq
        exact e (E.dis i j _ u q hs hu rfl ou e1 e3)
      have m := Evl.Ex.new (o := HO.lst vs) f
      cases u with
      | un => trivial
      | sh d => obtain ⟨v, e5, e6⟩ := e4; exact ⟨v, e5, Dq.mono m _ _ e6⟩
      | sc d => obtain ⟨q, ws, e5, e6, e7, e8⟩ := e4; exact ⟨q, ws, e5, sq_mono m e6, DqAll.mono m _ _ e7, e8⟩
      | ow ds => obtain ⟨q, vs, eq, r1, r2, r3, r4, r5⟩ := e4; exact ⟨q, vs, eq, r1, by rw [upd_ne (nd q rfl eq)]; exact r2, r3, DqAll.mono m _ _ r4, r5⟩
      | dk ds => obtain ⟨q, vs, eq, r1, r2, r3, r4, r5⟩ := e4; exact ⟨q, vs, eq, r1, by rw [upd_ne (nd q rfl eq)]; exact r2, r3, r4.mono m, r5⟩
      | dt ds => obtain ⟨q, vs, eq, r1, r2, r3, r4, r5⟩ := e4; exact ⟨q, vs, eq, r1, by rw [upd_ne (nd q rfl eq)]; exact r2, r3, r4.mono m, r5⟩
  · rw [List.getElem?_set] at hj hk
    have back : ∀ {j : Nat} {a : Sl}, (if i = j then if i < env.length then some (Sl.sh (.list ds)) else none else env[j]?) = some a → a.owned = true → env[j]? = some a := fun {j a} h oa => by
      by_cases e : i = j
      · rw [if_pos e] at h
        by_cases l' : i < env.length
        · rw [if_pos l'] at h; cases h; cases oa
        · rw [if_neg l'] at h; cases h
      · rw [if_neg e] at h; exact h
    exact E.dis j k a b q (back hj oa) (back hk ob) oa ob sj sk
/-- less is known -/
inductive Wk : List Sl → List Sl → Prop
  | nil : Wk [] []
  | same {s : Sl} {e e' : List Sl} : Wk e e' → Wk (s :: e) (s :: e')
  | un {s : Sl} {e e' : List Sl} : Wk e e' → Wk (s :: e) (.un :: e')
theorem Wk.get : ∀ {e e' : List Sl} {i : Nat} {s : Sl}, Wk e e' → e'[i]? = some s → s = .un ∧ i < e.length ∨ e[i]? = some s
  | _, _, _, _, .nil, h => by simp at h
  | _, _, 0, _, .same _, h => .inr (by simpa using h)
  | _, _, i + 1, _, .same w, h => by
    rcases w.get (i := i) (by simpa using h) with ⟨a, b⟩ | a
    · exact .inl ⟨a, by rw [List.length_cons]; omega⟩
    · exact .inr (by simpa using a)
  | _, _, 0, _, .un _, h => .inl ⟨by simp at h; exact h.symm, by simp⟩
  | _, _, i + 1, _, .un w, h => by
    rcases w.get (i := i) (by simpa using h) with ⟨a, b⟩ | a
    · exact .inl ⟨a, by rw [List.length_cons]; omega⟩
    · exact .inr (by simpa using a)
theorem Wk.len : ∀ {e e' : List Sl}, Wk e e' → e.length = e'.length
  | _, _, .nil => rfl
  | _, _, .same w => by rw [List.length_cons, List.length_cons, w.len]
  | _, _, .un w => by rw [List.length_cons, List.length_cons, w.len]
theorem EnvOk.weak {K : Frag} {F0 H0 F H : Hp} {σ : List (Option V)} {env env' : List Sl} (E : EnvOk K F0 H0 F H σ env) (w : Wk env env') : EnvOk K F0 H0 F H σ env' := by
  refine ⟨E.z, by rw [E.len, w.len], fun i s h => ?_, fun i j s t p hi hj os ot si sj => ?_⟩
  · rcases w.get h with ⟨rfl, l⟩ | h
    · exact ⟨σ[i]'(by rw [E.len]; exact l), List.getElem?_eq_getElem _, trivial⟩
    · exact E.sl i s h
  · rcases w.get hi with ⟨rfl, _⟩ | hi
    · cases os
    · rcases w.get hj with ⟨rfl, _⟩ | hj
      · cases ot
      · exact E.dis i j s t p hi hj os ot si sj
/-- the frame's start, moved on -/
theorem Fz.base {F H F1 H1 F2 H2 : Hp} (z : Fz F H F1 H1) (f : Ex F1 F2) (z2 : Fz F H F2 H2) : Fz F1 H F2 H2 := ⟨f, z2.fh, fun p o h n => z2.own p o h (by
  cases r : F p with
  | none => rfl
  | some u => rw [z.f p u r] at n; cases n)⟩
theorem Fz.back {F H F1 H1 F2 H2 : Hp} (z : Fz F H F1 H1) (z2 : Fz F1 H F2 H2) : Fz F H F2 H2 := ⟨z.f.trans z2.f, z2.fh, fun p o h n => z2.own p o h (z.own p o h n).1⟩
theorem EnvOk.base {K : Frag} {F0 H0 F H : Hp} {σ : List (Option V)} {env : List Sl} (E : EnvOk K F0 H0 F H σ env) : EnvOk K F H0 F H σ env := ⟨E.z.base (Evl.Ex.refl F) E.z, E.len, E.sl, E.dis⟩
theorem EnvOk.back {K : Frag} {F0 H0 F H F1 H1 : Hp} {σ : List (Option V)} {env : List Sl} (z : Fz F0 H0 F1 H1) (E : EnvOk K F1 H0 F H σ env) : EnvOk K F0 H0 F H σ env := ⟨z.back E.z, E.len, E.sl, E.dis⟩
end Rb

set_option Elab.async false
set_option linter.all false
set_option maxRecDepth 100000
set_option maxHeartbeats 2000000
namespace Rb
open PySem PySem.Spec PyProof.Rows L2
/-! ### what evaluates to which data -/
def EX (K : Frag) (te : TE) (env : List Sl) (d : PyData) : Prop := ∀ ⦃F0 H0 F H : Hp⦄ ⦃σ : List (Option V)⦄, EnvOk K F0 H0 F H σ env → ∀ Q : VK, (∀ v F' H', Fz F H F' H' → Dq F' v d → Q v H') → te σ H Q
/-- a list that is looked at -/
def EXl (K : Frag) (te : TE) (env : List Sl) (ds : List PyData) : Prop := ∀ ⦃F0 H0 F H : Hp⦄ ⦃σ : List (Option V)⦄, EnvOk K F0 H0 F H σ env → ∀ Q : VK, (∀ p vs F' H', Fz F H F' H' → H' p = some (.lst vs) → DqAll F' vs ds → ds.length ≤ lim → Q (.ref p) H') → te σ H Q
/-- a new list -/
def EXw (K : Frag) (te : TE) (env : List Sl) (ds : List PyData) : Prop := ∀ ⦃F0 H0 F H : Hp⦄ ⦃σ : List (Option V)⦄, EnvOk K F0 H0 F H σ env → ∀ Q : VK, (∀ p vs F' H', Fz F H F' H' → H p = none → F' p = none → H' p = some (.lst vs) → DqAll F' vs ds → ds.length ≤ lim → Q (.ref p) H') → te σ H Q
/-- data that is compared -/
def EXq (K : Frag) (te : TE) (env : List Sl) (d : PyData) : Prop := ∀ ⦃F0 H0 F H : Hp⦄ ⦃σ : List (Option V)⦄, EnvOk K F0 H0 F H σ env → ∀ Q : VK, (∀ v F' H', Fz F H F' H' → Dq H' v d → Q v H') → te σ H Q
def ET (K : Frag) (tt : TT) (env : List Sl) (b : Bool) : Prop := ∀ ⦃F0 H0 F H : Hp⦄ ⦃σ : List (Option V)⦄, EnvOk K F0 H0 F H σ env → ∀ Q : Bool → Hp → Prop, (∀ F' H', Fz F H F' H' → Q b H') → tt σ H Q
def EA (K : Frag) (ta : TA) (env : List Sl) (ds : List PyData) : Prop := ∀ ⦃F0 H0 F H : Hp⦄ ⦃σ : List (Option V)⦄, EnvOk K F0 H0 F H σ env → ∀ Q : List V → Hp → Prop, (∀ vs F' H', Fz F H F' H' → DqAll F' vs ds → Q vs H') → ta σ H Q
def EO (K : Frag) (to : TO) (env : List Sl) (o : Option Int) : Prop := ∀ ⦃F0 H0 F H : Hp⦄ ⦃σ : List (Option V)⦄, EnvOk K F0 H0 F H σ env → ∀ Q : Option Int → Hp → Prop, (∀ F' H', Fz F H F' H' → Q o H') → to σ H Q
/-- the same, of a value that may lack -/
def EXo (K : Frag) (te : TE) (env : List Sl) {α : Type} (e : α → PyData) (m : Option α) : Prop := ∀ x, m = some x → EX K te env (e x)
def ETo (K : Frag) (tt : TT) (env : List Sl) (m : Option Bool) : Prop := ∀ x, m = some x → ET K tt env x

section
variable {K : Frag} {env : List Sl} {ta tb tc te : TE} {t u : TT} {d e : PyData} {ds es : List PyData} {α β : Type}
theorem EX.l (h : EX K te env (.list ds)) : EXl K te env ds := fun F0 H0 F H σ E Q q => h E Q fun v F' H' z hv => by
  cases hv with
  | lst h1 h2 h3 => exact q _ _ F' H' z (z.fh _ _ h1) h2 h3
theorem EXw.l (h : EXw K te env ds) : EXl K te env ds := fun F0 H0 F H σ E Q q => h E Q fun p vs F' H' z _ _ h1 h2 h3 => q p vs F' H' z h1 h2 h3
theorem EXw.sh (h : EXw K te env ds) : EX K te env (.list ds) := fun F0 H0 F H σ E Q q => h E Q fun p vs F' H' z hn hf h1 h2 h3 =>
  q _ _ H' (z.settle hn h1 hf) (.lst upd_same (DqAll.mono (Evl.Ex.new hf) _ _ h2) h3)
theorem EX.q (h : EX K te env d) : EXq K te env d := fun F0 H0 F H σ E Q q => h E Q fun v F' H' z hv => q v F' H' z (Dq.mono z.fh _ _ hv)
theorem EXl.q (h : EXl K te env ds) : EXq K te env (.list ds) := fun F0 H0 F H σ E Q q => h E Q fun p vs F' H' z h1 h2 h3 => q _ F' H' z (.lst h1 (DqAll.mono z.fh _ _ h2) h3)
theorem exo_bind {e : β → PyData} {m : Option α} {k : α → Option β} (h : ∀ x, m = some x → EXo K te env e (k x)) : EXo K te env e (m.bind k) := fun y hy => by
  obtain ⟨x, h1, h2⟩ := Option.bind_eq_some_iff.mp hy
  exact h x h1 y h2
theorem exo_some {e : α → PyData} {x : α} (h : EX K te env (e x)) : EXo K te env e (some x) := fun y hy => by cases hy; exact h
theorem exo_none {e : α → PyData} : EXo K te env e none := fun y hy => by cases hy
theorem exo_ite {e : α → PyData} {b : Bool} {m n : Option α} (h1 : b = true → EXo K te env e m) (h2 : b = false → EXo K te env e n) : EXo K te env e (if b = true then m else n) := by
  cases b with
  | true => exact h1 rfl
  | false => exact h2 rfl
theorem eto_bind {m : Option α} {k : α → Option Bool} (h : ∀ x, m = some x → ETo K t env (k x)) : ETo K t env (m.bind k) := fun y hy => by
  obtain ⟨x, h1, h2⟩ := Option.bind_eq_some_iff.mp hy
  exact h x h1 y h2
theorem eto_some {b : Bool} (h : ET K t env b) : ETo K t env (some b) := fun y hy => by cases hy; exact h

/-! ### names, constants -/
theorem ex_var {i : Nat} (h : env[i]? = some (.sh d)) : EX K (tVar i) env d := fun F0 H0 F H σ E Q q => by
  obtain ⟨o, h1, v, h2, h3⟩ := E.sl i _ h
  subst h2
  exact ⟨v, h1, q v F H (Fz.refl E.fh) h3⟩
theorem exl_var {i : Nat} (h : env[i]? = some (.ow ds)) : EXl K (tVar i) env ds := fun F0 H0 F H σ E Q q => by
  obtain ⟨o, h1, p, vs, h2, h3, h4, h5, h6, h7⟩ := E.sl i _ h
  subst h2
  exact ⟨_, h1, q p vs F H (Fz.refl E.fh) h5 h6 h7⟩
theorem ex_int {i : Int} : EX K (tC (.int i)) env (.int i) := fun F0 H0 F H σ E Q q => q _ F H (Fz.refl E.fh) (.int i)
theorem ex_bl {b : Bool} : EX K (tC (.bl b)) env (.bool b) := fun F0 H0 F H σ E Q q => q _ F H (Fz.refl E.fh) (.bl b)
theorem ex_non : EX K (tC .non) env .none := fun F0 H0 F H σ E Q q => q _ F H (Fz.refl E.fh) .non
theorem ex_str {x : Str} (h : x.length ≤ lim) : EX K (tC (.str x)) env (.str x) := fun F0 H0 F H σ E Q q => q _ F H (Fz.refl E.fh) (.str x h)

/-! ### operators -/
theorem ex_i0 {g : Int → Int → V} {i j : Int} (ha : EX K ta env (.int i)) (hb : EX K tb env (.int j)) (hd : ∀ F, Dq F (g i j) d) : EX K (tOp (rI0 g) ta tb) env d := fun F0 H0 F H σ E Q q =>
  ha E _ fun v F1 H1 z1 h1 => hb (E.step z1) _ fun w F2 H2 z2 h2 => by
    cases h1; cases h2
    exact ⟨i, j, rfl, rfl, q _ F2 H2 (z1.trans z2) (hd F2)⟩
theorem ex_iC {C : Int → Int → Prop} {g : Int → Int → V} {i j : Int} (ha : EX K ta env (.int i)) (hb : EX K tb env (.int j)) (hc : C i j) (hd : ∀ F, Dq F (g i j) d) : EX K (tOp (rI C g) ta tb) env d := fun F0 H0 F H σ E Q q =>
  ha E _ fun v F1 H1 z1 h1 => hb (E.step z1) _ fun w F2 H2 z2 h2 => by
    cases h1; cases h2
    exact ⟨i, j, rfl, rfl, hc, q _ F2 H2 (z1.trans z2) (hd F2)⟩
theorem ex_add {i j : Int} (ha : EX K ta env (.int i)) (hb : EX K tb env (.int j)) : EX K (tOp (rI0 fun i j => .int (i + j)) ta tb) env (.int (i + j)) := ex_i0 ha hb fun _ => .int _
theorem ex_sub {i j : Int} (ha : EX K ta env (.int i)) (hb : EX K tb env (.int j)) : EX K (tOp (rI0 fun i j => .int (i - j)) ta tb) env (.int (i - j)) := ex_i0 ha hb fun _ => .int _
theorem ex_mul {i j : Int} (ha : EX K ta env (.int i)) (hb : EX K tb env (.int j)) (hc : CMul i j) : EX K (tOp (rI CMul fun i j => .int (i * j)) ta tb) env (.int (i * j)) := ex_iC ha hb hc fun _ => .int _
theorem ex_mod {i j : Int} (ha : EX K ta env (.int i)) (hb : EX K tb env (.int j)) (hc : 0 < j) : EX K (tOp (rI (fun _ j => 0 < j) fun i j => .int (i % j)) ta tb) env (.int (i % j)) := ex_iC ha hb hc fun _ => .int _
theorem ex_fdiv {i j : Int} (ha : EX K ta env (.int i)) (hb : EX K tb env (.int j)) (hc : CDivW i j) : EX K (tOp (rI CDivW fun i j => .int (i / j)) ta tb) env (.int (i / j)) := ex_iC ha hb hc fun _ => .int _
theorem ex_pow {i j : Int} (ha : EX K ta env (.int i)) (hb : EX K tb env (.int j)) (hc : CPow i j) : EX K (tOp (rI CPow fun i j => .int (i ^ j.toNat)) ta tb) env (.int (i ^ j.toNat)) := ex_iC ha hb hc fun _ => .int _
theorem ex_lt {i j : Int} (ha : EX K ta env (.int i)) (hb : EX K tb env (.int j)) : EX K (tOp (rI0 fun i j => .bl (decide (i < j))) ta tb) env (.bool (decide (i < j))) := ex_i0 ha hb fun _ => .bl _
theorem ex_le {i j : Int} (ha : EX K ta env (.int i)) (hb : EX K tb env (.int j)) : EX K (tOp (rI0 fun i j => .bl (decide (i ≤ j))) ta tb) env (.bool (decide (i ≤ j))) := ex_i0 ha hb fun _ => .bl _
theorem ex_gt {i j : Int} (ha : EX K ta env (.int i)) (hb : EX K tb env (.int j)) : EX K (tOp (rI0 fun i j => .bl (decide (j < i))) ta tb) env (.bool (decide (j < i))) := ex_i0 ha hb fun _ => .bl _
theorem ex_ge {i j : Int} (ha : EX K ta env (.int i)) (hb : EX K tb env (.int j)) : EX K (tOp (rI0 fun i j => .bl (decide (j ≤ i))) ta tb) env (.bool (decide (j ≤ i))) := ex_i0 ha hb fun _ => .bl _
theorem ex_neg {i : Int} (ha : EX K ta env (.int i)) : EX K (tUn (rU fun i => .int (-i)) ta) env (.int (-i)) := fun F0 H0 F H σ E Q q =>
  ha E _ fun v F1 H1 z1 h1 => by
    cases h1
    exact ⟨i, rfl, q _ F1 H1 z1 (.int _)⟩
theorem ex_eqI {i j : Int} (ha : EX K ta env (.int i)) (hb : EX K tb env (.int j)) : EX K (tOp rEq ta tb) env (.bool (decide (i = j))) := fun F0 H0 F H σ E Q q =>
  ha E _ fun v F1 H1 z1 h1 => hb (E.step z1) _ fun w F2 H2 z2 h2 => by
    cases h1; cases h2
    have e : decide (V.int i = V.int j) = decide (i = j) := by
      by_cases c : i = j
      · rw [decide_eq_true c, c, decide_eq_true rfl]
      · rw [decide_eq_false c, decide_eq_false fun z => c (V.int.inj z)]
    refine ⟨rfl, ?_⟩
    rw [e]
    exact q _ F2 H2 (z1.trans z2) (.bl _)
theorem ex_neI {i j : Int} (ha : EX K ta env (.int i)) (hb : EX K tb env (.int j)) : EX K (tOp rNe ta tb) env (.bool (!decide (i = j))) := fun F0 H0 F H σ E Q q =>
  ha E _ fun v F1 H1 z1 h1 => hb (E.step z1) _ fun w F2 H2 z2 h2 => by
    cases h1; cases h2
    have e : decide (V.int i = V.int j) = decide (i = j) := by
      by_cases c : i = j
      · rw [decide_eq_true c, c, decide_eq_true rfl]
      · rw [decide_eq_false c, decide_eq_false fun z => c (V.int.inj z)]
    refine ⟨rfl, ?_⟩
    rw [e]
    exact q _ F2 H2 (z1.trans z2) (.bl _)
theorem ex_eqS {x y : Str} (ha : EX K ta env (.str x)) (hb : EX K tb env (.str y)) : EX K (tOp rEq ta tb) env (.bool (decide (x = y))) := fun F0 H0 F H σ E Q q =>
  ha E _ fun v F1 H1 z1 h1 => hb (E.step z1) _ fun w F2 H2 z2 h2 => by
    cases h1; cases h2
    have e : decide (V.str x = V.str y) = decide (x = y) := by
      by_cases c : x = y
      · rw [decide_eq_true c, c, decide_eq_true rfl]
      · rw [decide_eq_false c, decide_eq_false fun z => c (V.str.inj z)]
    refine ⟨rfl, ?_⟩
    rw [e]
    exact q _ F2 H2 (z1.trans z2) (.bl _)
theorem ex_neS {x y : Str} (ha : EX K ta env (.str x)) (hb : EX K tb env (.str y)) : EX K (tOp rNe ta tb) env (.bool (!decide (x = y))) := fun F0 H0 F H σ E Q q =>
  ha E _ fun v F1 H1 z1 h1 => hb (E.step z1) _ fun w F2 H2 z2 h2 => by
    cases h1; cases h2
    have e : decide (V.str x = V.str y) = decide (x = y) := by
      by_cases c : x = y
      · rw [decide_eq_true c, c, decide_eq_true rfl]
      · rw [decide_eq_false c, decide_eq_false fun z => c (V.str.inj z)]
    refine ⟨rfl, ?_⟩
    rw [e]
    exact q _ F2 H2 (z1.trans z2) (.bl _)
theorem ex_eqB {x y : Bool} (ha : EX K ta env (.bool x)) (hb : EX K tb env (.bool y)) : EX K (tOp rEq ta tb) env (.bool (x == y)) := fun F0 H0 F H σ E Q q =>
  ha E _ fun v F1 H1 z1 h1 => hb (E.step z1) _ fun w F2 H2 z2 h2 => by
    cases h1; cases h2
    refine ⟨rfl, ?_⟩
    have e : decide (V.bl x = V.bl y) = (x == y) := by cases x <;> cases y <;> rfl
    rw [e]
    exact q _ F2 H2 (z1.trans z2) (.bl _)
theorem ex_neB {x y : Bool} (ha : EX K ta env (.bool x)) (hb : EX K tb env (.bool y)) : EX K (tOp rNe ta tb) env (.bool (!(x == y))) := fun F0 H0 F H σ E Q q =>
  ha E _ fun v F1 H1 z1 h1 => hb (E.step z1) _ fun w F2 H2 z2 h2 => by
    cases h1; cases h2
    refine ⟨rfl, ?_⟩
    have e : decide (V.bl x = V.bl y) = (x == y) := by cases x <;> cases y <;> rfl
    rw [e]
    exact q _ F2 H2 (z1.trans z2) (.bl _)
theorem ex_eqD {x : Bool} (ha : EXq K ta env d) (hb : EXq K tb env e) (sd : SeqAt.shaped d = true) (se : SeqAt.shaped e = true) (hv : PyData.eqv d e = x) : EX K (tOp (rEqD K) ta tb) env (.bool x) := fun F0 H0 F H σ E Q q =>
  ha E _ fun v F1 H1 z1 h1 => hb (E.step z1) _ fun w F2 H2 z2 h2 => by
    subst hv
    exact ⟨d, e, Dq.dp _ _ (Dq.mono (z2.hh (E.step z1).fh) _ _ h1), Dq.dp _ _ h2, sd, se, q _ F2 H2 (z1.trans z2) (.bl _)⟩
theorem ex_neD {x : Bool} (ha : EXq K ta env d) (hb : EXq K tb env e) (sd : SeqAt.shaped d = true) (se : SeqAt.shaped e = true) (hv : PyData.eqv d e = x) : EX K (tOp (rNeD K) ta tb) env (.bool (!x)) := fun F0 H0 F H σ E Q q =>
  ha E _ fun v F1 H1 z1 h1 => hb (E.step z1) _ fun w F2 H2 z2 h2 => by
    subst hv
    exact ⟨d, e, Dq.dp _ _ (Dq.mono (z2.hh (E.step z1).fh) _ _ h1), Dq.dp _ _ h2, sd, se, q _ F2 H2 (z1.trans z2) (.bl _)⟩
theorem ex_addS {x y : Str} (ha : EX K ta env (.str x)) (hb : EX K tb env (.str y)) (hl : (x ++ y).length ≤ lim) (hl2 : x.length + y.length ≤ lim) : EX K (tOp (fun x y H Q => ∃ i j, x = .str i ∧ y = .str j ∧ i.length + j.length ≤ sizeLine ∧ Q (.str (i ++ j)) H) ta tb) env (.str (x ++ y)) := fun F0 H0 F H σ E Q q =>
  ha E _ fun v F1 H1 z1 h1 => hb (E.step z1) _ fun w F2 H2 z2 h2 => by
    cases h1; cases h2
    exact ⟨x, y, rfl, rfl, lim_le hl2, q _ F2 H2 (z1.trans z2) (.str _ hl)⟩
/-- is None, is not None -/
def isNone : PyData → Bool
  | .none => true
  | _ => false
theorem ex_isN (ha : EX K ta env d) : EX K (tOp (fun x y H Q => y = .non ∧ Q (.bl (decide (x = .non))) H) ta (tC .non)) env (.bool (isNone d)) := fun F0 H0 F H σ E Q q =>
  ha E _ fun v F1 H1 z1 h1 => by
    refine ⟨rfl, ?_⟩
    have e : decide (v = V.non) = isNone d := by cases h1 <;> rfl
    rw [e]
    exact q _ F1 H1 z1 (.bl _)
theorem ex_notN (ha : EX K ta env d) : EX K (tOp (fun x y H Q => y = .non ∧ Q (.bl (!decide (x = .non))) H) ta (tC .non)) env (.bool (!isNone d)) := fun F0 H0 F H σ E Q q =>
  ha E _ fun v F1 H1 z1 h1 => by
    refine ⟨rfl, ?_⟩
    have e : decide (v = V.non) = isNone d := by cases h1 <;> rfl
    rw [e]
    exact q _ F1 H1 z1 (.bl _)
/-! ### indices -/
theorem atI_map {f : α → β} {xs : List α} {i : Int} {x : α} (h : atI xs i = some x) : atI (xs.map f) i = some (f x) := by
  unfold atI at h ⊢
  obtain ⟨j, h1, h2⟩ := Option.bind_eq_some_iff.mp h
  rw [List.length_map, h1]
  show (xs.map f)[j]? = _
  rw [List.getElem?_map, h2]
  rfl
theorem DqAll.atI {H : Hp} {ds : List PyData} {vs : List V} {i : Int} (a : DqAll H vs ds) (h : L2.atI ds i = some d) : ∃ v, L2.atI vs i = some v ∧ Dq H v d := by
  unfold L2.atI at h ⊢
  obtain ⟨j, h1, h2⟩ := Option.bind_eq_some_iff.mp h
  rw [a.len, h1]
  exact a.get h2
theorem ex_ixL {i : Int} (ha : EXl K ta env ds) (hb : EX K tb env (.int i)) (h : atI ds i = some d) : EX K (tOp (rIxL K) ta tb) env d := fun F0 H0 F H σ E Q q =>
  ha E _ fun p vs F1 H1 z1 h1 a1 l1 => hb (E.step z1) _ fun w F2 H2 z2 h2 => by
    cases h2
    obtain ⟨v, e1, e2⟩ := a1.atI h
    exact ⟨p, vs, i, v, rfl, rfl, SqL.of (z2.hh (E.step z1).fh _ _ h1), e1, q _ F2 H2 (z1.trans z2) (Dq.mono z2.f _ _ e2)⟩
theorem ex_ixT {i : Int} (ha : EX K ta env (.tuple ds)) (hb : EX K tb env (.int i)) (h : atI ds i = some d) : EX K (tOp (rIxT K) ta tb) env d := fun F0 H0 F H σ E Q q =>
  ha E _ fun p F1 H1 z1 h1 => hb (E.step z1) _ fun w F2 H2 z2 h2 => by
    cases h2
    cases h1 with
    | tup h1 a1 l1 =>
    obtain ⟨v, e1, e2⟩ := a1.atI h
    exact ⟨_, _, i, v, rfl, rfl, SqT.of (z2.fh _ _ (z2.f _ _ h1)), e1, q _ F2 H2 (z1.trans z2) (Dq.mono z2.f _ _ e2)⟩
theorem ex_ixS {z : Str} {i : Int} {c : Nat} (ha : EX K ta env (.str z)) (hb : EX K tb env (.int i)) (h : atI z.cps.toList i = some c) : EX K (tOp rIxS ta tb) env (.str ⟨#[c]⟩) := fun F0 H0 F H σ E Q q =>
  ha E _ fun p F1 H1 z1 h1 => hb (E.step z1) _ fun w F2 H2 z2 h2 => by
    cases h2
    cases h1 with
    | str _ l => exact ⟨z, i, c, rfl, rfl, lim_le l, h, q _ F2 H2 (z1.trans z2) (.str _ (by show 1 ≤ lim; decide))⟩
/-! ### displays -/
theorem ea_nil : EA K tNil env [] := fun F0 H0 F H σ E Q q => q [] F H (Fz.refl E.fh) .nil
theorem ea_cons {tr : TA} (ha : EX K ta env d) (hr : EA K tr env ds) : EA K (tCons ta tr) env (d :: ds) := fun F0 H0 F H σ E Q q =>
  ha E _ fun v F1 H1 z1 h1 => hr (E.step z1) _ fun vs F2 H2 z2 h2 => q _ F2 H2 (z1.trans z2) (.cons (Dq.mono z2.f _ _ h1) h2)
theorem ex_tup {tr : TA} (ha : EA K tr env ds) (hl : ds.length ≤ lim) : EX K (tTup tr) env (.tuple ds) := fun F0 H0 F H σ E Q q =>
  ha E _ fun vs F1 H1 z1 h1 => ⟨by rw [h1.len]; exact lim_le hl, fun p hp => q _ (upd F1 p (.tup vs)) _ (z1.trans (Fz.new (E.step z1).fh hp)) (.tup upd_same (DqAll.mono (Evl.Ex.new (Evl.fresh_back (E.step z1).fh hp)) _ _ h1) hl)⟩
theorem fresh0 {F H F1 H1 : Hp} {p : Addr} (e : Ex F H) (z : Fz F H F1 H1) (h : H1 p = none) : H p = none := Evl.fresh_back (z.hh e) h
theorem exw_lst {tr : TA} (ha : EA K tr env ds) (hl : ds.length ≤ lim) : EXw K (tLst tr) env ds := fun F0 H0 F H σ E Q q =>
  ha E _ fun vs F1 H1 z1 h1 => ⟨by rw [h1.len]; exact lim_le hl, fun p hp => q p vs F1 _ (z1.trans (Fz.add (E.step z1).fh hp)) (fresh0 E.fh z1 hp) (Evl.fresh_back (E.step z1).fh hp) upd_same h1 hl⟩
theorem exw_cat (ha : EXl K ta env ds) (hb : EXl K tb env es) (hl : (ds ++ es).length ≤ lim) : EXw K (tOp rCat ta tb) env (ds ++ es) := fun F0 H0 F H σ E Q q =>
  ha E _ fun p vs F1 H1 z1 h1 a1 l1 => hb (E.step z1) _ fun r ws F2 H2 z2 h2 a2 l2 => by
    have E2 := (E.step z1).step z2
    refine ⟨p, r, vs, ws, rfl, rfl, z2.hh (E.step z1).fh _ _ h1, h2, ?_, fun o ho => ?_⟩
    · rw [a1.len, a2.len, ← List.length_append]; exact lim_le hl
    · exact q o _ F2 _ ((z1.trans z2).trans (Fz.add E2.fh ho)) (fresh0 E.fh (z1.trans z2) ho) (Evl.fresh_back E2.fh ho) upd_same ((DqAll.mono z2.f _ _ a1).app a2) hl
theorem exw_rep {k : Int} (ha : EXl K ta env ds) (hb : EX K tb env (.int k)) (hk : k < 2 ^ 62 ∧ -(2 ^ 62) ≤ k) (hl : ds.length * k.toNat ≤ lim) (hr : es = (List.replicate k.toNat ds).flatten) : EXw K (tOp rRep ta tb) env es := fun F0 H0 F H σ E Q q =>
  ha E _ fun p vs F1 H1 z1 h1 a1 l1 => hb (E.step z1) _ fun w F2 H2 z2 h2 => by
    have E2 := (E.step z1).step z2
    cases h2
    have a2 := DqAll.mono z2.f _ _ a1
    have all : ∀ n, DqAll F2 (List.replicate n vs).flatten (List.replicate n ds).flatten := fun n => by
      induction n with
      | zero => exact .nil
      | succ n ih =>
        rw [List.replicate_succ, List.replicate_succ, List.flatten_cons, List.flatten_cons]
        exact a2.app ih
    refine ⟨p, k, vs, rfl, rfl, z2.hh (E.step z1).fh _ _ h1, by omega, by omega, by rw [a1.len]; exact lim_le hl, fun o ho => ?_⟩
    subst hr
    refine q o _ F2 _ ((z1.trans z2).trans (Fz.add E2.fh ho)) (fresh0 E.fh (z1.trans z2) ho) (Evl.fresh_back E2.fh ho) upd_same (all k.toNat) ?_
    rw [List.length_flatten, List.map_replicate, List.sum_replicate_nat, Nat.mul_comm]
    exact hl
/-! ### tests -/
theorem et_of (h : EX K te env (.bool b)) : ET K (tTest te) env b := fun F0 H0 F H σ E Q q => h E _ fun v F1 H1 z1 h1 => by
  cases h1
  exact ⟨b, rfl, q F1 H1 z1⟩
theorem et_B {b : Bool} (h : EX K te env (.bool b)) : ET K (tB te) env b := fun F0 H0 F H σ E Q q => h E _ fun v F1 H1 z1 h1 => by
  cases h1
  exact ⟨b, rfl, q F1 H1 z1⟩
theorem eto_of {m : Option Bool} (h : EXo K te env .bool m) : ETo K (tTest te) env m := fun x e => et_of (h x e)
theorem eto_B {m : Option Bool} (h : EXo K te env .bool m) : ETo K (tB te) env m := fun x e => et_B (h x e)
theorem eto_not {m : Option Bool} (h : ETo K t env m) : ETo K (tNot t) env (m.map (!·)) := fun x e => by
  obtain ⟨b, h1, h2⟩ := Option.map_eq_some_iff.mp e
  subst h2
  exact fun F0 H0 F H σ E Q q => h b h1 E _ fun F1 H1 z1 => q F1 H1 z1
theorem et_not {b : Bool} (h : ET K t env b) : ET K (tNot t) env (!b) := fun F0 H0 F H σ E Q q => h E _ fun F1 H1 z1 => q F1 H1 z1
theorem eto_and {m n : Option Bool} (h1 : ETo K t env m) (h2 : ETo K u env n) : ETo K (tAnd t u) env (m.bind fun a => if a = true then n else some false) := fun x e => by
  obtain ⟨a, e1, e2⟩ := Option.bind_eq_some_iff.mp e
  intro F0 H0 F H σ E Q q
  refine h1 a e1 E _ fun F1 H1 z1 => ?_
  cases a with
  | true =>
    show u σ H1 Q
    exact h2 x e2 (E.step z1) _ fun F2 H2 z2 => q F2 H2 (z1.trans z2)
  | false =>
    cases e2
    exact q F1 H1 z1
theorem eto_or {m n : Option Bool} (h1 : ETo K t env m) (h2 : ETo K u env n) : ETo K (tOr t u) env (m.bind fun a => if a = true then some true else n) := fun x e => by
  obtain ⟨a, e1, e2⟩ := Option.bind_eq_some_iff.mp e
  intro F0 H0 F H σ E Q q
  refine h1 a e1 E _ fun F1 H1 z1 => ?_
  cases a with
  | true =>
    cases e2
    exact q F1 H1 z1
  | false =>
    show u σ H1 Q
    exact h2 x e2 (E.step z1) _ fun F2 H2 z2 => q F2 H2 (z1.trans z2)
theorem et_and {a b : Bool} (h1 : ET K t env a) (h2 : ET K u env b) : ET K (tAnd t u) env (a && b) := fun F0 H0 F H σ E Q q => h1 E _ fun F1 H1 z1 => by
  cases a with
  | true => exact h2 (E.step z1) _ fun F2 H2 z2 => q F2 H2 (z1.trans z2)
  | false => exact q F1 H1 z1
theorem et_or {a b : Bool} (h1 : ET K t env a) (h2 : ET K u env b) : ET K (tOr t u) env (a || b) := fun F0 H0 F H σ E Q q => h1 E _ fun F1 H1 z1 => by
  cases a with
  | true => exact q F1 H1 z1
  | false => exact h2 (E.step z1) _ fun F2 H2 z2 => q F2 H2 (z1.trans z2)
/-- values: and, or, not -/
theorem exo_and {m n : Option Bool} (h1 : EXo K ta env .bool m) (h2 : EXo K tb env .bool n) : EXo K (tAndV ta tb) env .bool (m.bind fun a => if a = true then n else some false) := fun x e => by
  obtain ⟨a, e1, e2⟩ := Option.bind_eq_some_iff.mp e
  intro F0 H0 F H σ E Q q
  refine h1 a e1 E _ fun v F1 H1 z1 hv => ?_
  cases hv
  refine ⟨a, rfl, ?_⟩
  cases a with
  | true =>
    show tb σ H1 Q
    exact h2 x e2 (E.step z1) _ fun v F2 H2 z2 hv => q v F2 H2 (z1.trans z2) hv
  | false =>
    cases e2
    exact q _ F1 H1 z1 (.bl false)
theorem exo_or {m n : Option Bool} (h1 : EXo K ta env .bool m) (h2 : EXo K tb env .bool n) : EXo K (tOrV ta tb) env .bool (m.bind fun a => if a = true then some true else n) := fun x e => by
  obtain ⟨a, e1, e2⟩ := Option.bind_eq_some_iff.mp e
  intro F0 H0 F H σ E Q q
  refine h1 a e1 E _ fun v F1 H1 z1 hv => ?_
  cases hv
  refine ⟨a, rfl, ?_⟩
  cases a with
  | true =>
    cases e2
    exact q _ F1 H1 z1 (.bl true)
  | false =>
    show tb σ H1 Q
    exact h2 x e2 (E.step z1) _ fun v F2 H2 z2 hv => q v F2 H2 (z1.trans z2) hv
theorem ex_andV {a b : Bool} (h1 : EX K ta env (.bool a)) (h2 : EX K tb env (.bool b)) : EX K (tAndV ta tb) env (.bool (a && b)) := by
  have h := exo_and (exo_some (e := PyData.bool) h1) (exo_some (e := PyData.bool) h2) (a && b) (by cases a <;> rfl)
  exact h
theorem ex_orV {a b : Bool} (h1 : EX K ta env (.bool a)) (h2 : EX K tb env (.bool b)) : EX K (tOrV ta tb) env (.bool (a || b)) := by
  have h := exo_or (exo_some (e := PyData.bool) h1) (exo_some (e := PyData.bool) h2) (a || b) (by cases a <;> rfl)
  exact h
theorem ex_notV {a : Bool} (h1 : EX K ta env (.bool a)) : EX K (tNotV ta) env (.bool (!a)) := fun F0 H0 F H σ E Q q => h1 E _ fun v F1 H1 z1 hv => by
  cases hv
  exact ⟨a, rfl, q _ F1 H1 z1 (.bl _)⟩
theorem exo_if {c : Bool} {e : α → PyData} {m n : Option α} (hc : ET K t env c) (h1 : c = true → EXo K ta env e m) (h2 : c = false → EXo K tb env e n) : EXo K (tIf t ta tb) env e (if c = true then m else n) := fun x ex => by
  intro F0 H0 F H σ E Q q
  refine hc E _ fun F1 H1 z1 => ?_
  cases c with
  | true => exact h1 rfl x ex (E.step z1) _ fun v F2 H2 z2 hv => q v F2 H2 (z1.trans z2) hv
  | false => exact h2 rfl x ex (E.step z1) _ fun v F2 H2 z2 hv => q v F2 H2 (z1.trans z2) hv
theorem ex_if {c : Bool} {e : α → PyData} {x y : α} (hc : ET K t env c) (h1 : EX K ta env (e x)) (h2 : EX K tb env (e y)) : EX K (tIf t ta tb) env (e (if c = true then x else y)) := by
  have h := exo_if (e := e) hc (fun _ => exo_some h1) (fun _ => exo_some h2) (if c = true then x else y) (by cases c <;> rfl)
  exact h
theorem exl_if {c : Bool} {e : α → PyData} {xs ys : List α} (hc : ET K t env c) (h1 : EXl K ta env (xs.map e)) (h2 : EXl K tb env (ys.map e)) : EXl K (tIf t ta tb) env ((if c = true then xs else ys).map e) := fun F0 H0 F H σ E Q q => by
  refine hc E _ fun F1 H1 z1 => ?_
  cases c with
  | true => exact h1 (E.step z1) _ fun p vs F2 H2 z2 => q p vs F2 H2 (z1.trans z2)
  | false => exact h2 (E.step z1) _ fun p vs F2 H2 z2 => q p vs F2 H2 (z1.trans z2)
/-- chains of two comparisons of ints: the third is asked only where the first holds -/
theorem exo_chain {g g' : Int → Int → V} {p p' : Int → Int → Bool} {i j : Int} {m : Option Int} (hg : ∀ i j, g i j = .bl (p i j)) (hg' : ∀ i j, g' i j = .bl (p' i j)) (ha : EX K ta env (.int i)) (hb : EX K tb env (.int j)) (hc : EXo K tc env .int m) :
    EXo K (tChain (rI0 g) (rI0 g') ta tb tc) env .bool (if p i j = true then m.map (p' j) else some false) := fun x ex => by
  intro F0 H0 F H σ E Q q
  refine ha E _ fun v F1 H1 z1 h1 => hb (E.step z1) _ fun w F2 H2 z2 h2 => ?_
  cases h1; cases h2
  refine ⟨i, j, rfl, rfl, p i j, hg i j, ?_⟩
  cases hp : p i j with
  | true =>
    rw [hp, if_pos rfl] at ex
    obtain ⟨k, e1, e2⟩ := Option.map_eq_some_iff.mp ex
    rw [if_pos rfl]
    refine hc k e1 ((E.step z1).step z2) _ fun u F3 H3 z3 h3 => ?_
    cases h3
    refine ⟨j, k, rfl, rfl, ?_⟩
    rw [hg', e2]
    exact q _ F3 H3 ((z1.trans z2).trans z3) (.bl _)
  | false =>
    rw [hp, if_neg Bool.false_ne_true] at ex
    cases ex
    rw [if_neg Bool.false_ne_true]
    exact q _ F2 H2 (z1.trans z2) (.bl _)
theorem ex_chain {g g' : Int → Int → V} {p p' : Int → Int → Bool} {i j k : Int} (hg : ∀ i j, g i j = .bl (p i j)) (hg' : ∀ i j, g' i j = .bl (p' i j)) (ha : EX K ta env (.int i)) (hb : EX K tb env (.int j)) (hc : EX K tc env (.int k)) :
    EX K (tChain (rI0 g) (rI0 g') ta tb tc) env (.bool (p i j && p' j k)) :=
  exo_chain hg hg' ha hb (exo_some (e := PyData.int) hc) (p i j && p' j k) (by cases p i j <;> rfl)
end
end Rb

set_option Elab.async false
set_option linter.all false
set_option maxRecDepth 100000
set_option maxHeartbeats 2000000
namespace Rb
open PySem PySem.Spec PyProof.Rows L2
/-! ### what is walked: P holds while the source stands -/
structure IterP (J : It) (P : Hp → Hp → Prop) (ds : List PyData) : Prop where
  go : ∀ F H i d, P F H → Ex F H → ds[i]? = some d → J.go i H ∧ ∀ x H', J.yld i H x H' → ∃ F', Fz F H F' H' ∧ Dq F' x d
  stop : ∀ F H, P F H → Ex F H → J.stop ds.length H
/-- a settled source -/
def EIs (K : Frag) (wi : TI) (env : List Sl) (ds : List PyData) : Prop := ∀ ⦃F0 H0 F H : Hp⦄ ⦃σ : List (Option V)⦄, EnvOk K F0 H0 F H σ env → ∀ R : It → Hp → Prop, (∀ J F' H', Fz F H F' H' → ds.length ≤ lim → IterP J (fun F1 H1 => Ex F' F1) ds → R J H') → wi σ H R
/-- any source -/
def EI (K : Frag) (wi : TI) (env : List Sl) (ds : List PyData) : Prop := ∀ ⦃F0 H0 F H : Hp⦄ ⦃σ : List (Option V)⦄, EnvOk K F0 H0 F H σ env → ∀ R : It → Hp → Prop, (∀ J F' H', Fz F H F' H' → ds.length ≤ lim → IterP J (fun F1 H1 => Fz F' H' F1 H1) ds → R J H') → wi σ H R
section
variable {K : Frag} {env : List Sl} {ta tb tc te tl : TE} {d e : PyData} {ds es : List PyData} {α β : Type} {wi : TI}
theorem EIs.i (h : EIs K wi env ds) : EI K wi env ds := fun F0 H0 F H σ E R r => h E R fun J F' H' z l p => r J F' H' z l ⟨fun F1 H1 i d p1 => p.go F1 H1 i d p1.f, fun F1 H1 p1 => p.stop F1 H1 p1.f⟩
theorem itl {a : Addr} {vs : List V} {P : Hp → Hp → Prop} (hP : ∀ F H, P F H → Ex F H → H a = some (.lst vs) ∧ DqAll F vs ds) : IterP (Itl K a) P ds := by
  refine ⟨fun F H i d p e hd => ?_, fun F H p e => ?_⟩
  · obtain ⟨h1, h2⟩ := hP F H p e
    obtain ⟨v, hv, dv⟩ := h2.get hd
    refine ⟨⟨vs, v, SqL.of h1, hv⟩, fun x H' y => ?_⟩
    obtain ⟨rfl, y⟩ := y
    have e1 := (y vs (SqL.of h1)).symm.trans hv
    cases e1
    exact ⟨F, Fz.refl e, dv⟩
  · obtain ⟨h1, h2⟩ := hP F H p e
    exact ⟨vs, SqL.of h1, Nat.le_of_eq h2.len⟩
theorem itt {a : Addr} {vs : List V} {P : Hp → Hp → Prop} (hP : ∀ F H, P F H → Ex F H → H a = some (.tup vs) ∧ DqAll F vs ds) : IterP (Itt K a) P ds := by
  refine ⟨fun F H i d p e hd => ?_, fun F H p e => ?_⟩
  · obtain ⟨h1, h2⟩ := hP F H p e
    obtain ⟨v, hv, dv⟩ := h2.get hd
    refine ⟨⟨vs, v, SqT.of h1, hv⟩, fun x H' y => ?_⟩
    obtain ⟨rfl, y⟩ := y
    have e1 := (y vs (SqT.of h1)).symm.trans hv
    cases e1
    exact ⟨F, Fz.refl e, dv⟩
  · obtain ⟨h1, h2⟩ := hP F H p e
    exact ⟨vs, SqT.of h1, Nat.le_of_eq h2.len⟩
theorem eis_list (h : EX K tl env (.list ds)) : EIs K (iList K tl) env ds := fun F0 H0 F H σ E R r => h E _ fun v F' H' z hv => by
  cases hv with
  | lst h1 h2 h3 => exact ⟨_, rfl, ⟨_, SqL.of (z.fh _ _ h1)⟩, r _ F' H' z h3 (itl fun F1 H1 p e => ⟨e _ _ (p _ _ h1), DqAll.mono p _ _ h2⟩)⟩
theorem ei_list (h : EXl K tl env ds) : EI K (iList K tl) env ds := fun F0 H0 F H σ E R r => h E _ fun p vs F' H' z h1 h2 h3 =>
  ⟨p, rfl, ⟨vs, SqL.of h1⟩, r _ F' H' z h3 (itl fun F1 H1 q e => ⟨q.hh z.fh _ _ h1, DqAll.mono q.f _ _ h2⟩)⟩
theorem eis_tup (h : EX K tl env (.tuple ds)) : EIs K (iTup K tl) env ds := fun F0 H0 F H σ E R r => h E _ fun v F' H' z hv => by
  cases hv with
  | tup h1 h2 h3 => exact ⟨_, rfl, ⟨_, SqT.of (z.fh _ _ h1)⟩, r _ F' H' z h3 (itt fun F1 H1 p e => ⟨e _ _ (p _ _ h1), DqAll.mono p _ _ h2⟩)⟩
/-- lo, lo + 1, .. below hi -/
def rng (lo hi : Int) : List Int := (List.range (hi - lo).toNat).map fun (i : Nat) => lo + (i : Int)
theorem rng_len (lo hi : Int) : (rng lo hi).length = (hi - lo).toNat := by unfold rng; rw [List.length_map, List.length_range]
theorem itr {lo : Int} {n : Nat} {P : Hp → Hp → Prop} : IterP (Itr lo n) P (((List.range n).map fun (i : Nat) => lo + (i : Int)).map PyData.int) := by
  refine ⟨fun F H i d p e hd => ?_, fun F H p e => ?_⟩
  · rw [List.map_map, List.getElem?_map] at hd
    obtain ⟨j, h1, h2⟩ := Option.map_eq_some_iff.mp hd
    obtain ⟨h3, h4⟩ := List.getElem?_eq_some_iff.mp h1
    rw [List.getElem_range] at h4
    rw [List.length_range] at h3
    subst h4; subst h2
    refine ⟨h3, fun x H' y => ?_⟩
    obtain ⟨rfl, rfl⟩ := y
    exact ⟨F, Fz.refl e, .int _⟩
  · show n ≤ _
    rw [List.length_map, List.length_map, List.length_range]
    exact Nat.le_refl _
def rngOk (n : Int) : Prop := -50000 ≤ n ∧ n ≤ 50000
instance (n : Int) : Decidable (rngOk n) := inferInstanceAs (Decidable (_ ∧ _))
theorem rng_lim {m n : Int} (hm : rngOk m) (hn : rngOk n) : ((rng m n).map PyData.int).length ≤ lim := by
  unfold rngOk at hm hn
  unfold lim
  rw [List.length_map, rng_len]
  omega
theorem eis_rng1 {n : Int} (h : EX K ta env (.int n)) (hn : rngOk n) : EIs K (iRng1 (tCons ta tNil)) env ((rng 0 n).map PyData.int) := fun F0 H0 F H σ E R r => h E _ fun v F' H' z hv => by
  cases hv
  have l := rng_lim (m := 0) (by decide) hn
  unfold rngOk at hn
  refine ⟨n, rfl, by omega, by omega, r _ F' H' z l ?_⟩
  have e : (n - 0).toNat = n.toNat := by rw [Int.sub_zero]
  unfold rng
  rw [e]
  exact itr
theorem eis_rng2 {m n : Int} (ha : EX K ta env (.int m)) (hb : EX K tb env (.int n)) (hm : rngOk m) (hn : rngOk n) : EIs K (iRng2 (tCons ta (tCons tb tNil))) env ((rng m n).map PyData.int) := fun F0 H0 F H σ E R r => ha E _ fun v F1 H1 z1 hv => hb (E.step z1) _ fun w F2 H2 z2 hw => by
  cases hv; cases hw
  have l := rng_lim hm hn
  unfold rngOk at hm hn
  exact ⟨m, n, rfl, ⟨by omega, by omega, by omega, by omega⟩, r _ F2 H2 (z1.trans z2) l itr⟩
/-- with a step -/
def rng3N (lo hi c : Int) : Nat := if 0 < c then (if lo < hi then ((hi - lo - 1) / c + 1).toNat else 0) else (if hi < lo then ((lo - hi - 1) / (-c) + 1).toNat else 0)
def rng3 (lo hi c : Int) : List Int := (List.range (rng3N lo hi c)).map fun (i : Nat) => lo + (i : Int) * c
theorem itc {lo c : Int} {n : Nat} {P : Hp → Hp → Prop} : IterP (Itc lo c n) P (((List.range n).map fun (i : Nat) => lo + (i : Int) * c).map PyData.int) := by
  refine ⟨fun F H i d p e hd => ?_, fun F H p e => ?_⟩
  · rw [List.map_map, List.getElem?_map] at hd
    obtain ⟨j, h1, h2⟩ := Option.map_eq_some_iff.mp hd
    obtain ⟨h3, h4⟩ := List.getElem?_eq_some_iff.mp h1
    rw [List.getElem_range] at h4
    rw [List.length_range] at h3
    subst h4; subst h2
    refine ⟨h3, fun x H' y => ?_⟩
    obtain ⟨rfl, rfl⟩ := y
    exact ⟨F, Fz.refl e, .int _⟩
  · show n ≤ _
    rw [List.length_map, List.length_map, List.length_range]
    exact Nat.le_refl _
theorem div_bnd {q c : Int} (hq : 0 ≤ q) (hc : 0 < c) : 0 ≤ q / c ∧ q / c ≤ q := ⟨Int.ediv_nonneg hq (by omega), Int.ediv_le_self c hq⟩
theorem rngC_ok {i j c : Int} (hc : c ≠ 0) (h1 : c.natAbs < 1000000000) (hi : i < 2 ^ 60 ∧ -(2 ^ 60) ≤ i) (hj : j < 2 ^ 60 ∧ -(2 ^ 60) ≤ j) : RgC i j c (rng3N i j c) := by
  have key : Builtin.Range.rangeSize i j c = rng3N i j c ∧ (rng3N i j c : Int) ≤ 2 ^ 61 := by
    unfold Builtin.Range.rangeSize rng3N
    by_cases c0 : 0 < c
    · rw [if_pos c0, if_pos (show c > 0 from c0)]
      by_cases c1 : i < j
      · rw [if_pos c1, if_pos c1]
        have := div_bnd (q := j - i - 1) (c := c) (by omega) c0
        generalize (j - i - 1) / c = q at this ⊢
        omega
      · rw [if_neg c1, if_neg c1]
        exact ⟨rfl, by decide⟩
    · rw [if_neg c0, if_neg (show ¬ c > 0 from c0)]
      by_cases c1 : j < i
      · rw [if_pos c1, if_pos (show i > j from c1)]
        have := div_bnd (q := i - j - 1) (c := -c) (by omega) (by omega)
        generalize (i - j - 1) / -c = q at this ⊢
        omega
      · rw [if_neg c1, if_neg (show ¬ i > j from c1)]
        exact ⟨rfl, by decide⟩
  refine ⟨hc, by omega, ?_, key.1⟩
  unfold Builtin.Range.small
  rw [key.1]
  have := key.2
  generalize rng3N i j c = q at this ⊢
  simp only [Builtin.Range.rangeFitsLong, Bool.and_eq_true, Bool.or_eq_true, decide_eq_true_eq, beq_iff_eq]
  by_cases c0 : c > 0
  · simp only [c0, if_true, Bool.and_eq_true, decide_eq_true_eq]
    omega
  · simp only [c0, if_false, Bool.and_eq_true, decide_eq_true_eq]
    omega
theorem rng3N_le {m n c : Int} (hm : rngOk m) (hn : rngOk n) (h0 : c ≠ 0) : rng3N m n c ≤ lim := by
  unfold rngOk at hm hn
  unfold rng3N lim
  by_cases c0 : 0 < c
  · rw [if_pos c0]
    by_cases c1 : m < n
    · rw [if_pos c1]
      have := div_bnd (q := n - m - 1) (c := c) (by omega) c0
      omega
    · rw [if_neg c1]; omega
  · rw [if_neg c0]
    by_cases c1 : n < m
    · rw [if_pos c1]
      have := div_bnd (q := m - n - 1) (c := -c) (by omega) (by omega)
      omega
    · rw [if_neg c1]; omega
theorem eis_rng3 {m n c : Int} (ha : EX K ta env (.int m)) (hb : EX K tb env (.int n)) (hc : EX K tc env (.int c)) (hm : rngOk m) (hn : rngOk n) (h0 : c ≠ 0) (h1 : c.natAbs < 1000000000) :
    EIs K (iRng3 (tCons ta (tCons tb (tCons tc tNil)))) env ((rng3 m n c).map PyData.int) := fun F0 H0 F H σ E R r => ha E _ fun v F1 H1 z1 hv => hb (E.step z1) _ fun w F2 H2 z2 hw => hc ((E.step z1).step z2) _ fun u F3 H3 z3 hu => by
  cases hv; cases hw; cases hu
  have l := rng3N_le hm hn h0
  unfold rngOk at hm hn
  refine ⟨m, n, c, _, rfl, rngC_ok h0 h1 (by omega) (by omega), r _ F3 H3 ((z1.trans z2).trans z3) ?_ itc⟩
  unfold rng3
  rw [List.length_map, List.length_map, List.length_range]
  exact l
end
end Rb

set_option Elab.async false
set_option linter.all false
set_option maxRecDepth 100000
set_option maxHeartbeats 2000000
namespace Rb
open PySem PySem.Spec PyProof.Rows L2
/-! ### targets -/
def EG (K : Frag) (g : TG) (env : List Sl) (d : PyData) (env' : List Sl) : Prop := ∀ ⦃F0 H0 F H : Hp⦄ ⦃σ : List (Option V)⦄ ⦃v : V⦄, EnvOk K F0 H0 F H σ env → Dq F v d → ∀ Q : L2.St → Hp → Prop, (∀ σ' F' H', EnvOk K F0 H0 F' H' σ' env' → Q σ' H') → g v σ H Q
/-- names alone: the heap stays, the slots vs alone change -/
def EGc (K : Frag) (g : TG) (env : List Sl) (d : PyData) (env' : List Sl) (vs : List Nat) : Prop := ∀ ⦃F0 H0 F H : Hp⦄ ⦃σ : List (Option V)⦄ ⦃v : V⦄, EnvOk K F0 H0 F H σ env → Dq F v d → ∀ Q : L2.St → Hp → Prop, (∀ σ', EnvOk K F0 H0 F H σ' env' → wipe σ' vs = wipe σ vs → Q σ' H) → g v σ H Q
def EGs (K : Frag) (g : TGs) (env : List Sl) (ds : List PyData) (env' : List Sl) (vs : List Nat) : Prop := ∀ ⦃F0 H0 F H : Hp⦄ ⦃σ : List (Option V)⦄ ⦃ws : List V⦄, EnvOk K F0 H0 F H σ env → DqAll F ws ds → ∀ Q : L2.St → Hp → Prop, (∀ σ', EnvOk K F0 H0 F H σ' env' → wipe σ' vs = wipe σ vs → Q σ' H) → g ws σ H Q
theorem wipe_set {σ : List (Option V)} {i : Nat} {x : Option V} : ∀ {vs : List Nat}, i ∈ vs → wipe (σ.set i x) vs = wipe σ vs
  | [], h => by cases h
  | v :: vs, h => by
    unfold wipe
    by_cases m : i ∈ vs
    · rw [wipe_set m]
    · have e : i = v := by
        rcases List.mem_cons.mp h with z | z
        · exact z
        · exact absurd z m
      subst e
      have : ∀ vs : List Nat, i ∉ vs → wipe (σ.set i x) vs = (wipe σ vs).set i x := fun vs => by
        induction vs with
        | nil => intro _; rfl
        | cons w ws ih =>
          intro hm
          unfold wipe
          rw [ih fun z => hm (List.mem_cons_of_mem _ z), List.set_comm]
          exact fun z => hm (z ▸ List.mem_cons_self)
      rw [this vs m, List.set_set]
section
variable {K : Frag} {env env' env1 : List Sl} {d : PyData} {ds : List PyData} {g : TG} {gs : TGs} {vs : List Nat} {te ti : TE} {α β S R O : Type}
theorem EGc.eg (h : EGc K g env d env' vs) : EG K g env d env' := fun F0 H0 F H σ v E hv Q q => h E hv Q fun σ' E' _ => q σ' F H E'
theorem egc_name {i : Nat} (hi : i ∈ vs) : EGc K (gName i) env d (env.set i (.sh d)) vs := fun F0 H0 F H σ v E hv Q q => q _ (E.setS i hv) (wipe_set hi)
theorem egc_un {i : Nat} (hi : i ∈ vs) : EGc K (gName i) env d (env.set i .un) vs := fun F0 H0 F H σ v E hv Q q => q _ (E.setU i) (wipe_set hi)
theorem egs_nil : EGs K gNil env [] env vs := fun F0 H0 F H σ v E hv Q q => by
  cases hv
  exact ⟨rfl, q σ E rfl⟩
theorem egs_cons (h1 : EGc K g env d env1 vs) (h2 : EGs K gs env1 ds env' vs) : EGs K (gCons g gs) env (d :: ds) env' vs := fun F0 H0 F H σ v E hv Q q => by
  cases hv with
  | cons a b => exact ⟨_, _, rfl, h1 E a _ fun σ1 E1 w1 => h2 E1 b _ fun σ2 E2 w2 => q σ2 E2 (w2.trans w1)⟩
theorem egc_tup {n : Nat} (h : EGs K gs env ds env' vs) (hn : ds.length = n) : EGc K (gTup K n gs) env (.tuple ds) env' vs := fun F0 H0 F H σ v E hv Q q => by
  cases hv with
  | tup h1 h2 h3 => exact ⟨_, _, rfl, SqT.of (E.fh _ _ h1), by rw [h2.len, hn], h E h2 _ q⟩
theorem egc_lst {n : Nat} (h : EGs K gs env ds env' vs) (hn : ds.length = n) : EGc K (gLst K n gs) env (.list ds) env' vs := fun F0 H0 F H σ v E hv Q q => by
  cases hv with
  | lst h1 h2 h3 => exact ⟨_, _, rfl, SqL.of (E.fh _ _ h1), by rw [h2.len, hn], h E h2 _ q⟩
/-- found[i] = e, found a list of the frame's own -/
theorem eg_sub {k : Nat} {i : Int} {j : Nat} {ds' : List PyData} (hk : env[k]? = some (.ow ds)) (hi : EX K ti env (.int i)) (hj : ixN ds.length i = some j) (hd : ds' = ds.set j d) : EG K (gSub (tVar k) ti rSetL) env d (env.set k (.ow ds')) := fun F0 H0 F H σ v E hv Q q => by
  obtain ⟨o, h1, p, vs, h2, h3, h4, h5, h6, h7⟩ := E.sl k _ hk
  subst h2
  refine ⟨_, h1, hi E _ fun w F1 H1 z1 hw => ?_⟩
  cases hw
  have E1 := E.step z1
  obtain ⟨f1, hh1⟩ := z1.own p _ h5 h4
  have a1 := DqAll.mono z1.f _ _ h6
  subst hd
  refine ⟨p, vs, i, j, rfl, rfl, hh1, by rw [a1.len]; exact hj, q _ F1 _ (E1.mut hk rfl h1 ⟨p, _, rfl, h3, f1, upd_same, a1.set (Dq.mono z1.f _ _ hv) j, by rw [List.length_set]; exact h7⟩ rfl)⟩
/-! ### outcomes -/
inductive Rv where
  | sh (d : PyData)
  | fr (ds : List PyData)
inductive Out where
  | nx (env : List Sl)
  | bk (env : List Sl)
  | ct (env : List Sl)
  | rt (r : Rv)
/-- what a def hands back reaches Q -/
def RetOk (F0 H0 : Hp) (Q : VK) : Rv → Prop
  | .sh d => ∀ F H v, Fz F0 H0 F H → Dq F v d → Q v H
  | .fr ds => ∀ F H p vs, Fz F0 H0 F H → H0 p = none → F p = none → H p = some (.lst vs) → DqAll F vs ds → ds.length ≤ lim → Q (.ref p) H
def Cont (K : Frag) (F0 H0 : Hp) (D : Ends) : Out → Prop
  | .nx env => ∀ F H σ, EnvOk K F0 H0 F H σ env → D.nx σ H
  | .bk env => ∀ F H σ, EnvOk K F0 H0 F H σ env → D.bk σ H
  | .ct env => ∀ F H σ, EnvOk K F0 H0 F H σ env → D.ct σ H
  | .rt r => RetOk F0 H0 D.rt r
theorem RetOk.base {F0 H0 F1 H1 : Hp} {Q : VK} (z : Fz F0 H0 F1 H1) : ∀ {r : Rv}, RetOk F0 H0 Q r → RetOk F1 H0 Q r
  | .sh d, h => fun F H v z2 hv => h F H v (z.back z2) hv
  | .fr ds, h => fun F H p vs z2 a b c d l => h F H p vs (z.back z2) a b c d l
theorem Cont.base {K : Frag} {F0 H0 F1 H1 : Hp} {D : Ends} (z : Fz F0 H0 F1 H1) : ∀ {o : Out}, Cont K F0 H0 D o → Cont K F1 H0 D o
  | .nx env, h => fun F H σ E => h F H σ (E.back z)
  | .bk env, h => fun F H σ E => h F H σ (E.back z)
  | .ct env, h => fun F H σ E => h F H σ (E.back z)
  | .rt r, h => RetOk.base z h
def BX (K : Frag) (ts : TS) (env : List Sl) {O : Type} (enc : O → Out) (m : Option O) : Prop := ∀ o, m = some o → ∀ ⦃F0 H0 F H : Hp⦄ ⦃σ : List (Option V)⦄ (D : Ends), EnvOk K F0 H0 F H σ env → Cont K F0 H0 D (enc o) → ts D σ H
variable {ts tu tw : TS} {tt : TT} {enc : O → Out} {m n : Option O}
theorem bx_bind {k : α → Option O} {m : Option α} (h : ∀ x, m = some x → BX K ts env enc (k x)) : BX K ts env enc (m.bind k) := fun o ho => by
  obtain ⟨x, h1, h2⟩ := Option.bind_eq_some_iff.mp ho
  exact h x h1 o h2
theorem bx_none : BX K ts env enc none := fun o ho => by cases ho
theorem bx_map {O' : Type} {enc' : O' → Out} {f : O → O'} (h : BX K ts env enc m) (he : ∀ o, enc' (f o) = enc o) : BX K ts env enc' (m.map f) := fun o ho => by
  obtain ⟨x, h1, h2⟩ := Option.map_eq_some_iff.mp ho
  subst h2
  rw [he]
  exact h x h1
theorem bx_weak (w : Wk env env') (h : BX K ts env' enc m) : BX K ts env enc m := fun o ho F0 H0 F H σ D E c => h o ho D (E.weak w) c
theorem bx_freeze (i : Nat) (hs : env[i]? = some (.ow ds)) (h : BX K ts (env.set i (.sh (.list ds))) enc m) : BX K ts env enc m := fun o ho F0 H0 F H σ D E c => by
  obtain ⟨F', E'⟩ := E.freeze hs
  exact h o ho D E' c
theorem bx_ret {o : O} {d : PyData} (h : EX K te env d) (he : enc o = .rt (.sh d)) : BX K (tRet te) env enc (some o) := fun o' ho F0 H0 F H σ D E c => by
  cases ho
  rw [he] at c
  exact h E _ fun v F' H' z hv => c F' H' v (E.z.trans z) hv
theorem bx_retW {o : O} {ds : List PyData} (h : EXw K te env ds) (he : enc o = .rt (.fr ds)) : BX K (tRet te) env enc (some o) := fun o' ho F0 H0 F H σ D E c => by
  cases ho
  rw [he] at c
  exact h E _ fun p vs F' H' z hn hf h1 h2 h3 => c F' H' p vs (E.z.trans z) (E.z.hn hn) hf h1 h2 h3
end
end Rb

set_option Elab.async false
set_option linter.all false
set_option maxRecDepth 100000
set_option maxHeartbeats 2000000
namespace Rb
open PySem PySem.Spec PyProof.Rows L2
inductive Lp (S R : Type) where
  | nx (s : S)
  | bk (s : S)
  | rt (r : R)
section
variable {K : Frag} {env env' env1 env2 : List Sl} {d : PyData} {ds : List PyData} {g : TG} {gs : TGs} {vs : List Nat} {te ti ta tb : TE} {wi : TI} {α β S R O O1 : Type}
variable {ts tu tw : TS} {tt : TT} {enc : O → Out} {enc1 : O1 → Out} {m n : Option O} {m1 : Option O1}
/-! ### assignments -/
theorem bx_asg (he : EX K te env d) (hg : EG K g env d env1) (h : BX K tu env1 enc m) : BX K (tSeq (tAsg te g) tu) env enc m := fun o ho F0 H0 F H σ D E c =>
  he E _ fun v F1 H1 z1 hv => hg (E.step z1) hv _ fun σ2 F2 H2 E2 => h o ho D E2 c
/-- the last statement of a block -/
theorem bx_asg1 {o : O} (he : EX K te env d) (hg : EG K g env d env1) (hw : Wk env1 env') (hn : enc o = .nx env') : BX K (tAsg te g) env enc (some o) := fun o' ho F0 H0 F H σ D E c => by
  cases ho
  rw [hn] at c
  exact he E _ fun v F1 H1 z1 hv => hg (E.step z1) hv _ fun σ2 F2 H2 E2 => c F2 H2 σ2 (E2.weak hw)
theorem bx_asgW {i : Nat} (he : EXw K te env ds) (h : BX K tu (env.set i (.ow ds)) enc m) : BX K (tSeq (tAsg te (gName i)) tu) env enc m := fun o ho F0 H0 F H σ D E c =>
  he E _ fun p vs F1 H1 z1 hn hf h1 h2 h3 => h o ho D (E.setO z1 i hn (s := .ow ds) ⟨p, vs, rfl, E.z.hn hn, hf, h1, h2, h3⟩) c
theorem bx_asgW1 {i : Nat} {o : O} (he : EXw K te env ds) (hw : Wk (env.set i (.ow ds)) env') (hn : enc o = .nx env') : BX K (tAsg te (gName i)) env enc (some o) := fun o' ho F0 H0 F H σ D E c => by
  cases ho
  rw [hn] at c
  exact he E _ fun p vs F1 H1 z1 hn hf h1 h2 h3 => c F1 H1 _ ((E.setO z1 i hn (s := .ow ds) ⟨p, vs, rfl, E.z.hn hn, hf, h1, h2, h3⟩).weak hw)
/-- a, b = e, f -/
theorem bx_par {i j : Nat} {d e : PyData} (ha : EX K ta env d) (hb : EX K tb env e) (h : BX K tu ((env.set i (.sh d)).set j (.sh e)) enc m) : BX K (tSeq (tPar i j (tCons ta (tCons tb tNil))) tu) env enc m := fun o ho F0 H0 F H σ D E c =>
  ha E _ fun v F1 H1 z1 hv => hb (E.step z1) _ fun w F2 H2 z2 hw => ⟨v, w, rfl, h o ho D ((((E.step z1).step z2).setS i (Dq.mono z2.f _ _ hv)).setS j hw) c⟩
/-- an expression alone -/
theorem bx_drop (he : EX K te env d) (h : BX K tu env enc m) : BX K (tSeq (tDrop te) tu) env enc m := fun o ho F0 H0 F H σ D E c =>
  he E _ fun v F1 H1 z1 hv => h o ho D (E.step z1) c
theorem bx_drop1 {o : O} (he : EX K te env d) (hw : Wk env env') (hn : enc o = .nx env') : BX K (tDrop te) env enc (some o) := fun o' ho F0 H0 F H σ D E c => by
  cases ho
  rw [hn] at c
  exact he E _ fun v F1 H1 z1 hv => c F1 H1 σ ((E.step z1).weak hw)
/-! ### own lists changed -/
def app? (xs : List α) (x : α) : Option (List α) := if xs.length < lim then some (xs ++ [x]) else none
theorem app_some {xs ys : List α} {x : α} (h : app? xs x = some ys) : xs.length < lim ∧ ys = xs ++ [x] := by
  unfold app? at h
  by_cases c : xs.length < lim
  · rw [if_pos c] at h; cases h; exact ⟨c, rfl⟩
  · rw [if_neg c] at h; cases h
theorem s_app {e : α → PyData} {i : Nat} {xs ys : List α} {x : α} (hi : env[i]? = some (.ow (xs.map e))) (hx : EX K te env (e x)) (hy : app? xs x = some ys) {F0 H0 F H : Hp} {σ : List (Option V)} {D : Ends} (E : EnvOk K F0 H0 F H σ env)
    (k : ∀ F' H', EnvOk K F0 H0 F' H' σ (env.set i (.ow (ys.map e))) → D.nx σ H') : tDrop (tBM K "list" rAppend (tVar i) (tCons te tNil)) D σ H := by
  obtain ⟨hl, rfl⟩ := app_some hy
  obtain ⟨o, h1, p, vs, h2, h3, h4, h5, h6, h7⟩ := E.sl i _ hi
  subst h2
  refine ⟨_, h1, .inl ⟨rfl, vs, SqL.of h5⟩, hx E _ fun w F1 H1 z1 hw => ?_⟩
  obtain ⟨f1, hh1⟩ := z1.own p _ h5 h4
  have a1 := DqAll.mono z1.f _ _ h6
  have hlen := a1.len
  rw [List.length_map] at hlen
  refine ⟨p, vs, w, rfl, rfl, hh1, by rw [hlen]; exact lim_lt hl, k F1 _ ((E.step z1).mut hi rfl h1 ⟨p, _, rfl, h3, f1, upd_same, ?_, ?_⟩ rfl)⟩
  · rw [List.map_append]
    exact a1.app (.cons hw .nil)
  · rw [List.length_map, List.length_append]
    exact hl
theorem bx_app {e : α → PyData} {i : Nat} {xs ys : List α} {x : α} (hi : env[i]? = some (.ow (xs.map e))) (hx : EX K te env (e x)) (hy : app? xs x = some ys) (h : BX K tu (env.set i (.ow (ys.map e))) enc m) :
    BX K (tSeq (tDrop (tBM K "list" rAppend (tVar i) (tCons te tNil))) tu) env enc m := fun o ho F0 H0 F H σ D E c => s_app (D := { D with nx := tu D }) hi hx hy E fun F' H' E' => h o ho D E' c
theorem bx_app1 {e : α → PyData} {i : Nat} {xs ys : List α} {x : α} {o : O} (hi : env[i]? = some (.ow (xs.map e))) (hx : EX K te env (e x)) (hy : app? xs x = some ys) (hw : Wk (env.set i (.ow (ys.map e))) env') (hn : enc o = .nx env') :
    BX K (tDrop (tBM K "list" rAppend (tVar i) (tCons te tNil))) env enc (some o) := fun o' ho F0 H0 F H σ D E c => by
  cases ho
  rw [hn] at c
  exact s_app hi hx hy E fun F' H' E' => c F' H' σ (E'.weak hw)
/-- extend by a list that is looked at -/
def ext? (xs ys : List α) : Option (List α) := if xs.length + ys.length ≤ lim then some (xs ++ ys) else none
theorem ext_some {xs ys zs : List α} (h : ext? xs ys = some zs) : xs.length + ys.length ≤ lim ∧ zs = xs ++ ys := by
  unfold ext? at h
  by_cases c : xs.length + ys.length ≤ lim
  · rw [if_pos c] at h; cases h; exact ⟨c, rfl⟩
  · rw [if_neg c] at h; cases h
theorem s_ext {e : α → PyData} {i : Nat} {xs ys zs : List α} (hi : env[i]? = some (.ow (xs.map e))) (hx : EXl K te env (ys.map e)) (hy : ext? xs ys = some zs) {F0 H0 F H : Hp} {σ : List (Option V)} {D : Ends} (E : EnvOk K F0 H0 F H σ env)
    (k : ∀ F' H', EnvOk K F0 H0 F' H' σ (env.set i (.ow (zs.map e))) → D.nx σ H') : tDrop (tBM K "list" rExtend (tVar i) (tCons te tNil)) D σ H := by
  obtain ⟨hl, rfl⟩ := ext_some hy
  obtain ⟨o, h1, p, vs, h2, h3, h4, h5, h6, h7⟩ := E.sl i _ hi
  subst h2
  refine ⟨_, h1, .inl ⟨rfl, vs, SqL.of h5⟩, hx E _ fun q ws F1 H1 z1 hq aq lq => ?_⟩
  obtain ⟨f1, hh1⟩ := z1.own p _ h5 h4
  have a1 := DqAll.mono z1.f _ _ h6
  have hlen := a1.len
  rw [List.length_map] at hlen
  have hlen2 := aq.len
  rw [List.length_map] at hlen2
  refine ⟨p, q, vs, ws, rfl, rfl, hh1, hq, by rw [hlen, hlen2]; exact lim_le hl, k F1 _ ((E.step z1).mut hi rfl h1 ⟨p, _, rfl, h3, f1, upd_same, ?_, ?_⟩ rfl)⟩
  · rw [List.map_append]
    exact a1.app aq
  · rw [List.length_map, List.length_append]
    exact hl
theorem bx_ext {e : α → PyData} {i : Nat} {xs ys zs : List α} (hi : env[i]? = some (.ow (xs.map e))) (hx : EXl K te env (ys.map e)) (hy : ext? xs ys = some zs) (h : BX K tu (env.set i (.ow (zs.map e))) enc m) :
    BX K (tSeq (tDrop (tBM K "list" rExtend (tVar i) (tCons te tNil))) tu) env enc m := fun o ho F0 H0 F H σ D E c => s_ext (D := { D with nx := tu D }) hi hx hy E fun F' H' E' => h o ho D E' c
theorem bx_ext1 {e : α → PyData} {i : Nat} {xs ys zs : List α} {o : O} (hi : env[i]? = some (.ow (xs.map e))) (hx : EXl K te env (ys.map e)) (hy : ext? xs ys = some zs) (hw : Wk (env.set i (.ow (zs.map e))) env') (hn : enc o = .nx env') :
    BX K (tDrop (tBM K "list" rExtend (tVar i) (tCons te tNil))) env enc (some o) := fun o' ho F0 H0 F H σ D E c => by
  cases ho
  rw [hn] at c
  exact s_ext hi hx hy E fun F' H' E' => c F' H' σ (E'.weak hw)
/-- remove of a whole number -/
def rem? (xs : List Int) (x : Int) : Option (List Int) := if x ∈ xs then some (xs.erase x) else none
theorem erase_idx : ∀ {xs : List Int} {x : Int}, x ∈ xs → ∃ j, xs[j]? = some x ∧ (∀ m : Nat, m < j → xs[m]? ≠ some x) ∧ xs.erase x = xs.eraseIdx j
  | [], _, h => by cases h
  | y :: ys, x, h => by
    by_cases e : y = x
    · subst e
      exact ⟨0, rfl, fun m hm => absurd hm (Nat.not_lt_zero _), by simp⟩
    · have h' : x ∈ ys := by
        rcases List.mem_cons.mp h with z | z
        · exact absurd z.symm e
        · exact z
      obtain ⟨j, h1, h2, h3⟩ := erase_idx h'
      refine ⟨j + 1, by simpa using h1, fun m hm => ?_, ?_⟩
      · cases m with
        | zero => simpa using e
        | succ m => simpa using h2 m (by omega)
      · rw [List.erase_cons_tail (by simpa using e), h3]
        rfl
theorem s_rem {i : Nat} {xs ys : List Int} {x : Int} (hi : env[i]? = some (.ow (xs.map PyData.int))) (hx : EX K te env (.int x)) (hy : rem? xs x = some ys) {F0 H0 F H : Hp} {σ : List (Option V)} {D : Ends} (E : EnvOk K F0 H0 F H σ env)
    (k : ∀ F' H', EnvOk K F0 H0 F' H' σ (env.set i (.ow (ys.map PyData.int))) → D.nx σ H') : tDrop (tBM K "list" rRemI (tVar i) (tCons te tNil)) D σ H := by
  unfold rem? at hy
  by_cases c : x ∈ xs
  · rw [if_pos c] at hy; cases hy
    obtain ⟨j, j1, j2, j3⟩ := erase_idx c
    obtain ⟨o, h1, p, vs, h2, h3, h4, h5, h6, h7⟩ := E.sl i _ hi
    subst h2
    refine ⟨_, h1, .inl ⟨rfl, vs, SqL.of h5⟩, hx E _ fun w F1 H1 z1 hw => ?_⟩
    cases hw
    obtain ⟨f1, hh1⟩ := z1.own p _ h5 h4
    have a1 := DqAll.mono z1.f _ _ h6
    have ev := a1.ints
    subst ev
    refine ⟨p, xs, x, j, rfl, rfl, hh1, j1, j2, k F1 _ ((E.step z1).mut hi rfl h1 ⟨p, _, rfl, h3, f1, upd_same, ?_, ?_⟩ rfl)⟩
    · rw [j3]; exact DqAll.ints' _
    · rw [List.length_map] at h7 ⊢
      exact Nat.le_trans (List.length_erase_le) h7
  · rw [if_neg c] at hy; cases hy
theorem bx_rem {i : Nat} {xs ys : List Int} {x : Int} (hi : env[i]? = some (.ow (xs.map PyData.int))) (hx : EX K te env (.int x)) (hy : rem? xs x = some ys) (h : BX K tu (env.set i (.ow (ys.map PyData.int))) enc m) :
    BX K (tSeq (tDrop (tBM K "list" rRemI (tVar i) (tCons te tNil))) tu) env enc m := fun o ho F0 H0 F H σ D E c => s_rem (D := { D with nx := tu D }) hi hx hy E fun F' H' E' => h o ho D E' c
theorem bx_rem1 {i : Nat} {xs ys : List Int} {x : Int} {o : O} (hi : env[i]? = some (.ow (xs.map PyData.int))) (hx : EX K te env (.int x)) (hy : rem? xs x = some ys) (hw : Wk (env.set i (.ow (ys.map PyData.int))) env') (hn : enc o = .nx env') :
    BX K (tDrop (tBM K "list" rRemI (tVar i) (tCons te tNil))) env enc (some o) := fun o' ho F0 H0 F H σ D E c => by
  cases ho
  rw [hn] at c
  exact s_rem hi hx hy E fun F' H' E' => c F' H' σ (E'.weak hw)
/-- x = xs.pop() -/
def pop? (xs : List α) : Option (α × List α) := xs.getLast?.map fun x => (x, xs.dropLast)
theorem s_pop {e : α → PyData} {i : Nat} {xs ys : List α} {x : α} (hi : env[i]? = some (.ow (xs.map e))) (hy : pop? xs = some (x, ys)) {F0 H0 F H : Hp} {σ : List (Option V)} (E : EnvOk K F0 H0 F H σ env) {Q : VK}
    (k : ∀ v H', EnvOk K F0 H0 F H' σ (env.set i (.ow (ys.map e))) → Dq F v (e x) → Q v H') : tBM0 K "list" rPop (tVar i) σ H Q := by
  unfold pop? at hy
  obtain ⟨x', e1, e2⟩ := Option.map_eq_some_iff.mp hy
  cases e2
  obtain ⟨o, h1, p, vs, h2, h3, h4, h5, h6, h7⟩ := E.sl i _ hi
  subst h2
  have hlast : (xs.map e)[vs.length - 1]? = some (e x) := by
    rw [h6.len, List.length_map, List.getElem?_map, ← List.getLast?_eq_getElem?, e1]
    rfl
  obtain ⟨v, e3, e4⟩ := h6.get hlast
  refine ⟨_, h1, .inl ⟨rfl, vs, SqL.of h5⟩, p, vs, v, rfl, rfl, h5, e3, k v _ (E.mut hi rfl h1 ⟨p, _, rfl, h3, h4, upd_same, ?_, ?_⟩ rfl) e4⟩
  · have k2 : (xs.map e).dropLast = xs.dropLast.map e := by rw [List.dropLast_eq_take, List.dropLast_eq_take, List.length_map, List.map_take]
    rw [← k2]
    exact h6.dropLast
  · rw [List.length_map, List.length_dropLast]
    rw [List.length_map] at h7
    omega
theorem bx_pop {e : α → PyData} {i j : Nat} {xs ys : List α} {x : α} (hi : env[i]? = some (.ow (xs.map e))) (hy : pop? xs = some (x, ys)) (h : BX K tu ((env.set i (.ow (ys.map e))).set j (.sh (e x))) enc m) :
    BX K (tSeq (tAsg (tBM0 K "list" rPop (tVar i)) (gName j)) tu) env enc m := fun o ho F0 H0 F H σ D E c => s_pop hi hy E fun v H' E' hv => h o ho D (E'.setS j hv) c
/-- clear, reverse -/
theorem s_clear {i : Nat} (hi : env[i]? = some (.ow ds)) {F0 H0 F H : Hp} {σ : List (Option V)} {D : Ends} (E : EnvOk K F0 H0 F H σ env)
    (k : ∀ F' H', EnvOk K F0 H0 F' H' σ (env.set i (.ow [])) → D.nx σ H') : tDrop (tBM0 K "list" rClear (tVar i)) D σ H := by
  obtain ⟨o, h1, p, vs, h2, h3, h4, h5, h6, h7⟩ := E.sl i _ hi
  subst h2
  exact ⟨_, h1, .inl ⟨rfl, vs, SqL.of h5⟩, p, vs, rfl, rfl, h5, k F _ (E.mut hi rfl h1 ⟨p, _, rfl, h3, h4, upd_same, .nil, Nat.zero_le _⟩ rfl)⟩
theorem bx_clear {i : Nat} (hi : env[i]? = some (.ow ds)) (h : BX K tu (env.set i (.ow [])) enc m) : BX K (tSeq (tDrop (tBM0 K "list" rClear (tVar i))) tu) env enc m := fun o ho F0 H0 F H σ D E c => s_clear (D := { D with nx := tu D }) hi E fun F' H' E' => h o ho D E' c
theorem bx_clear1 {i : Nat} {o : O} (hi : env[i]? = some (.ow ds)) (hw : Wk (env.set i (.ow [])) env') (hn : enc o = .nx env') : BX K (tDrop (tBM0 K "list" rClear (tVar i))) env enc (some o) := fun o' ho F0 H0 F H σ D E c => by
  cases ho
  rw [hn] at c
  exact s_clear hi E fun F' H' E' => c F' H' σ (E'.weak hw)
/-! ### blocks -/
theorem bx_nx {o : O} (hw : Wk env env') (hn : enc o = .nx env') : BX K tNext env enc (some o) := fun o' ho F0 H0 F H σ D E c => by
  cases ho
  rw [hn] at c
  exact c F H σ (E.weak hw)
theorem bx_bk {o : O} (hw : Wk env env') (hn : enc o = .bk env') : BX K tBreak env enc (some o) := fun o' ho F0 H0 F H σ D E c => by
  cases ho
  rw [hn] at c
  exact c F H σ (E.weak hw)
/-- t, then u: t's outcomes that go on lead to u -/
theorem bx_seq {k : O1 → Option O} (h1 : BX K ts env enc1 m1) (h2 : ∀ o1, m1 = some o1 → (∃ env', enc1 o1 = .nx env' ∧ BX K tu env' enc (k o1)) ∨ (∃ o, k o1 = some o ∧ enc o = enc1 o1 ∧ ∀ e, enc1 o1 ≠ .nx e)) : BX K (tSeq ts tu) env enc (m1.bind k) := fun o ho F0 H0 F H σ D E c => by
  obtain ⟨o1, e1, e2⟩ := Option.bind_eq_some_iff.mp ho
  refine h1 o1 e1 { D with nx := tu D } E ?_
  rcases h2 o1 e1 with ⟨env', a, b⟩ | ⟨o', a, b, nn⟩
  · rw [a]
    exact fun F1 H1 σ1 E1 => b o e2 D E1 c
  · rw [a] at e2; cases e2
    rw [b] at c
    cases q : enc1 o1 with
    | nx e => exact absurd q (nn e)
    | bk e => rw [q] at c; exact c
    | ct e => rw [q] at c; exact c
    | rt r => rw [q] at c; exact c
/-- t only goes on -/
theorem bx_then {envS : O1 → List Sl} {k : O1 → Option O} (h1 : BX K ts env (fun s => .nx (envS s)) m1) (h2 : ∀ s, m1 = some s → BX K tu (envS s) enc (k s)) : BX K (tSeq ts tu) env enc (m1.bind k) :=
  bx_seq h1 fun s e => .inl ⟨envS s, rfl, h2 s e⟩
/-- t goes on, or ends -/
theorem bx_thenR {envS : S → List Sl} {f : R → Out} {g : R → O} {mm : Option (S ⊕ R)} {k : S → Option O} (h1 : BX K ts env (fun x : S ⊕ R => match x with | .inl s => .nx (envS s) | .inr r => f r) mm) (hg : ∀ r, enc (g r) = f r) (hf : ∀ r e, f r ≠ .nx e) (h2 : ∀ s, mm = some (.inl s) → BX K tu (envS s) enc (k s)) :
    BX K (tSeq ts tu) env enc (mm.bind fun x => match x with | .inl s => k s | .inr r => some (g r)) :=
  bx_seq h1 fun x e => by
    cases x with
    | inl s => exact .inl ⟨envS s, rfl, h2 s e⟩
    | inr r => exact .inr ⟨g r, rfl, hg r, hf r⟩
/-- if -/
theorem bx_if {b : Bool} (ht : ET K tt env b) (h1 : b = true → BX K ts env enc m) (h2 : b = false → BX K tu env enc n) : BX K (tIfS tt ts tu) env enc (if b = true then m else n) := fun o ho F0 H0 F H σ D E c =>
  ht E _ fun F1 H1 z1 => by
    cases b with
    | true => exact h1 rfl o ho D (E.step z1) c
    | false => exact h2 rfl o ho D (E.step z1) c
/-- if without else, its branch never goes on; the rest -/
theorem bx_ifRet {b : Bool} (ht : ET K tt env b) (h1 : b = true → BX K ts env enc m) (hn : ∀ o e, m = some o → enc o ≠ .nx e) (h2 : b = false → BX K tu env enc n) : BX K (tSeq (tIfS tt ts tNext) tu) env enc (if b = true then m else n) := fun o ho F0 H0 F H σ D E c =>
  ht E _ fun F1 H1 z1 => by
    cases b with
    | true =>
      refine h1 rfl o ho { D with nx := tu D } (E.step z1) ?_
      cases q : enc o with
      | nx e => exact absurd q (hn o e ho)
      | bk e => rw [q] at c; exact c
      | ct e => rw [q] at c; exact c
      | rt r => rw [q] at c; exact c
    | false => exact h2 rfl o ho D (E.step z1) c
/-- the branch can't be -/
theorem bx_ifNo {b : Bool} (ht : ET K tt env b) (h2 : b = false → BX K tu env enc n) : BX K (tSeq (tIfS tt ts tNext) tu) env enc (if b = true then none else n) := fun o ho F0 H0 F H σ D E c =>
  ht E _ fun F1 H1 z1 => by
    cases b with
    | true => cases ho
    | false => exact h2 rfl o ho D (E.step z1) c
theorem bx_ifNo1 {b : Bool} {o : O} (ht : ET K tt env b) (hw : Wk env env') (hn : enc o = .nx env') : BX K (tIfS tt ts tNext) env enc (if b = true then none else some o) := fun o' ho F0 H0 F H σ D E c =>
  ht E _ fun F1 H1 z1 => by
    cases b with
    | true => cases ho
    | false =>
      cases ho
      rw [hn] at c
      exact c F1 H1 σ ((E.step z1).weak hw)
/-! ### loops -/
def forL (f : S → α → Option (Lp S R)) : S → List α → Option (S ⊕ R)
  | s, [] => some (.inl s)
  | s, x :: xs => (f s x).bind fun o => match o with
    | .nx s' => forL f s' xs
    | .bk s' => some (.inl s')
    | .rt r => some (.inr r)
def encL (envS : S → List Sl) (encR : R → Out) : Lp S R → Out
  | .nx s => .nx (envS s)
  | .bk s => .bk (envS s)
  | .rt r => encR r
def encE (envS : S → List Sl) (encR : R → Out) : S ⊕ R → Out
  | .inl s => .nx (envS s)
  | .inr r => encR r
theorem bx_forL {envS : S → List Sl} {encR : R → Out} {e : α → PyData} {envB : S → α → List Sl} {f : S → α → Option (Lp S R)} {s0 : S} {xs : List α} (hi : EIs K wi env (xs.map e)) (hw : Wk env (envS s0)) (hr : ∀ r, ∃ q, encR r = .rt q)
    (hg : ∀ s x, x ∈ xs → EG K g (envS s) (e x) (envB s x)) (hb : ∀ s x, x ∈ xs → BX K ts (envB s x) (encL envS encR) (f s x)) : BX K (tFor wi g ts) env (encE envS encR) (forL f s0 xs) := fun o ho F0 H0 F H σ D E c =>
  hi E _ fun J F1 H1 z1 hl it => by
    have z01 := E.z.trans z1
    refine ⟨fun i m σ' H' => ∃ s F', EnvOk K F1 H0 F' H' σ' (envS s) ∧ m = xs.length - i ∧ i ≤ xs.length ∧ forL f s (xs.drop i) = some o, ⟨xs.length, s0, F1, (E.step z1).base.weak hw, rfl, Nat.zero_le _, ho⟩, ?_⟩
    rintro i m σ' H' ⟨s, F', E', rfl, hi', hf⟩
    by_cases hlt : i < xs.length
    · refine .inr ?_
      have hd : (xs.map e)[i]? = some (e xs[i]) := by rw [List.getElem?_map, List.getElem?_eq_getElem hlt]; rfl
      obtain ⟨g1, g2⟩ := it.go F' H' i _ E'.z.f E'.fh hd
      rw [List.drop_eq_getElem_cons hlt] at hf
      obtain ⟨o1, f1, f2⟩ := Option.bind_eq_some_iff.mp hf
      refine ⟨g1, fun σ2 H2 => ∃ s2 F2, EnvOk K F1 H0 F2 H2 σ2 (envS s2) ∧ o1 = .nx s2, ?_, fun x H2 y => ?_⟩
      · rintro σ2 H2 ⟨s2, F2, E2, rfl⟩
        exact ⟨xs.length - (i + 1), by omega, s2, F2, E2, rfl, hlt, f2⟩
      · obtain ⟨F2, z2, hx⟩ := g2 x H2 y
        refine hg s xs[i] (List.getElem_mem hlt) (E'.step z2) hx _ fun σ3 F3 H3 E3 => ?_
        refine hb s xs[i] (List.getElem_mem hlt) o1 f1 _ E3 ?_
        cases o1 with
        | nx s2 => exact fun F4 H4 σ4 E4 => ⟨s2, F4, E4, rfl⟩
        | bk s2 =>
          cases f2
          exact fun F4 H4 σ4 E4 => c F4 H4 σ4 (E4.back z01)
        | rt r =>
          cases f2
          obtain ⟨q, hq⟩ := hr r
          show Cont K F1 H0 _ (encR r)
          have c' : Cont K F0 H0 D (encR r) := c
          rw [hq] at c' ⊢
          exact RetOk.base z01 c'
    · have hi2 : i = xs.length := by omega
      subst hi2
      rw [List.drop_length] at hf
      cases hf
      refine .inl ⟨?_, c F' H' σ' (E'.back z01)⟩
      have := it.stop F' H' E'.z.f E'.fh
      rw [List.length_map] at this
      exact this
/-- a body that always goes on -/
def forS (f : S → α → Option S) : S → List α → Option S
  | s, [] => some s
  | s, x :: xs => (f s x).bind fun s' => forS f s' xs
theorem forS_L {f : S → α → Option S} : ∀ {xs : List α} {s : S}, forL (R := Empty) (fun s x => (f s x).map Lp.nx) s xs = (forS f s xs).map Sum.inl
  | [], s => rfl
  | x :: xs, s => by
    unfold forL forS
    cases q : f s x with
    | none => rfl
    | some s' => exact forS_L (xs := xs) (s := s')
theorem bx_forS {envS : S → List Sl} {e : α → PyData} {envB : S → α → List Sl} {f : S → α → Option S} {s0 : S} {xs : List α} (hi : EIs K wi env (xs.map e)) (hw : Wk env (envS s0))
    (hg : ∀ s x, x ∈ xs → EG K g (envS s) (e x) (envB s x)) (hb : ∀ s x, x ∈ xs → BX K ts (envB s x) (fun s' => .nx (envS s')) (f s x)) : BX K (tFor wi g ts) env (fun s => .nx (envS s)) (forS f s0 xs) := fun o ho => by
  have h := bx_forL (R := Empty) (encR := fun r => nomatch r) (f := fun s x => (f s x).map Lp.nx) hi hw (fun r => nomatch r) hg (fun s x hx => bx_map (hb s x hx) fun o => rfl)
  rw [forS_L] at h
  exact h (.inl o) (by rw [ho]; rfl)
/-- a body that goes on or ends the def -/
def forR (f : S → α → Option (S ⊕ R)) : S → List α → Option (S ⊕ R)
  | s, [] => some (.inl s)
  | s, x :: xs => (f s x).bind fun o => match o with
    | .inl s' => forR f s' xs
    | .inr r => some (.inr r)
def toLp : S ⊕ R → Lp S R
  | .inl s => .nx s
  | .inr r => .rt r
theorem forR_L {f : S → α → Option (S ⊕ R)} : ∀ {xs : List α} {s : S}, forL (fun s x => (f s x).map toLp) s xs = forR f s xs
  | [], s => rfl
  | x :: xs, s => by
    unfold forL forR
    cases q : f s x with
    | none => rfl
    | some s' =>
      cases s' with
      | inl s' => exact forR_L (xs := xs) (s := s')
      | inr r => rfl
theorem bx_forR {envS : S → List Sl} {encR : R → Out} {e : α → PyData} {envB : S → α → List Sl} {f : S → α → Option (S ⊕ R)} {s0 : S} {xs : List α} (hi : EIs K wi env (xs.map e)) (hw : Wk env (envS s0)) (hr : ∀ r, ∃ q, encR r = .rt q)
    (hg : ∀ s x, x ∈ xs → EG K g (envS s) (e x) (envB s x)) (hb : ∀ s x, x ∈ xs → BX K ts (envB s x) (encE envS encR) (f s x)) : BX K (tFor wi g ts) env (encE envS encR) (forR f s0 xs) := by
  have h := bx_forL (encR := encR) (f := fun s x => (f s x).map toLp) hi hw hr hg (fun s x hx => bx_map (hb s x hx) fun o => by cases o <;> rfl)
  rw [forR_L] at h
  exact h
/-- while -/
def whR (c : S → Option Bool) (f : S → Option (S ⊕ R)) : Nat → S → Option (S ⊕ R)
  | 0, _ => none
  | n + 1, s => (c s).bind fun b => if b = true then (f s).bind fun o => match o with
    | .inl s' => whR c f n s'
    | .inr r => some (.inr r) else some (.inl s)
def whS (c : S → Option Bool) (f : S → Option S) : Nat → S → Option S
  | 0, _ => none
  | n + 1, s => (c s).bind fun b => if b = true then (f s).bind fun s' => whS c f n s' else some s
theorem bx_whR {envS : S → List Sl} {encR : R → Out} {cc : S → Option Bool} {f : S → Option (S ⊕ R)} {s0 : S} {n : Nat} (hw : Wk env (envS s0)) (hr : ∀ r, ∃ q, encR r = .rt q)
    (hc : ∀ s, ETo K tt (envS s) (cc s)) (hb : ∀ s, BX K ts (envS s) (encE envS encR) (f s)) : BX K (tWhile tt ts) env (encE envS encR) (whR cc f n s0) := fun o ho F0 H0 F H σ D E c => by
  refine ⟨fun m σ' H' => ∃ s F', EnvOk K F0 H0 F' H' σ' (envS s) ∧ whR cc f m s = some o, ⟨n, s0, F, E.weak hw, ho⟩, ?_⟩
  rintro m σ' H' ⟨s, F', E', hf⟩
  cases m with
  | zero => cases hf
  | succ m =>
    obtain ⟨b, e1, e2⟩ := Option.bind_eq_some_iff.mp hf
    refine hc s b e1 E' _ fun F1 H1 z1 => ?_
    cases b with
    | true =>
      rw [if_pos rfl] at e2 ⊢
      obtain ⟨o1, f1, f2⟩ := Option.bind_eq_some_iff.mp e2
      refine ⟨fun σ2 H2 => ∃ s2 F2, EnvOk K F0 H0 F2 H2 σ2 (envS s2) ∧ o1 = .inl s2, ?_, ?_⟩
      · rintro σ2 H2 ⟨s2, F2, E2, rfl⟩
        exact ⟨m, Nat.lt_succ_self _, s2, F2, E2, f2⟩
      · refine hb s o1 f1 _ (E'.step z1) ?_
        cases o1 with
        | inl s2 => exact fun F4 H4 σ4 E4 => ⟨s2, F4, E4, rfl⟩
        | inr r =>
          cases f2
          obtain ⟨q, hq⟩ := hr r
          show Cont K F0 H0 _ (encR r)
          have c' : Cont K F0 H0 D (encR r) := c
          rw [hq] at c' ⊢
          exact c'
    | false =>
      rw [if_neg Bool.false_ne_true] at e2 ⊢
      cases e2
      exact c F1 H1 σ' (E'.step z1)
theorem whS_R {cc : S → Option Bool} {f : S → Option S} : ∀ {n : Nat} {s : S}, whR (R := Empty) cc (fun s => (f s).map Sum.inl) n s = (whS cc f n s).map Sum.inl
  | 0, s => rfl
  | n + 1, s => by
    unfold whR whS
    cases q : cc s with
    | none => rfl
    | some b =>
      cases b with
      | false => rfl
      | true =>
        show ((Option.map Sum.inl (f s)).bind _) = Option.map _ ((f s).bind _)
        cases q2 : f s with
        | none => rfl
        | some s' => exact whS_R (n := n) (s := s')
theorem bx_whS {envS : S → List Sl} {cc : S → Option Bool} {f : S → Option S} {s0 : S} {n : Nat} (hw : Wk env (envS s0))
    (hc : ∀ s, ETo K tt (envS s) (cc s)) (hb : ∀ s, BX K ts (envS s) (fun s' => .nx (envS s')) (f s)) : BX K (tWhile tt ts) env (fun s => .nx (envS s)) (whS cc f n s0) := fun o ho => by
  have h := bx_whR (R := Empty) (encR := fun r => nomatch r) (f := fun s => (f s).map Sum.inl) (n := n) hw (fun r => nomatch r) hc (fun s => bx_map (hb s) fun o => rfl)
  rw [whS_R] at h
  exact h (.inl o) (by rw [ho]; rfl)
end
end Rb

set_option Elab.async false
set_option linter.all false
set_option maxRecDepth 100000
set_option maxHeartbeats 2000000
namespace Rb
open PySem PySem.Spec PyProof.Rows L2
/-! ### comprehensions -/
def wipeE (env : List Sl) : List Nat → List Sl
  | [] => env
  | v :: vs => (wipeE env vs).set v .un
theorem EnvOk.forget {K : Frag} {F0 H0 F H : Hp} {σ : List (Option V)} {env : List Sl} (E : EnvOk K F0 H0 F H σ env) (i : Nat) (o : Option V) : EnvOk K F0 H0 F H (σ.set i o) (env.set i .un) := by
  refine ⟨E.z, by rw [List.length_set, List.length_set, E.len], fun j t h => ?_, fun j k t u p hj hk oj ok sj sk => ?_⟩
  · rw [List.getElem?_set] at h ⊢
    by_cases e : i = j
    · subst e
      by_cases l : i < env.length
      · rw [if_pos rfl, if_pos l] at h; cases h
        rw [if_pos rfl, if_pos (by rw [E.len]; exact l)]
        exact ⟨_, rfl, trivial⟩
      · rw [if_pos rfl, if_neg l] at h; cases h
    · rw [if_neg e] at h ⊢; exact E.sl j t h
  · rw [List.getElem?_set] at hj hk sj sk
    by_cases ej : i = j
    · rw [if_pos ej] at hj
      by_cases l : i < env.length
      · rw [if_pos l] at hj; cases hj; cases oj
      · rw [if_neg l] at hj; cases hj
    · by_cases ek : i = k
      · rw [if_pos ek] at hk
        by_cases l : i < env.length
        · rw [if_pos l] at hk; cases hk; cases ok
        · rw [if_neg l] at hk; cases hk
      · rw [if_neg ej] at hj sj
        rw [if_neg ek] at hk sk
        exact E.dis j k t u p hj hk oj ok sj sk
theorem EnvOk.wipe {K : Frag} {F0 H0 F H : Hp} {σ : List (Option V)} {env : List Sl} (E : EnvOk K F0 H0 F H σ env) : ∀ vs : List Nat, EnvOk K F0 H0 F H (L2.wipe σ vs) (wipeE env vs)
  | [] => E
  | v :: vs => (E.wipe vs).forget v none
theorem wipe_sub {σ : List (Option V)} {vs : List Nat} : ∀ {ws : List Nat}, (∀ w ∈ ws, w ∈ vs) → wipe (wipe σ ws) vs = wipe σ vs
  | [], _ => rfl
  | w :: ws, h => by
    show wipe ((wipe σ ws).set w none) vs = wipe σ vs
    rw [wipe_set (h w List.mem_cons_self), wipe_sub fun x hx => h x (List.mem_cons_of_mem _ hx)]
theorem Fz.mutNew {F H F' H' : Hp} {p : Addr} {o : HO} (z : Fz F H F' H') (hn : H p = none) (hf : F' p = none) : Fz F H F' (upd H' p o) := by
  refine ⟨z.f, fun a u q => ?_, fun a u q n => ?_⟩
  · rw [upd_ne (ne_of_none q hf)]; exact z.fh a u q
  · rw [upd_ne (ne_of_none q hn)]; exact z.own a u q n
section
variable {K : Frag} {env env' env1 env2 : List Sl} {d : PyData} {ds es : List PyData} {g : TG} {gs : TGs} {vs : List Nat} {te ti ta tb tl : TE} {wi : TI} {α β S R O O1 : Type} {tt : TT}
def compM (t : α → Option Bool) (f : α → Option β) : List α → Option (List β)
  | [] => some []
  | x :: xs => (t x).bind fun b => if b = true then (f x).bind fun y => (compM t f xs).bind fun ys => some (y :: ys) else compM t f xs
theorem exw_lc {e : α → PyData} {e' : β → PyData} {t : α → Option Bool} {f : α → Option β} {xs : List α} {ys : List β} {envB : α → List Sl} (hi : EI K wi env (xs.map e)) (hm : compM t f xs = some ys) (hg : ∀ x, x ∈ xs → EGc K g (wipeE env vs) (e x) (envB x) vs)
    (ht : ∀ x, x ∈ xs → ETo K tt (envB x) (t x)) (he : ∀ x, x ∈ xs → EXo K te (envB x) e' (f x)) : EXw K (tLc wi g tt te vs) env (ys.map e') := fun F0 H0 F H σ E Q q =>
  hi E _ fun J F1 H1 z1 hl it D hD => by
    have hFD : F1 D = none := Evl.fresh_back z1.fh hD
    refine ⟨fun i m H' => ∃ F' done rest acc, Fz F1 H1 F' H' ∧ F' D = none ∧ H' D = some (.lst acc) ∧ DqAll F' acc (done.map e') ∧ compM t f (xs.drop i) = some rest ∧ ys = done ++ rest ∧ done.length ≤ i ∧ m = xs.length - i ∧ i ≤ xs.length,
      ⟨xs.length, F1, [], ys, [], Fz.add z1.fh hD, hFD, upd_same, .nil, hm, rfl, Nat.le_refl _, rfl, Nat.zero_le _⟩, ?_⟩
    rintro i m H' ⟨F', done, rest, acc, zz, fD, hD', ha, hc, hy, hdl, rfl, hi'⟩
    by_cases hlt : i < xs.length
    · refine .inr ?_
      have hd : (xs.map e)[i]? = some (e xs[i]) := by rw [List.getElem?_map, List.getElem?_eq_getElem hlt]; rfl
      obtain ⟨g1, g2⟩ := it.go F' H' i _ zz zz.fh hd
      rw [List.drop_eq_getElem_cons hlt] at hc
      obtain ⟨b, c1, c2⟩ := Option.bind_eq_some_iff.mp hc
      refine ⟨g1, fun H2 => ∃ F' done rest acc, Fz F1 H1 F' H2 ∧ F' D = none ∧ H2 D = some (.lst acc) ∧ DqAll F' acc (done.map e') ∧ compM t f (xs.drop (i + 1)) = some rest ∧ ys = done ++ rest ∧ done.length ≤ i + 1, ?_, fun x H2 y => ?_⟩
      · rintro H2 ⟨F2, done2, rest2, acc2, z2, f2, h2, a2, k2, y2, l2⟩
        exact ⟨xs.length - (i + 1), by omega, F2, done2, rest2, acc2, z2, f2, h2, a2, k2, y2, l2, rfl, hlt⟩
      · obtain ⟨F2, z2, hx⟩ := g2 x H2 y
        have mem := List.getElem_mem hlt
        have E2 := ((E.step (z1.trans (zz.trans z2))).wipe vs)
        refine hg xs[i] mem E2 hx _ fun σ3 E3 w3 => ⟨w3.trans (wipe_sub fun _ h => h), ?_⟩
        refine ht xs[i] mem b c1 E3 _ fun F4 H4 z4 => ?_
        obtain ⟨d1, d2⟩ := (z2.trans z4).own D _ hD' fD
        cases b with
        | true =>
          rw [if_pos rfl] at c2 ⊢
          obtain ⟨yv, c3, c4⟩ := Option.bind_eq_some_iff.mp c2
          obtain ⟨rest', c5, c6⟩ := Option.bind_eq_some_iff.mp c4
          cases c6
          refine he xs[i] mem yv c3 (E3.step z4) _ fun v F5 H5 z5 hv => ?_
          obtain ⟨d3, d4⟩ := z5.own D _ d2 d1
          have hlen := ha.len
          rw [List.length_map] at hlen
          rw [List.length_map] at hl
          refine ⟨acc, d4, lim_lt (by omega), F5, done ++ [yv], rest', acc ++ [v], (((zz.trans z2).trans z4).trans z5).mutNew hD d3, d3, upd_same, ?_, c5, by rw [hy]; simp, by rw [List.length_append]; exact Nat.succ_le_succ hdl⟩
          rw [List.map_append]
          exact (DqAll.mono ((z2.f.trans z4.f).trans z5.f) _ _ ha).app (.cons hv .nil)
        | false =>
          rw [if_neg Bool.false_ne_true] at c2 ⊢
          exact ⟨F4, done, rest, acc, (zz.trans z2).trans z4, d1, d2, DqAll.mono (z2.f.trans z4.f) _ _ ha, c2, hy, Nat.le_succ_of_le hdl⟩
    · have hi2 : i = xs.length := by omega
      subst hi2
      rw [List.drop_length] at hc
      cases hc
      refine .inl ⟨?_, ?_⟩
      · have := it.stop F' H' zz zz.fh
        rw [List.length_map] at this
        exact this
      · rw [List.append_nil] at hy
        subst hy
        refine q D acc F' H' (z1.trans zz) (z1.hn hD) fD hD' ha ?_
        rw [List.length_map] at hl ⊢
        exact Nat.le_trans hdl hl
/-! ### defs -/
/-- what goes in, what comes out -/
def Prom (I : List PyData → Rv → Prop) : Sp := fun vs H Q _ => ∃ F ds r, Ex F H ∧ DqAll F vs ds ∧ I ds r ∧ RetOk F H Q r
def Im {A R : Type} (ea : A → List PyData) (er : R → Rv) (f : A → Option R) : List PyData → Rv → Prop := fun ds r => ∃ a y, ds = ea a ∧ f a = some y ∧ r = er y
theorem ex_call {I : List PyData → Rv → Prop} {tr : TA} {E : XK} (ha : EA K tr env ds) (hI : I ds (.sh d)) : EX K (tCall (Prom I) [] E tr) env d := fun F0 H0 F H σ E Q q =>
  ha E _ fun vs F1 H1 z1 a1 => by
    rw [List.append_nil]
    exact ⟨F1, ds, _, (E.step z1).fh, a1, hI, fun F2 H2 v z2 hv => q v F2 H2 (z1.trans z2) hv⟩
theorem exw_call {I : List PyData → Rv → Prop} {tr : TA} {E : XK} (ha : EA K tr env ds) (hI : I ds (.fr es)) : EXw K (tCall (Prom I) [] E tr) env es := fun F0 H0 F H σ E Q q =>
  ha E _ fun vs F1 H1 z1 a1 => by
    rw [List.append_nil]
    exact ⟨F1, ds, _, (E.step z1).fh, a1, hI, fun F2 H2 p vs z2 hn hf h1 h2 h3 => q p vs F2 H2 (z1.trans z2) (z1.hn hn) hf h1 h2 h3⟩
def startE (N : List Str) (ds : List PyData) : List Sl := ds.map .sh ++ List.replicate (N.length - ds.length) .un
theorem start_ok {N : List Str} {ws : List V} {F H : Hp} (e : Ex F H) (a : DqAll F ws ds) : EnvOk K F H F H (L2.start N ws) (startE N ds) := by
  have hl := a.len
  refine ⟨Fz.refl e, ?_, fun i s h => ?_, fun i j s t p hi hj os ot si sj => ?_⟩
  · unfold L2.start startE
    simp only [List.length_append, List.length_map, List.length_replicate, hl]
  · unfold L2.start
    unfold startE at h
    by_cases c : i < ds.length
    · rw [List.getElem?_append_left (by rw [List.length_map]; exact c), List.getElem?_map] at h
      rw [List.getElem?_append_left (by rw [List.length_map, hl]; exact c), List.getElem?_map]
      obtain ⟨d, h1, h2⟩ := Option.map_eq_some_iff.mp h
      subst h2
      obtain ⟨v, h3, h4⟩ := a.get h1
      rw [h3]
      exact ⟨_, rfl, v, rfl, h4⟩
    · rw [List.getElem?_append_right (by rw [List.length_map]; omega), List.length_map] at h
      rw [List.getElem?_append_right (by rw [List.length_map, hl]; omega), List.length_map, hl]
      obtain ⟨h1, h2⟩ := List.getElem?_eq_some_iff.mp h
      rw [List.getElem_replicate] at h2
      subst h2
      rw [List.length_replicate] at h1
      refine ⟨none, ?_, trivial⟩
      rw [List.getElem?_replicate, if_pos h1]
  · unfold startE at hi
    have : s.owned = false := by
      rcases List.mem_append.mp (List.mem_of_getElem? hi) with z | z
      · obtain ⟨d, _, rfl⟩ := List.mem_map.mp z; rfl
      · rw [(List.mem_replicate.mp z).2]; rfl
    rw [this] at os
    cases os
theorem fn_ok {A R : Type} {P : Program} {w : World} {mg : Str → Option Value} {base : Heap} {x qual : Str} {params : Arguments} {body : List Stmt} {scope : Scope} {f : Addr} {fd : FuncData} {N ps : List Str} {k : Nat} {ea : A → List PyData} {er : R → Rv} {fm : A → Option R} {en : R → Out}
    (F : FunD K x qual params body scope [] [] f fd) (S : FnScope N ps scope) (hl : ∀ a, (ea a).length = ps.length) (hn : ∀ y, en y = .rt (er y) ∨ (er y = .sh .none ∧ ∃ e, en y = .nx e))
    (hb : ∀ (cdv : Value) (A' : Around) (outer : List Env) (s : Shared) (H : Hp) (E : XK), Room k (A'.deeper (envOfC qual scope s.heap.objs.size f cdv)) →
      ∃ t, PSs (cxOf CX0 P w K mg base N qual scope f cdv A' outer s H E).nox body t ∧ ∀ a, BX K t (startE N (ea a)) en (fm a)) : FnOk P w K mg base CX0 (k + 1) f fd ps (Prom (Im ea er fm)) := by
  refine F.ok S (fun vs H Q E h => ?_) (fun cdv A' outer s H vs Q E hr h => ?_)
  · obtain ⟨F, ds, r, e, a, ⟨a', y, rfl, _, _⟩, _⟩ := h
    rw [a.len, hl]
  · obtain ⟨F, ds, r, e, a, ⟨a', y, rfl, hy, rfl⟩, q⟩ := h
    obtain ⟨t, p, b⟩ := hb cdv A' outer s H E hr
    refine ⟨t, PSs.nox p, b a' y hy _ (start_ok e a) ?_⟩
    rcases hn y with hn | ⟨hn, e', he⟩
    · rw [hn]; exact q
    · rw [he]
      rw [hn] at q
      exact fun F1 H1 σ1 E1 => q F1 H1 .non E1.z .non
/-! ### built-ins -/
theorem ex_lenL {e : α → PyData} {xs : List α} (ha : EXl K ta env (xs.map e)) : EX K (tCB (fun ws H Q => ∃ x n, ws = [x] ∧ LenV K x H n ∧ Q (.int n) H) (tCons ta tNil)) env (.int (xs.length : Int)) := fun F0 H0 F H σ E Q q =>
  ha E _ fun p vs F1 H1 z1 h1 a1 l1 => by
    have := a1.len
    rw [List.length_map] at this
    exact ⟨_, xs.length, rfl, .inl ⟨vs, SqL.of h1, this.symm⟩, q _ F1 H1 z1 (.int _)⟩
theorem ex_lenT {e : α → PyData} {xs : List α} (ha : EX K ta env (.tuple (xs.map e))) : EX K (tCB (fun ws H Q => ∃ x n, ws = [x] ∧ LenV K x H n ∧ Q (.int n) H) (tCons ta tNil)) env (.int (xs.length : Int)) := fun F0 H0 F H σ E Q q =>
  ha E _ fun v F1 H1 z1 hv => by
    cases hv with
    | tup h1 a1 l1 =>
    have := a1.len
    rw [List.length_map] at this
    exact ⟨_, xs.length, rfl, .inr ⟨_, SqT.of (z1.fh _ _ h1), this.symm⟩, q _ F1 H1 z1 (.int _)⟩
theorem ex_lenS {x : Str} (ha : EX K ta env (.str x)) : EX K (tCB (fun ws H Q => ∃ x n, ws = [x] ∧ LenV K x H n ∧ Q (.int n) H) (tCons ta tNil)) env (.int (x.length : Int)) := fun F0 H0 F H σ E Q q =>
  ha E _ fun v F1 H1 z1 hv => by
    cases hv with
    | str _ l => exact ⟨_, x.length, rfl, ⟨lim_le l, rfl⟩, q _ F1 H1 z1 (.int _)⟩
theorem exw_listL (ha : EXl K ta env ds) : EXw K (tCB (fun xs H Q => ∃ p ys, xs = [.ref p] ∧ (SqL K H p ys ∨ SqT K H p ys) ∧ ∀ l, H l = none → Q (.ref l) (upd H l (.lst ys))) (tCons ta tNil)) env ds := fun F0 H0 F H σ E Q q =>
  ha E _ fun p vs F1 H1 z1 h1 a1 l1 => ⟨p, vs, rfl, .inl (SqL.of h1), fun l hl => q l vs F1 _ (z1.trans (Fz.add z1.fh hl)) (z1.hn hl) (Evl.fresh_back z1.fh hl) upd_same a1 l1⟩
theorem exw_listT (ha : EX K ta env (.tuple ds)) : EXw K (tCB (fun xs H Q => ∃ p ys, xs = [.ref p] ∧ (SqL K H p ys ∨ SqT K H p ys) ∧ ∀ l, H l = none → Q (.ref l) (upd H l (.lst ys))) (tCons ta tNil)) env ds := fun F0 H0 F H σ E Q q =>
  ha E _ fun v F1 H1 z1 hv => by
    cases hv with
    | tup h1 a1 l1 => exact ⟨_, _, rfl, .inr (SqT.of (z1.fh _ _ h1)), fun l hl => q l _ F1 _ (z1.trans (Fz.add z1.fh hl)) (z1.hn hl) (Evl.fresh_back z1.fh hl) upd_same a1 l1⟩
theorem ex_tupL (ha : EXl K ta env ds) : EX K (tCB (fun xs H Q => ∃ p ys, xs = [.ref p] ∧ ((SqL K H p ys ∧ ∀ l, H l = none → Q (.ref l) (upd H l (.tup ys))) ∨ (SqT K H p ys ∧ Q (.ref p) H))) (tCons ta tNil)) env (.tuple ds) := fun F0 H0 F H σ E Q q =>
  ha E _ fun p vs F1 H1 z1 h1 a1 l1 => ⟨p, vs, rfl, .inl ⟨SqL.of h1, fun l hl => q _ (upd F1 l (.tup vs)) _ (z1.trans (Fz.new z1.fh hl)) (.tup upd_same (DqAll.mono (Evl.Ex.new (Evl.fresh_back z1.fh hl)) _ _ a1) l1)⟩⟩
theorem ex_tupT (ha : EX K ta env (.tuple ds)) : EX K (tCB (fun xs H Q => ∃ p ys, xs = [.ref p] ∧ ((SqL K H p ys ∧ ∀ l, H l = none → Q (.ref l) (upd H l (.tup ys))) ∨ (SqT K H p ys ∧ Q (.ref p) H))) (tCons ta tNil)) env (.tuple ds) := fun F0 H0 F H σ E Q q =>
  ha E _ fun v F1 H1 z1 hv => by
    cases hv with
    | tup h1 a1 l1 => exact ⟨_, _, rfl, .inr ⟨SqT.of (z1.fh _ _ h1), q _ F1 H1 z1 (.tup h1 a1 l1)⟩⟩
theorem ex_sum {ns : List Int} (ha : EXl K ta env (ns.map PyData.int)) : EX K (tCB (rSum K) (tCons ta tNil)) env (.int ns.sum) := fun F0 H0 F H σ E Q q =>
  ha E _ fun p vs F1 H1 z1 h1 a1 l1 => by
    have := a1.ints
    subst this
    exact ⟨p, ns, rfl, SqL.of h1, q _ F1 H1 z1 (.int _)⟩
theorem ex_any {bs : List Bool} (ha : EXl K ta env (bs.map PyData.bool)) : EX K (tCB (rAny K) (tCons ta tNil)) env (.bool (bs.any id)) := fun F0 H0 F H σ E Q q =>
  ha E _ fun p vs F1 H1 z1 h1 a1 l1 => by
    have := a1.bls
    subst this
    exact ⟨p, bs, rfl, SqL.of h1, q _ F1 H1 z1 (.bl _)⟩
theorem ex_all {bs : List Bool} (ha : EXl K ta env (bs.map PyData.bool)) : EX K (tCB (rAll K) (tCons ta tNil)) env (.bool (bs.all id)) := fun F0 H0 F H σ E Q q =>
  ha E _ fun p vs F1 H1 z1 h1 a1 l1 => by
    have := a1.bls
    subst this
    exact ⟨p, bs, rfl, SqL.of h1, q _ F1 H1 z1 (.bl _)⟩
theorem ex_abs {i : Int} (ha : EX K ta env (.int i)) : EX K (tCB (fun xs H Q => ∃ i, xs = [.int i] ∧ Q (.int (if i < 0 then -i else i)) H) (tCons ta tNil)) env (.int (if i < 0 then -i else i)) := fun F0 H0 F H σ E Q q =>
  ha E _ fun v F1 H1 z1 hv => by
    cases hv
    exact ⟨i, rfl, q _ F1 H1 z1 (.int _)⟩
theorem ex_max {i j : Int} (ha : EX K ta env (.int i)) (hb : EX K tb env (.int j)) : EX K (tCB (fun xs H Q => ∃ i j, xs = [.int i, .int j] ∧ Q (.int (if j > i then j else i)) H) (tCons ta (tCons tb tNil))) env (.int (if j > i then j else i)) := fun F0 H0 F H σ E Q q =>
  ha E _ fun v F1 H1 z1 hv => hb (E.step z1) _ fun w F2 H2 z2 hw => by
    cases hv; cases hw
    exact ⟨i, j, rfl, q _ F2 H2 (z1.trans z2) (.int _)⟩
theorem ex_min {i j : Int} (ha : EX K ta env (.int i)) (hb : EX K tb env (.int j)) : EX K (tCB (fun xs H Q => ∃ i j, xs = [.int i, .int j] ∧ Q (.int (if j < i then j else i)) H) (tCons ta (tCons tb tNil))) env (.int (if j < i then j else i)) := fun F0 H0 F H σ E Q q =>
  ha E _ fun v F1 H1 z1 hv => hb (E.step z1) _ fun w F2 H2 z2 hw => by
    cases hv; cases hw
    exact ⟨i, j, rfl, q _ F2 H2 (z1.trans z2) (.int _)⟩
theorem ex_intB {b : Bool} (ha : EX K ta env (.bool b)) : EX K (tCB (fun xs H Q => (∃ i, xs = [.int i] ∧ Q (.int i) H) ∨ ∃ k, xs = [.bl k] ∧ Q (.int (if k then 1 else 0)) H) (tCons ta tNil)) env (.int (if b then 1 else 0)) := fun F0 H0 F H σ E Q q =>
  ha E _ fun v F1 H1 z1 hv => by
    cases hv
    exact .inr ⟨b, rfl, q _ F1 H1 z1 (.int _)⟩
theorem inV_ints {i : Int} : ∀ {ns : List Int}, inV (.int i) (ns.map V.int) = decide (i ∈ ns)
  | [] => rfl
  | n :: ns => by
    have ih := inV_ints (i := i) (ns := ns)
    unfold inV at ih ⊢
    rw [List.map_cons, List.any_cons, ih]
    show ((n == i) || decide (i ∈ ns)) = decide (i ∈ n :: ns)
    by_cases c : n = i
    · subst c; simp
    · have c' : ¬ i = n := fun z => c z.symm
      simp [c, c']
theorem flat_ints : ∀ {ns : List Int}, (ns.map V.int).all flatV = true
  | [] => rfl
  | n :: ns => by rw [List.map_cons, List.all_cons, flat_ints]; rfl
theorem ex_inL {i : Int} {ns : List Int} (ha : EX K ta env (.int i)) (hb : EXl K tb env (ns.map PyData.int)) : EX K (tOp (rIn K false) ta tb) env (.bool (decide (i ∈ ns))) := fun F0 H0 F H σ E Q q =>
  ha E _ fun v F1 H1 z1 hv => hb (E.step z1) _ fun p ws F2 H2 z2 h1 a1 l1 => by
    cases hv
    have := a1.ints
    subst this
    refine ⟨p, _, rfl, .inl (SqL.of h1), rfl, flat_ints, ?_⟩
    rw [inV_ints]
    exact q _ F2 H2 (z1.trans z2) (.bl _)
theorem ex_ninL {i : Int} {ns : List Int} (ha : EX K ta env (.int i)) (hb : EXl K tb env (ns.map PyData.int)) : EX K (tOp (rIn K true) ta tb) env (.bool (!decide (i ∈ ns))) := fun F0 H0 F H σ E Q q =>
  ha E _ fun v F1 H1 z1 hv => hb (E.step z1) _ fun p ws F2 H2 z2 h1 a1 l1 => by
    cases hv
    have := a1.ints
    subst this
    refine ⟨p, _, rfl, .inl (SqL.of h1), rfl, flat_ints, ?_⟩
    rw [inV_ints]
    exact q _ F2 H2 (z1.trans z2) (.bl _)
/-! ### slices -/
def cutA (xs : List α) (lo hi : Option Int) : List α := (xs.drop (HT.sIx xs.length 0 lo)).take (HT.sIx xs.length xs.length hi - HT.sIx xs.length 0 lo)
theorem cutA_map {f : α → β} {xs : List α} {lo hi : Option Int} : cutA (xs.map f) lo hi = (cutA xs lo hi).map f := by
  unfold cutA
  rw [List.length_map, List.map_take, List.map_drop]
theorem cutA_len {xs : List α} {lo hi : Option Int} : (cutA xs lo hi).length ≤ xs.length := by
  unfold cutA
  rw [List.length_take, List.length_drop]
  omega
theorem DqAll.cut {H : Hp} {ws : List V} {lo hi : Option Int} (a : DqAll H ws ds) : DqAll H (cutV ws lo hi) (cutA ds lo hi) := by
  unfold cutV cutA
  rw [a.len]
  exact (a.drop _).take _
theorem eo_none : EO K tNoPart env none := fun F0 H0 F H σ E Q q => q F H (Fz.refl E.fh)
theorem eo_some {i : Int} (h : EX K te env (.int i)) : EO K (tPart te) env (some i) := fun F0 H0 F H σ E Q q => h E _ fun v F1 H1 z1 hv => by
  cases hv
  exact ⟨i, rfl, q F1 H1 z1⟩
theorem exw_sl {tl th : TO} {lo hi : Option Int} {e : α → PyData} {xs : List α} (h : EXl K te env (xs.map e)) (hl : EO K tl env lo) (hh : EO K th env hi) : EXw K (tSl (rSlL K) te tl th) env ((cutA xs lo hi).map e) := fun F0 H0 F H σ E Q q =>
  h E _ fun p vs F1 H1 z1 h1 a1 l1 => hl (E.step z1) _ fun F2 H2 z2 => hh ((E.step z1).step z2) _ fun F3 H3 z3 => by
    have z := (z1.trans z2).trans z3
    refine ⟨p, vs, rfl, SqL.of ((z2.trans z3).hh z1.fh _ _ h1), fun r hr => q r _ F3 _ (z.trans (Fz.add z.fh hr)) (z.hn hr) (Evl.fresh_back z.fh hr) upd_same ?_ ?_⟩
    · rw [← cutA_map]; exact (DqAll.mono (z2.f.trans z3.f) _ _ a1).cut
    · rw [← cutA_map]; exact Nat.le_trans cutA_len l1
theorem exw_slSc {tl th : TO} {lo hi : Option Int} {e : α → PyData} {xs : List α} {i : Nat} (h : env[i]? = some (.sc (xs.map e))) (hl : EO K tl env lo) (hh : EO K th env hi) : EXw K (tSl (rSlL K) (tVar i) tl th) env ((cutA xs lo hi).map e) := fun F0 H0 F H σ E Q q => by
  obtain ⟨o, h1, p, vs, h2, h3, h4, h5⟩ := E.sl i _ h
  subst h2
  refine ⟨_, h1, hl E _ fun F2 H2 z2 => hh (E.step z2) _ fun F3 H3 z3 => ?_⟩
  have z := z2.trans z3
  refine ⟨p, vs, rfl, sq_mono z.fh (sq_mono z.f h3), fun r hr => q r _ F3 _ (z.trans (Fz.add z.fh hr)) (z.hn hr) (Evl.fresh_back z.fh hr) upd_same ?_ ?_⟩
  · rw [← cutA_map]; exact (DqAll.mono z.f _ _ h4).cut
  · rw [← cutA_map]; exact Nat.le_trans cutA_len h5
/-! ### list(range(..)) -/
theorem exw_listRg1 {n : Int} (h : EX K ta env (.int n)) (hn : rngOk n) : EXw K (tLstRg (tRg1 ta)) env ((rng 0 n).map PyData.int) := fun F0 H0 F H σ E Q q => h E _ fun v F1 H1 z1 hv => by
  cases hv
  have l := rng_lim (m := 0) (by decide) hn
  have e : rgV 0 n = (rng 0 n).map V.int := by unfold rgV rng; rw [List.map_map]; rfl
  unfold rngOk at hn
  refine ⟨n, rfl, ⟨by omega, by omega, by omega, by omega, by omega⟩, fun r hr => q r _ F1 _ (z1.trans (Fz.add z1.fh hr)) (z1.hn hr) (Evl.fresh_back z1.fh hr) upd_same ?_ l⟩
  rw [e]
  exact DqAll.ints' _
theorem exw_listRg2 {m n : Int} (ha : EX K ta env (.int m)) (hb : EX K tb env (.int n)) (hm : rngOk m) (hn : rngOk n) : EXw K (tLstRg (tRg2 ta tb)) env ((rng m n).map PyData.int) := fun F0 H0 F H σ E Q q => ha E _ fun v F1 H1 z1 hv => hb (E.step z1) _ fun w F2 H2 z2 hw => by
  cases hv; cases hw
  have l := rng_lim hm hn
  have e : rgV m n = (rng m n).map V.int := by unfold rgV rng; rw [List.map_map]; rfl
  unfold rngOk at hm hn
  have z := z1.trans z2
  refine ⟨m, n, rfl, rfl, ⟨by omega, by omega, by omega, by omega, by omega⟩, fun r hr => q r _ F2 _ (z.trans (Fz.add z.fh hr)) (z.hn hr) (Evl.fresh_back z.fh hr) upd_same ?_ l⟩
  rw [e]
  exact DqAll.ints' _
end
end Rb

set_option Elab.async false
set_option linter.all false
set_option maxRecDepth 100000
set_option maxHeartbeats 2000000
namespace Rb
open PySem PySem.Spec PyProof.Rows L2
/-! ### words for the texts that a program prints -/
abbrev eL {α : Type} (e : α → PyData) (xs : List α) : PyData := .list (xs.map e)
abbrev eT {α : Type} (e : α → PyData) (xs : List α) : PyData := .tuple (xs.map e)
abbrev eN (_ : Unit) : PyData := .none
abbrev eP {α β : Type} (e : α → PyData) (f : β → PyData) (x : α × β) : PyData := .tuple [e x.1, f x.2]
abbrev eP3 {α β γ : Type} (e : α → PyData) (f : β → PyData) (g : γ → PyData) (x : α × β × γ) : PyData := .tuple [e x.1, f x.2.1, g x.2.2]
abbrev eP4 {α β γ δ : Type} (e : α → PyData) (f : β → PyData) (g : γ → PyData) (h : δ → PyData) (x : α × β × γ × δ) : PyData := .tuple [e x.1, f x.2.1, g x.2.2.1, h x.2.2.2]
def eO {α : Type} (e : α → PyData) : Option α → PyData
  | none => .none
  | some x => e x
def grd (p : Prop) [Decidable p] : Option Unit := if p then some () else none
theorem grd_ok {p : Prop} [Decidable p] {u : Unit} (h : grd p = some u) : p := by
  unfold grd at h
  by_cases c : p
  · exact c
  · rw [if_neg c] at h; cases h
theorem grd_true {p : Prop} [Decidable p] (h : p) : grd p = some () := by unfold grd; rw [if_pos h]
instance (i j : Int) : Decidable (CMul i j) := inferInstanceAs (Decidable (_ ∨ _))
instance (i j : Int) : Decidable (CDivW i j) := inferInstanceAs (Decidable (_ ∧ _))
instance (i j : Int) : Decidable (CPow i j) := inferInstanceAs (Decidable (_ ∧ _))
def fuel : Nat := 1000
section
variable {K : Frag} {env env' env1 env2 : List Sl} {d : PyData} {ds es : List PyData} {g : TG} {gs : TGs} {vs : List Nat} {te ti ta tb tl : TE} {wi : TI} {α β S R O O1 : Type} {tt : TT} {ts tu tw : TS} {enc : O → Out} {enc1 : O1 → Out} {m n : Option O} {m1 : Option O1}
theorem compM_pure {t : α → Bool} {f : α → β} : ∀ xs : List α, compM (fun x => some (t x)) (fun x => some (f x)) xs = some ((xs.filter t).map f)
  | [] => rfl
  | x :: xs => by
    unfold compM
    rw [compM_pure xs]
    show (if t x = true then _ else _) = _
    cases h : t x
    · rw [if_neg Bool.false_ne_true, List.filter_cons_of_neg (by rw [h]; exact Bool.false_ne_true)]
    · rw [if_pos rfl, List.filter_cons_of_pos h]; rfl
theorem compM_map {f : α → β} : ∀ xs : List α, compM (fun _ => some true) (fun x => some (f x)) xs = some (xs.map f)
  | [] => rfl
  | x :: xs => by
    unfold compM
    rw [compM_map xs]
    rfl
/-- pure comprehensions -/
theorem exw_lcp {e : α → PyData} {e' : β → PyData} {t : α → Bool} {f : α → β} {xs : List α} {envB : α → List Sl} (hi : EI K wi env (xs.map e)) (hg : ∀ x, x ∈ xs → EGc K g (wipeE env vs) (e x) (envB x) vs)
    (ht : ∀ x, x ∈ xs → ET K tt (envB x) (t x)) (he : ∀ x, x ∈ xs → EX K te (envB x) (e' (f x))) : EXw K (tLc wi g tt te vs) env (((xs.filter t).map f).map e') :=
  exw_lc (t := fun x => some (t x)) (f := fun x => some (f x)) hi (compM_pure xs) hg (fun x h => eto_some (ht x h)) (fun x h => exo_some (e := e') (he x h))
theorem et_yes : ET K tYes env true := fun F0 H0 F H σ E Q q => q F H (Fz.refl E.fh)
theorem exw_lcm {e : α → PyData} {e' : β → PyData} {f : α → β} {xs : List α} {envB : α → List Sl} (hi : EI K wi env (xs.map e)) (hg : ∀ x, x ∈ xs → EGc K g (wipeE env vs) (e x) (envB x) vs)
    (he : ∀ x, x ∈ xs → EX K te (envB x) (e' (f x))) : EXw K (tLc wi g tYes te vs) env ((xs.map f).map e') :=
  exw_lc (t := fun x => some true) (f := fun x => some (f x)) hi (compM_map xs) hg (fun x h => eto_some et_yes) (fun x h => exo_some (e := e') (he x h))
def bindR (mm : Option (S ⊕ R)) (k : S → Option O) (g : R → O) : Option O := mm.bind fun x => match x with
  | .inl s => k s
  | .inr r => some (g r)
theorem bx_bindR {envS : S → List Sl} {encR : R → Out} {g : R → O} {mm : Option (S ⊕ R)} {k : S → Option O} (h1 : BX K ts env (encE envS encR) mm) (hg : ∀ r, enc (g r) = encR r) (hf : ∀ r e, encR r ≠ .nx e) (h2 : ∀ s, mm = some (.inl s) → BX K tu (envS s) enc (k s)) :
    BX K (tSeq ts tu) env enc (bindR mm k g) :=
  bx_seq h1 fun x e => by
    cases x with
    | inl s => exact .inl ⟨envS s, rfl, h2 s e⟩
    | inr r => exact .inr ⟨g r, rfl, hg r, hf r⟩
theorem bx_retS {o : O} {d : PyData} (h : EX K te env d) (he : enc o = .rt (.sh d)) : BX K (tSeq (tRet te) tu) env enc (some o) := fun o' ho F0 H0 F H σ D E c => bx_ret h he o' ho { D with nx := tu D } E (by
  cases ho
  rw [he] at c ⊢
  exact c)
theorem bx_retSW {o : O} {ds : List PyData} (h : EXw K te env ds) (he : enc o = .rt (.fr ds)) : BX K (tSeq (tRet te) tu) env enc (some o) := fun o' ho F0 H0 F H σ D E c => bx_retW h he o' ho { D with nx := tu D } E (by
  cases ho
  rw [he] at c ⊢
  exact c)
/-- an own list handed back as it is -/
theorem bx_retO {o : O} {i : Nat} {ds : List PyData} (h : env[i]? = some (.ow ds)) (he : enc o = .rt (.fr ds)) : BX K (tSeq (tRet (tVar i)) tu) env enc (some o) := fun o' ho F0 H0 F H σ D E c => by
  cases ho
  rw [he] at c
  obtain ⟨o1, h1, p, vs, h2, h3, h4, h5, h6, h7⟩ := E.sl i _ h
  subst h2
  exact ⟨_, h1, c F H p vs E.z h3 h4 h5 h6 h7⟩
theorem bx_brk {o : O} (hw : Wk env env') (hn : enc o = .bk env') : BX K (tSeq tBreak tu) env enc (some o) := fun o' ho F0 H0 F H σ D E c => by
  cases ho
  rw [hn] at c
  exact c F H σ (E.weak hw)
/-- a conditional at a block's end -/
theorem bx_last (h : BX K ts env enc m) : BX K (tSeq ts tNext) env enc m := h
/-- where a list is popped in a test: if xs.pop() != e -/
theorem bx_ifPopNe {e : α → PyData} {i : Nat} {xs ys : List α} {x : Int} {y : Int} {xs' : List Int} (hi : env[i]? = some (.ow (xs'.map PyData.int))) {ys' : List Int} (hy : pop? xs' = some (x, ys')) (he : EX K te (env.set i (.ow (ys'.map PyData.int))) (.int y))
    (h1 : BX K ts (env.set i (.ow (ys'.map PyData.int))) enc m) (h2 : BX K tu (env.set i (.ow (ys'.map PyData.int))) enc n) : BX K (tIfS (tTest (tOp rNe (tBM0 K "list" rPop (tVar i)) te)) ts tu) env enc (if (!decide (x = y)) = true then m else n) := fun o ho F0 H0 F H σ D E c =>
  s_pop hi hy E fun v H' E' hv => he E' _ fun w F2 H2 z2 hw => by
    cases hv; cases hw
    have e : decide (V.int x = V.int y) = decide (x = y) := by
      by_cases c : x = y
      · rw [decide_eq_true c, c, decide_eq_true rfl]
      · rw [decide_eq_false c, decide_eq_false fun z => c (V.int.inj z)]
    refine ⟨rfl, _, rfl, ?_⟩
    rw [e]
    cases q : (!decide (x = y)) with
    | true => rw [q] at ho; exact h1 o ho D (E'.step z2) c
    | false => rw [q] at ho; exact h2 o ho D (E'.step z2) c
end
/-! ### a def that stands, with its promise -/
structure Fn (P : Program) (w : World) (K : Frag) (mg : Str → Option Value) (base : Heap) (x : Str) (k : Nat) (I : List PyData → Rv → Prop) : Prop where
  ex : ∃ f fd ps, FnOk P w K mg base CX0 k f fd ps (Prom I) ∧ mg x = some (.ref f) ∧ PySem.W.keepIn K (.ref f) = true ∧ Binds K fd ps []
/-- the reading of a call does not tell where the def stands -/
theorem pe_fn {X : Cx} {x : Str} {k : Nat} {I : List PyData → Rv → Prop} {e : Expr} {es : List Expr} {t : TA} {p pos : Pos} (G : Fn X.prog X.w X.K X.mg X.base x k I) (hr : Room k X.A) (hg : Gl X x) (ha : PA X (e :: es) t)
    (hs : starEach (e :: es) X.env = (false, eval e X.env) :: starEach es X.env := by rfl) (hpl : (backTo pos (starEach es X.env)).any (·.1) = false := by rfl) (hd : (x == ("__debug__" : Str)) = false := by decide) : PE X (.Call (.Name x p) (e :: es) [] pos) (tCall (Prom I) [] E0 t) := by
  obtain ⟨f, fd, ps, F, hm, hk, hb⟩ := G.ex
  exact pe_call F hr hg hm hk hb .nil pass0 ha hd hs hpl
theorem pe_const {X : Cx} {x : Str} {i : Int} {pos : Pos} (hg : Gl X x) (h : ∃ t, X.mg x = some (.int i t)) (hd : (x == ("__debug__" : Str)) = false := by decide) : PE X (.Name x pos) (tC (.int i)) := by
  obtain ⟨t, h⟩ := h
  exact pe_glob hg h ⟨t, rfl⟩ hd
/-! ### rules whose reading names K outright -/
section
variable {X : Cx} {K : Frag} {tg e e2 l : Expr} {ta tl te : TE} {tA : TA}
theorem ix_listK (h : X.K = K := by rfl) : IxR X (rIxL K) := by subst h; exact ix_list
theorem ix_tupK (h : X.K = K := by rfl) : IxR X (rIxT K) := by subst h; exact ix_tup
theorem op_inK (h : X.K = K := by rfl) : OpR X (compareOp .In) (rIn K false) := by subst h; exact op_in_seq
theorem op_notInK (h : X.K = K := by rfl) : OpR X (compareOp .NotIn) (rIn K true) := by subst h; exact op_notIn_seq
theorem op_eqDK (hu : X.A.units + 64 < cLine) (h : X.K = K := by rfl) : OpR X (compareOp .Eq) (rEqD K) := by subst h; exact op_eqD hu
theorem op_neDK (hu : X.A.units + 64 < cLine) (h : X.K = K := by rfl) : OpR X (compareOp .NotEq) (rNeD K) := by subst h; exact op_neD hu
theorem call_lenK (h : X.K = K := by rfl) : CallR X (.builtin "len") (fun xs H Q => ∃ x n, xs = [x] ∧ LenV K x H n ∧ Q (.int n) H) := by subst h; exact call_len
theorem call_listK (h : X.K = K := by rfl) : CallR X (.type "list") (fun xs H Q => ∃ p ys, xs = [.ref p] ∧ (SqL K H p ys ∨ SqT K H p ys) ∧ ∀ l, H l = none → Q (.ref l) (upd H l (.lst ys))) := by subst h; exact call_list_of
theorem call_tupleK (h : X.K = K := by rfl) : CallR X (.type "tuple") (fun xs H Q => ∃ p ys, xs = [.ref p] ∧ ((SqL K H p ys ∧ ∀ l, H l = none → Q (.ref l) (upd H l (.tup ys))) ∨ (SqT K H p ys ∧ Q (.ref p) H))) := by subst h; exact call_tuple_of
theorem cr_sumK (hc : X.calm = true) (h : X.K = K := by rfl) : CallR X (.builtin "sum") (rSum K) := by subst h; exact cr_sum hc
theorem cr_anyK (hc : X.calm = true) (h : X.K = K := by rfl) : CallR X (.builtin "any") (rAny K) := by subst h; exact cr_any hc
theorem cr_allK (hc : X.calm = true) (h : X.K = K := by rfl) : CallR X (.builtin "all") (rAll K) := by subst h; exact cr_all hc
theorem sl_listK (h : X.K = K := by rfl) : SlR X (rSlL K) := by subst h; exact sl_list
theorem pi_listK (hl : PE X l tl) (h : X.K = K := by rfl) : PI X tg l (iList K tl) := by subst h; exact pi_list hl
theorem pi_tupK (hl : PE X l tl) (h : X.K = K := by rfl) : PI X tg l (iTup K tl) := by subst h; exact pi_tup hl
theorem pg_tupK {pos : Pos} {es : List Expr} {k : Nat} {t : TGs} {n : Nat} (hc : X.calm = true) (hh : PGs X es t) (hn : (assignEach es X.env).length = n := by rfl) (hst : (assignEach es X.env).findIdx? (·.1) = none := by rfl) (h : X.K = K := by rfl) : PG X (.Tuple es k pos) (gTup K n t) := by
  subst h; exact pg_tup hc hh hn hst
theorem pg_lstK {pos : Pos} {es : List Expr} {k : Nat} {t : TGs} {n : Nat} (hc : X.calm = true) (hh : PGs X es t) (hn : (assignEach es X.env).length = n := by rfl) (hst : (assignEach es X.env).findIdx? (·.1) = none := by rfl) (h : X.K = K := by rfl) : PG X (.Tuple es k pos) (gLst K n t) := by
  subst h; exact pg_lst hc hh hn hst
theorem pi_enumK {p pos tpos : Pos} {elts : List Expr} {kk : Nat} (hg : Gl X "enumerate") (hm : X.mg "enumerate" = none) (ha : PA X [e] tA) (hs : starEach [e] X.env = [(false, eval e X.env)] := by rfl) (h : X.K = K := by rfl) :
    PI X (.Tuple elts kk tpos) (.Call (.Name "enumerate" p) [e] [] pos) (iEnum K tA) := by subst h; exact pi_enum hg hm ha hs
end
end Rb

set_option Elab.async false
set_option linter.all false
set_option maxRecDepth 100000
set_option maxHeartbeats 2000000
namespace Rb
open PySem PySem.Spec PyProof.Rows L2
/-! ### == of data by types -/
structure EnOk {α : Type} [DecidableEq α] (e : α → PyData) (n : Nat) : Prop where
  lay : ∀ x, (e x).canLay0 = true
  dep : ∀ x, (e x).depth ≤ n
  eq : ∀ x y, PyData.eqv (e x) (e y) = decide (x = y)
theorem beq_dec {α : Type} [BEq α] [LawfulBEq α] [DecidableEq α] (x y : α) : (x == y) = decide (x = y) := by
  by_cases c : x = y
  · subst c; simp
  · rw [decide_eq_false c]; simpa using c
theorem EnOk.int : EnOk PyData.int 0 := ⟨fun x => rfl, fun x => Nat.le_refl _, fun x y => by
  show (x == y) = _
  exact beq_dec x y⟩
theorem EnOk.bool : EnOk PyData.bool 0 := ⟨fun x => rfl, fun x => Nat.le_refl _, fun x y => by
  show (x == y) = _
  exact beq_dec x y⟩
theorem EnOk.unit : EnOk eN 0 := ⟨fun x => rfl, fun x => Nat.le_refl _, fun x y => rfl⟩
section
variable {α β γ δ : Type} [DecidableEq α] [DecidableEq β] [DecidableEq γ] [DecidableEq δ] {e : α → PyData} {f : β → PyData} {g : γ → PyData} {k : δ → PyData} {n m l j : Nat}
theorem EnOk.layAll (h : EnOk e n) : ∀ xs : List α, PyData.canLayAll0 (xs.map e) = true
  | [] => rfl
  | x :: xs => by
    rw [List.map_cons]
    show (PyData.canLay0 (e x) && PyData.canLayAll0 (xs.map e)) = true
    rw [h.lay, h.layAll xs]; rfl
theorem EnOk.depAll (h : EnOk e n) : ∀ xs : List α, PyData.depthAll (xs.map e) ≤ n
  | [] => Nat.zero_le _
  | x :: xs => by
    rw [List.map_cons]
    show max (PyData.depth (e x)) (PyData.depthAll (xs.map e)) ≤ n
    exact Nat.max_le.mpr ⟨h.dep x, h.depAll xs⟩
theorem EnOk.eqAll (h : EnOk e n) : ∀ xs ys : List α, PyData.eqvAll (xs.map e) (ys.map e) = decide (xs = ys)
  | [], [] => rfl
  | [], y :: ys => rfl
  | x :: xs, [] => rfl
  | x :: xs, y :: ys => by
    rw [List.map_cons, List.map_cons]
    show (PyData.eqv (e x) (e y) && PyData.eqvAll (xs.map e) (ys.map e)) = _
    rw [h.eq, h.eqAll xs ys]
    by_cases c : x = y
    · by_cases c2 : xs = ys
      · subst c; subst c2; simp
      · simp [c, c2]
    · simp [c]
theorem EnOk.list (h : EnOk e n) : EnOk (eL e) (n + 1) := ⟨fun x => h.layAll x, fun x => Nat.succ_le_succ (h.depAll x), fun x y => h.eqAll x y⟩
theorem EnOk.tup (h : EnOk e n) : EnOk (eT e) (n + 1) := ⟨fun x => h.layAll x, fun x => Nat.succ_le_succ (h.depAll x), fun x y => h.eqAll x y⟩
theorem EnOk.pair (h : EnOk e n) (h2 : EnOk f m) : EnOk (eP e f) (max n m + 1) := ⟨fun x => by
    show (PyData.canLay0 (e x.1) && (PyData.canLay0 (f x.2) && true)) = true
    rw [h.lay, h2.lay]; rfl, fun x => by
    show max (PyData.depth (e x.1)) (max (PyData.depth (f x.2)) 0) + 1 ≤ _
    have := h.dep x.1
    have := h2.dep x.2
    omega, fun x y => by
    show (PyData.eqv (e x.1) (e y.1) && (PyData.eqv (f x.2) (f y.2) && true)) = _
    rw [h.eq, h2.eq]
    obtain ⟨a, b⟩ := x
    obtain ⟨c, d⟩ := y
    by_cases c1 : a = c <;> by_cases c2 : b = d <;> simp [c1, c2]⟩
theorem EnOk.pair3 (h : EnOk e n) (h2 : EnOk f m) (h3 : EnOk g l) : EnOk (eP3 e f g) (max n (max m l) + 1) := ⟨fun x => by
    show (PyData.canLay0 (e x.1) && (PyData.canLay0 (f x.2.1) && (PyData.canLay0 (g x.2.2) && true))) = true
    rw [h.lay, h2.lay, h3.lay]; rfl, fun x => by
    show max (PyData.depth (e x.1)) (max (PyData.depth (f x.2.1)) (max (PyData.depth (g x.2.2)) 0)) + 1 ≤ _
    have := h.dep x.1
    have := h2.dep x.2.1
    have := h3.dep x.2.2
    omega, fun x y => by
    show (PyData.eqv (e x.1) (e y.1) && (PyData.eqv (f x.2.1) (f y.2.1) && (PyData.eqv (g x.2.2) (g y.2.2) && true))) = _
    rw [h.eq, h2.eq, h3.eq]
    obtain ⟨a, b, b'⟩ := x
    obtain ⟨c, d, d'⟩ := y
    by_cases c1 : a = c <;> by_cases c2 : b = d <;> by_cases c3 : b' = d' <;> simp [c1, c2, c3]⟩
theorem EnOk.opt (h : EnOk e n) (hn : ∀ x, isNone (e x) = false := by intro _; rfl) : EnOk (eO e) n := ⟨fun x => by
    cases x with
    | none => rfl
    | some x => exact h.lay x, fun x => by
    cases x with
    | none => exact Nat.zero_le _
    | some x => exact h.dep x, fun x y => by
    cases x with
    | none =>
      cases y with
      | none => rfl
      | some y =>
        show PyData.eqv .none (e y) = _
        have := hn y
        cases q : e y <;> first | rfl | (rw [q] at this; cases this)
    | some x =>
      cases y with
      | none =>
        show PyData.eqv (e x) .none = _
        have := hn x
        cases q : e x <;> first | rfl | (rw [q] at this; cases this)
      | some y =>
        show PyData.eqv (e x) (e y) = _
        rw [h.eq]
        by_cases c : x = y <;> simp [c]⟩
theorem EnOk.shaped (h : EnOk e n) (hn : n ≤ 64) (x : α) : SeqAt.shaped (e x) = true := by
  unfold SeqAt.shaped
  rw [h.lay x, decide_eq_true (Nat.le_trans (h.dep x) hn)]; rfl
end
section
variable {K : Frag} {env env' env1 env2 : List Sl} {d d' : PyData} {ds es : List PyData} {g : TG} {gs : TGs} {vs : List Nat} {te ti ta tb tl tc : TE} {wi : TI} {α β S R O O1 : Type} {tt : TT} {ts tu tw : TS} {enc : O → Out} {enc1 : O1 → Out} {m n : Option O} {m1 : Option O1}
theorem ex_eqT [DecidableEq α] {e : α → PyData} {k : Nat} {x y : α} (h : EnOk e k) (ha : EXq K ta env (e x)) (hb : EXq K tb env (e y)) (hk : k ≤ 64 := by decide) : EX K (tOp (rEqD K) ta tb) env (.bool (decide (x = y))) := ex_eqD ha hb (h.shaped hk x) (h.shaped hk y) (h.eq x y)
theorem ex_neT [DecidableEq α] {e : α → PyData} {k : Nat} {x y : α} (h : EnOk e k) (ha : EXq K ta env (e x)) (hb : EXq K tb env (e y)) (hk : k ≤ 64 := by decide) : EX K (tOp (rNeD K) ta tb) env (.bool (!decide (x = y))) := ex_neD ha hb (h.shaped hk x) (h.shaped hk y) (h.eq x y)
theorem ex_is (h : EX K te env d) (e : d = d') : EX K te env d' := by rw [← e]; exact h
theorem exw_catT {e : α → PyData} {xs ys : List α} (ha : EXl K ta env (xs.map e)) (hb : EXl K tb env (ys.map e)) (hl : (xs ++ ys).length ≤ lim) : EXw K (tOp rCat ta tb) env ((xs ++ ys).map e) := by
  rw [List.map_append]
  exact exw_cat ha hb (by rw [← List.map_append, List.length_map]; exact hl)
theorem str_app_len (x y : Str) : (x ++ y).length = x.length + y.length := by
  show (x.cps ++ y.cps).size = x.cps.size + y.cps.size
  exact Array.size_append
theorem ex_addST {x y : Str} (ha : EX K ta env (.str x)) (hb : EX K tb env (.str y)) (hl : x.length + y.length ≤ lim) : EX K (tOp (fun x y H Q => ∃ i j, x = .str i ∧ y = .str j ∧ i.length + j.length ≤ sizeLine ∧ Q (.str (i ++ j)) H) ta tb) env (.str (x ++ y)) :=
  ex_addS ha hb (by rw [str_app_len]; exact hl) hl
def set? (xs : List α) (i : Int) (x : α) : Option (List α) := (ixN xs.length i).map fun j => xs.set j x
theorem eg_setI {e : α → PyData} {k : Nat} {xs ys : List α} {x : α} {i : Int} (hk : env[k]? = some (.ow (xs.map e))) (hi : EX K ti env (.int i)) (h : set? xs i x = some ys) : EG K (gSub (tVar k) ti rSetL) env (e x) (env.set k (.ow (ys.map e))) := by
  unfold set? at h
  obtain ⟨j, h1, h2⟩ := Option.map_eq_some_iff.mp h
  subst h2
  refine eg_sub (j := j) hk hi (by rw [List.length_map]; exact h1) ?_
  rw [List.map_set]
/-- the items of a list of so many -/
def unp2 : List α → Option (α × α)
  | [a, b] => some (a, b)
  | _ => none
def unp3 : List α → Option (α × α × α)
  | [a, b, c] => some (a, b, c)
  | _ => none
def unp4 : List α → Option (α × α × α × α)
  | [a, b, c, d] => some (a, b, c, d)
  | _ => none
def unp5 : List α → Option (α × α × α × α × α)
  | [a, b, c, d, e] => some (a, b, c, d, e)
  | _ => none
def unp6 : List α → Option (α × α × α × α × α × α)
  | [a, b, c, d, e, f] => some (a, b, c, d, e, f)
  | _ => none
def unp7 : List α → Option (α × α × α × α × α × α × α)
  | [a, b, c, d, e, f, g] => some (a, b, c, d, e, f, g)
  | _ => none
theorem unp2_ok {xs : List α} {q : α × α} (h : unp2 xs = some q) : xs = [q.1, q.2] := by
  unfold unp2 at h; split at h
  · cases h; rfl
  · cases h
theorem unp3_ok {xs : List α} {q : α × α × α} (h : unp3 xs = some q) : xs = [q.1, q.2.1, q.2.2] := by
  unfold unp3 at h; split at h
  · cases h; rfl
  · cases h
theorem unp4_ok {xs : List α} {q : α × α × α × α} (h : unp4 xs = some q) : xs = [q.1, q.2.1, q.2.2.1, q.2.2.2] := by
  unfold unp4 at h; split at h
  · cases h; rfl
  · cases h
theorem unp5_ok {xs : List α} {q : α × α × α × α × α} (h : unp5 xs = some q) : xs = [q.1, q.2.1, q.2.2.1, q.2.2.2.1, q.2.2.2.2] := by
  unfold unp5 at h; split at h
  · cases h; rfl
  · cases h
theorem unp6_ok {xs : List α} {q : α × α × α × α × α × α} (h : unp6 xs = some q) : xs = [q.1, q.2.1, q.2.2.1, q.2.2.2.1, q.2.2.2.2.1, q.2.2.2.2.2] := by
  unfold unp6 at h; split at h
  · cases h; rfl
  · cases h
theorem unp7_ok {xs : List α} {q : α × α × α × α × α × α × α} (h : unp7 xs = some q) : xs = [q.1, q.2.1, q.2.2.1, q.2.2.2.1, q.2.2.2.2.1, q.2.2.2.2.2.1, q.2.2.2.2.2.2] := by
  unfold unp7 at h; split at h
  · cases h; rfl
  · cases h
/-- a value that is given a name -/
theorem bx_asgB {e : α → PyData} {i : Nat} {x : α} {k : α → Option O} (he : EX K te env (e x)) (h : ∀ v, BX K tu (env.set i (.sh (e v))) enc (k v)) : BX K (tSeq (tAsg te (gName i)) tu) env enc (Option.bind (some x) k) :=
  bx_asg he (EGc.eg (egc_name (i := i) (vs := [i]) List.mem_cons_self)) (h x)
theorem bx_asgWB {e : α → PyData} {i : Nat} {x : List α} {k : List α → Option O} (he : EXw K te env (x.map e)) (h : ∀ v, BX K tu (env.set i (.ow (v.map e))) enc (k v)) : BX K (tSeq (tAsg te (gName i)) tu) env enc (Option.bind (some x) k) := bx_asgW he (h x)
/-- a branch that ends the def -/
theorem bx_ifRetM {encR : R → Out} {g : R → O} {mr : Option R} {b : Bool} (ht : ET K tt env b) (h1 : b = true → BX K ts env encR mr) (hf : ∀ r e, encR r ≠ .nx e) (hg : ∀ r, enc (g r) = encR r) (h2 : b = false → BX K tu env enc n) : BX K (tSeq (tIfS tt ts tNext) tu) env enc (if b = true then mr.map g else n) := fun o ho F0 H0 F H σ D E c =>
  ht E _ fun F1 H1 z1 => by
    cases b with
    | true =>
      obtain ⟨r, e1, e2⟩ := Option.map_eq_some_iff.mp ho
      subst e2
      rw [hg] at c
      refine h1 rfl r e1 { D with nx := tu D } (E.step z1) ?_
      cases q : encR r with
      | nx e => exact absurd q (hf r e)
      | bk e => rw [q] at c; exact c
      | ct e => rw [q] at c; exact c
      | rt r => rw [q] at c; exact c
    | false => exact h2 rfl o ho D (E.step z1) c
theorem ex_inT {i : Int} {ns : List Int} (ha : EX K ta env (.int i)) (hb : EX K tb env (eT PyData.int ns)) : EX K (tOp (rIn K false) ta tb) env (.bool (decide (i ∈ ns))) := fun F0 H0 F H σ E Q q =>
  ha E _ fun v F1 H1 z1 hv => hb (E.step z1) _ fun w F2 H2 z2 hw => by
    cases hv
    cases hw with
    | tup h1 a1 l1 =>
    have := a1.ints
    subst this
    refine ⟨_, _, rfl, .inr (SqT.of (z2.fh _ _ h1)), rfl, flat_ints, ?_⟩
    rw [inV_ints]
    exact q _ F2 H2 (z1.trans z2) (.bl _)
theorem ex_ninT {i : Int} {ns : List Int} (ha : EX K ta env (.int i)) (hb : EX K tb env (eT PyData.int ns)) : EX K (tOp (rIn K true) ta tb) env (.bool (!decide (i ∈ ns))) := fun F0 H0 F H σ E Q q =>
  ha E _ fun v F1 H1 z1 hv => hb (E.step z1) _ fun w F2 H2 z2 hw => by
    cases hv
    cases hw with
    | tup h1 a1 l1 =>
    have := a1.ints
    subst this
    refine ⟨_, _, rfl, .inr (SqT.of (z2.fh _ _ h1)), rfl, flat_ints, ?_⟩
    rw [inV_ints]
    exact q _ F2 H2 (z1.trans z2) (.bl _)
/-! ### the law's own end -/
def spLaw (K : Frag) : Sp := fun vs H Q _ => ∃ (a : Addr) (ns : List Int), vs = [.ref a] ∧ SqL K H a (ns.map V.int) ∧ ns.length ≤ 63 ∧ ∀ H', Q (.bl true) H'
theorem law_ok {P : Program} {w : World} {mg : Str → Option Value} {base : Heap} {x qual : Str} {params : Arguments} {body : List Stmt} {scope : Scope} {f : Addr} {fd : FuncData} {N : List Str} {x0 : Str} {k : Nat} {fm : List Int → Option Bool}
    (F : FunD K x qual params body scope [] [] f fd) (S : FnScope N [x0] scope)
    (hb : ∀ (cdv : Value) (A' : Around) (outer : List Env) (s : Shared) (H : Hp) (E : XK), Room k (A'.deeper (envOfC qual scope s.heap.objs.size f cdv)) →
      ∃ t, PSs (cxOf CX0 P w K mg base N qual scope f cdv A' outer s H E).nox body t ∧ ∀ ns, BX K t (.sc (ns.map PyData.int) :: List.replicate (N.length - 1) .un) (fun b : Bool => .rt (.sh (.bool b))) (fm ns))
    (ht : ∀ ns : List Int, ns.length ≤ 63 → fm ns = some true) : FnOk P w K mg base CX0 (k + 1) f fd [x0] (spLaw K) := by
  refine F.ok S (fun vs H Q E h => ?_) (fun cdv A' outer s H vs Q E hr h => ?_)
  · obtain ⟨a, ns, rfl, _⟩ := h
    rfl
  · obtain ⟨a, ns, rfl, hS, hl, q⟩ := h
    obtain ⟨t, p, b⟩ := hb cdv A' outer s H E hr
    refine ⟨t, PSs.nox p, b ns true (ht ns hl) (F0 := H) (H0 := H) (F := H) (H := H) _ ⟨Fz.refl (Evl.Ex.refl H), ?_, fun i sl h => ?_, fun i j s1 t1 p1 hi hj os ot si sj => ?_⟩ ?_⟩
    · show _ = _
      unfold L2.start
      simp only [List.length_append, List.length_map, List.length_cons, List.length_nil, List.length_replicate]
      omega
    · unfold L2.start
      cases i with
      | zero =>
        simp at h
        subst h
        refine ⟨_, rfl, a, _, rfl, hS, DqAll.ints' ns, ?_⟩
        rw [List.length_map]
        exact Nat.le_trans hl (by decide)
      | succ i =>
        rw [List.getElem?_cons_succ] at h
        obtain ⟨h1, h2⟩ := List.getElem?_eq_some_iff.mp h
        rw [List.getElem_replicate] at h2
        subst h2
        rw [List.length_replicate] at h1
        refine ⟨none, ?_, trivial⟩
        show (some (V.ref a) :: List.replicate (N.length - 1) none)[i + 1]? = _
        rw [List.getElem?_cons_succ, List.getElem?_replicate, if_pos h1]
    · have : s1.owned = false := by
        rcases List.mem_cons.mp (List.mem_of_getElem? hi) with z | z
        · subst z; rfl
        · rw [(List.mem_replicate.mp z).2]; rfl
      rw [this] at os
      cases os
    · exact fun F1 H1 v z hv => by
        cases hv
        exact q H1
end
end Rb

set_option Elab.async false
set_option linter.all false
set_option maxRecDepth 100000
set_option maxHeartbeats 2000000
namespace Rb
/-! # ties as functions; a hook under them -/
/-- x ties each point below m to just one other one -/
def FT (m : Int) (x : Int → Int) : Prop := ∀ p, 0 ≤ p → p < m → 0 ≤ x p ∧ x p < m ∧ x p ≠ p ∧ x (x p) = p
/-- what is tied behind a hook whose left end meets the point c -/
def act (c : Int) (x : Int → Int) : Int → Int := fun p => if p = c then c + 1 else if p = c + 1 then c else if p = x c then x (c + 1) else if p = x (c + 1) then x c else x p
def ring (c : Int) (x : Int → Int) : Int := if x c = c + 1 then 1 else 0
theorem act_ft {m c : Int} {x : Int → Int} (h : FT m x) (h0 : 0 ≤ c) (h1 : c + 1 < m) : FT m (act c x) := by
  intro p p0 p1
  have a := h p p0 p1
  have b := h c h0 (by omega)
  have d := h (c + 1) (by omega) h1
  unfold act
  grind
theorem act_act {m c : Int} {x : Int → Int} (h : FT m x) (h0 : 0 ≤ c) (h1 : c + 1 < m) : act c (act c x) = act c x := by
  funext p
  have b := h c h0 (by omega)
  have d := h (c + 1) (by omega) h1
  unfold act
  grind
theorem ring_act {c : Int} {x : Int → Int} : ring c (act c x) = 1 := by
  unfold ring act
  grind
theorem act_beside {m c e : Int} {x : Int → Int} (h : FT m x) (h0 : 0 ≤ c) (h1 : c + 1 < m) (e0 : 0 ≤ e) (e1 : e + 1 < m) (he : e = c + 1 ∨ c = e + 1) : act c (act e (act c x)) = act c x ∧ ring e (act c x) = 0 ∧ ring c (act e (act c x)) = 0 := by
  have b := h c h0 (by omega)
  have d := h (c + 1) (by omega) h1
  have f := h e e0 (by omega)
  have g := h (e + 1) (by omega) e1
  refine ⟨?_, ?_, ?_⟩
  · funext p
    rcases he with he | he
    · subst he; unfold act; grind
    · subst he; unfold act; grind
  · rcases he with he | he
    · subst he; unfold ring act; grind
    · subst he; unfold ring act; grind
  · rcases he with he | he
    · subst he; unfold ring act; grind
    · subst he; unfold ring act; grind
theorem act_far {m c e : Int} {x : Int → Int} (h : FT m x) (h0 : 0 ≤ c) (h1 : c + 1 < m) (e0 : 0 ≤ e) (e1 : e + 1 < m) (he : e > c + 1 ∨ c > e + 1) : (∀ p, 0 ≤ p → p < m → act e (act c x) p = act c (act e x) p) ∧ ring c x + ring e (act c x) = ring e x + ring c (act e x) := by
  have b := h c h0 (by omega)
  have d := h (c + 1) (by omega) h1
  have f := h e e0 (by omega)
  have g := h (e + 1) (by omega) e1
  refine ⟨fun p p0 p1 => ?_, ?_⟩
  · have a := h p p0 p1
    unfold act; grind (splits := 40)
  · unfold ring act; grind
end Rb

set_option Elab.async false
set_option linter.all false
set_option maxRecDepth 100000
set_option maxHeartbeats 2000000
namespace Rb
open L2
/-! # lists of numbers by their places -/
theorem mem_rng {lo hi p : Int} : p ∈ rng lo hi ↔ lo ≤ p ∧ p < hi := by
  unfold rng
  rw [List.mem_map]
  constructor
  · rintro ⟨i, hi, rfl⟩
    rw [List.mem_range] at hi
    omega
  · intro ⟨h1, h2⟩
    exact ⟨(p - lo).toNat, by rw [List.mem_range]; omega, by omega⟩
theorem atI_eq {α : Type} {xs : List α} {p : Int} (h0 : 0 ≤ p) (h1 : p < (xs.length : Int)) : atI xs p = xs[p.toNat]? := by
  unfold atI ixN
  rw [if_pos h0, if_pos h1]
  rfl
theorem atI_last {α : Type} {xs : List α} {p : Int} (h0 : p < 0) (h1 : -(xs.length : Int) ≤ p) : atI xs p = xs[(p + xs.length).toNat]? := by
  unfold atI ixN
  rw [if_neg (by omega), if_pos h1]
  rfl
theorem rng_get {lo hi : Int} {i : Nat} (h : (i : Int) < hi - lo) : (rng lo hi)[i]? = some (lo + i) := by
  unfold rng
  rw [List.getElem?_map, List.getElem?_range (by omega)]
  rfl
def lst (m : Int) (x : Int → Int) : List Int := (rng 0 m).map x
theorem lst_len (m : Int) (x : Int → Int) : (lst m x).length = m.toNat := by unfold lst; rw [List.length_map, rng_len, Int.sub_zero]
theorem lst_len' {m : Int} {x : Int → Int} (h : 0 ≤ m) : ((lst m x).length : Int) = m := by rw [lst_len]; omega
theorem atI_lst {m : Int} {x : Int → Int} {p : Int} (h0 : 0 ≤ p) (h1 : p < m) : atI (lst m x) p = some (x p) := by
  rw [atI_eq h0 (by rw [lst_len]; omega)]
  unfold lst
  rw [List.getElem?_map, rng_get (by omega)]
  show some (x (0 + ((p.toNat : Nat) : Int))) = some (x p)
  congr 2
  omega
theorem lst_ext {m : Int} {x y : Int → Int} (h : ∀ p, 0 ≤ p → p < m → x p = y p) : lst m x = lst m y := by
  unfold lst
  exact List.map_congr_left fun p hp => h p (mem_rng.mp hp).1 (mem_rng.mp hp).2
theorem set_lst {m : Int} {x : Int → Int} {p v : Int} (h0 : 0 ≤ p) (h1 : p < m) : set? (lst m x) p v = some (lst m fun q => if q = p then v else x q) := by
  unfold set? ixN
  rw [lst_len, if_pos h0, if_pos (by omega)]
  show some _ = some _
  congr 1
  apply List.ext_getElem?
  intro i
  rw [List.getElem?_set]
  unfold lst
  by_cases e : p.toNat = i
  · subst e
    rw [if_pos rfl, if_pos (by rw [List.length_map, rng_len]; omega), List.getElem?_map, rng_get (by omega)]
    show some v = some (if 0 + ((p.toNat : Nat) : Int) = p then v else _)
    rw [if_pos (by omega)]
  · rw [if_neg e, List.getElem?_map, List.getElem?_map]
    by_cases hi : (i : Int) < m - 0
    · rw [rng_get hi]
      show some (x (0 + (i : Int))) = some (if 0 + (i : Int) = p then v else x (0 + (i : Int)))
      rw [if_neg (by omega)]
    · have : (rng 0 m)[i]? = none := by
        rw [List.getElem?_eq_none_iff, rng_len]
        omega
      rw [this]
      rfl
/-! ## loops whose turns succeed -/
section
variable {α β S : Type}
theorem forS_cons {f : S → α → Option S} {s : S} {x : α} {xs : List α} : forS f s (x :: xs) = (f s x).bind fun s' => forS f s' xs := rfl
theorem forS_foldl {f : S → α → Option S} {g : S → α → S} : ∀ {xs : List α} {s : S}, (∀ s x, x ∈ xs → f s x = some (g s x)) → forS f s xs = some (xs.foldl g s)
  | [], s, _ => rfl
  | x :: xs, s, h => by
    rw [forS_cons, h s x List.mem_cons_self]
    exact forS_foldl fun s y hy => h s y (List.mem_cons_of_mem _ hy)
theorem forS_app {f : S → α → Option S} : ∀ {xs ys : List α} {s : S}, forS f s (xs ++ ys) = (forS f s xs).bind fun s' => forS f s' ys
  | [], ys, s => rfl
  | x :: xs, ys, s => by
    rw [List.cons_append, forS_cons, forS_cons]
    cases f s x with
    | none => rfl
    | some s' => exact forS_app
theorem compM_some {t : α → Option Bool} {f : α → Option β} {g : α → β} : ∀ {xs : List α}, (∀ x, x ∈ xs → t x = some true) → (∀ x, x ∈ xs → f x = some (g x)) → compM t f xs = some (xs.map g)
  | [], _, _ => rfl
  | x :: xs, h1, h2 => by
    unfold compM
    rw [h1 x List.mem_cons_self, h2 x List.mem_cons_self, compM_some (fun y hy => h1 y (List.mem_cons_of_mem _ hy)) fun y hy => h2 y (List.mem_cons_of_mem _ hy)]
    rfl
theorem app_ok {xs : List α} {x : α} (h : xs.length < lim) : app? xs x = some (xs ++ [x]) := by unfold app?; rw [if_pos h]
theorem ext_ok {xs ys : List α} (h : xs.length + ys.length ≤ lim) : ext? xs ys = some (xs ++ ys) := by unfold ext?; rw [if_pos h]
theorem rem_ok {xs : List Int} {x : Int} (h : x ∈ xs) : rem? xs x = some (xs.erase x) := by unfold rem?; rw [if_pos h]
theorem rngOk_of {n : Int} (h0 : -50000 ≤ n) (h1 : n ≤ 50000) : rngOk n := ⟨h0, h1⟩
end
/-! ## what runs through two frames -/
inductive Runs (u l : Int → Int) (n : Int) : Bool → Int → Int → List Int → Prop
  | stopL {p : Int} : n ≤ l p → Runs u l n true p (l p) []
  | stopU {p : Int} : u p < n → Runs u l n false p (u p) []
  | goL {p e : Int} {ms : List Int} : l p < n → Runs u l n false (l p + n) e ms → Runs u l n true p e (l p :: ms)
  | goU {p e : Int} {ms : List Int} : n ≤ u p → Runs u l n true (u p - n) e ms → Runs u l n false p e ((u p - n) :: ms)
theorem Runs.stopLe {u l : Int → Int} {n p q : Int} (h : l p = q) (hq : n ≤ q) : Runs u l n true p q [] := by subst h; exact .stopL hq
theorem Runs.stopUe {u l : Int → Int} {n p q : Int} (h : u p = q) (hq : q < n) : Runs u l n false p q [] := by subst h; exact .stopU hq
theorem Runs.goLe {u l : Int → Int} {n p q r e : Int} {ms : List Int} (h : l p = q) (hq : q < n) (hr : q + n = r) (R : Runs u l n false r e ms) : Runs u l n true p e (q :: ms) := by subst h; subst hr; exact .goL hq R
theorem Runs.goUe {u l : Int → Int} {n p q r e : Int} {ms : List Int} (h : u p = q) (hq : n ≤ q) (hr : q - n = r) (R : Runs u l n true r e ms) : Runs u l n false p e (r :: ms) := by subst h; subst hr; exact .goU hq R
/-- ties and nothing else: within bounds -/
def Bd (m : Int) (x : Int → Int) : Prop := ∀ p, 0 ≤ p → p < m → 0 ≤ x p ∧ x p < m
theorem FT.bd {m : Int} {x : Int → Int} (h : FT m x) : Bd m x := fun p a b => ⟨(h p a b).1, (h p a b).2.1⟩
end Rb

set_option Elab.async false
set_option linter.all false
set_option maxRecDepth 100000
set_option maxHeartbeats 4000000
namespace Rb.M_k23
open PySem PySem.Spec PyProof.Rows L2 Rb
/-! ask_pegs -/
def p_ask_pegs (v_pegs : Int) : Option Unit :=
  (if (!((decide ((1 : Int) ≤ v_pegs)) && (decide (v_pegs ≤ (10 : Int))))) = true then none else (some ()))
/-! plain -/
def p_plain (v_pegs : Int) : Option (List Int) :=
  (Option.bind (p_ask_pegs v_pegs) fun u1 => (Option.bind (grd (rngOk ((2 : Int) * v_pegs))) fun g2 => (Option.bind (compM (fun (x3 : Int) => (some true)) (fun (x3 : Int) => (Option.bind (grd ((0 : Int) < ((2 : Int) * v_pegs))) fun g4 => (some ((x3 + v_pegs) % ((2 : Int) * v_pegs))))) (rng 0 ((2 : Int) * v_pegs))) fun u5 => (some u5))))
/-! followed -/
def p_followed_while1_c (v_upper : (List Int)) (v_lower : (List Int)) (v_pegs : Int) (s : Int × Bool × (List Int)) : Option Bool :=
  (some true)
def p_followed_while1 (v_upper : (List Int)) (v_lower : (List Int)) (v_pegs : Int) (s : Int × Bool × (List Int)) : Option ((Int × Bool × (List Int)) ⊕ (Int × (List Int))) :=
  (Option.bind (if s.2.1 = true then (Option.bind (atI v_lower s.1) fun u2 => (some u2)) else (Option.bind (atI v_upper s.1) fun u3 => (some u3))) fun c4 => (if ((s.2.1 && (decide (c4 ≥ v_pegs))) || ((!s.2.1) && (decide (c4 < v_pegs)))) = true then ((some (c4, s.2.2))).map Sum.inr else (Option.bind (app? s.2.2 (if s.2.1 = true then c4 else (c4 - v_pegs))) fun u5 => (Option.bind (some ((if s.2.1 = true then (c4 + v_pegs) else (c4 - v_pegs)) : Int)) fun v_peg_6 => (Option.bind (some ((!s.2.1) : Bool)) fun v_below_7 => (some (Sum.inl (v_peg_6, v_below_7, u5))))))))
def p_followed (v_upper : (List Int)) (v_lower : (List Int)) (v_peg : Int) (v_below : Bool) : Option (Int × (List Int)) :=
  (Option.bind (some (((v_upper.length : Int) / (2 : Int)) : Int)) fun v_pegs_1 => (bindR (R := (Int × (List Int))) (whR (p_followed_while1_c v_upper v_lower v_pegs_1) (p_followed_while1 v_upper v_lower v_pegs_1) fuel (v_peg, v_below, ([] : (List Int)))) (fun (s8 : Int × Bool × (List Int)) => none) id))
/-! rings_left -/
def p_rings_left_while2_c (v_upper : (List Int)) (v_lower : (List Int)) (v_pegs : Int) (s : (List Int) × Int) : Option Bool :=
  (some (decide (s.2 ∈ s.1)))
def p_rings_left_while2 (v_upper : (List Int)) (v_lower : (List Int)) (v_pegs : Int) (s : (List Int) × Int) : Option ((List Int) × Int) :=
  (Option.bind (rem? s.1 s.2) fun u7 => (Option.bind (atI v_lower s.2) fun u8 => (Option.bind (rem? u7 u8) fun u9 => (Option.bind (atI v_upper (v_pegs + u8)) fun u10 => (Option.bind (some ((u10 - v_pegs) : Int)) fun v_peg_11 => (some (u9, v_peg_11)))))))
def p_rings_left_while1_c (v_upper : (List Int)) (v_lower : (List Int)) (v_pegs : Int) (s : Int × (List Int)) : Option Bool :=
  (some (!(decide (s.2 = ([] : (List Int))))))
def p_rings_left_while1 (v_upper : (List Int)) (v_lower : (List Int)) (v_pegs : Int) (s : Int × (List Int)) : Option (Int × (List Int)) :=
  (Option.bind (some ((s.1 + (1 : Int)) : Int)) fun v_found_5 => (Option.bind (atI s.2 (0 : Int)) fun u6 => (Option.bind (whS (p_rings_left_while2_c v_upper v_lower v_pegs) (p_rings_left_while2 v_upper v_lower v_pegs) fuel (s.2, u6)) fun (s12 : (List Int) × Int) => (some (v_found_5, s12.1)))))
def p_rings_left (v_upper : (List Int)) (v_lower : (List Int)) (v_seen : (List Int)) : Option Int :=
  (Option.bind (some (((v_upper.length : Int) / (2 : Int)) : Int)) fun v_pegs_1 => (Option.bind (grd (rngOk v_pegs_1)) fun g2 => (Option.bind (some ((((rng 0 v_pegs_1).filter fun (x3 : Int) => (!(decide (x3 ∈ v_seen)))).map fun (x3 : Int) => x3) : (List Int))) fun v_left_4 => (Option.bind (whS (p_rings_left_while1_c v_upper v_lower v_pegs_1) (p_rings_left_while1 v_upper v_lower v_pegs_1) fuel ((0 : Int), v_left_4)) fun (s13 : Int × (List Int)) => (some s13.1)))))
/-! put_together -/
def p_put_together_for1 (v_upper : (List Int)) (v_lower : (List Int)) (v_pegs : Int) (s : (List Int) × (List Int)) (x3 : Int) : Option ((List Int) × (List Int)) :=
  (Option.bind (p_followed v_upper v_lower x3 (decide (x3 ≥ v_pegs))) fun u4 => (Option.bind (app? s.1 u4.1) fun u5 => (Option.bind (ext? s.2 u4.2) fun u6 => (some (u5, u6)))))
def p_put_together (v_upper : (List Int)) (v_lower : (List Int)) : Option ((List Int) × Int) :=
  (Option.bind (some (((v_upper.length : Int) / (2 : Int)) : Int)) fun v_pegs_1 => (Option.bind (grd (rngOk ((2 : Int) * v_pegs_1))) fun g2 => (Option.bind (forS (p_put_together_for1 v_upper v_lower v_pegs_1) (([] : (List Int)), ([] : (List Int))) (rng 0 ((2 : Int) * v_pegs_1))) fun (s7 : (List Int) × (List Int)) => (Option.bind (p_rings_left v_upper v_lower s7.2) fun u8 => (some (s7.1, u8))))))
/-! ask_hook -/
def p_ask_hook (v_pegs : Int) (v_number : Int) : Option Unit :=
  (if (!((decide ((0 : Int) ≤ v_number)) && (decide (v_number < (v_pegs - (1 : Int)))))) = true then none else (some ()))
/-! ask_row -/
def p_ask_row_for1 (v_pegs : Int) (s : Unit) (x2 : Int) : Option (Unit) :=
  (Option.bind (p_ask_hook v_pegs x2) fun u3 => (some ()))
def p_ask_row (v_pegs : Int) (v_row : (List Int)) : Option Unit :=
  (Option.bind (p_ask_pegs v_pegs) fun u1 => (Option.bind (forS (p_ask_row_for1 v_pegs) () v_row) fun (s4 : Unit) => (some ())))
/-! hook -/
def p_hook_for1  (s : (List Int)) (x4 : Int) : Option ((List Int)) :=
  (Option.bind (set? s x4 (x4 + (1 : Int))) fun u5 => (Option.bind (set? u5 (x4 + (1 : Int)) x4) fun u6 => (some u6)))
def p_hook (v_pegs : Int) (v_number : Int) : Option (List Int) :=
  (Option.bind (p_ask_pegs v_pegs) fun u1 => (Option.bind (p_ask_hook v_pegs v_number) fun u2 => (Option.bind (p_plain v_pegs) fun u3 => (Option.bind (forS p_hook_for1 u3 [v_number, (v_pegs + v_number)]) fun (s7 : (List Int)) => (some s7)))))
/-! made -/
def p_made_for1 (v_pegs : Int) (s : (List Int) × Int) (x3 : Int) : Option ((List Int) × Int) :=
  (Option.bind (p_hook v_pegs x3) fun u4 => (Option.bind (p_put_together s.1 u4) fun u5 => (Option.bind (some ((s.2 + u5.2) : Int)) fun v_rings_6 => (some (u5.1, v_rings_6)))))
def p_made (v_pegs : Int) (v_row : (List Int)) : Option ((List Int) × Int) :=
  (Option.bind (p_ask_row v_pegs v_row) fun u1 => (Option.bind (p_plain v_pegs) fun u2 => (Option.bind (forS (p_made_for1 v_pegs) (u2, (0 : Int)) v_row) fun (s7 : (List Int) × Int) => (some (s7.1, s7.2)))))
/-! _law_mix -/
def l_mix (v_seed : Int) : Option Int :=
  (Option.bind (some ((((v_seed * (48271 : Int)) + (11 : Int)) % (2147483647 : Int)) : Int)) fun v_one_1 => (Option.bind (grd (CMul v_one_1 v_one_1)) fun g2 => (Option.bind (some (((((v_one_1 * v_one_1) + ((40692 : Int) * v_one_1)) + v_seed) % (2147483399 : Int)) : Int)) fun v_two_3 => (Option.bind (grd (CMul v_two_3 v_two_3)) fun g4 => (some ((((v_two_3 * v_two_3) + ((69621 : Int) * v_two_3)) + v_one_1) % (2147483563 : Int)))))))
/-! _law_raw -/
def l_raw_for1 (v_k : Int) (v_cell : Int) (s : Int) (x7 : Int) : Option (Int) :=
  (Option.bind (l_mix ((v_cell + ((1009 : Int) * v_k)) + ((7919 : Int) * x7))) fun u8 => (Option.bind (some (((s * (2147483563 : Int)) + u8) : Int)) fun v_found_9 => (some v_found_9)))
def l_raw (v_script : (List Int)) (v_k : Int) : Option Int :=
  (Option.bind (some ((((7 : Int) * v_k) + (3 : Int)) : Int)) fun v_cell_1 => (Option.bind (if (decide ((v_script.length : Int) > (0 : Int))) = true then (Option.bind (grd ((0 : Int) < (v_script.length : Int))) fun g3 => (Option.bind (atI v_script (v_k % (v_script.length : Int))) fun u4 => (Option.bind (grd (CDivW v_k (v_script.length : Int))) fun g5 => (Option.bind (some ((u4 + ((9973 : Int) * (v_k / (v_script.length : Int)))) : Int)) fun v_cell_6 => (some v_cell_6))))) else (some v_cell_1)) fun (s2 : Int) => (if ((decide (v_k < (v_script.length : Int))) && (decide (s2 ≥ ((10 : Int) ^ Int.toNat (18 : Int))))) = true then (some (s2 - ((10 : Int) ^ Int.toNat (18 : Int)))) else (Option.bind (forS (l_raw_for1 v_k s2) (0 : Int) (rng 0 (40 : Int))) fun (s10 : Int) => (some s10)))))
/-! _law_digits -/
def l_digits_for1  (s : Int × (List Int)) (x2 : Int) : Option (Int × (List Int)) :=
  (Option.bind (grd ((0 : Int) < x2)) fun g3 => (Option.bind (app? s.2 (s.1 % x2)) fun u4 => (Option.bind (grd (CDivW s.1 x2)) fun g5 => (Option.bind (some ((s.1 / x2) : Int)) fun v_rest_6 => (some (v_rest_6, u4))))))
def l_digits (v_script : (List Int)) (v_k : Int) (v_sizes : (List Int)) : Option (List Int) :=
  (Option.bind (l_raw v_script v_k) fun u1 => (Option.bind (forS l_digits_for1 (u1, ([] : (List Int))) v_sizes) fun (s7 : Int × (List Int)) => (some s7.2)))
/-! _law_hooks -/
def l_hooks_for2 (v_pegs : Int) (s : (List Int)) (x4 : Int) : Option (((List Int)) ⊕ (List Int)) :=
  (if (decide (v_pegs < (2 : Int))) = true then ((some ([] : (List Int)))).map Sum.inr else (Option.bind (grd ((0 : Int) < (v_pegs - (1 : Int)))) fun g5 => (Option.bind (some ((x4 % (v_pegs - (1 : Int))) : Int)) fun v_number_6 => (Option.bind (if ((!(decide (s = ([] : (List Int))))) && (decide ((x4 % (3 : Int)) = (1 : Int)))) = true then (Option.bind (atI s (-(1 : Int))) fun u8 => (Option.bind (atI ([(1 : Int), (-(1 : Int)), (0 : Int)]) ((x4 % (7 : Int)) % (3 : Int))) fun u9 => (Option.bind (some ((if (if (u8 + u9) > (0 : Int) then (u8 + u9) else (0 : Int)) < (v_pegs - (2 : Int)) then (if (u8 + u9) > (0 : Int) then (u8 + u9) else (0 : Int)) else (v_pegs - (2 : Int))) : Int)) fun v_number_10 => (some v_number_10)))) else (some v_number_6)) fun (s7 : Int) => (Option.bind (app? s s7) fun u11 => (some (Sum.inl u11)))))))
def l_hooks_for1 (v_script : (List Int)) (v_k : Int) (v_pegs : Int) (v_size : Int) (s : (List Int)) (x2 : Int) : Option (((List Int)) ⊕ (List Int)) :=
  (Option.bind (l_digits v_script (v_k + (x2 / (12 : Int))) (List.replicate 12 (97 : Int))) fun u3 => (bindR (R := (List Int)) (forR (l_hooks_for2 v_pegs) s (cutA u3 none (some (v_size - x2)))) (fun (s12 : (List Int)) => (some (Sum.inl s12))) Sum.inr))
def l_hooks (v_script : (List Int)) (v_k : Int) (v_pegs : Int) (v_size : Int) : Option (List Int) :=
  (Option.bind (grd (rngOk v_size)) fun g1 => (bindR (R := (List Int)) (forR (l_hooks_for1 v_script v_k v_pegs v_size) ([] : (List Int)) (rng3 (0 : Int) v_size (12 : Int))) (fun (s13 : (List Int)) => (some s13)) id))
/-! law -/
def l_law_for1 (v_pegs : Int) (v_number : Int) (v_first : (List Int)) (v_last : (List Int)) (v_frame : (List Int)) (v_rings : Int) (s : Unit) (x21 : Int) : Option ((Unit) ⊕ Bool) :=
  (bindR (R := Bool) (if (decide ((if (x21 - v_number) < 0 then -(x21 - v_number) else (x21 - v_number)) = (1 : Int))) = true then (Option.bind (grd ((v_first ++ ([v_number, x21, v_number])).length ≤ lim)) fun g23 => (Option.bind (grd (((v_first ++ ([v_number, x21, v_number])) ++ v_last).length ≤ lim)) fun g24 => (Option.bind (p_made v_pegs ((v_first ++ ([v_number, x21, v_number])) ++ v_last)) fun u25 => (if (!(decide (u25 = (v_frame, v_rings)))) = true then ((some false)).map Sum.inr else (some (Sum.inl ())))))) else (some (Sum.inl ()))) (fun (s22 : Unit) => (if (decide ((if (x21 - v_number) < 0 then -(x21 - v_number) else (x21 - v_number)) > (1 : Int))) = true then (Option.bind (grd ((v_first ++ ([v_number, x21])).length ≤ lim)) fun g26 => (Option.bind (grd (((v_first ++ ([v_number, x21])) ++ v_last).length ≤ lim)) fun g27 => (Option.bind (p_made v_pegs ((v_first ++ ([v_number, x21])) ++ v_last)) fun u28 => (Option.bind (grd ((v_first ++ ([x21, v_number])).length ≤ lim)) fun g29 => (Option.bind (grd (((v_first ++ ([x21, v_number])) ++ v_last).length ≤ lim)) fun g30 => (Option.bind (p_made v_pegs ((v_first ++ ([x21, v_number])) ++ v_last)) fun u31 => (if (!(decide (u28 = u31))) = true then ((some false)).map Sum.inr else (some (Sum.inl ()))))))))) else (some (Sum.inl ())))) Sum.inr)
def l_law (v_script : (List Int)) : Option Bool :=
  (Option.bind (some ((cutA v_script none (some (63 : Int))) : (List Int))) fun v_script_1 => (Option.bind (l_digits v_script_1 (60 : Int) ([(9 : Int), (10 : Int), (10 : Int), (9 : Int), (9 : Int)])) fun u2 => (Option.bind (unp5 u2) fun u8 => (Option.bind (some (((2 : Int) + u8.1) : Int)) fun v_pegs_9 => (Option.bind (l_hooks v_script_1 (0 : Int) v_pegs_9 u8.2.1) fun u10 => (Option.bind (l_hooks v_script_1 (2 : Int) v_pegs_9 u8.2.2.1) fun u11 => (Option.bind (grd ((0 : Int) < (v_pegs_9 - (1 : Int)))) fun g12 => (Option.bind (some ((u8.2.2.2.1 % (v_pegs_9 - (1 : Int))) : Int)) fun v_number_13 => (Option.bind (grd ((u10 ++ ([v_number_13])).length ≤ lim)) fun g14 => (Option.bind (grd (((u10 ++ ([v_number_13])) ++ u11).length ≤ lim)) fun g15 => (Option.bind (p_made v_pegs_9 ((u10 ++ ([v_number_13])) ++ u11)) fun u16 => (Option.bind (grd ((u10 ++ ([v_number_13, v_number_13])).length ≤ lim)) fun g17 => (Option.bind (grd (((u10 ++ ([v_number_13, v_number_13])) ++ u11).length ≤ lim)) fun g18 => (Option.bind (p_made v_pegs_9 ((u10 ++ ([v_number_13, v_number_13])) ++ u11)) fun u19 => (if (!(decide (u19 = (u16.1, (u16.2 + (1 : Int)))))) = true then (some false) else (Option.bind (grd (rngOk (v_pegs_9 - (1 : Int)))) fun g20 => (bindR (R := Bool) (forR (l_law_for1 v_pegs_9 v_number_13 u10 u11 u16.1 u16.2) () (rng 0 (v_pegs_9 - (1 : Int)))) (fun (s32 : Unit) => (some true)) id)))))))))))))))))
end Rb.M_k23

set_option Elab.async false
set_option linter.all false
set_option maxRecDepth 100000
set_option maxHeartbeats 4000000
namespace Rb.M_k23
open PySem L2 Rb
/-! ### drawn numbers -/
def Dig : List Int → List Int → Prop
  | [], [] => True
  | d :: ds, s :: ss => 0 ≤ d ∧ d < s ∧ Dig ds ss
  | _, _ => False
def SzOk (ss : List Int) : Prop := ∀ s, s ∈ ss → 0 < s ∧ s < 2 ^ 200
theorem log_small {j : Int} (h : 0 < j ∧ j < 2 ^ 200) : CDivW 0 j := by
  refine ⟨h.1, ?_⟩
  have : j.natAbs < 2 ^ 200 := by omega
  have h2 : j.natAbs ≠ 0 := by omega
  have := (Nat.log2_lt h2).mpr this
  omega
theorem cmul_mod (a : Int) {m : Int} (h0 : 0 < m) (h1 : m < 2 ^ 63) : CMul (a % m) (a % m) := by
  have a1 := Int.emod_nonneg a (show m ≠ 0 by omega)
  have a2 := Int.emod_lt_of_pos a h0
  exact .inl ⟨by omega, by omega⟩
theorem mix_ok (s : Int) : ∃ v, l_mix s = some v := by
  unfold l_mix
  simp only [Option.bind_some]
  rw [grd_true (cmul_mod _ (by decide) (by decide)), Option.bind_some, grd_true (cmul_mod _ (by decide) (by decide)), Option.bind_some]
  exact ⟨_, rfl⟩
theorem raw_loop (k c : Int) : ∀ (xs : List Int) (s : Int), ∃ v, forS (l_raw_for1 k c) s xs = some v
  | [], s => ⟨s, rfl⟩
  | x :: xs, s => by
    obtain ⟨v, hv⟩ := mix_ok ((c + 1009 * k) + 7919 * x)
    rw [forS_cons]
    unfold l_raw_for1
    rw [hv]
    exact raw_loop k c xs _
theorem raw_ok {ns : List Int} {k : Int} (hk : 0 ≤ k) (hl : ns.length ≤ 63) : ∃ v, l_raw ns k = some v := by
  unfold l_raw
  simp only [Option.bind_some]
  have tail : ∀ s2 : Int, ∃ v, (if ((decide (k < (ns.length : Int))) && (decide (s2 ≥ ((10 : Int) ^ Int.toNat (18 : Int))))) = true then (some (s2 - ((10 : Int) ^ Int.toNat (18 : Int)))) else (Option.bind (forS (l_raw_for1 k s2) (0 : Int) (rng 0 (40 : Int))) fun (s10 : Int) => (some s10))) = some v := by
    intro s2
    obtain ⟨v, hv⟩ := raw_loop k s2 (rng 0 40) 0
    split
    · exact ⟨_, rfl⟩
    · rw [hv]; exact ⟨_, rfl⟩
  by_cases c : (ns.length : Int) > 0
  · rw [if_pos (decide_eq_true c), grd_true (by exact c), Option.bind_some]
    have b0 := Int.emod_nonneg k (show (ns.length : Int) ≠ 0 by omega)
    have b1 := Int.emod_lt_of_pos k c
    rw [atI_eq b0 b1]
    obtain ⟨y, hy⟩ : ∃ y, ns[(k % (ns.length : Int)).toNat]? = some y := ⟨_, List.getElem?_eq_getElem (by omega)⟩
    have g := log_small (j := (ns.length : Int)) ⟨c, by omega⟩
    rw [hy, Option.bind_some, grd_true (p := CDivW k (ns.length : Int)) g, Option.bind_some]
    exact tail _
  · rw [if_neg (by simpa using c)]
    exact tail _
theorem digits_loop : ∀ (ss : List Int) (r : Int) (acc : List Int), SzOk ss → acc.length + ss.length < lim → ∃ r' ds, forS l_digits_for1 (r, acc) ss = some (r', acc ++ ds) ∧ Dig ds ss
  | [], r, acc, _, _ => ⟨r, [], by simp [forS], trivial⟩
  | s :: ss, r, acc, h, hl => by
    have hs := h s List.mem_cons_self
    rw [List.length_cons] at hl
    obtain ⟨r', ds, e, d⟩ := digits_loop ss (r / s) (acc ++ [r % s]) (fun x hx => h x (List.mem_cons_of_mem _ hx)) (by rw [List.length_append, List.length_singleton]; omega)
    refine ⟨r', (r % s) :: ds, ?_, Int.emod_nonneg r (by omega), Int.emod_lt_of_pos r hs.1, d⟩
    have a1 : app? acc (r % s) = some (acc ++ [r % s]) := app_ok (by omega)
    have g : grd (CDivW r s) = some () := grd_true (p := CDivW r s) (log_small hs)
    have t : l_digits_for1 (r, acc) s = some (r / s, acc ++ [r % s]) := by
      unfold l_digits_for1
      simp only [grd_true hs.1, a1, g, Option.bind_some]
    rw [forS_cons, t, Option.bind_some, e, List.append_assoc]
    rfl
theorem digits_ok {ns : List Int} {k : Int} {ss : List Int} (hk : 0 ≤ k) (hl : ns.length ≤ 63) (hs : SzOk ss) (hz : ss.length ≤ 100) : ∃ ds, l_digits ns k ss = some ds ∧ Dig ds ss := by
  obtain ⟨v, hv⟩ := raw_ok (ns := ns) hk hl
  obtain ⟨r', ds, e, d⟩ := digits_loop ss v [] hs (by unfold lim; simp; omega)
  refine ⟨ds, ?_, d⟩
  unfold l_digits
  rw [hv, Option.bind_some, e]
  rfl
theorem Dig.len : ∀ {ds ss : List Int}, Dig ds ss → ds.length = ss.length
  | [], [], _ => rfl
  | d :: ds, s :: ss, h => by rw [List.length_cons, List.length_cons, Dig.len h.2.2]
  | [], _ :: _, h => h.elim
  | _ :: _, [], h => h.elim
theorem Dig.nonneg : ∀ {ds ss : List Int}, Dig ds ss → ∀ d, d ∈ ds → 0 ≤ d
  | [], [], _ => fun d h => by cases h
  | d :: ds, s :: ss, h => fun x hx => by
    rcases List.mem_cons.mp hx with e | e
    · rw [e]; exact h.1
    · exact Dig.nonneg h.2.2 x e
  | [], _ :: _, h => h.elim
  | _ :: _, [], h => h.elim
/-! ### followed, put_together -/
theorem followed_ok {u l : Int → Int} {n : Int} (h0 : 0 ≤ n) (hu : Bd (2 * n) u) (hl : Bd (2 * n) l) {b : Bool} {p e : Int} {ms : List Int} (r : Runs u l n b p e ms) :
    0 ≤ p → p < 2 * n → ∀ (acc : List Int) (k : Nat), ms.length < k → acc.length + ms.length < lim →
      whR (p_followed_while1_c (lst (2 * n) u) (lst (2 * n) l) n) (p_followed_while1 (lst (2 * n) u) (lst (2 * n) l) n) k (p, b, acc) = some (.inr (e, acc ++ ms)) := by
  induction r with
  | @stopL p h =>
    intro p0 p1 acc k hk hz
    cases k with
    | zero => exact absurd hk (Nat.not_lt_zero _)
    | succ k =>
      have e1 := atI_lst (x := l) p0 p1
      simp [whR, p_followed_while1_c, p_followed_while1, e1, h]
  | @stopU p h =>
    intro p0 p1 acc k hk hz
    cases k with
    | zero => exact absurd hk (Nat.not_lt_zero _)
    | succ k =>
      have e1 := atI_lst (x := u) p0 p1
      simp [whR, p_followed_while1_c, p_followed_while1, e1, h]
  | @goL p e ms h _ ih =>
    intro p0 p1 acc k hk hz
    cases k with
    | zero => exact absurd hk (Nat.not_lt_zero _)
    | succ k =>
      have e1 := atI_lst (x := l) p0 p1
      have e2 : ¬ n ≤ l p := by omega
      have b1 := hl p p0 p1
      rw [List.length_cons] at hk hz
      have q := ih (by omega) (by omega) (acc ++ [l p]) k (by omega) (by rw [List.length_append, List.length_singleton]; omega)
      rw [List.append_assoc] at q
      have a1 : app? acc (l p) = some (acc ++ [l p]) := app_ok (by omega)
      simp [whR, p_followed_while1_c, p_followed_while1, e1, e2, a1]
      exact q
  | @goU p e ms h _ ih =>
    intro p0 p1 acc k hk hz
    cases k with
    | zero => exact absurd hk (Nat.not_lt_zero _)
    | succ k =>
      have e1 := atI_lst (x := u) p0 p1
      have e2 : ¬ u p < n := by omega
      have b1 := hu p p0 p1
      rw [List.length_cons] at hk hz
      have q := ih (by omega) (by omega) (acc ++ [u p - n]) k (by omega) (by rw [List.length_append, List.length_singleton]; omega)
      rw [List.append_assoc] at q
      have a1 : app? acc (u p - n) = some (acc ++ [u p - n]) := app_ok (by omega)
      simp [whR, p_followed_while1_c, p_followed_while1, e1, e2, a1]
      exact q
theorem p_followed_ok {u l : Int → Int} {n : Int} (h0 : 0 ≤ n) (hu : Bd (2 * n) u) (hl : Bd (2 * n) l) {b : Bool} {p e : Int} {ms : List Int} (r : Runs u l n b p e ms) (p0 : 0 ≤ p) (p1 : p < 2 * n) (hm : ms.length < 900) : p_followed (lst (2 * n) u) (lst (2 * n) l) p b = some (e, ms) := by
  unfold p_followed
  have hn : ((lst (2 * n) u).length : Int) / 2 = n := by rw [lst_len' (by omega)]; omega
  have q := followed_ok h0 hu hl r p0 p1 [] fuel (by unfold fuel; omega) (by unfold lim; simp; omega)
  rw [List.nil_append] at q
  simp only [hn, Option.bind_some, bindR]
  rw [q]
  rfl
/-- the loop over all outer pegs -/
theorem together_loop {u l : Int → Int} {n : Int} {E : Int → Int} {M : Int → List Int} : ∀ {xs : List Int}, (∀ p, p ∈ xs → p_followed (lst (2 * n) u) (lst (2 * n) l) p (decide (p ≥ n)) = some (E p, M p) ∧ (M p).length < 900) → xs.length ≤ 20 → ∀ {a b : List Int}, a.length + xs.length ≤ 20 → b.length + 900 * xs.length ≤ 18000 →
      forS (p_put_together_for1 (lst (2 * n) u) (lst (2 * n) l) n) (a, b) xs = some (a ++ xs.map E, b ++ xs.flatMap M)
  | [], _, _, a, b, _, _ => by simp [forS]
  | p :: xs, h, hx, a, b, ha, hb => by
    rw [List.length_cons] at hx ha hb
    obtain ⟨h1, h2⟩ := h p List.mem_cons_self
    have e1 : app? a (E p) = some (a ++ [E p]) := app_ok (by unfold lim; omega)
    have e2 : ext? b (M p) = some (b ++ M p) := ext_ok (by unfold lim; omega)
    have ih := together_loop (xs := xs) (u := u) (l := l) (n := n) (E := E) (M := M) (fun q hq => h q (List.mem_cons_of_mem _ hq)) (by omega) (a := a ++ [E p]) (b := b ++ M p) (by rw [List.length_append, List.length_singleton]; omega) (by rw [List.length_append]; omega)
    rw [forS_cons]
    simp only [p_put_together_for1, h1, e1, e2, Option.bind_some]
    rw [ih]
    simp [List.append_assoc]
theorem together_ok {u l : Int → Int} {n : Int} {E : Int → Int} {M : Int → List Int} (h0 : 0 ≤ n) (h10 : n ≤ 10) (h : ∀ p, 0 ≤ p → p < 2 * n → p_followed (lst (2 * n) u) (lst (2 * n) l) p (decide (p ≥ n)) = some (E p, M p) ∧ (M p).length < 900) {r : Int}
    (hr : p_rings_left (lst (2 * n) u) (lst (2 * n) l) ((rng 0 (2 * n)).flatMap M) = some r) : p_put_together (lst (2 * n) u) (lst (2 * n) l) = some (lst (2 * n) E, r) := by
  unfold p_put_together
  have hn : ((lst (2 * n) u).length : Int) / 2 = n := by rw [lst_len' (by omega)]; omega
  have l1 : (rng 0 (2 * n)).length = (2 * n).toNat := by rw [rng_len, Int.sub_zero]
  have q := together_loop (u := u) (l := l) (n := n) (E := E) (M := M) (xs := rng 0 (2 * n)) (fun p hp => h p (mem_rng.mp hp).1 (mem_rng.mp hp).2) (by omega) (a := []) (b := []) (by simp; omega) (by simp; omega)
  rw [List.nil_append, List.nil_append] at q
  have g : grd (rngOk (2 * n)) = some () := grd_true (rngOk_of (by omega) (by omega))
  simp only [hn, Option.bind_some, g, q, hr]
  rfl
/-! ### plain frames, hooks, rows of hooks -/
def plainF (n : Int) (p : Int) : Int := if p < n then p + n else p - n
def hkF (n i : Int) (p : Int) : Int := if p = i then i + 1 else if p = i + 1 then i else if p = n + i then n + i + 1 else if p = n + i + 1 then n + i else plainF n p
theorem ask_pegs_ok {n : Int} (h0 : 1 ≤ n) (h1 : n ≤ 10) : p_ask_pegs n = some () := by
  unfold p_ask_pegs
  simp [h0, h1]
theorem plain_ft {n : Int} (h0 : 1 ≤ n) : FT (2 * n) (plainF n) := by
  intro p p0 p1
  unfold plainF
  grind
theorem plain_ok {n : Int} (h0 : 1 ≤ n) (h1 : n ≤ 10) : p_plain n = some (lst (2 * n) (plainF n)) := by
  unfold p_plain
  have g : grd (rngOk (2 * n)) = some () := grd_true (rngOk_of (by omega) (by omega))
  have g2 : grd (0 < 2 * n) = some () := grd_true (by omega)
  rw [ask_pegs_ok h0 h1, Option.bind_some, g, Option.bind_some]
  rw [compM_some (g := plainF n) (fun x hx => rfl) (fun x hx => ?_)]
  · rfl
  · obtain ⟨a, b⟩ := mem_rng.mp hx
    rw [g2, Option.bind_some]
    congr 1
    unfold plainF
    by_cases c : x < n
    · rw [if_pos c]
      exact Int.emod_eq_of_lt (by omega) (by omega)
    · rw [if_neg c]
      have e : x + n = (x - n) + 2 * n := by omega
      rw [e, Int.add_emod_right]
      exact Int.emod_eq_of_lt (by omega) (by omega)
theorem ask_hook_ok {n i : Int} (i0 : 0 ≤ i) (i1 : i + 1 < n) : p_ask_hook n i = some () := by
  unfold p_ask_hook
  have : i < n - 1 := by omega
  simp [i0, this]
theorem hook_turn {m c : Int} {x : Int → Int} (c0 : 0 ≤ c) (c1 : c + 1 < m) : p_hook_for1 (lst m x) c = some (lst m fun q => if q = c + 1 then c else if q = c then c + 1 else x q) := by
  unfold p_hook_for1
  rw [set_lst c0 (by omega), Option.bind_some, set_lst (by omega) c1, Option.bind_some]
theorem hook_ok {n i : Int} (h1 : n ≤ 10) (i0 : 0 ≤ i) (i1 : i + 1 < n) : p_hook n i = some (lst (2 * n) (hkF n i)) := by
  unfold p_hook
  rw [ask_pegs_ok (by omega) h1, Option.bind_some, ask_hook_ok i0 i1, Option.bind_some, plain_ok (by omega) h1, Option.bind_some]
  rw [forS_cons, hook_turn (by omega) (by omega), Option.bind_some, forS_cons, hook_turn (by omega) (by omega), Option.bind_some]
  show some _ = some _
  congr 1
  apply lst_ext
  intro p p0 p1
  unfold hkF
  grind
theorem hk_bd {n i : Int} (i0 : 0 ≤ i) (i1 : i + 1 < n) : Bd (2 * n) (hkF n i) := by
  intro p p0 p1
  unfold hkF plainF
  grind
/-- what comes out behind a hook, and what is met -/
theorem hook_runs {n i : Int} {x : Int → Int} (h : FT (2 * n) x) (i0 : 0 ≤ i) (i1 : i + 1 < n) (p : Int) (p0 : 0 ≤ p) (p1 : p < 2 * n) :
    ∃ ms, Runs x (hkF n i) n (decide (p ≥ n)) p (act (n + i) x p) ms ∧ ms.length < 900 ∧ (n ≤ p → p ≠ n + i → p ≠ n + i + 1 → p - n ∈ ms) ∧
      ((p < n ∨ (p ≠ n + i ∧ p ≠ n + i + 1)) → x p = n + i ∨ x p = n + i + 1 → i ∈ ms ∧ i + 1 ∈ ms) ∧ (x (n + i) = n + i + 1 → i ∉ ms ∧ i + 1 ∉ ms) := by
  have hp := h p p0 p1
  have ha := h (n + i) (by omega) (by omega)
  have hb := h (n + i + 1) (by omega) (by omega)
  -- from an upper peg q of the hook's frame that isn't met by the hook: straight down
  have down : ∀ j, 0 ≤ j → j < n → j ≠ i → j ≠ i + 1 → ∀ e, e = n + j → Runs x (hkF n i) n true j e [] := fun j j0 j1 a b e he => by
    subst he
    exact .stopLe (by unfold hkF plainF; grind) (by omega)
  -- upwards out of the lower rail at j, not tied to the hook
  have up : ∀ j, n ≤ j → j < 2 * n → x j ≠ n + i → x j ≠ n + i + 1 → ∃ ms, Runs x (hkF n i) n false j (x j) ms ∧ ms.length ≤ 1 ∧ i ∉ ms ∧ i + 1 ∉ ms := fun j j0 j1 a b => by
    have hj := h j (by omega) j1
    by_cases c : x j < n
    · exact ⟨[], .stopU c, by simp, by simp, by simp⟩
    · exact ⟨[x j - n], .goU (by omega) (down (x j - n) (by omega) (by omega) (by omega) (by omega) _ (by omega)), by simp, by simp; omega, by simp; omega⟩
  -- through the hook
  have e1 : hkF n i i = i + 1 := by unfold hkF; grind
  have e2 : hkF n i (i + 1) = i := by unfold hkF; grind
  have thruA : x (n + i) ≠ n + i + 1 → ∃ ms, Runs x (hkF n i) n true i (x (n + i + 1)) ms ∧ ms.length ≤ 2 ∧ i + 1 ∈ ms := fun nr => by
    obtain ⟨ms, r, l, _⟩ := up (n + i + 1) (by omega) (by omega) (by grind) (by grind)
    exact ⟨(i + 1) :: ms, .goLe e1 i1 (by omega) r, by rw [List.length_cons]; omega, List.mem_cons_self⟩
  have thruB : x (n + i) ≠ n + i + 1 → ∃ ms, Runs x (hkF n i) n true (i + 1) (x (n + i)) ms ∧ ms.length ≤ 2 ∧ i ∈ ms := fun nr => by
    obtain ⟨ms, r, l, _⟩ := up (n + i) (by omega) (by omega) (by grind) (by grind)
    exact ⟨i :: ms, .goLe e2 (by omega) (by omega) r, by rw [List.length_cons]; omega, List.mem_cons_self⟩
  -- from a point p that the frame above holds: an upper peg, or the lower rail's point
  have from_ : ∀ p, 0 ≤ p → p < 2 * n → p ≠ n + i → p ≠ n + i + 1 → ∃ ms, Runs x (hkF n i) n false p (act (n + i) x p) ms ∧ ms.length ≤ 3 ∧ (x p = n + i ∨ x p = n + i + 1 → i ∈ ms ∧ i + 1 ∈ ms) ∧ (x (n + i) = n + i + 1 → i ∉ ms ∧ i + 1 ∉ ms) := fun p p0 p1 pa pb => by
    have hp := h p p0 p1
    by_cases ca : x p = n + i
    · have nr : x (n + i) ≠ n + i + 1 := by grind
      obtain ⟨ms, r, l, m⟩ := thruA nr
      have ea : act (n + i) x p = x (n + i + 1) := by unfold act; grind
      rw [ea]
      exact ⟨i :: ms, .goUe ca (by omega) (by omega) r, by rw [List.length_cons]; omega, fun _ => ⟨List.mem_cons_self, List.mem_cons_of_mem _ m⟩, fun z => absurd z nr⟩
    · by_cases cb : x p = n + i + 1
      · have nr : x (n + i) ≠ n + i + 1 := by grind
        obtain ⟨ms, r, l, m⟩ := thruB nr
        have ea : act (n + i) x p = x (n + i) := by unfold act; grind
        rw [ea]
        exact ⟨(i + 1) :: ms, .goUe cb (by omega) (by omega) r, by rw [List.length_cons]; omega, fun _ => ⟨List.mem_cons_of_mem _ m, List.mem_cons_self⟩, fun z => absurd z nr⟩
      · have ea : act (n + i) x p = x p := by unfold act; grind
        rw [ea]
        by_cases c : x p < n
        · exact ⟨[], .stopU c, by simp, fun z => by omega, fun _ => by simp⟩
        · exact ⟨[x p - n], .goU (by omega) (down (x p - n) (by omega) (by omega) (by omega) (by omega) _ (by omega)), by simp, fun z => by omega, fun _ => by simp; omega⟩
  by_cases c : p < n
  · rw [decide_eq_false (by omega)]
    obtain ⟨ms, r, l, m1, m2⟩ := from_ p p0 p1 (by omega) (by omega)
    exact ⟨ms, r, by omega, fun z => by omega, fun _ => m1, m2⟩
  · rw [decide_eq_true (by omega)]
    by_cases ca : p = n + i
    · have ea : act (n + i) x p = n + i + 1 := by unfold act; grind
      rw [ea]
      exact ⟨[], .stopLe (by unfold hkF; grind) (by omega), by simp, fun _ z => absurd ca z, fun z => by omega, fun _ => by simp⟩
    · by_cases cb : p = n + i + 1
      · have ea : act (n + i) x p = n + i := by unfold act; grind
        rw [ea]
        exact ⟨[], .stopLe (by unfold hkF; grind) (by omega), by simp, fun _ _ z => absurd cb z, fun z => by omega, fun _ => by simp⟩
      · obtain ⟨ms, r, l, m1, m2⟩ := from_ p p0 p1 ca cb
        refine ⟨(p - n) :: ms, .goLe (by unfold hkF plainF; grind) (by omega) (by omega) r, by rw [List.length_cons]; omega, fun _ _ _ => List.mem_cons_self, fun _ z => ⟨List.mem_cons_of_mem _ (m1 z).1, List.mem_cons_of_mem _ (m1 z).2⟩, fun z => ?_⟩
        have m3 := m2 z
        simp only [List.mem_cons, not_or]
        exact ⟨⟨by omega, m3.1⟩, ⟨by omega, m3.2⟩⟩
/-! ### rings that a hook leaves; rows of hooks -/
theorem whS_go {S : Type} {c : S → Option Bool} {f : S → Option S} {k : Nat} {s s' : S} (h1 : c s = some true) (h2 : f s = some s') : whS c f (k + 1) s = whS c f k s' := by
  show (c s).bind _ = _
  rw [h1, Option.bind_some, if_pos rfl, h2, Option.bind_some]
theorem whS_stop {S : Type} {c : S → Option Bool} {f : S → Option S} {k : Nat} {s : S} (h1 : c s = some false) : whS c f (k + 1) s = some s := by
  show (c s).bind _ = _
  rw [h1, Option.bind_some, if_neg Bool.false_ne_true]
theorem fuel_eq : fuel = 998 + 1 + 1 := rfl
theorem rng_split {lo mid hi : Int} (h1 : lo ≤ mid) (h2 : mid ≤ hi) : rng lo hi = rng lo mid ++ rng mid hi := by
  unfold rng
  have e : (hi - lo).toNat = (mid - lo).toNat + (hi - mid).toNat := by omega
  rw [e, List.range_add, List.map_append, List.map_map]
  congr 1
  apply List.map_congr_left
  intro i hi
  show lo + (((mid - lo).toNat + i : Nat) : Int) = mid + (i : Int)
  omega
theorem rng_two (i : Int) : rng i (i + 2) = [i, i + 1] := by
  unfold rng
  have e : (i + 2 - i).toNat = 2 := by omega
  rw [e]
  show [i + ((0 : Nat) : Int), i + ((1 : Nat) : Int)] = [i, i + 1]
  simp
theorem filter_two {n i : Int} {p : Int → Bool} (i0 : 0 ≤ i) (i1 : i + 1 < n) (h : ∀ j, 0 ≤ j → j < n → (p j = true ↔ j = i ∨ j = i + 1)) : (rng 0 n).filter p = [i, i + 1] := by
  rw [rng_split (mid := i) i0 (by omega), rng_split (lo := i) (mid := i + 2) (by omega) (by omega), List.filter_append, List.filter_append, rng_two]
  have a : (rng 0 i).filter p = [] := List.filter_eq_nil_iff.mpr fun j hj => by
    have := mem_rng.mp hj
    rw [h j this.1 (by omega)]
    omega
  have b : (rng (i + 2) n).filter p = [] := List.filter_eq_nil_iff.mpr fun j hj => by
    have := mem_rng.mp hj
    rw [h j (by omega) this.2]
    omega
  have c : [i, i + 1].filter p = [i, i + 1] := List.filter_eq_self.mpr fun j hj => by
    have hj' : j = i ∨ j = i + 1 := by simpa using hj
    rw [h j (by omega) (by omega)]
    exact hj'
  rw [a, b, c]
  rfl
theorem rings_none {u l : Int → Int} {n : Int} {seen : List Int} (h0 : 0 ≤ n) (h10 : n ≤ 10) (h : ∀ j, 0 ≤ j → j < n → j ∈ seen) : p_rings_left (lst (2 * n) u) (lst (2 * n) l) seen = some 0 := by
  unfold p_rings_left
  have hn : ((lst (2 * n) u).length : Int) / 2 = n := by rw [lst_len' (by omega)]; omega
  have g : grd (rngOk n) = some () := grd_true (rngOk_of (by omega) (by omega))
  have f : ((rng 0 n).filter fun x => (!decide (x ∈ seen))) = [] := List.filter_eq_nil_iff.mpr fun j hj => by
    have := mem_rng.mp hj
    simp [h j this.1 this.2]
  simp only [hn, Option.bind_some, g, f, List.map_nil]
  rw [fuel_eq, whS_stop (by rfl)]
  rfl
theorem rings_one {n i : Int} {x : Int → Int} {seen : List Int} (h10 : n ≤ 10) (i0 : 0 ≤ i) (i1 : i + 1 < n) (hx : x (n + i + 1) = n + i) (h : ∀ j, 0 ≤ j → j < n → (j ∉ seen ↔ j = i ∨ j = i + 1)) :
    p_rings_left (lst (2 * n) x) (lst (2 * n) (hkF n i)) seen = some 1 := by
  unfold p_rings_left
  have hn : ((lst (2 * n) x).length : Int) / 2 = n := by rw [lst_len' (by omega)]; omega
  have g : grd (rngOk n) = some () := grd_true (rngOk_of (by omega) (by omega))
  have f : ((rng 0 n).filter fun x => (!decide (x ∈ seen))) = [i, i + 1] := filter_two i0 i1 fun j j0 j1 => by
    rw [← h j j0 j1]; simp
  have m : ([i, i + 1].map fun x : Int => x) = [i, i + 1] := rfl
  simp only [hn, Option.bind_some, g, f, m]
  have e1 : hkF n i i = i + 1 := by unfold hkF; grind
  have a1 : atI (lst (2 * n) (hkF n i)) i = some (i + 1) := by rw [atI_lst i0 (by omega), e1]
  have a2 : atI (lst (2 * n) x) (n + (i + 1)) = some (n + i) := by
    rw [atI_lst (by omega) (by omega)]
    have q : n + (i + 1) = n + i + 1 := by omega
    rw [q, hx]
  have inner : whS (p_rings_left_while2_c (lst (2 * n) x) (lst (2 * n) (hkF n i)) n) (p_rings_left_while2 (lst (2 * n) x) (lst (2 * n) (hkF n i)) n) fuel ([i, i + 1], i) = some ([], i) := by
    rw [fuel_eq, whS_go (s' := ([], i)) (by simp [p_rings_left_while2_c]) ?_, whS_stop (by simp [p_rings_left_while2_c])]
    unfold p_rings_left_while2
    have r1 : rem? [i, i + 1] i = some [i + 1] := by rw [rem_ok List.mem_cons_self]; simp
    have r2 : rem? [i + 1] (i + 1) = some [] := by rw [rem_ok List.mem_cons_self]; simp
    simp only [r1, a1, r2, a2, Option.bind_some]
    have q : n + i - n = i := by omega
    rw [q]
  have outer : p_rings_left_while1 (lst (2 * n) x) (lst (2 * n) (hkF n i)) n (0, [i, i + 1]) = some (1, []) := by
    unfold p_rings_left_while1
    have a3 : atI [i, i + 1] 0 = some i := rfl
    simp only [Option.bind_some, a3, inner]
    rfl
  rw [fuel_eq, whS_go (s' := (1, [])) (by simp [p_rings_left_while1_c]) outer, whS_stop (by rfl)]
  rfl
theorem hook_together {n i : Int} {x : Int → Int} (h10 : n ≤ 10) (h : FT (2 * n) x) (i0 : 0 ≤ i) (i1 : i + 1 < n) :
    p_put_together (lst (2 * n) x) (lst (2 * n) (hkF n i)) = some (lst (2 * n) (act (n + i) x), ring (n + i) x) := by
  have R : ∀ p, ∃ ms, 0 ≤ p → p < 2 * n → Runs x (hkF n i) n (decide (p ≥ n)) p (act (n + i) x p) ms ∧ ms.length < 900 ∧ (n ≤ p → p ≠ n + i → p ≠ n + i + 1 → p - n ∈ ms) ∧
      ((p < n ∨ (p ≠ n + i ∧ p ≠ n + i + 1)) → x p = n + i ∨ x p = n + i + 1 → i ∈ ms ∧ i + 1 ∈ ms) ∧ (x (n + i) = n + i + 1 → i ∉ ms ∧ i + 1 ∉ ms) := fun p => by
    by_cases c : 0 ≤ p ∧ p < 2 * n
    · obtain ⟨ms, r⟩ := hook_runs h i0 i1 p c.1 c.2
      exact ⟨ms, fun _ _ => r⟩
    · exact ⟨[], fun a b => absurd ⟨a, b⟩ c⟩
  obtain ⟨M, hM⟩ := Classical.axiomOfChoice R
  have ha := h (n + i) (by omega) (by omega)
  have hb := h (n + i + 1) (by omega) (by omega)
  refine together_ok (E := act (n + i) x) (M := M) (by omega) h10 (fun p p0 p1 => ?_) ?_
  · obtain ⟨r, l, _⟩ := hM p p0 p1
    exact ⟨p_followed_ok (by omega) h.bd (hk_bd i0 i1) r p0 p1 l, l⟩
  · have plain : ∀ j, 0 ≤ j → j < n → j ≠ i → j ≠ i + 1 → j ∈ (rng 0 (2 * n)).flatMap M := fun j j0 j1 a b => by
      obtain ⟨_, _, m, _⟩ := hM (n + j) (by omega) (by omega)
      have := m (by omega) (by omega) (by omega)
      have e : n + j - n = j := by omega
      rw [e] at this
      exact List.mem_flatMap.mpr ⟨n + j, mem_rng.mpr ⟨by omega, by omega⟩, this⟩
    unfold ring
    by_cases c : x (n + i) = n + i + 1
    · rw [if_pos c]
      refine rings_one h10 i0 i1 (by grind) fun j j0 j1 => ⟨fun z => ?_, fun z w => ?_⟩
      · by_cases a : j = i
        · exact .inl a
        · by_cases b : j = i + 1
          · exact .inr b
          · exact absurd (plain j j0 j1 a b) z
      · obtain ⟨p, hp, hj⟩ := List.mem_flatMap.mp w
        have hp' := mem_rng.mp hp
        have m := (hM p hp'.1 hp'.2).2.2.2.2 c
        rcases z with z | z
        · subst z; exact m.1 hj
        · subst z; exact m.2 hj
    · rw [if_neg c]
      refine rings_none (by omega) h10 fun j j0 j1 => ?_
      by_cases ab : j ≠ i ∧ j ≠ i + 1
      · exact plain j j0 j1 ab.1 ab.2
      · have m := (hM (x (n + i)) (by omega) (by omega)).2.2.2.1 (.inr ⟨by omega, by omega⟩) (.inl (by grind))
        refine List.mem_flatMap.mpr ⟨x (n + i), mem_rng.mpr ⟨by omega, by omega⟩, ?_⟩
        have : j = i ∨ j = i + 1 := by omega
        rcases this with z | z
        · subst z; exact m.1
        · subst z; exact m.2
/-- a row under a frame -/
def under (n : Int) (s : (Int → Int) × Int) (i : Int) : (Int → Int) × Int := (act (n + i) s.1, s.2 + ring (n + i) s.1)
def RowOk (n : Int) (row : List Int) : Prop := ∀ i, i ∈ row → 0 ≤ i ∧ i + 1 < n
theorem made_loop {n : Int} (h10 : n ≤ 10) : ∀ {row : List Int} {s : (Int → Int) × Int}, RowOk n row → FT (2 * n) s.1 →
    forS (p_made_for1 n) (lst (2 * n) s.1, s.2) row = some (lst (2 * n) (row.foldl (under n) s).1, (row.foldl (under n) s).2) ∧ FT (2 * n) (row.foldl (under n) s).1
  | [], s, _, h => ⟨rfl, h⟩
  | i :: row, s, hr, h => by
    have hi := hr i List.mem_cons_self
    have t : p_made_for1 n (lst (2 * n) s.1, s.2) i = some (lst (2 * n) (under n s i).1, (under n s i).2) := by
      unfold p_made_for1
      simp only [hook_ok h10 hi.1 hi.2, hook_together h10 h hi.1 hi.2, Option.bind_some]
      rfl
    have ih := made_loop h10 (row := row) (s := under n s i) (fun j hj => hr j (List.mem_cons_of_mem _ hj)) (act_ft h (by omega) (by omega))
    rw [forS_cons, t, Option.bind_some]
    exact ih
def mk (n : Int) (row : List Int) : (Int → Int) × Int := row.foldl (under n) (plainF n, 0)
theorem ask_row_ok {n : Int} {row : List Int} (h1 : 1 ≤ n) (h10 : n ≤ 10) (hr : RowOk n row) : p_ask_row n row = some () := by
  unfold p_ask_row
  rw [ask_pegs_ok h1 h10, Option.bind_some, forS_foldl (g := fun _ _ => ()) fun s i hi => by
    unfold p_ask_row_for1
    rw [ask_hook_ok (hr i hi).1 (hr i hi).2]
    rfl]
  rfl
theorem made_ok {n : Int} {row : List Int} (h1 : 1 ≤ n) (h10 : n ≤ 10) (hr : RowOk n row) : p_made n row = some (lst (2 * n) (mk n row).1, (mk n row).2) ∧ FT (2 * n) (mk n row).1 := by
  have q := made_loop h10 (s := (plainF n, 0)) hr (plain_ft h1)
  refine ⟨?_, q.2⟩
  unfold p_made
  rw [ask_row_ok h1 h10 hr, Option.bind_some, plain_ok h1 h10, Option.bind_some]
  show Option.bind (forS (p_made_for1 n) (lst (2 * n) (plainF n), 0) row) _ = _
  rw [q.1]
  rfl
/-! ### what follows from like frames -/
def Eqv (m : Int) (x y : Int → Int) : Prop := ∀ p, 0 ≤ p → p < m → x p = y p
theorem act_congr {m c : Int} {x y : Int → Int} (h : Eqv m x y) (c0 : 0 ≤ c) (c1 : c + 1 < m) : Eqv m (act c x) (act c y) := fun p p0 p1 => by
  have a := h p p0 p1
  have b := h c c0 (by omega)
  have d := h (c + 1) (by omega) c1
  unfold act
  rw [a, b, d]
theorem ring_congr {m c : Int} {x y : Int → Int} (h : Eqv m x y) (c0 : 0 ≤ c) (c1 : c + 1 < m) : ring c x = ring c y := by
  unfold ring
  rw [h c c0 (by omega)]
theorem under_congr {n : Int} (n0 : 0 ≤ n) : ∀ {row : List Int} {x y : Int → Int} {r k : Int}, RowOk n row → Eqv (2 * n) x y → Eqv (2 * n) (row.foldl (under n) (x, r)).1 (row.foldl (under n) (y, r + k)).1 ∧ (row.foldl (under n) (y, r + k)).2 = (row.foldl (under n) (x, r)).2 + k
  | [], x, y, r, k, _, h => ⟨h, rfl⟩
  | i :: row, x, y, r, k, hr, h => by
    have hi := hr i List.mem_cons_self
    have e := ring_congr h (c := n + i) (by omega) (by omega)
    have ih := under_congr n0 (row := row) (x := act (n + i) x) (y := act (n + i) y) (r := r + ring (n + i) x) (k := k) (fun j hj => hr j (List.mem_cons_of_mem _ hj)) (act_congr h (by omega) (by omega))
    show Eqv (2 * n) (row.foldl (under n) (act (n + i) x, r + ring (n + i) x)).1 (row.foldl (under n) (act (n + i) y, r + k + ring (n + i) y)).1 ∧ (row.foldl (under n) (act (n + i) y, r + k + ring (n + i) y)).2 = _
    have q : r + k + ring (n + i) y = r + ring (n + i) x + k := by omega
    rw [q]
    exact ih
theorem mk_app (n : Int) (a b : List Int) : mk n (a ++ b) = b.foldl (under n) (mk n a) := List.foldl_append
/-- two rows between the same rows -/
theorem mk_between {n k : Int} {a b c d : List Int} (n1 : 1 ≤ n) (hd : RowOk n d) (h : Eqv (2 * n) (mk n (a ++ b)).1 (mk n (a ++ c)).1) (hk : (mk n (a ++ c)).2 = (mk n (a ++ b)).2 + k) :
    lst (2 * n) (mk n ((a ++ b) ++ d)).1 = lst (2 * n) (mk n ((a ++ c) ++ d)).1 ∧ (mk n ((a ++ c) ++ d)).2 = (mk n ((a ++ b) ++ d)).2 + k := by
  have q := under_congr (by omega) (row := d) (x := (mk n (a ++ b)).1) (y := (mk n (a ++ c)).1) (r := (mk n (a ++ b)).2) (k := k) hd h
  rw [mk_app n (a ++ b) d, mk_app n (a ++ c) d]
  rw [← hk] at q
  exact ⟨lst_ext q.1, q.2⟩
/-! ### drawn rows -/
theorem forR_cons {α S R : Type} {f : S → α → Option (S ⊕ R)} {s : S} {x : α} {xs : List α} : forR f s (x :: xs) = (f s x).bind fun o => match o with
    | .inl s' => forR f s' xs
    | .inr r => some (.inr r) := rfl
theorem forR_go {α S R : Type} {f : S → α → Option (S ⊕ R)} {s s' : S} {x : α} {xs : List α} (h : f s x = some (.inl s')) : forR f s (x :: xs) = forR f s' xs := by
  rw [forR_cons, h]; rfl
theorem forR_all {α S R : Type} {f : S → α → Option (S ⊕ R)} {s : S} : ∀ {xs : List α}, (∀ x, x ∈ xs → f s x = some (.inl s)) → forR f s xs = some (.inl s)
  | [], _ => rfl
  | x :: xs, h => by
    rw [forR_go (h x List.mem_cons_self)]
    exact forR_all fun y hy => h y (List.mem_cons_of_mem _ hy)
theorem hooks_turn {n x : Int} {s : List Int} (n2 : 2 ≤ n) (x0 : 0 ≤ x) (hs : RowOk n s) (hl : s.length < lim) : ∃ i, l_hooks_for2 n s x = some (.inl (s ++ [i])) ∧ 0 ≤ i ∧ i + 1 < n := by
  unfold l_hooks_for2
  have b0 := Int.emod_nonneg x (show n - 1 ≠ 0 by omega)
  have b1 := Int.emod_lt_of_pos x (show 0 < n - 1 by omega)
  rw [if_neg (by simp; omega), grd_true (by omega), Option.bind_some, Option.bind_some]
  by_cases c : ((!(decide (s = ([] : List Int)))) && (decide ((x % (3 : Int)) = (1 : Int)))) = true
  · rw [if_pos c]
    have hne : s ≠ [] := by
      intro z; subst z; simp at c
    have hp : 0 < s.length := List.length_pos_iff.mpr hne
    have a1 : atI s (-1) = some (s.getLast hne) := by
      rw [atI_last (by omega) (by omega)]
      have e : (-1 + (s.length : Int)).toNat = s.length - 1 := by omega
      rw [e, ← List.getLast?_eq_getElem?, List.getLast?_eq_getLast hne]
    have m0 := Int.emod_nonneg (x % 7) (show (3 : Int) ≠ 0 by omega)
    have m1 := Int.emod_lt_of_pos (x % 7) (show (0 : Int) < 3 by omega)
    obtain ⟨y, a2⟩ : ∃ y, atI [(1 : Int), (-(1 : Int)), (0 : Int)] ((x % 7) % 3) = some y := by
      rw [atI_eq m0 (by simpa using m1)]
      exact ⟨_, List.getElem?_eq_getElem (by simp; omega)⟩
    rw [a1, Option.bind_some, a2, Option.bind_some, Option.bind_some, Option.bind_some, app_ok hl, Option.bind_some]
    refine ⟨_, rfl, ?_⟩
    split <;> split <;> omega
  · rw [if_neg c, Option.bind_some, app_ok hl, Option.bind_some]
    exact ⟨_, rfl, by omega, by omega⟩
theorem hooks_inner {n : Int} (n2 : 2 ≤ n) : ∀ {xs s : List Int}, (∀ x, x ∈ xs → 0 ≤ x) → RowOk n s → s.length + xs.length < lim → ∃ s', forR (l_hooks_for2 n) s xs = some (.inl s') ∧ RowOk n s' ∧ s'.length ≤ s.length + xs.length
  | [], s, _, h, _ => ⟨s, rfl, h, by simp⟩
  | x :: xs, s, hx, h, hl => by
    rw [List.length_cons] at hl
    obtain ⟨i, e, i0, i1⟩ := hooks_turn n2 (hx x List.mem_cons_self) h (by omega)
    obtain ⟨s', e', r, l⟩ := hooks_inner n2 (xs := xs) (s := s ++ [i]) (fun y hy => hx y (List.mem_cons_of_mem _ hy)) (fun j hj => by
      rcases List.mem_append.mp hj with z | z
      · exact h j z
      · have : j = i := by simpa using z
        subst this; exact ⟨i0, i1⟩) (by rw [List.length_append, List.length_singleton]; omega)
    refine ⟨s', ?_, r, ?_⟩
    · rw [forR_go e]; exact e'
    · rw [List.length_append, List.length_singleton] at l
      rw [List.length_cons]
      omega
theorem hooks_outer {n k z : Int} {ns : List Int} (n2 : 2 ≤ n) (k0 : 0 ≤ k) (hns : ns.length ≤ 63) : ∀ {xs s : List Int}, (∀ x, x ∈ xs → 0 ≤ x) → RowOk n s → s.length + 12 * xs.length < 1000 → ∃ s', forR (l_hooks_for1 ns k n z) s xs = some (.inl s') ∧ RowOk n s' ∧ s'.length ≤ s.length + 12 * xs.length
  | [], s, _, h, _ => ⟨s, rfl, h, by simp⟩
  | x :: xs, s, hx, h, hl => by
    rw [List.length_cons] at hl
    have x0 := hx x List.mem_cons_self
    obtain ⟨ds, e1, dg⟩ := digits_ok (ns := ns) (k := k + x / 12) (ss := List.replicate 12 97) (by omega) hns (fun s hs => by rw [(List.mem_replicate.mp hs).2]; decide) (by simp)
    have l12 := dg.len
    rw [List.length_replicate] at l12
    have nn := dg.nonneg
    obtain ⟨s1, e2, r1, l1⟩ := hooks_inner n2 (xs := cutA ds none (some (z - x))) (s := s) (fun y hy => nn y (List.mem_of_mem_drop (List.mem_of_mem_take hy))) h (by
      have := cutA_len (xs := ds) (lo := none) (hi := some (z - x))
      unfold lim
      omega)
    have c := cutA_len (xs := ds) (lo := none) (hi := some (z - x))
    obtain ⟨s', e', r, l⟩ := hooks_outer n2 k0 hns (z := z) (xs := xs) (s := s1) (fun y hy => hx y (List.mem_cons_of_mem _ hy)) r1 (by omega)
    refine ⟨s', ?_, r, by rw [List.length_cons]; omega⟩
    have t : l_hooks_for1 ns k n z s x = some (.inl s1) := by
      unfold l_hooks_for1
      rw [e1, Option.bind_some]
      unfold bindR
      rw [e2]
      rfl
    rw [forR_go t]
    exact e'
theorem rng3_nonneg {z x : Int} (h : x ∈ rng3 0 z 12) : 0 ≤ x := by
  unfold rng3 at h
  obtain ⟨i, _, rfl⟩ := List.mem_map.mp h
  omega
theorem rng3_len12 {z : Int} (h0 : 0 ≤ z) (h : z ≤ 60) : (rng3 0 z 12).length ≤ 5 := by
  unfold rng3 rng3N
  rw [List.length_map, List.length_range, if_pos (by decide)]
  split
  · omega
  · omega
theorem hooks_ok {n k z : Int} {ns : List Int} (n2 : 2 ≤ n) (k0 : 0 ≤ k) (hns : ns.length ≤ 63) (z0 : 0 ≤ z) (z1 : z ≤ 60) : ∃ row, l_hooks ns k n z = some row ∧ RowOk n row ∧ row.length ≤ 60 := by
  have l := rng3_len12 z0 z1
  obtain ⟨s', e, r, l'⟩ := hooks_outer (z := z) n2 k0 hns (xs := rng3 0 z 12) (s := []) (fun x hx => rng3_nonneg hx) (fun i hi => by cases hi) (by simp; omega)
  refine ⟨s', ?_, r, by simp at l'; omega⟩
  unfold l_hooks
  rw [grd_true (rngOk_of (by omega) (by omega)), Option.bind_some]
  unfold bindR
  rw [e]
  rfl
/-! ### the law -/
theorem row_app {n : Int} {a b : List Int} (h1 : RowOk n a) (h2 : RowOk n b) : RowOk n (a ++ b) := fun i hi => by
  rcases List.mem_append.mp hi with z | z
  · exact h1 i z
  · exact h2 i z
theorem row_cons {n i : Int} {b : List Int} (h1 : 0 ≤ i ∧ i + 1 < n) (h2 : RowOk n b) : RowOk n (i :: b) := fun j hj => by
  rcases List.mem_cons.mp hj with z | z
  · rw [z]; exact h1
  · exact h2 j z
theorem row_nil {n : Int} : RowOk n [] := fun j hj => by cases hj
theorem mk_ft {n : Int} {row : List Int} (h1 : 1 ≤ n) (h10 : n ≤ 10) (hr : RowOk n row) : FT (2 * n) (mk n row).1 := (made_ok h1 h10 hr).2
theorem ex_twice {n i : Int} {a d : List Int} (n1 : 1 ≤ n) (h10 : n ≤ 10) (ha : RowOk n a) (hd : RowOk n d) (hi : 0 ≤ i ∧ i + 1 < n) :
    lst (2 * n) (mk n ((a ++ [i]) ++ d)).1 = lst (2 * n) (mk n ((a ++ [i, i]) ++ d)).1 ∧ (mk n ((a ++ [i, i]) ++ d)).2 = (mk n ((a ++ [i]) ++ d)).2 + 1 := by
  have f := mk_ft n1 h10 ha
  refine mk_between n1 hd ?_ ?_
  · rw [mk_app, mk_app]
    show Eqv (2 * n) (act (n + i) (mk n a).1) (act (n + i) (act (n + i) (mk n a).1))
    rw [act_act f (by omega) (by omega)]
    exact fun _ _ _ => rfl
  · rw [mk_app, mk_app]
    show (mk n a).2 + ring (n + i) (mk n a).1 + ring (n + i) (act (n + i) (mk n a).1) = (mk n a).2 + ring (n + i) (mk n a).1 + 1
    rw [ring_act]
theorem ex_beside {n i j : Int} {a d : List Int} (n1 : 1 ≤ n) (h10 : n ≤ 10) (ha : RowOk n a) (hd : RowOk n d) (hi : 0 ≤ i ∧ i + 1 < n) (hj : 0 ≤ j ∧ j + 1 < n) (he : j = i + 1 ∨ i = j + 1) :
    lst (2 * n) (mk n ((a ++ [i]) ++ d)).1 = lst (2 * n) (mk n ((a ++ [i, j, i]) ++ d)).1 ∧ (mk n ((a ++ [i, j, i]) ++ d)).2 = (mk n ((a ++ [i]) ++ d)).2 + 0 := by
  have f := mk_ft n1 h10 ha
  obtain ⟨e1, e2, e3⟩ := act_beside (c := n + i) (e := n + j) f (by omega) (by omega) (by omega) (by omega) (by omega)
  refine mk_between n1 hd ?_ ?_
  · rw [mk_app, mk_app]
    show Eqv (2 * n) (act (n + i) (mk n a).1) (act (n + i) (act (n + j) (act (n + i) (mk n a).1)))
    rw [e1]
    exact fun _ _ _ => rfl
  · rw [mk_app, mk_app]
    show (mk n a).2 + ring (n + i) (mk n a).1 + ring (n + j) (act (n + i) (mk n a).1) + ring (n + i) (act (n + j) (act (n + i) (mk n a).1)) = (mk n a).2 + ring (n + i) (mk n a).1 + 0
    rw [e2, e3]
    omega
theorem ex_far {n i j : Int} {a d : List Int} (n1 : 1 ≤ n) (h10 : n ≤ 10) (ha : RowOk n a) (hd : RowOk n d) (hi : 0 ≤ i ∧ i + 1 < n) (hj : 0 ≤ j ∧ j + 1 < n) (he : j > i + 1 ∨ i > j + 1) :
    lst (2 * n) (mk n ((a ++ [i, j]) ++ d)).1 = lst (2 * n) (mk n ((a ++ [j, i]) ++ d)).1 ∧ (mk n ((a ++ [j, i]) ++ d)).2 = (mk n ((a ++ [i, j]) ++ d)).2 + 0 := by
  have f := mk_ft n1 h10 ha
  obtain ⟨e1, e2⟩ := act_far (c := n + i) (e := n + j) f (by omega) (by omega) (by omega) (by omega) (by omega)
  refine mk_between n1 hd ?_ ?_
  · rw [mk_app, mk_app]
    exact e1
  · rw [mk_app, mk_app]
    show (mk n a).2 + ring (n + j) (mk n a).1 + ring (n + i) (act (n + j) (mk n a).1) = (mk n a).2 + ring (n + i) (mk n a).1 + ring (n + j) (act (n + i) (mk n a).1) + 0
    omega
theorem law_turn {n i j : Int} {a d : List Int} (n2 : 2 ≤ n) (h10 : n ≤ 10) (ha : RowOk n a) (hd : RowOk n d) (la : a.length ≤ 60) (ld : d.length ≤ 60) (hi : 0 ≤ i ∧ i + 1 < n) (hj : 0 ≤ j ∧ j + 1 < n) :
    l_law_for1 n i a d (lst (2 * n) (mk n ((a ++ [i]) ++ d)).1) (mk n ((a ++ [i]) ++ d)).2 () j = some (.inl ()) := by
  have n1 : 1 ≤ n := by omega
  unfold l_law_for1
  have second : (if (decide ((if (j - i) < 0 then -(j - i) else (j - i)) > (1 : Int))) = true then (Option.bind (grd ((a ++ ([i, j])).length ≤ lim)) fun g26 => (Option.bind (grd (((a ++ ([i, j])) ++ d).length ≤ lim)) fun g27 => (Option.bind (p_made n ((a ++ ([i, j])) ++ d)) fun u28 => (Option.bind (grd ((a ++ ([j, i])).length ≤ lim)) fun g29 => (Option.bind (grd (((a ++ ([j, i])) ++ d).length ≤ lim)) fun g30 => (Option.bind (p_made n ((a ++ ([j, i])) ++ d)) fun u31 => (if (!(decide (u28 = u31))) = true then ((some false)).map Sum.inr else (some (Sum.inl ()))))))))) else (some (Sum.inl ()))) = (some (Sum.inl ()) : Option (Unit ⊕ Bool)) := by
    by_cases c : (if (j - i) < 0 then -(j - i) else (j - i)) > (1 : Int)
    · rw [if_pos (decide_eq_true c)]
      have he : j > i + 1 ∨ i > j + 1 := by
        split at c <;> omega
      have r1 : RowOk n ((a ++ [i, j]) ++ d) := row_app (row_app ha (row_cons hi (row_cons hj row_nil))) hd
      have r2 : RowOk n ((a ++ [j, i]) ++ d) := row_app (row_app ha (row_cons hj (row_cons hi row_nil))) hd
      rw [grd_true (by simp [lim]; omega), Option.bind_some, grd_true (by simp [lim]; omega), Option.bind_some, (made_ok n1 h10 r1).1, Option.bind_some, grd_true (by simp [lim]; omega), Option.bind_some, grd_true (by simp [lim]; omega), Option.bind_some, (made_ok n1 h10 r2).1, Option.bind_some]
      obtain ⟨e1, e2⟩ := ex_far n1 h10 ha hd hi hj he
      rw [e1, e2, Int.add_zero]
      simp
    · rw [if_neg (by simpa using c)]
  by_cases c : (if (j - i) < 0 then -(j - i) else (j - i)) = (1 : Int)
  · rw [if_pos (decide_eq_true c)]
    have he : j = i + 1 ∨ i = j + 1 := by
      split at c <;> omega
    have r1 : RowOk n ((a ++ [i, j, i]) ++ d) := row_app (row_app ha (row_cons hi (row_cons hj (row_cons hi row_nil)))) hd
    rw [grd_true (by simp [lim]; omega), Option.bind_some, grd_true (by simp [lim]; omega), Option.bind_some, (made_ok n1 h10 r1).1, Option.bind_some]
    obtain ⟨e1, e2⟩ := ex_beside n1 h10 ha hd hi hj he
    rw [← e1, e2, Int.add_zero, if_neg (by simp)]
    exact second
  · rw [if_neg (by simpa using c)]
    exact second
theorem law_true : ∀ ns : List Int, ns.length ≤ 63 → l_law ns = some true := by
  intro ns hns
  unfold l_law
  rw [Option.bind_some]
  have l63 : (cutA ns none (some 63)).length ≤ 63 := Nat.le_trans cutA_len hns
  generalize cutA ns none (some 63) = ms at l63 ⊢
  obtain ⟨ds, e, dg⟩ := digits_ok (ns := ms) (k := 60) (ss := [9, 10, 10, 9, 9]) (by decide) l63 (fun s hs => by simp at hs; omega) (by decide)
  match ds, dg with
  | [a, b, c, d, t], ⟨a0, a1, b0, b1, c0, c1, d0, d1, t0, t1, _⟩ =>
  rw [e, Option.bind_some]
  show Option.bind (some (a, b, c, d, t)) _ = _
  rw [Option.bind_some, Option.bind_some]
  obtain ⟨A, eA, rA, lA⟩ := hooks_ok (n := 2 + a) (k := 0) (z := b) (by omega) (by decide) l63 b0 (by omega)
  obtain ⟨B, eB, rB, lB⟩ := hooks_ok (n := 2 + a) (k := 2) (z := c) (by omega) (by decide) l63 c0 (by omega)
  rw [eA, Option.bind_some, eB, Option.bind_some, grd_true (by omega), Option.bind_some, Option.bind_some]
  have i0 := Int.emod_nonneg d (show 2 + a - 1 ≠ 0 by omega)
  have i1 := Int.emod_lt_of_pos d (show 0 < 2 + a - 1 by omega)
  have hi : 0 ≤ d % (2 + a - 1) ∧ d % (2 + a - 1) + 1 < 2 + a := ⟨i0, by omega⟩
  generalize d % (2 + a - 1) = i at hi ⊢
  have n1 : 1 ≤ 2 + a := by omega
  have h10 : 2 + a ≤ 10 := by omega
  have r1 : RowOk (2 + a) ((A ++ [i]) ++ B) := row_app (row_app rA (row_cons hi row_nil)) rB
  have r2 : RowOk (2 + a) ((A ++ [i, i]) ++ B) := row_app (row_app rA (row_cons hi (row_cons hi row_nil))) rB
  rw [grd_true (by simp [lim]; omega), Option.bind_some, grd_true (by simp [lim]; omega), Option.bind_some, (made_ok n1 h10 r1).1, Option.bind_some, grd_true (by simp [lim]; omega), Option.bind_some, grd_true (by simp [lim]; omega), Option.bind_some, (made_ok n1 h10 r2).1, Option.bind_some]
  obtain ⟨e1, e2⟩ := ex_twice n1 h10 rA rB hi
  rw [← e1, e2, if_neg (by simp), grd_true (rngOk_of (by omega) (by omega)), Option.bind_some]
  unfold bindR
  rw [forR_all (fun j hj => ?_)]
  · rfl
  · have := mem_rng.mp hj
    exact law_turn (by omega) h10 rA rB lA lB hi ⟨this.1, by omega⟩
end Rb.M_k23

set_option Elab.async false
set_option linter.all false
set_option maxRecDepth 100000
set_option maxHeartbeats 4000000
namespace Rb.M_k23
open PySem PySem.Spec PyProof.Rows L2 Rb
def top (i : Nat) : Stmt := PySem.Challenge.pw_ribbonloft_k23_whole_three_exchanges.main.body.getD i (.Pass ⟨0, 0, 0, 0⟩)
structure Tx (mg : Str → Option Value) : Prop where
  abs : mg "abs" = none
  len : mg "len" = none
  list : mg "list" = none
  max : mg "max" = none
  min : mg "min" = none
  range : mg "range" = none
  tuple : mg "tuple" = none
  MOST_PEGS : ∃ t, mg "MOST_PEGS" = some (.int 10 t)
abbrev encR_p_ask_pegs (_ : Unit) : Out := .nx [.un]
abbrev st_p_ask_pegs : Stmt := top 6
abbrev NN_p_ask_pegs : List Str := ["pegs"]
theorem sc_p_ask_pegs : FnScope NN_p_ask_pegs ["pegs"] (defScope st_p_ask_pegs) := ⟨rfl, rfl, rfl, by decide +kernel, rfl, by decide +kernel, by decide +kernel⟩
abbrev I_p_ask_pegs : List PyData → Rv → Prop := Im (fun (a : (Int)) => [PyData.int a]) (fun (y : Unit) => Rv.sh (eN y)) (fun a => p_ask_pegs a)
theorem fn_p_ask_pegs {P : Program} {w : World} {K : PySem.W.Frag} {mg : Str → Option Value} {base : Heap} {f : Addr} {fd : FuncData} (F : FunD K "ask_pegs" "ask_pegs" (defArgs st_p_ask_pegs) (defBody st_p_ask_pegs) (defScope st_p_ask_pegs) [] [] f fd) (hg : mg "ask_pegs" = some (.ref f)) (T : Tx mg)  : Fn P w K mg base "ask_pegs" 1 I_p_ask_pegs := by
  refine ⟨f, fd, ["pegs"], fn_ok (N := NN_p_ask_pegs) (en := encR_p_ask_pegs) F sc_p_ask_pegs (fun _ => rfl) (fun _ => .inr ⟨rfl, _, rfl⟩) (fun cdv A' outer s H E hr => ⟨_, (pss_cons (ps_if (pt_not (pt_chain op_le op_le pe_int (pv 0) (pe_const (by rfl) T.MOST_PEGS))) pss_never pss_nil) pss_nil), fun v_pegs => ?_⟩), hg, F.kp, F.bindsN fun _ _ _ _ _ _ us hl => match us, hl with | [_], _ => rfl⟩
  exact (show BX K _ [.sh (PyData.int v_pegs)] encR_p_ask_pegs (p_ask_pegs v_pegs) from
   (bx_ifNo (et_not (et_of (ex_chain (p := fun i j => decide (i ≤ j)) (p' := fun i j => decide (i ≤ j)) (fun _ _ => rfl) (fun _ _ => rfl) ex_int (ex_var (i := 0) rfl) ex_int))) (fun _ => (bx_nx (.un .nil) rfl))))
abbrev encR_p_plain (y : (List Int)) : Out := .rt (.sh ((eT PyData.int) y))
abbrev st_p_plain : Stmt := top 7
abbrev NN_p_plain : List Str := ["pegs", "peg"]
theorem sc_p_plain : FnScope NN_p_plain ["pegs"] (defScope st_p_plain) := ⟨rfl, rfl, rfl, by decide +kernel, rfl, by decide +kernel, by decide +kernel⟩
abbrev I_p_plain : List PyData → Rv → Prop := Im (fun (a : (Int)) => [PyData.int a]) (fun (y : (List Int)) => Rv.sh ((eT PyData.int) y)) (fun a => p_plain a)
theorem fn_p_plain {P : Program} {w : World} {K : PySem.W.Frag} {mg : Str → Option Value} {base : Heap} {f : Addr} {fd : FuncData} (F : FunD K "plain" "plain" (defArgs st_p_plain) (defBody st_p_plain) (defScope st_p_plain) [] [] f fd) (hg : mg "plain" = some (.ref f)) (T : Tx mg) (G_ask_pegs : Fn P w K mg base "ask_pegs" 1 I_p_ask_pegs) : Fn P w K mg base "plain" 2 I_p_plain := by
  refine ⟨f, fd, ["pegs"], fn_ok (N := NN_p_plain) (en := encR_p_plain) F sc_p_plain (fun _ => rfl) (fun _ => .inl rfl) (fun cdv A' outer s H E hr => ⟨_, (pss_cons (ps_expr (pe_fn G_ask_pegs (hr.mono (by decide)) (by rfl) (pa_cons (pv 0) pa_nil))) (pss_cons (ps_ret (pe_callTy (call_tupleK (K := K)) (by rfl) T.tuple (by decide +kernel) (pa_cons (pe_lc (own := [("peg", 1)]) (tt := tYes) rfl sc_p_plain.nd (pi_range1 (by rfl) T.range (pa_cons (pe_op op_mul pe_int (pv 0)) pa_nil)) (blkOk_by (N := NN_p_plain) (sc := defScope st_p_plain) (by decide +kernel)) (fun _ _ _ _ _ => (pg_name (i := 1) sc_p_plain.nd rfl (by first | exact Or.inl rfl | exact Or.inr rfl))) (fun _ _ _ _ _ => pts_nil) (fun _ _ _ _ _ => (pe_op op_mod (pe_op op_add (pv 1) (pv 0)) (pe_op op_mul pe_int (pv 0))))) pa_nil))) pss_never)), fun v_pegs => ?_⟩), hg, F.kp, F.bindsN fun _ _ _ _ _ _ us hl => match us, hl with | [_], _ => rfl⟩
  exact (show BX K _ [.sh (PyData.int v_pegs), .un] encR_p_plain (p_plain v_pegs) from
   (bx_bind fun u1 hu1 => (bx_drop (ex_call (ea_cons (ex_var (i := 0) rfl) ea_nil) ⟨v_pegs, u1, rfl, hu1, rfl⟩) (bx_bind fun g2 hg2 => (bx_bind fun u5 hu5 => (bx_retS (ex_tupL (EXw.l (exw_lc (e := PyData.int) (e' := PyData.int) (envB := (fun x3 => [.sh (PyData.int v_pegs), .sh (PyData.int x3)])) (EIs.i (eis_rng1 (ex_mul ex_int (ex_var (i := 0) rfl) (.inl ⟨by decide, by decide⟩)) (grd_ok hg2))) hu5 (fun x3 _ => (egc_name (i := 1) (by decide))) (fun x3 _ => (eto_some et_yes)) (fun x3 _ => (exo_bind fun g4 hg4 => (exo_some (e := PyData.int) (ex_mod (ex_add (ex_var (i := 1) rfl) (ex_var (i := 0) rfl)) (ex_mul ex_int (ex_var (i := 0) rfl) (.inl ⟨by decide, by decide⟩)) (grd_ok hg4)))))))) rfl))))))
abbrev encR_p_followed (y : (Int × (List Int))) : Out := .rt (.sh ((eP PyData.int (eL PyData.int)) y))
abbrev st_p_followed : Stmt := top 9
abbrev NN_p_followed : List Str := ["upper", "lower", "peg", "below", "pegs", "met", "other"]
theorem sc_p_followed : FnScope NN_p_followed ["upper", "lower", "peg", "below"] (defScope st_p_followed) := ⟨rfl, rfl, rfl, by decide +kernel, rfl, by decide +kernel, by decide +kernel⟩
abbrev I_p_followed : List PyData → Rv → Prop := Im (fun (a : ((List Int) × (List Int) × Int × Bool)) => [(eT PyData.int) a.1, (eT PyData.int) a.2.1, PyData.int a.2.2.1, PyData.bool a.2.2.2]) (fun (y : (Int × (List Int))) => Rv.sh ((eP PyData.int (eL PyData.int)) y)) (fun a => p_followed a.1 a.2.1 a.2.2.1 a.2.2.2)
theorem fn_p_followed {P : Program} {w : World} {K : PySem.W.Frag} {mg : Str → Option Value} {base : Heap} {f : Addr} {fd : FuncData} (F : FunD K "followed" "followed" (defArgs st_p_followed) (defBody st_p_followed) (defScope st_p_followed) [] [] f fd) (hg : mg "followed" = some (.ref f)) (T : Tx mg)  : Fn P w K mg base "followed" 1 I_p_followed := by
  refine ⟨f, fd, ["upper", "lower", "peg", "below"], fn_ok (N := NN_p_followed) (en := encR_p_followed) F sc_p_followed (fun _ => rfl) (fun _ => .inl rfl) (fun cdv A' outer s H E hr => ⟨_, (pss_cons (ps_set (i := 4) sc_p_followed.nd rfl (by first | exact Or.inl rfl | exact Or.inr rfl) (pe_op op_fdivW (pe_callB (call_lenK (K := K)) (by rfl) T.len (by decide +kernel) (pa_cons (pv 0) pa_nil)) pe_int)) (pss_cons (ps_set (i := 5) sc_p_followed.nd rfl (by first | exact Or.inl rfl | exact Or.inr rfl) (pe_lst pa_nil)) (pss_cons (ps_while PassesOwn.never (pt_val pe_bl) (pss_cons (ps_set (i := 6) sc_p_followed.nd rfl (by first | exact Or.inl rfl | exact Or.inr rfl) (pe_ifExp (pt_val (pv 3)) (pe_ix (ix_tupK (K := K)) (pv 1) (pv 2) (fun _ _ => rfl)) (pe_ix (ix_tupK (K := K)) (pv 0) (pv 2) (fun _ _ => rfl)))) (pss_cons (ps_if (PW.pt (pw_or (PW.pt (pw_and (pt_val (pv 3)) (pw_and1 (pt_cmpR op_ge (pv 6) (pv 4) (nomark _))))) (pw_or1 (PW.pt (pw_and (pt_not (pt_val (pv 3))) (pw_and1 (pt_cmpR op_lt (pv 6) (pv 4) (nomark _)))))))) (pss_cons (ps_ret (pe_tup (pa_cons (pv 6) (pa_cons (pv 5) pa_nil)))) pss_never) pss_nil) (pss_cons (ps_expr (pe_bm PySem.F.plainAttrs_list PySem.F.slot_list_append PySem.F.type_list_append mt_append (pv 5) (pa_cons (pe_ifExp (pt_val (pv 3)) (pv 6) (pe_op op_sub (pv 6) (pv 4))) pa_nil))) (pss_cons (ps_set (i := 2) sc_p_followed.nd rfl (by first | exact Or.inl rfl | exact Or.inr rfl) (pe_ifExp (pt_val (pv 3)) (pe_op op_add (pv 6) (pv 4)) (pe_op op_sub (pv 6) (pv 4)))) (pss_cons (ps_set (i := 3) sc_p_followed.nd rfl (by first | exact Or.inl rfl | exact Or.inr rfl) (pe_not (pv 3))) pss_nil)))))) pss_never))), fun a => ?_⟩), hg, F.kp, F.bindsN fun _ _ _ _ _ _ us hl => match us, hl with | [_, _, _, _], _ => rfl⟩
  obtain ⟨v_upper, v_lower, v_peg, v_below⟩ := a
  exact (show BX K _ [.sh ((eT PyData.int) v_upper), .sh ((eT PyData.int) v_lower), .sh (PyData.int v_peg), .sh (PyData.bool v_below), .un, .un, .un] encR_p_followed (p_followed v_upper v_lower v_peg v_below) from
   (bx_asgB (e := PyData.int) (i := 4) (ex_fdiv (ex_lenT (ex_var (i := 0) rfl)) ex_int ⟨by decide, by decide +kernel⟩) (fun v_pegs_1 => (bx_asgW (exw_lst (ds := (([] : (List Int)) : (List Int)).map PyData.int) ea_nil (Nat.le_of_ble_eq_true rfl)) (bx_bindR (envS := (fun (s : Int × Bool × (List Int)) => [.sh ((eT PyData.int) v_upper), .sh ((eT PyData.int) v_lower), .sh (PyData.int s.1), .sh (PyData.bool s.2.1), .sh (PyData.int v_pegs_1), .ow (s.2.2.map PyData.int), .un])) (encR := encR_p_followed) (bx_whR (encR := encR_p_followed) (envS := (fun (s : Int × Bool × (List Int)) => [.sh ((eT PyData.int) v_upper), .sh ((eT PyData.int) v_lower), .sh (PyData.int s.1), .sh (PyData.bool s.2.1), .sh (PyData.int v_pegs_1), .ow (s.2.2.map PyData.int), .un])) (cc := (p_followed_while1_c v_upper v_lower v_pegs_1)) (f := (p_followed_while1 v_upper v_lower v_pegs_1)) (.same (.same (.same (.same (.same (.same (.un .nil))))))) (fun _ => ⟨_, rfl⟩) (fun s => (eto_some (et_B ex_bl))) (fun s => (bx_bind fun c4 hc4 => (bx_asg (d := PyData.int c4) (exo_if (e := PyData.int) (et_B (ex_var (i := 3) rfl)) (fun _ => (exo_bind fun u2 hu2 => (exo_some (e := PyData.int) (ex_ixT (ex_var (i := 1) rfl) (ex_var (i := 2) rfl) (atI_map hu2))))) (fun _ => (exo_bind fun u3 hu3 => (exo_some (e := PyData.int) (ex_ixT (ex_var (i := 0) rfl) (ex_var (i := 2) rfl) (atI_map hu3))))) c4 hc4) (EGc.eg (egc_name (i := 6) (vs := [6]) (by decide))) (bx_ifRetM (encR := encR_p_followed) (et_or (et_and (et_B (ex_var (i := 3) rfl)) (et_of (ex_ge (ex_var (i := 6) rfl) (ex_var (i := 4) rfl)))) (et_and (et_not (et_B (ex_var (i := 3) rfl))) (et_of (ex_lt (ex_var (i := 6) rfl) (ex_var (i := 4) rfl))))) (fun _ => (bx_freeze 5 rfl (bx_retS (ex_tup (ea_cons (ex_var (i := 6) rfl) (ea_cons (ex_var (i := 5) rfl) ea_nil)) (Nat.le_of_ble_eq_true rfl)) rfl))) (fun _ _ h => nomatch h) (fun _ => rfl) (fun _ => (bx_bind fun u5 hu5 => (bx_app (e := PyData.int) rfl (ex_if (e := PyData.int) (et_B (ex_var (i := 3) rfl)) (ex_var (i := 6) rfl) (ex_sub (ex_var (i := 6) rfl) (ex_var (i := 4) rfl))) hu5 (bx_asgB (e := PyData.int) (i := 2) (ex_if (e := PyData.int) (et_B (ex_var (i := 3) rfl)) (ex_add (ex_var (i := 6) rfl) (ex_var (i := 4) rfl)) (ex_sub (ex_var (i := 6) rfl) (ex_var (i := 4) rfl))) (fun v_peg_6 => (bx_asgB (e := PyData.bool) (i := 3) (ex_notV (ex_var (i := 3) rfl)) (fun v_below_7 => (bx_nx (.same (.same (.same (.same (.same (.same (.un .nil))))))) rfl))))))))))))) (fun _ => rfl) (fun _ _ h => nomatch h) (fun s8 _ => bx_none))))))
abbrev encR_p_rings_left (y : Int) : Out := .rt (.sh (PyData.int y))
abbrev st_p_rings_left : Stmt := top 10
abbrev NN_p_rings_left : List Str := ["upper", "lower", "seen", "pegs", "found", "left", "peg", "other"]
theorem sc_p_rings_left : FnScope NN_p_rings_left ["upper", "lower", "seen"] (defScope st_p_rings_left) := ⟨rfl, rfl, rfl, by decide +kernel, rfl, by decide +kernel, by decide +kernel⟩
abbrev I_p_rings_left : List PyData → Rv → Prop := Im (fun (a : ((List Int) × (List Int) × (List Int))) => [(eT PyData.int) a.1, (eT PyData.int) a.2.1, (eL PyData.int) a.2.2]) (fun (y : Int) => Rv.sh (PyData.int y)) (fun a => p_rings_left a.1 a.2.1 a.2.2)
theorem fn_p_rings_left {P : Program} {w : World} {K : PySem.W.Frag} {mg : Str → Option Value} {base : Heap} {f : Addr} {fd : FuncData} (F : FunD K "rings_left" "rings_left" (defArgs st_p_rings_left) (defBody st_p_rings_left) (defScope st_p_rings_left) [] [] f fd) (hg : mg "rings_left" = some (.ref f)) (T : Tx mg)  : Fn P w K mg base "rings_left" 1 I_p_rings_left := by
  refine ⟨f, fd, ["upper", "lower", "seen"], fn_ok (N := NN_p_rings_left) (en := encR_p_rings_left) F sc_p_rings_left (fun _ => rfl) (fun _ => .inl rfl) (fun cdv A' outer s H E hr => ⟨_, (pss_cons (ps_set (i := 3) sc_p_rings_left.nd rfl (by first | exact Or.inl rfl | exact Or.inr rfl) (pe_op op_fdivW (pe_callB (call_lenK (K := K)) (by rfl) T.len (by decide +kernel) (pa_cons (pv 0) pa_nil)) pe_int)) (pss_cons (ps_set (i := 4) sc_p_rings_left.nd rfl (by first | exact Or.inl rfl | exact Or.inr rfl) pe_int) (pss_cons (ps_setLc (i := 5) (own := [("peg", 6)]) rfl sc_p_rings_left.nd rfl rfl (sw_true rfl rfl rfl (by decide +kernel)) (pi_range1 (by rfl) T.range (pa_cons (pv 3) pa_nil)) (blkOk_by (N := NN_p_rings_left) (sc := defScope st_p_rings_left) (by decide +kernel)) (fun _ _ _ _ _ => (pg_name (i := 6) sc_p_rings_left.nd rfl (by first | exact Or.inl rfl | exact Or.inr rfl))) (fun _ _ _ _ _ => (pts_one (pt_cmpR (op_notInK (K := K)) (pv 6) (pv 2) (by rfl)))) (fun _ _ _ _ _ => (pv 6))) (pss_cons (ps_while PassesOwn.never (pt_cmpR (op_neDK (K := K) hr.units) (pv 5) (pe_lst pa_nil) (nomark _)) (pss_cons (ps_set (i := 4) sc_p_rings_left.nd rfl (by first | exact Or.inl rfl | exact Or.inr rfl) (pe_op op_add (pv 4) pe_int)) (pss_cons (ps_set (i := 6) sc_p_rings_left.nd rfl (by first | exact Or.inl rfl | exact Or.inr rfl) (pe_ix (ix_listK (K := K)) (pv 5) pe_int (fun _ _ => rfl))) (pss_cons (ps_while PassesOwn.never (pt_cmpR (op_inK (K := K)) (pv 6) (pv 5) (by rfl)) (pss_cons (ps_expr (pe_bm PySem.F.plainAttrs_list PySem.F.slot_list_remove PySem.F.type_list_remove mt_remove (pv 5) (pa_cons (pv 6) pa_nil))) (pss_cons (ps_set (i := 7) sc_p_rings_left.nd rfl (by first | exact Or.inl rfl | exact Or.inr rfl) (pe_ix (ix_tupK (K := K)) (pv 1) (pv 6) (fun _ _ => rfl))) (pss_cons (ps_expr (pe_bm PySem.F.plainAttrs_list PySem.F.slot_list_remove PySem.F.type_list_remove mt_remove (pv 5) (pa_cons (pv 7) pa_nil))) (pss_cons (ps_set (i := 6) sc_p_rings_left.nd rfl (by first | exact Or.inl rfl | exact Or.inr rfl) (pe_op op_sub (pe_ix (ix_tupK (K := K)) (pv 0) (pe_op op_add (pv 3) (pv 7)) (fun _ _ => rfl)) (pv 3))) pss_nil))))) pss_nil)))) (pss_cons (ps_ret (pv 4)) pss_never))))), fun a => ?_⟩), hg, F.kp, F.bindsN fun _ _ _ _ _ _ us hl => match us, hl with | [_, _, _], _ => rfl⟩
  obtain ⟨v_upper, v_lower, v_seen⟩ := a
  exact (show BX K _ [.sh ((eT PyData.int) v_upper), .sh ((eT PyData.int) v_lower), .sh ((eL PyData.int) v_seen), .un, .un, .un, .un, .un] encR_p_rings_left (p_rings_left v_upper v_lower v_seen) from
   (bx_asgB (e := PyData.int) (i := 3) (ex_fdiv (ex_lenT (ex_var (i := 0) rfl)) ex_int ⟨by decide, by decide +kernel⟩) (fun v_pegs_1 => (bx_asg (d := PyData.int (0 : Int)) ex_int (EGc.eg (egc_name (i := 4) (vs := [4]) (by decide))) (bx_bind fun g2 hg2 => (bx_asgWB (e := PyData.int) (i := 5) (exw_lcp (e := PyData.int) (e' := PyData.int) (envB := (fun x3 => [.sh ((eT PyData.int) v_upper), .sh ((eT PyData.int) v_lower), .sh ((eL PyData.int) v_seen), .sh (PyData.int v_pegs_1), .sh (PyData.int (0 : Int)), .un, .sh (PyData.int x3), .un])) (EIs.i (eis_rng1 (ex_var (i := 3) rfl) (grd_ok hg2))) (fun x3 _ => (egc_name (i := 6) (by decide))) (fun x3 _ => (et_of (ex_ninL (ex_var (i := 6) rfl) (EX.l (ex_var (i := 2) rfl))))) (fun x3 _ => (ex_var (i := 6) rfl))) (fun v_left_4 => (bx_then (envS := (fun (s : Int × (List Int)) => [.sh ((eT PyData.int) v_upper), .sh ((eT PyData.int) v_lower), .sh ((eL PyData.int) v_seen), .sh (PyData.int v_pegs_1), .sh (PyData.int s.1), .ow (s.2.map PyData.int), .un, .un])) (bx_whS (envS := (fun (s : Int × (List Int)) => [.sh ((eT PyData.int) v_upper), .sh ((eT PyData.int) v_lower), .sh ((eL PyData.int) v_seen), .sh (PyData.int v_pegs_1), .sh (PyData.int s.1), .ow (s.2.map PyData.int), .un, .un])) (cc := (p_rings_left_while1_c v_upper v_lower v_pegs_1)) (f := (p_rings_left_while1 v_upper v_lower v_pegs_1)) (.same (.same (.same (.same (.same (.same (.un (.un .nil)))))))) (fun s => (eto_some (et_of (ex_neT (EnOk.list EnOk.int) (EXl.q (exl_var (i := 5) rfl)) (EXl.q (EXw.l (exw_lst (ds := (([] : (List Int)) : (List Int)).map PyData.int) ea_nil (Nat.le_of_ble_eq_true rfl)))))))) (fun s => (bx_asgB (e := PyData.int) (i := 4) (ex_add (ex_var (i := 4) rfl) ex_int) (fun v_found_5 => (bx_bind fun u6 hu6 => (bx_asg (d := PyData.int u6) (ex_ixL (exl_var (i := 5) rfl) ex_int (atI_map hu6)) (EGc.eg (egc_name (i := 6) (vs := [6]) (by decide))) (bx_then (envS := (fun (s : (List Int) × Int) => [.sh ((eT PyData.int) v_upper), .sh ((eT PyData.int) v_lower), .sh ((eL PyData.int) v_seen), .sh (PyData.int v_pegs_1), .sh (PyData.int v_found_5), .ow (s.1.map PyData.int), .sh (PyData.int s.2), .un])) (bx_whS (envS := (fun (s : (List Int) × Int) => [.sh ((eT PyData.int) v_upper), .sh ((eT PyData.int) v_lower), .sh ((eL PyData.int) v_seen), .sh (PyData.int v_pegs_1), .sh (PyData.int v_found_5), .ow (s.1.map PyData.int), .sh (PyData.int s.2), .un])) (cc := (p_rings_left_while2_c v_upper v_lower v_pegs_1)) (f := (p_rings_left_while2 v_upper v_lower v_pegs_1)) (.same (.same (.same (.same (.same (.same (.same (.un .nil)))))))) (fun s => (eto_some (et_of (ex_inL (ex_var (i := 6) rfl) (exl_var (i := 5) rfl))))) (fun s => (bx_bind fun u7 hu7 => (bx_rem rfl (ex_var (i := 6) rfl) hu7 (bx_bind fun u8 hu8 => (bx_asg (d := PyData.int u8) (ex_ixT (ex_var (i := 1) rfl) (ex_var (i := 6) rfl) (atI_map hu8)) (EGc.eg (egc_name (i := 7) (vs := [7]) (by decide))) (bx_bind fun u9 hu9 => (bx_rem rfl (ex_var (i := 7) rfl) hu9 (bx_bind fun u10 hu10 => (bx_asgB (e := PyData.int) (i := 6) (ex_sub (ex_ixT (ex_var (i := 0) rfl) (ex_add (ex_var (i := 3) rfl) (ex_var (i := 7) rfl)) (atI_map hu10)) (ex_var (i := 3) rfl)) (fun v_peg_11 => (bx_nx (.same (.same (.same (.same (.same (.same (.same (.un .nil)))))))) rfl)))))))))))) (fun s12 _ => (bx_nx (.same (.same (.same (.same (.same (.same (.un (.un .nil)))))))) rfl))))))))) (fun s13 _ => (bx_retS (ex_var (i := 4) rfl) rfl))))))))))
abbrev encR_p_put_together (y : ((List Int) × Int)) : Out := .rt (.sh ((eP (eT PyData.int) PyData.int) y))
abbrev st_p_put_together : Stmt := top 11
abbrev NN_p_put_together : List Str := ["upper", "lower", "pegs", "found", "seen", "peg", "other", "met"]
theorem sc_p_put_together : FnScope NN_p_put_together ["upper", "lower"] (defScope st_p_put_together) := ⟨rfl, rfl, rfl, by decide +kernel, rfl, by decide +kernel, by decide +kernel⟩
abbrev I_p_put_together : List PyData → Rv → Prop := Im (fun (a : ((List Int) × (List Int))) => [(eT PyData.int) a.1, (eT PyData.int) a.2]) (fun (y : ((List Int) × Int)) => Rv.sh ((eP (eT PyData.int) PyData.int) y)) (fun a => p_put_together a.1 a.2)
theorem fn_p_put_together {P : Program} {w : World} {K : PySem.W.Frag} {mg : Str → Option Value} {base : Heap} {f : Addr} {fd : FuncData} (F : FunD K "put_together" "put_together" (defArgs st_p_put_together) (defBody st_p_put_together) (defScope st_p_put_together) [] [] f fd) (hg : mg "put_together" = some (.ref f)) (T : Tx mg) (G_followed : Fn P w K mg base "followed" 1 I_p_followed) (G_rings_left : Fn P w K mg base "rings_left" 1 I_p_rings_left) : Fn P w K mg base "put_together" 2 I_p_put_together := by
  refine ⟨f, fd, ["upper", "lower"], fn_ok (N := NN_p_put_together) (en := encR_p_put_together) F sc_p_put_together (fun _ => rfl) (fun _ => .inl rfl) (fun cdv A' outer s H E hr => ⟨_, (pss_cons (ps_set (i := 2) sc_p_put_together.nd rfl (by first | exact Or.inl rfl | exact Or.inr rfl) (pe_op op_fdivW (pe_callB (call_lenK (K := K)) (by rfl) T.len (by decide +kernel) (pa_cons (pv 0) pa_nil)) pe_int)) (pss_cons (ps_set (i := 3) sc_p_put_together.nd rfl (by first | exact Or.inl rfl | exact Or.inr rfl) (pe_lst pa_nil)) (pss_cons (ps_set (i := 4) sc_p_put_together.nd rfl (by first | exact Or.inl rfl | exact Or.inr rfl) (pe_lst pa_nil)) (pss_cons (ps_for PassesOwn.never rfl (pi_range1 (by rfl) T.range (pa_cons (pe_op op_mul pe_int (pv 2)) pa_nil)) (pg_name (i := 5) sc_p_put_together.nd rfl (by first | exact Or.inl rfl | exact Or.inr rfl)) (pss_cons (ps_asg (pe_fn G_followed (hr.mono (by decide)) (by rfl) (pa_cons (pv 0) (pa_cons (pv 1) (pa_cons (pv 5) (pa_cons (pe_cmpR op_ge (pv 5) (pv 2) (nomark _)) pa_nil))))) (pg_tupK (K := K) (by rfl) (pgs_cons (pg_name (i := 6) sc_p_put_together.nd rfl (by first | exact Or.inl rfl | exact Or.inr rfl)) (pgs_cons (pg_name (i := 7) sc_p_put_together.nd rfl (by first | exact Or.inl rfl | exact Or.inr rfl)) pgs_nil)))) (pss_cons (ps_expr (pe_bm PySem.F.plainAttrs_list PySem.F.slot_list_append PySem.F.type_list_append mt_append (pv 3) (pa_cons (pv 6) pa_nil))) (pss_cons (ps_expr (pe_bm PySem.F.plainAttrs_list PySem.F.slot_list_extend PySem.F.type_list_extend mt_extend (pv 4) (pa_cons (pv 7) pa_nil))) pss_nil)))) (pss_cons (ps_ret (pe_tup (pa_cons (pe_callTy (call_tupleK (K := K)) (by rfl) T.tuple (by decide +kernel) (pa_cons (pv 3) pa_nil)) (pa_cons (pe_fn G_rings_left (hr.mono (by decide)) (by rfl) (pa_cons (pv 0) (pa_cons (pv 1) (pa_cons (pv 4) pa_nil)))) pa_nil)))) pss_never))))), fun a => ?_⟩), hg, F.kp, F.bindsN fun _ _ _ _ _ _ us hl => match us, hl with | [_, _], _ => rfl⟩
  obtain ⟨v_upper, v_lower⟩ := a
  exact (show BX K _ [.sh ((eT PyData.int) v_upper), .sh ((eT PyData.int) v_lower), .un, .un, .un, .un, .un, .un] encR_p_put_together (p_put_together v_upper v_lower) from
   (bx_asgB (e := PyData.int) (i := 2) (ex_fdiv (ex_lenT (ex_var (i := 0) rfl)) ex_int ⟨by decide, by decide +kernel⟩) (fun v_pegs_1 => (bx_asgW (exw_lst (ds := (([] : (List Int)) : (List Int)).map PyData.int) ea_nil (Nat.le_of_ble_eq_true rfl)) (bx_asgW (exw_lst (ds := (([] : (List Int)) : (List Int)).map PyData.int) ea_nil (Nat.le_of_ble_eq_true rfl)) (bx_bind fun g2 hg2 => (bx_then (envS := (fun (s : (List Int) × (List Int)) => [.sh ((eT PyData.int) v_upper), .sh ((eT PyData.int) v_lower), .sh (PyData.int v_pegs_1), .ow (s.1.map PyData.int), .ow (s.2.map PyData.int), .un, .un, .un])) (bx_forS (envS := (fun (s : (List Int) × (List Int)) => [.sh ((eT PyData.int) v_upper), .sh ((eT PyData.int) v_lower), .sh (PyData.int v_pegs_1), .ow (s.1.map PyData.int), .ow (s.2.map PyData.int), .un, .un, .un])) (e := PyData.int) (envB := (fun (s : (List Int) × (List Int)) (x3 : Int) => [.sh ((eT PyData.int) v_upper), .sh ((eT PyData.int) v_lower), .sh (PyData.int v_pegs_1), .ow (s.1.map PyData.int), .ow (s.2.map PyData.int), .sh (PyData.int x3), .un, .un])) (f := (p_put_together_for1 v_upper v_lower v_pegs_1)) (eis_rng1 (ex_mul ex_int (ex_var (i := 2) rfl) (.inl ⟨by decide, by decide⟩)) (grd_ok hg2)) (.same (.same (.same (.same (.same (.un (.un (.un .nil)))))))) (fun s x3 _ => EGc.eg (vs := [5]) (egc_name (i := 5) (by decide))) (fun s x3 _ => (bx_bind fun u4 hu4 => (bx_asg (d := (eP PyData.int (eL PyData.int)) u4) (ex_call (ea_cons (ex_var (i := 0) rfl) (ea_cons (ex_var (i := 1) rfl) (ea_cons (ex_var (i := 5) rfl) (ea_cons (ex_ge (ex_var (i := 5) rfl) (ex_var (i := 2) rfl)) ea_nil)))) ⟨(v_upper, v_lower, x3, (decide (x3 ≥ v_pegs_1))), u4, rfl, hu4, rfl⟩) (EGc.eg (vs := [6, 7]) (egc_tup (egs_cons (egc_name (i := 6) (by decide)) (egs_cons (egc_name (i := 7) (by decide)) egs_nil)) rfl)) (bx_bind fun u5 hu5 => (bx_app (e := PyData.int) rfl (ex_var (i := 6) rfl) hu5 (bx_bind fun u6 hu6 => (bx_ext (e := PyData.int) rfl (EX.l (ex_var (i := 7) rfl)) hu6 (bx_nx (.same (.same (.same (.same (.same (.un (.un (.un .nil)))))))) rfl))))))))) (fun s7 _ => (bx_freeze 4 rfl (bx_bind fun u8 hu8 => (bx_retS (ex_tup (ea_cons (ex_tupL (exl_var (i := 3) rfl)) (ea_cons (ex_call (ea_cons (ex_var (i := 0) rfl) (ea_cons (ex_var (i := 1) rfl) (ea_cons (ex_var (i := 4) rfl) ea_nil))) ⟨(v_upper, v_lower, s7.2), u8, rfl, hu8, rfl⟩) ea_nil)) (Nat.le_of_ble_eq_true rfl)) rfl)))))))))))
abbrev encR_p_ask_hook (_ : Unit) : Out := .nx [.un, .un]
abbrev st_p_ask_hook : Stmt := top 13
abbrev NN_p_ask_hook : List Str := ["pegs", "number"]
theorem sc_p_ask_hook : FnScope NN_p_ask_hook ["pegs", "number"] (defScope st_p_ask_hook) := ⟨rfl, rfl, rfl, by decide +kernel, rfl, by decide +kernel, by decide +kernel⟩
abbrev I_p_ask_hook : List PyData → Rv → Prop := Im (fun (a : (Int × Int)) => [PyData.int a.1, PyData.int a.2]) (fun (y : Unit) => Rv.sh (eN y)) (fun a => p_ask_hook a.1 a.2)
theorem fn_p_ask_hook {P : Program} {w : World} {K : PySem.W.Frag} {mg : Str → Option Value} {base : Heap} {f : Addr} {fd : FuncData} (F : FunD K "ask_hook" "ask_hook" (defArgs st_p_ask_hook) (defBody st_p_ask_hook) (defScope st_p_ask_hook) [] [] f fd) (hg : mg "ask_hook" = some (.ref f)) (T : Tx mg)  : Fn P w K mg base "ask_hook" 1 I_p_ask_hook := by
  refine ⟨f, fd, ["pegs", "number"], fn_ok (N := NN_p_ask_hook) (en := encR_p_ask_hook) F sc_p_ask_hook (fun _ => rfl) (fun _ => .inr ⟨rfl, _, rfl⟩) (fun cdv A' outer s H E hr => ⟨_, (pss_cons (ps_if (pt_not (pt_chain op_le op_lt pe_int (pv 1) (pe_op op_sub (pv 0) pe_int))) pss_never pss_nil) pss_nil), fun a => ?_⟩), hg, F.kp, F.bindsN fun _ _ _ _ _ _ us hl => match us, hl with | [_, _], _ => rfl⟩
  obtain ⟨v_pegs, v_number⟩ := a
  exact (show BX K _ [.sh (PyData.int v_pegs), .sh (PyData.int v_number)] encR_p_ask_hook (p_ask_hook v_pegs v_number) from
   (bx_ifNo (et_not (et_of (ex_chain (p := fun i j => decide (i ≤ j)) (p' := fun i j => decide (i < j)) (fun _ _ => rfl) (fun _ _ => rfl) ex_int (ex_var (i := 1) rfl) (ex_sub (ex_var (i := 0) rfl) ex_int)))) (fun _ => (bx_nx (.un (.un .nil)) rfl))))
abbrev encR_p_ask_row (_ : Unit) : Out := .nx [.un, .un, .un]
abbrev st_p_ask_row : Stmt := top 14
abbrev NN_p_ask_row : List Str := ["pegs", "row", "number"]
theorem sc_p_ask_row : FnScope NN_p_ask_row ["pegs", "row"] (defScope st_p_ask_row) := ⟨rfl, rfl, rfl, by decide +kernel, rfl, by decide +kernel, by decide +kernel⟩
abbrev I_p_ask_row : List PyData → Rv → Prop := Im (fun (a : (Int × (List Int))) => [PyData.int a.1, (eL PyData.int) a.2]) (fun (y : Unit) => Rv.sh (eN y)) (fun a => p_ask_row a.1 a.2)
theorem fn_p_ask_row {P : Program} {w : World} {K : PySem.W.Frag} {mg : Str → Option Value} {base : Heap} {f : Addr} {fd : FuncData} (F : FunD K "ask_row" "ask_row" (defArgs st_p_ask_row) (defBody st_p_ask_row) (defScope st_p_ask_row) [] [] f fd) (hg : mg "ask_row" = some (.ref f)) (T : Tx mg) (G_ask_pegs : Fn P w K mg base "ask_pegs" 1 I_p_ask_pegs) (G_ask_hook : Fn P w K mg base "ask_hook" 1 I_p_ask_hook) : Fn P w K mg base "ask_row" 2 I_p_ask_row := by
  refine ⟨f, fd, ["pegs", "row"], fn_ok (N := NN_p_ask_row) (en := encR_p_ask_row) F sc_p_ask_row (fun _ => rfl) (fun _ => .inr ⟨rfl, _, rfl⟩) (fun cdv A' outer s H E hr => ⟨_, (pss_cons (ps_expr (pe_fn G_ask_pegs (hr.mono (by decide)) (by rfl) (pa_cons (pv 0) pa_nil))) (pss_cons (ps_for PassesOwn.never rfl (pi_listK (K := K) (pv 1)) (pg_name (i := 2) sc_p_ask_row.nd rfl (by first | exact Or.inl rfl | exact Or.inr rfl)) (pss_cons (ps_expr (pe_fn G_ask_hook (hr.mono (by decide)) (by rfl) (pa_cons (pv 0) (pa_cons (pv 2) pa_nil)))) pss_nil)) pss_nil)), fun a => ?_⟩), hg, F.kp, F.bindsN fun _ _ _ _ _ _ us hl => match us, hl with | [_, _], _ => rfl⟩
  obtain ⟨v_pegs, v_row⟩ := a
  exact (show BX K _ [.sh (PyData.int v_pegs), .sh ((eL PyData.int) v_row), .un] encR_p_ask_row (p_ask_row v_pegs v_row) from
   (bx_bind fun u1 hu1 => (bx_drop (ex_call (ea_cons (ex_var (i := 0) rfl) ea_nil) ⟨v_pegs, u1, rfl, hu1, rfl⟩) (bx_then (envS := (fun (s : Unit) => [.sh (PyData.int v_pegs), .sh ((eL PyData.int) v_row), .un])) (bx_forS (envS := (fun (s : Unit) => [.sh (PyData.int v_pegs), .sh ((eL PyData.int) v_row), .un])) (e := PyData.int) (envB := (fun (s : Unit) (x2 : Int) => [.sh (PyData.int v_pegs), .sh ((eL PyData.int) v_row), .sh (PyData.int x2)])) (f := (p_ask_row_for1 v_pegs)) (eis_list (ex_var (i := 1) rfl)) (.same (.same (.un .nil))) (fun s x2 _ => EGc.eg (vs := [2]) (egc_name (i := 2) (by decide))) (fun s x2 _ => (bx_bind fun u3 hu3 => (bx_drop (ex_call (ea_cons (ex_var (i := 0) rfl) (ea_cons (ex_var (i := 2) rfl) ea_nil)) ⟨(v_pegs, x2), u3, rfl, hu3, rfl⟩) (bx_nx (.same (.same (.un .nil))) rfl))))) (fun s4 _ => (bx_nx (.un (.un (.un .nil))) rfl))))))
abbrev encR_p_hook (y : (List Int)) : Out := .rt (.sh ((eT PyData.int) y))
abbrev st_p_hook : Stmt := top 15
abbrev NN_p_hook : List Str := ["pegs", "number", "found", "high"]
theorem sc_p_hook : FnScope NN_p_hook ["pegs", "number"] (defScope st_p_hook) := ⟨rfl, rfl, rfl, by decide +kernel, rfl, by decide +kernel, by decide +kernel⟩
abbrev I_p_hook : List PyData → Rv → Prop := Im (fun (a : (Int × Int)) => [PyData.int a.1, PyData.int a.2]) (fun (y : (List Int)) => Rv.sh ((eT PyData.int) y)) (fun a => p_hook a.1 a.2)
theorem fn_p_hook {P : Program} {w : World} {K : PySem.W.Frag} {mg : Str → Option Value} {base : Heap} {f : Addr} {fd : FuncData} (F : FunD K "hook" "hook" (defArgs st_p_hook) (defBody st_p_hook) (defScope st_p_hook) [] [] f fd) (hg : mg "hook" = some (.ref f)) (T : Tx mg) (G_ask_pegs : Fn P w K mg base "ask_pegs" 1 I_p_ask_pegs) (G_ask_hook : Fn P w K mg base "ask_hook" 1 I_p_ask_hook) (G_plain : Fn P w K mg base "plain" 2 I_p_plain) : Fn P w K mg base "hook" 3 I_p_hook := by
  refine ⟨f, fd, ["pegs", "number"], fn_ok (N := NN_p_hook) (en := encR_p_hook) F sc_p_hook (fun _ => rfl) (fun _ => .inl rfl) (fun cdv A' outer s H E hr => ⟨_, (pss_cons (ps_expr (pe_fn G_ask_pegs (hr.mono (by decide)) (by rfl) (pa_cons (pv 0) pa_nil))) (pss_cons (ps_expr (pe_fn G_ask_hook (hr.mono (by decide)) (by rfl) (pa_cons (pv 0) (pa_cons (pv 1) pa_nil)))) (pss_cons (ps_set (i := 2) sc_p_hook.nd rfl (by first | exact Or.inl rfl | exact Or.inr rfl) (pe_callTy (call_listK (K := K)) (by rfl) T.list (by decide +kernel) (pa_cons (pe_fn G_plain (hr.mono (by decide)) (by rfl) (pa_cons (pv 0) pa_nil)) pa_nil))) (pss_cons (ps_for PassesOwn.never rfl (pi_tupK (K := K) (pe_tup (pa_cons (pv 1) (pa_cons (pe_op op_add (pv 0) (pv 1)) pa_nil)))) (pg_name (i := 3) sc_p_hook.nd rfl (by first | exact Or.inl rfl | exact Or.inr rfl)) (pss_cons (ps_asg (pe_op op_add (pv 3) pe_int) (pg_sub (pv 2) (pv 3) set_list)) (pss_cons (ps_asg (pv 3) (pg_sub (pv 2) (pe_op op_add (pv 3) pe_int) set_list)) pss_nil))) (pss_cons (ps_ret (pe_callTy (call_tupleK (K := K)) (by rfl) T.tuple (by decide +kernel) (pa_cons (pv 2) pa_nil))) pss_never))))), fun a => ?_⟩), hg, F.kp, F.bindsN fun _ _ _ _ _ _ us hl => match us, hl with | [_, _], _ => rfl⟩
  obtain ⟨v_pegs, v_number⟩ := a
  exact (show BX K _ [.sh (PyData.int v_pegs), .sh (PyData.int v_number), .un, .un] encR_p_hook (p_hook v_pegs v_number) from
   (bx_bind fun u1 hu1 => (bx_drop (ex_call (ea_cons (ex_var (i := 0) rfl) ea_nil) ⟨v_pegs, u1, rfl, hu1, rfl⟩) (bx_bind fun u2 hu2 => (bx_drop (ex_call (ea_cons (ex_var (i := 0) rfl) (ea_cons (ex_var (i := 1) rfl) ea_nil)) ⟨(v_pegs, v_number), u2, rfl, hu2, rfl⟩) (bx_bind fun u3 hu3 => (bx_asgW (exw_listT (ex_call (ea_cons (ex_var (i := 0) rfl) ea_nil) ⟨v_pegs, u3, rfl, hu3, rfl⟩)) (bx_then (envS := (fun (s : (List Int)) => [.sh (PyData.int v_pegs), .sh (PyData.int v_number), .ow (s.map PyData.int), .un])) (bx_forS (envS := (fun (s : (List Int)) => [.sh (PyData.int v_pegs), .sh (PyData.int v_number), .ow (s.map PyData.int), .un])) (e := PyData.int) (envB := (fun (s : (List Int)) (x4 : Int) => [.sh (PyData.int v_pegs), .sh (PyData.int v_number), .ow (s.map PyData.int), .sh (PyData.int x4)])) (f := p_hook_for1) (eis_tup (ex_tup (ea_cons (ex_var (i := 1) rfl) (ea_cons (ex_add (ex_var (i := 0) rfl) (ex_var (i := 1) rfl)) ea_nil)) (Nat.le_of_ble_eq_true rfl))) (.same (.same (.same (.un .nil)))) (fun s x4 _ => EGc.eg (vs := [3]) (egc_name (i := 3) (by decide))) (fun s x4 _ => (bx_bind fun u5 hu5 => (bx_asg (d := PyData.int (x4 + (1 : Int))) (ex_add (ex_var (i := 3) rfl) ex_int) (eg_setI (e := PyData.int) rfl (ex_var (i := 3) rfl) hu5) (bx_bind fun u6 hu6 => (bx_asg (d := PyData.int x4) (ex_var (i := 3) rfl) (eg_setI (e := PyData.int) rfl (ex_add (ex_var (i := 3) rfl) ex_int) hu6) (bx_nx (.same (.same (.same (.un .nil)))) rfl))))))) (fun s7 _ => (bx_retS (ex_tupL (exl_var (i := 2) rfl)) rfl))))))))))
abbrev encR_p_made (y : ((List Int) × Int)) : Out := .rt (.sh ((eP (eT PyData.int) PyData.int) y))
abbrev st_p_made : Stmt := top 16
abbrev NN_p_made : List Str := ["pegs", "row", "found", "rings", "number", "more"]
theorem sc_p_made : FnScope NN_p_made ["pegs", "row"] (defScope st_p_made) := ⟨rfl, rfl, rfl, by decide +kernel, rfl, by decide +kernel, by decide +kernel⟩
abbrev I_p_made : List PyData → Rv → Prop := Im (fun (a : (Int × (List Int))) => [PyData.int a.1, (eL PyData.int) a.2]) (fun (y : ((List Int) × Int)) => Rv.sh ((eP (eT PyData.int) PyData.int) y)) (fun a => p_made a.1 a.2)
theorem fn_p_made {P : Program} {w : World} {K : PySem.W.Frag} {mg : Str → Option Value} {base : Heap} {f : Addr} {fd : FuncData} (F : FunD K "made" "made" (defArgs st_p_made) (defBody st_p_made) (defScope st_p_made) [] [] f fd) (hg : mg "made" = some (.ref f)) (T : Tx mg) (G_ask_row : Fn P w K mg base "ask_row" 2 I_p_ask_row) (G_plain : Fn P w K mg base "plain" 2 I_p_plain) (G_hook : Fn P w K mg base "hook" 3 I_p_hook) (G_put_together : Fn P w K mg base "put_together" 2 I_p_put_together) : Fn P w K mg base "made" 4 I_p_made := by
  refine ⟨f, fd, ["pegs", "row"], fn_ok (N := NN_p_made) (en := encR_p_made) F sc_p_made (fun _ => rfl) (fun _ => .inl rfl) (fun cdv A' outer s H E hr => ⟨_, (pss_cons (ps_expr (pe_fn G_ask_row (hr.mono (by decide)) (by rfl) (pa_cons (pv 0) (pa_cons (pv 1) pa_nil)))) (pss_cons (ps_set (i := 2) sc_p_made.nd rfl (by first | exact Or.inl rfl | exact Or.inr rfl) (pe_fn G_plain (hr.mono (by decide)) (by rfl) (pa_cons (pv 0) pa_nil))) (pss_cons (ps_set (i := 3) sc_p_made.nd rfl (by first | exact Or.inl rfl | exact Or.inr rfl) pe_int) (pss_cons (ps_for PassesOwn.never rfl (pi_listK (K := K) (pv 1)) (pg_name (i := 4) sc_p_made.nd rfl (by first | exact Or.inl rfl | exact Or.inr rfl)) (pss_cons (ps_asg (pe_fn G_put_together (hr.mono (by decide)) (by rfl) (pa_cons (pv 2) (pa_cons (pe_fn G_hook (hr.mono (by decide)) (by rfl) (pa_cons (pv 0) (pa_cons (pv 4) pa_nil))) pa_nil))) (pg_tupK (K := K) (by rfl) (pgs_cons (pg_name (i := 2) sc_p_made.nd rfl (by first | exact Or.inl rfl | exact Or.inr rfl)) (pgs_cons (pg_name (i := 5) sc_p_made.nd rfl (by first | exact Or.inl rfl | exact Or.inr rfl)) pgs_nil)))) (pss_cons (ps_set (i := 3) sc_p_made.nd rfl (by first | exact Or.inl rfl | exact Or.inr rfl) (pe_op op_add (pv 3) (pv 5))) pss_nil))) (pss_cons (ps_ret (pe_tup (pa_cons (pv 2) (pa_cons (pv 3) pa_nil)))) pss_never))))), fun a => ?_⟩), hg, F.kp, F.bindsN fun _ _ _ _ _ _ us hl => match us, hl with | [_, _], _ => rfl⟩
  obtain ⟨v_pegs, v_row⟩ := a
  exact (show BX K _ [.sh (PyData.int v_pegs), .sh ((eL PyData.int) v_row), .un, .un, .un, .un] encR_p_made (p_made v_pegs v_row) from
   (bx_bind fun u1 hu1 => (bx_drop (ex_call (ea_cons (ex_var (i := 0) rfl) (ea_cons (ex_var (i := 1) rfl) ea_nil)) ⟨(v_pegs, v_row), u1, rfl, hu1, rfl⟩) (bx_bind fun u2 hu2 => (bx_asg (d := (eT PyData.int) u2) (ex_call (ea_cons (ex_var (i := 0) rfl) ea_nil) ⟨v_pegs, u2, rfl, hu2, rfl⟩) (EGc.eg (egc_name (i := 2) (vs := [2]) (by decide))) (bx_asg (d := PyData.int (0 : Int)) ex_int (EGc.eg (egc_name (i := 3) (vs := [3]) (by decide))) (bx_then (envS := (fun (s : (List Int) × Int) => [.sh (PyData.int v_pegs), .sh ((eL PyData.int) v_row), .sh ((eT PyData.int) s.1), .sh (PyData.int s.2), .un, .un])) (bx_forS (envS := (fun (s : (List Int) × Int) => [.sh (PyData.int v_pegs), .sh ((eL PyData.int) v_row), .sh ((eT PyData.int) s.1), .sh (PyData.int s.2), .un, .un])) (e := PyData.int) (envB := (fun (s : (List Int) × Int) (x3 : Int) => [.sh (PyData.int v_pegs), .sh ((eL PyData.int) v_row), .sh ((eT PyData.int) s.1), .sh (PyData.int s.2), .sh (PyData.int x3), .un])) (f := (p_made_for1 v_pegs)) (eis_list (ex_var (i := 1) rfl)) (.same (.same (.same (.same (.un (.un .nil)))))) (fun s x3 _ => EGc.eg (vs := [4]) (egc_name (i := 4) (by decide))) (fun s x3 _ => (bx_bind fun u4 hu4 => (bx_bind fun u5 hu5 => (bx_asg (d := (eP (eT PyData.int) PyData.int) u5) (ex_call (ea_cons (ex_var (i := 2) rfl) (ea_cons (ex_call (ea_cons (ex_var (i := 0) rfl) (ea_cons (ex_var (i := 4) rfl) ea_nil)) ⟨(v_pegs, x3), u4, rfl, hu4, rfl⟩) ea_nil)) ⟨(s.1, u4), u5, rfl, hu5, rfl⟩) (EGc.eg (vs := [2, 5]) (egc_tup (egs_cons (egc_name (i := 2) (by decide)) (egs_cons (egc_name (i := 5) (by decide)) egs_nil)) rfl)) (bx_asgB (e := PyData.int) (i := 3) (ex_add (ex_var (i := 3) rfl) (ex_var (i := 5) rfl)) (fun v_rings_6 => (bx_nx (.same (.same (.same (.same (.un (.un .nil)))))) rfl)))))))) (fun s7 _ => (bx_retS (ex_tup (ea_cons (ex_var (i := 2) rfl) (ea_cons (ex_var (i := 3) rfl) ea_nil)) (Nat.le_of_ble_eq_true rfl)) rfl)))))))))
abbrev encR_l_mix (y : Int) : Out := .rt (.sh (PyData.int y))
abbrev st_l_mix : Stmt := top 18
abbrev NN_l_mix : List Str := ["_law_seed", "_law_one", "_law_two"]
theorem sc_l_mix : FnScope NN_l_mix ["_law_seed"] (defScope st_l_mix) := ⟨rfl, rfl, rfl, by decide +kernel, rfl, by decide +kernel, by decide +kernel⟩
abbrev I_l_mix : List PyData → Rv → Prop := Im (fun (a : (Int)) => [PyData.int a]) (fun (y : Int) => Rv.sh (PyData.int y)) (fun a => l_mix a)
theorem fn_l_mix {P : Program} {w : World} {K : PySem.W.Frag} {mg : Str → Option Value} {base : Heap} {f : Addr} {fd : FuncData} (F : FunD K "_law_mix" "_law_mix" (defArgs st_l_mix) (defBody st_l_mix) (defScope st_l_mix) [] [] f fd) (hg : mg "_law_mix" = some (.ref f)) (T : Tx mg)  : Fn P w K mg base "_law_mix" 1 I_l_mix := by
  refine ⟨f, fd, ["_law_seed"], fn_ok (N := NN_l_mix) (en := encR_l_mix) F sc_l_mix (fun _ => rfl) (fun _ => .inl rfl) (fun cdv A' outer s H E hr => ⟨_, (pss_cons (ps_set (i := 1) sc_l_mix.nd rfl (by first | exact Or.inl rfl | exact Or.inr rfl) (pe_op op_mod (pe_op op_add (pe_op op_mul (pv 0) pe_int) pe_int) pe_int)) (pss_cons (ps_set (i := 2) sc_l_mix.nd rfl (by first | exact Or.inl rfl | exact Or.inr rfl) (pe_op op_mod (pe_op op_add (pe_op op_add (pe_op op_mul (pv 1) (pv 1)) (pe_op op_mul pe_int (pv 1))) (pv 0)) pe_int)) (pss_cons (ps_ret (pe_op op_mod (pe_op op_add (pe_op op_add (pe_op op_mul (pv 2) (pv 2)) (pe_op op_mul pe_int (pv 2))) (pv 1)) pe_int)) pss_never))), fun v_seed => ?_⟩), hg, F.kp, F.bindsN fun _ _ _ _ _ _ us hl => match us, hl with | [_], _ => rfl⟩
  exact (show BX K _ [.sh (PyData.int v_seed), .un, .un] encR_l_mix (l_mix v_seed) from
   (bx_asgB (e := PyData.int) (i := 1) (ex_mod (ex_add (ex_mul (ex_var (i := 0) rfl) ex_int (.inr ⟨by decide, by decide⟩)) ex_int) ex_int (by decide)) (fun v_one_1 => (bx_bind fun g2 hg2 => (bx_asgB (e := PyData.int) (i := 2) (ex_mod (ex_add (ex_add (ex_mul (ex_var (i := 1) rfl) (ex_var (i := 1) rfl) (grd_ok hg2)) (ex_mul ex_int (ex_var (i := 1) rfl) (.inl ⟨by decide, by decide⟩))) (ex_var (i := 0) rfl)) ex_int (by decide)) (fun v_two_3 => (bx_bind fun g4 hg4 => (bx_retS (ex_mod (ex_add (ex_add (ex_mul (ex_var (i := 2) rfl) (ex_var (i := 2) rfl) (grd_ok hg4)) (ex_mul ex_int (ex_var (i := 2) rfl) (.inl ⟨by decide, by decide⟩))) (ex_var (i := 1) rfl)) ex_int (by decide)) rfl))))))))
abbrev encR_l_raw (y : Int) : Out := .rt (.sh (PyData.int y))
abbrev st_l_raw : Stmt := top 19
abbrev NN_l_raw : List Str := ["_law_script", "_law_k", "_law_cell", "_law_found", "_law_turn"]
theorem sc_l_raw : FnScope NN_l_raw ["_law_script", "_law_k"] (defScope st_l_raw) := ⟨rfl, rfl, rfl, by decide +kernel, rfl, by decide +kernel, by decide +kernel⟩
abbrev I_l_raw : List PyData → Rv → Prop := Im (fun (a : ((List Int) × Int)) => [(eL PyData.int) a.1, PyData.int a.2]) (fun (y : Int) => Rv.sh (PyData.int y)) (fun a => l_raw a.1 a.2)
theorem fn_l_raw {P : Program} {w : World} {K : PySem.W.Frag} {mg : Str → Option Value} {base : Heap} {f : Addr} {fd : FuncData} (F : FunD K "_law_raw" "_law_raw" (defArgs st_l_raw) (defBody st_l_raw) (defScope st_l_raw) [] [] f fd) (hg : mg "_law_raw" = some (.ref f)) (T : Tx mg) (G__law_mix : Fn P w K mg base "_law_mix" 1 I_l_mix) : Fn P w K mg base "_law_raw" 2 I_l_raw := by
  refine ⟨f, fd, ["_law_script", "_law_k"], fn_ok (N := NN_l_raw) (en := encR_l_raw) F sc_l_raw (fun _ => rfl) (fun _ => .inl rfl) (fun cdv A' outer s H E hr => ⟨_, (pss_cons (ps_set (i := 2) sc_l_raw.nd rfl (by first | exact Or.inl rfl | exact Or.inr rfl) (pe_op op_add (pe_op op_mul pe_int (pv 1)) pe_int)) (pss_cons (ps_if (pt_cmpR op_gt (pe_callB (call_lenK (K := K)) (by rfl) T.len (by decide +kernel) (pa_cons (pv 0) pa_nil)) pe_int (nomark _)) (pss_cons (ps_set (i := 2) sc_l_raw.nd rfl (by first | exact Or.inl rfl | exact Or.inr rfl) (pe_op op_add (pe_ix (ix_listK (K := K)) (pv 0) (pe_op op_mod (pv 1) (pe_callB (call_lenK (K := K)) (by rfl) T.len (by decide +kernel) (pa_cons (pv 0) pa_nil))) (fun _ _ => rfl)) (pe_op op_mul pe_int (pe_op op_fdivW (pv 1) (pe_callB (call_lenK (K := K)) (by rfl) T.len (by decide +kernel) (pa_cons (pv 0) pa_nil)))))) pss_nil) pss_nil) (pss_cons (ps_if (PW.pt (pw_and (pt_cmpR op_lt (pv 1) (pe_callB (call_lenK (K := K)) (by rfl) T.len (by decide +kernel) (pa_cons (pv 0) pa_nil)) (nomark _)) (pw_and1 (pt_cmpR op_ge (pv 2) (pe_op op_pow pe_int pe_int) (nomark _))))) (pss_cons (ps_ret (pe_op op_sub (pv 2) (pe_op op_pow pe_int pe_int))) pss_never) pss_nil) (pss_cons (ps_set (i := 3) sc_l_raw.nd rfl (by first | exact Or.inl rfl | exact Or.inr rfl) pe_int) (pss_cons (ps_for PassesOwn.never rfl (pi_range1 (by rfl) T.range (pa_cons pe_int pa_nil)) (pg_name (i := 4) sc_l_raw.nd rfl (by first | exact Or.inl rfl | exact Or.inr rfl)) (pss_cons (ps_set (i := 3) sc_l_raw.nd rfl (by first | exact Or.inl rfl | exact Or.inr rfl) (pe_op op_add (pe_op op_mul (pv 3) pe_int) (pe_fn G__law_mix (hr.mono (by decide)) (by rfl) (pa_cons (pe_op op_add (pe_op op_add (pv 2) (pe_op op_mul pe_int (pv 1))) (pe_op op_mul pe_int (pv 4))) pa_nil)))) pss_nil)) (pss_cons (ps_ret (pv 3)) pss_never)))))), fun a => ?_⟩), hg, F.kp, F.bindsN fun _ _ _ _ _ _ us hl => match us, hl with | [_, _], _ => rfl⟩
  obtain ⟨v_script, v_k⟩ := a
  exact (show BX K _ [.sh ((eL PyData.int) v_script), .sh (PyData.int v_k), .un, .un, .un] encR_l_raw (l_raw v_script v_k) from
   (bx_asgB (e := PyData.int) (i := 2) (ex_add (ex_mul ex_int (ex_var (i := 1) rfl) (.inl ⟨by decide, by decide⟩)) ex_int) (fun v_cell_1 => (bx_then (envS := fun (s2 : Int) => [.sh ((eL PyData.int) v_script), .sh (PyData.int v_k), .sh (PyData.int s2), .un, .un]) (bx_if (et_of (ex_gt (ex_lenL (EX.l (ex_var (i := 0) rfl))) ex_int)) (fun _ => (bx_bind fun g3 hg3 => (bx_bind fun u4 hu4 => (bx_bind fun g5 hg5 => (bx_asgB (e := PyData.int) (i := 2) (ex_add (ex_ixL (EX.l (ex_var (i := 0) rfl)) (ex_mod (ex_var (i := 1) rfl) (ex_lenL (EX.l (ex_var (i := 0) rfl))) (grd_ok hg3)) (atI_map hu4)) (ex_mul ex_int (ex_fdiv (ex_var (i := 1) rfl) (ex_lenL (EX.l (ex_var (i := 0) rfl))) (grd_ok hg5)) (.inl ⟨by decide, by decide⟩))) (fun v_cell_6 => (bx_nx (.same (.same (.same (.un (.un .nil))))) rfl))))))) (fun _ => (bx_nx (.same (.same (.same (.un (.un .nil))))) rfl))) (fun s2 _ => (bx_ifRet (et_and (et_of (ex_lt (ex_var (i := 1) rfl) (ex_lenL (EX.l (ex_var (i := 0) rfl))))) (et_of (ex_ge (ex_var (i := 2) rfl) (ex_pow ex_int ex_int ⟨by decide, by decide, by decide⟩)))) (fun _ => (bx_retS (ex_sub (ex_var (i := 2) rfl) (ex_pow ex_int ex_int ⟨by decide, by decide, by decide⟩)) rfl)) (fun _ _ _ h => nomatch h) (fun _ => (bx_asg (d := PyData.int (0 : Int)) ex_int (EGc.eg (egc_name (i := 3) (vs := [3]) (by decide))) (bx_then (envS := (fun (s : Int) => [.sh ((eL PyData.int) v_script), .sh (PyData.int v_k), .sh (PyData.int s2), .sh (PyData.int s), .un])) (bx_forS (envS := (fun (s : Int) => [.sh ((eL PyData.int) v_script), .sh (PyData.int v_k), .sh (PyData.int s2), .sh (PyData.int s), .un])) (e := PyData.int) (envB := (fun (s : Int) (x7 : Int) => [.sh ((eL PyData.int) v_script), .sh (PyData.int v_k), .sh (PyData.int s2), .sh (PyData.int s), .sh (PyData.int x7)])) (f := (l_raw_for1 v_k s2)) (eis_rng1 ex_int (by decide)) (.same (.same (.same (.same (.un .nil))))) (fun s x7 _ => EGc.eg (vs := [4]) (egc_name (i := 4) (by decide))) (fun s x7 _ => (bx_bind fun u8 hu8 => (bx_asgB (e := PyData.int) (i := 3) (ex_add (ex_mul (ex_var (i := 3) rfl) ex_int (.inr ⟨by decide, by decide⟩)) (ex_call (ea_cons (ex_add (ex_add (ex_var (i := 2) rfl) (ex_mul ex_int (ex_var (i := 1) rfl) (.inl ⟨by decide, by decide⟩))) (ex_mul ex_int (ex_var (i := 4) rfl) (.inl ⟨by decide, by decide⟩))) ea_nil) ⟨((s2 + ((1009 : Int) * v_k)) + ((7919 : Int) * x7)), u8, rfl, hu8, rfl⟩)) (fun v_found_9 => (bx_nx (.same (.same (.same (.same (.un .nil))))) rfl)))))) (fun s10 _ => (bx_retS (ex_var (i := 3) rfl) rfl)))))))))))
abbrev encR_l_digits (y : (List Int)) : Out := .rt (.fr (y.map PyData.int))
abbrev st_l_digits : Stmt := top 20
abbrev NN_l_digits : List Str := ["_law_script", "_law_k", "_law_sizes", "_law_rest", "_law_found", "_law_size"]
theorem sc_l_digits : FnScope NN_l_digits ["_law_script", "_law_k", "_law_sizes"] (defScope st_l_digits) := ⟨rfl, rfl, rfl, by decide +kernel, rfl, by decide +kernel, by decide +kernel⟩
abbrev I_l_digits : List PyData → Rv → Prop := Im (fun (a : ((List Int) × Int × (List Int))) => [(eL PyData.int) a.1, PyData.int a.2.1, (eL PyData.int) a.2.2]) (fun (y : (List Int)) => Rv.fr (y.map PyData.int)) (fun a => l_digits a.1 a.2.1 a.2.2)
theorem fn_l_digits {P : Program} {w : World} {K : PySem.W.Frag} {mg : Str → Option Value} {base : Heap} {f : Addr} {fd : FuncData} (F : FunD K "_law_digits" "_law_digits" (defArgs st_l_digits) (defBody st_l_digits) (defScope st_l_digits) [] [] f fd) (hg : mg "_law_digits" = some (.ref f)) (T : Tx mg) (G__law_raw : Fn P w K mg base "_law_raw" 2 I_l_raw) : Fn P w K mg base "_law_digits" 3 I_l_digits := by
  refine ⟨f, fd, ["_law_script", "_law_k", "_law_sizes"], fn_ok (N := NN_l_digits) (en := encR_l_digits) F sc_l_digits (fun _ => rfl) (fun _ => .inl rfl) (fun cdv A' outer s H E hr => ⟨_, (pss_cons (ps_set (i := 3) sc_l_digits.nd rfl (by first | exact Or.inl rfl | exact Or.inr rfl) (pe_fn G__law_raw (hr.mono (by decide)) (by rfl) (pa_cons (pv 0) (pa_cons (pv 1) pa_nil)))) (pss_cons (ps_set (i := 4) sc_l_digits.nd rfl (by first | exact Or.inl rfl | exact Or.inr rfl) (pe_lst pa_nil)) (pss_cons (ps_for PassesOwn.never rfl (pi_listK (K := K) (pv 2)) (pg_name (i := 5) sc_l_digits.nd rfl (by first | exact Or.inl rfl | exact Or.inr rfl)) (pss_cons (ps_expr (pe_bm PySem.F.plainAttrs_list PySem.F.slot_list_append PySem.F.type_list_append mt_append (pv 4) (pa_cons (pe_op op_mod (pv 3) (pv 5)) pa_nil))) (pss_cons (ps_set (i := 3) sc_l_digits.nd rfl (by first | exact Or.inl rfl | exact Or.inr rfl) (pe_op op_fdivW (pv 3) (pv 5))) pss_nil))) (pss_cons (ps_ret (pv 4)) pss_never)))), fun a => ?_⟩), hg, F.kp, F.bindsN fun _ _ _ _ _ _ us hl => match us, hl with | [_, _, _], _ => rfl⟩
  obtain ⟨v_script, v_k, v_sizes⟩ := a
  exact (show BX K _ [.sh ((eL PyData.int) v_script), .sh (PyData.int v_k), .sh ((eL PyData.int) v_sizes), .un, .un, .un] encR_l_digits (l_digits v_script v_k v_sizes) from
   (bx_bind fun u1 hu1 => (bx_asg (d := PyData.int u1) (ex_call (ea_cons (ex_var (i := 0) rfl) (ea_cons (ex_var (i := 1) rfl) ea_nil)) ⟨(v_script, v_k), u1, rfl, hu1, rfl⟩) (EGc.eg (egc_name (i := 3) (vs := [3]) (by decide))) (bx_asgW (exw_lst (ds := (([] : (List Int)) : (List Int)).map PyData.int) ea_nil (Nat.le_of_ble_eq_true rfl)) (bx_then (envS := (fun (s : Int × (List Int)) => [.sh ((eL PyData.int) v_script), .sh (PyData.int v_k), .sh ((eL PyData.int) v_sizes), .sh (PyData.int s.1), .ow (s.2.map PyData.int), .un])) (bx_forS (envS := (fun (s : Int × (List Int)) => [.sh ((eL PyData.int) v_script), .sh (PyData.int v_k), .sh ((eL PyData.int) v_sizes), .sh (PyData.int s.1), .ow (s.2.map PyData.int), .un])) (e := PyData.int) (envB := (fun (s : Int × (List Int)) (x2 : Int) => [.sh ((eL PyData.int) v_script), .sh (PyData.int v_k), .sh ((eL PyData.int) v_sizes), .sh (PyData.int s.1), .ow (s.2.map PyData.int), .sh (PyData.int x2)])) (f := l_digits_for1) (eis_list (ex_var (i := 2) rfl)) (.same (.same (.same (.same (.same (.un .nil)))))) (fun s x2 _ => EGc.eg (vs := [5]) (egc_name (i := 5) (by decide))) (fun s x2 _ => (bx_bind fun g3 hg3 => (bx_bind fun u4 hu4 => (bx_app (e := PyData.int) rfl (ex_mod (ex_var (i := 3) rfl) (ex_var (i := 5) rfl) (grd_ok hg3)) hu4 (bx_bind fun g5 hg5 => (bx_asgB (e := PyData.int) (i := 3) (ex_fdiv (ex_var (i := 3) rfl) (ex_var (i := 5) rfl) (grd_ok hg5)) (fun v_rest_6 => (bx_nx (.same (.same (.same (.same (.same (.un .nil)))))) rfl))))))))) (fun s7 _ => (bx_retO (i := 4) rfl rfl)))))))
abbrev encR_l_hooks (y : (List Int)) : Out := .rt (.fr (y.map PyData.int))
abbrev st_l_hooks : Stmt := top 21
abbrev NN_l_hooks : List Str := ["_law_script", "_law_k", "_law_pegs", "_law_size", "_law_found", "_law_start", "_law_steps", "_law_step", "_law_number"]
theorem sc_l_hooks : FnScope NN_l_hooks ["_law_script", "_law_k", "_law_pegs", "_law_size"] (defScope st_l_hooks) := ⟨rfl, rfl, rfl, by decide +kernel, rfl, by decide +kernel, by decide +kernel⟩
abbrev I_l_hooks : List PyData → Rv → Prop := Im (fun (a : ((List Int) × Int × Int × Int)) => [(eL PyData.int) a.1, PyData.int a.2.1, PyData.int a.2.2.1, PyData.int a.2.2.2]) (fun (y : (List Int)) => Rv.fr (y.map PyData.int)) (fun a => l_hooks a.1 a.2.1 a.2.2.1 a.2.2.2)
theorem fn_l_hooks {P : Program} {w : World} {K : PySem.W.Frag} {mg : Str → Option Value} {base : Heap} {f : Addr} {fd : FuncData} (F : FunD K "_law_hooks" "_law_hooks" (defArgs st_l_hooks) (defBody st_l_hooks) (defScope st_l_hooks) [] [] f fd) (hg : mg "_law_hooks" = some (.ref f)) (T : Tx mg) (G__law_digits : Fn P w K mg base "_law_digits" 3 I_l_digits) : Fn P w K mg base "_law_hooks" 4 I_l_hooks := by
  refine ⟨f, fd, ["_law_script", "_law_k", "_law_pegs", "_law_size"], fn_ok (N := NN_l_hooks) (en := encR_l_hooks) F sc_l_hooks (fun _ => rfl) (fun _ => .inl rfl) (fun cdv A' outer s H E hr => ⟨_, (pss_cons (ps_set (i := 4) sc_l_hooks.nd rfl (by first | exact Or.inl rfl | exact Or.inr rfl) (pe_lst pa_nil)) (pss_cons (ps_for PassesOwn.never rfl (pi_range3 (by rfl) T.range (pa_cons pe_int (pa_cons (pv 3) (pa_cons pe_int pa_nil)))) (pg_name (i := 5) sc_l_hooks.nd rfl (by first | exact Or.inl rfl | exact Or.inr rfl)) (pss_cons (ps_set (i := 6) sc_l_hooks.nd rfl (by first | exact Or.inl rfl | exact Or.inr rfl) (pe_fn G__law_digits (hr.mono (by decide)) (by rfl) (pa_cons (pv 0) (pa_cons (pe_op op_add (pv 1) (pe_op op_fdivW (pv 5) pe_int)) (pa_cons (pe_op op_rep (pe_lst (pa_cons pe_int pa_nil)) pe_int) pa_nil))))) (pss_cons (ps_for PassesOwn.never rfl (pi_listK (K := K) (pe_slice (sl_listK (K := K)) (pv 6) po_none (po_some (pe_op op_sub (pv 3) (pv 5))))) (pg_name (i := 7) sc_l_hooks.nd rfl (by first | exact Or.inl rfl | exact Or.inr rfl)) (pss_cons (ps_if (pt_cmpR op_lt (pv 2) pe_int (nomark _)) (pss_cons (ps_ret (pe_lst pa_nil)) pss_never) pss_nil) (pss_cons (ps_set (i := 8) sc_l_hooks.nd rfl (by first | exact Or.inl rfl | exact Or.inr rfl) (pe_op op_mod (pv 7) (pe_op op_sub (pv 2) pe_int))) (pss_cons (ps_if (PW.pt (pw_and (pt_cmpR (op_neDK (K := K) hr.units) (pv 4) (pe_lst pa_nil) (nomark _)) (pw_and1 (pt_cmpR op_eq (pe_op op_mod (pv 7) pe_int) pe_int (nomark _))))) (pss_cons (ps_set (i := 8) sc_l_hooks.nd rfl (by first | exact Or.inl rfl | exact Or.inr rfl) (pe_callB (call_min2 rfl) (by rfl) T.min (by decide +kernel) (pa_cons (pe_op op_sub (pv 2) pe_int) (pa_cons (pe_callB (call_max2 rfl) (by rfl) T.max (by decide +kernel) (pa_cons pe_int (pa_cons (pe_op op_add (pe_ix (ix_listK (K := K)) (pv 4) (pe_un un_neg pe_int) (fun _ _ => rfl)) (pe_ix (ix_listK (K := K)) (pe_lst (pa_cons pe_int (pa_cons (pe_un un_neg pe_int) (pa_cons pe_int pa_nil)))) (pe_op op_mod (pe_op op_mod (pv 7) pe_int) pe_int) (fun _ _ => rfl))) pa_nil))) pa_nil)))) pss_nil) pss_nil) (pss_cons (ps_expr (pe_bm PySem.F.plainAttrs_list PySem.F.slot_list_append PySem.F.type_list_append mt_append (pv 4) (pa_cons (pv 8) pa_nil))) pss_nil))))) pss_nil))) (pss_cons (ps_ret (pv 4)) pss_never))), fun a => ?_⟩), hg, F.kp, F.bindsN fun _ _ _ _ _ _ us hl => match us, hl with | [_, _, _, _], _ => rfl⟩
  obtain ⟨v_script, v_k, v_pegs, v_size⟩ := a
  exact (show BX K _ [.sh ((eL PyData.int) v_script), .sh (PyData.int v_k), .sh (PyData.int v_pegs), .sh (PyData.int v_size), .un, .un, .un, .un, .un] encR_l_hooks (l_hooks v_script v_k v_pegs v_size) from
   (bx_asgW (exw_lst (ds := (([] : (List Int)) : (List Int)).map PyData.int) ea_nil (Nat.le_of_ble_eq_true rfl)) (bx_bind fun g1 hg1 => (bx_bindR (envS := (fun (s : (List Int)) => [.sh ((eL PyData.int) v_script), .sh (PyData.int v_k), .sh (PyData.int v_pegs), .sh (PyData.int v_size), .ow (s.map PyData.int), .un, .un, .un, .un])) (encR := encR_l_hooks) (bx_forR (encR := encR_l_hooks) (envS := (fun (s : (List Int)) => [.sh ((eL PyData.int) v_script), .sh (PyData.int v_k), .sh (PyData.int v_pegs), .sh (PyData.int v_size), .ow (s.map PyData.int), .un, .un, .un, .un])) (e := PyData.int) (envB := (fun (s : (List Int)) (x2 : Int) => [.sh ((eL PyData.int) v_script), .sh (PyData.int v_k), .sh (PyData.int v_pegs), .sh (PyData.int v_size), .ow (s.map PyData.int), .sh (PyData.int x2), .un, .un, .un])) (f := (l_hooks_for1 v_script v_k v_pegs v_size)) (eis_rng3 ex_int (ex_var (i := 3) rfl) ex_int (by decide) (grd_ok hg1) (by decide) (by decide)) (.same (.same (.same (.same (.same (.un (.un (.un (.un .nil))))))))) (fun _ => ⟨_, rfl⟩) (fun s x2 _ => EGc.eg (vs := [5]) (egc_name (i := 5) (by decide))) (fun s x2 _ => (bx_bind fun u3 hu3 => (bx_asg (d := (eL PyData.int) u3) (EXw.sh (exw_call (ea_cons (ex_var (i := 0) rfl) (ea_cons (ex_add (ex_var (i := 1) rfl) (ex_fdiv (ex_var (i := 5) rfl) ex_int ⟨by decide, by decide +kernel⟩)) (ea_cons (EXw.sh (exw_rep (EXw.l (exw_lst (ds := ([(97 : Int)] : (List Int)).map PyData.int) (ea_cons ex_int ea_nil) (Nat.le_of_ble_eq_true rfl))) ex_int ⟨by decide, by decide⟩ (Nat.le_of_ble_eq_true rfl) rfl)) ea_nil))) ⟨(v_script, (v_k + (x2 / (12 : Int))), (List.replicate 12 (97 : Int))), u3, rfl, hu3, rfl⟩)) (EGc.eg (egc_name (i := 6) (vs := [6]) (by decide))) (bx_bindR (envS := (fun (s : (List Int)) => [.sh ((eL PyData.int) v_script), .sh (PyData.int v_k), .sh (PyData.int v_pegs), .sh (PyData.int v_size), .ow (s.map PyData.int), .sh (PyData.int x2), .sh ((eL PyData.int) u3), .un, .un])) (encR := encR_l_hooks) (bx_forR (encR := encR_l_hooks) (envS := (fun (s : (List Int)) => [.sh ((eL PyData.int) v_script), .sh (PyData.int v_k), .sh (PyData.int v_pegs), .sh (PyData.int v_size), .ow (s.map PyData.int), .sh (PyData.int x2), .sh ((eL PyData.int) u3), .un, .un])) (e := PyData.int) (envB := (fun (s : (List Int)) (x4 : Int) => [.sh ((eL PyData.int) v_script), .sh (PyData.int v_k), .sh (PyData.int v_pegs), .sh (PyData.int v_size), .ow (s.map PyData.int), .sh (PyData.int x2), .sh ((eL PyData.int) u3), .sh (PyData.int x4), .un])) (f := (l_hooks_for2 v_pegs)) (eis_list (EXw.sh (exw_sl (EX.l (ex_var (i := 6) rfl)) eo_none (eo_some (ex_sub (ex_var (i := 3) rfl) (ex_var (i := 5) rfl)))))) (.same (.same (.same (.same (.same (.same (.same (.un (.un .nil))))))))) (fun _ => ⟨_, rfl⟩) (fun s x4 _ => EGc.eg (vs := [7]) (egc_name (i := 7) (by decide))) (fun s x4 _ => (bx_ifRetM (encR := encR_l_hooks) (et_of (ex_lt (ex_var (i := 2) rfl) ex_int)) (fun _ => (bx_retSW (exw_lst (ds := (([] : (List Int)) : (List Int)).map PyData.int) ea_nil (Nat.le_of_ble_eq_true rfl)) rfl)) (fun _ _ h => nomatch h) (fun _ => rfl) (fun _ => (bx_bind fun g5 hg5 => (bx_asgB (e := PyData.int) (i := 8) (ex_mod (ex_var (i := 7) rfl) (ex_sub (ex_var (i := 2) rfl) ex_int) (grd_ok hg5)) (fun v_number_6 => (bx_then (envS := fun (s7 : Int) => [.sh ((eL PyData.int) v_script), .sh (PyData.int v_k), .sh (PyData.int v_pegs), .sh (PyData.int v_size), .ow (s.map PyData.int), .sh (PyData.int x2), .sh ((eL PyData.int) u3), .sh (PyData.int x4), .sh (PyData.int s7)]) (bx_if (et_and (et_of (ex_neT (EnOk.list EnOk.int) (EXl.q (exl_var (i := 4) rfl)) (EXl.q (EXw.l (exw_lst (ds := (([] : (List Int)) : (List Int)).map PyData.int) ea_nil (Nat.le_of_ble_eq_true rfl)))))) (et_of (ex_eqI (ex_mod (ex_var (i := 7) rfl) ex_int (by decide)) ex_int))) (fun _ => (bx_bind fun u8 hu8 => (bx_bind fun u9 hu9 => (bx_asgB (e := PyData.int) (i := 8) (ex_min (ex_sub (ex_var (i := 2) rfl) ex_int) (ex_max ex_int (ex_add (ex_ixL (exl_var (i := 4) rfl) (ex_neg ex_int) (atI_map hu8)) (ex_ixL (EXw.l (exw_lst (ds := ([(1 : Int), (-(1 : Int)), (0 : Int)] : (List Int)).map PyData.int) (ea_cons ex_int (ea_cons (ex_neg ex_int) (ea_cons ex_int ea_nil))) (Nat.le_of_ble_eq_true rfl))) (ex_mod (ex_mod (ex_var (i := 7) rfl) ex_int (by decide)) ex_int (by decide)) (atI_map hu9))))) (fun v_number_10 => (bx_nx (.same (.same (.same (.same (.same (.same (.same (.same (.same .nil))))))))) rfl)))))) (fun _ => (bx_nx (.same (.same (.same (.same (.same (.same (.same (.same (.same .nil))))))))) rfl))) (fun s7 _ => (bx_bind fun u11 hu11 => (bx_app (e := PyData.int) rfl (ex_var (i := 8) rfl) hu11 (bx_nx (.same (.same (.same (.same (.same (.same (.same (.un (.un .nil))))))))) rfl)))))))))))) (fun _ => rfl) (fun _ _ h => nomatch h) (fun s12 _ => (bx_nx (.same (.same (.same (.same (.same (.un (.un (.un (.un .nil))))))))) rfl))))))) (fun _ => rfl) (fun _ _ h => nomatch h) (fun s13 _ => (bx_retO (i := 4) rfl rfl))))))
abbrev encR_l_law (y : Bool) : Out := .rt (.sh (PyData.bool y))
abbrev st_l_law : Stmt := top 22
abbrev NN_l_law : List Str := ["_law_script", "_law_pegs", "_law_one", "_law_two", "_law_number", "_law_turn", "_law_first", "_law_last", "_law_frame", "_law_rings", "_law_other"]
theorem sc_l_law : FnScope NN_l_law ["_law_script"] (defScope st_l_law) := ⟨rfl, rfl, rfl, by decide +kernel, rfl, by decide +kernel, by decide +kernel⟩
theorem fn_law {P : Program} {w : World} {K : PySem.W.Frag} {mg : Str → Option Value} {base : Heap} {f : Addr} {fd : FuncData} (F : FunD K "law" "law" (defArgs st_l_law) (defBody st_l_law) (defScope st_l_law) [] [] f fd) (T : Tx mg) (G__law_digits : Fn P w K mg base "_law_digits" 3 I_l_digits) (G__law_hooks : Fn P w K mg base "_law_hooks" 4 I_l_hooks) (G_made : Fn P w K mg base "made" 4 I_p_made) (ht : ∀ ns : List Int, ns.length ≤ 63 → l_law ns = some true) : FnOk P w K mg base CX0 5 f fd ["_law_script"] (spLaw K) := by
  refine law_ok (N := NN_l_law) F sc_l_law (fun cdv A' outer s H E hr => ⟨_, (pss_cons (ps_set (i := 0) sc_l_law.nd rfl (by first | exact Or.inl rfl | exact Or.inr rfl) (pe_slice (sl_listK (K := K)) (pv 0) po_none (po_some pe_int))) (pss_cons (ps_asg (pe_fn G__law_digits (hr.mono (by decide)) (by rfl) (pa_cons (pv 0) (pa_cons pe_int (pa_cons (pe_lst (pa_cons pe_int (pa_cons pe_int (pa_cons pe_int (pa_cons pe_int (pa_cons pe_int pa_nil)))))) pa_nil)))) (pg_lstK (K := K) (by rfl) (pgs_cons (pg_name (i := 1) sc_l_law.nd rfl (by first | exact Or.inl rfl | exact Or.inr rfl)) (pgs_cons (pg_name (i := 2) sc_l_law.nd rfl (by first | exact Or.inl rfl | exact Or.inr rfl)) (pgs_cons (pg_name (i := 3) sc_l_law.nd rfl (by first | exact Or.inl rfl | exact Or.inr rfl)) (pgs_cons (pg_name (i := 4) sc_l_law.nd rfl (by first | exact Or.inl rfl | exact Or.inr rfl)) (pgs_cons (pg_name (i := 5) sc_l_law.nd rfl (by first | exact Or.inl rfl | exact Or.inr rfl)) pgs_nil))))))) (pss_cons (ps_set (i := 1) sc_l_law.nd rfl (by first | exact Or.inl rfl | exact Or.inr rfl) (pe_op op_add pe_int (pv 1))) (pss_cons (ps_set (i := 6) sc_l_law.nd rfl (by first | exact Or.inl rfl | exact Or.inr rfl) (pe_fn G__law_hooks (hr.mono (by decide)) (by rfl) (pa_cons (pv 0) (pa_cons pe_int (pa_cons (pv 1) (pa_cons (pv 2) pa_nil)))))) (pss_cons (ps_set (i := 7) sc_l_law.nd rfl (by first | exact Or.inl rfl | exact Or.inr rfl) (pe_fn G__law_hooks (hr.mono (by decide)) (by rfl) (pa_cons (pv 0) (pa_cons pe_int (pa_cons (pv 1) (pa_cons (pv 3) pa_nil)))))) (pss_cons (ps_set (i := 4) sc_l_law.nd rfl (by first | exact Or.inl rfl | exact Or.inr rfl) (pe_op op_mod (pv 4) (pe_op op_sub (pv 1) pe_int))) (pss_cons (ps_asg (pe_fn G_made (hr.mono (by decide)) (by rfl) (pa_cons (pv 1) (pa_cons (pe_op op_cat (pe_op op_cat (pv 6) (pe_lst (pa_cons (pv 4) pa_nil))) (pv 7)) pa_nil))) (pg_tupK (K := K) (by rfl) (pgs_cons (pg_name (i := 8) sc_l_law.nd rfl (by first | exact Or.inl rfl | exact Or.inr rfl)) (pgs_cons (pg_name (i := 9) sc_l_law.nd rfl (by first | exact Or.inl rfl | exact Or.inr rfl)) pgs_nil)))) (pss_cons (ps_if (pt_cmpR (op_neDK (K := K) hr.units) (pe_fn G_made (hr.mono (by decide)) (by rfl) (pa_cons (pv 1) (pa_cons (pe_op op_cat (pe_op op_cat (pv 6) (pe_lst (pa_cons (pv 4) (pa_cons (pv 4) pa_nil)))) (pv 7)) pa_nil))) (pe_tup (pa_cons (pv 8) (pa_cons (pe_op op_add (pv 9) pe_int) pa_nil))) (nomark _)) (pss_cons (ps_ret pe_bl) pss_never) pss_nil) (pss_cons (ps_for PassesOwn.never rfl (pi_range1 (by rfl) T.range (pa_cons (pe_op op_sub (pv 1) pe_int) pa_nil)) (pg_name (i := 10) sc_l_law.nd rfl (by first | exact Or.inl rfl | exact Or.inr rfl)) (pss_cons (ps_if (pt_cmpR op_eq (pe_callB call_abs (by rfl) T.abs (by decide +kernel) (pa_cons (pe_op op_sub (pv 10) (pv 4)) pa_nil)) pe_int (nomark _)) (pss_cons (ps_if (pt_cmpR (op_neDK (K := K) hr.units) (pe_fn G_made (hr.mono (by decide)) (by rfl) (pa_cons (pv 1) (pa_cons (pe_op op_cat (pe_op op_cat (pv 6) (pe_lst (pa_cons (pv 4) (pa_cons (pv 10) (pa_cons (pv 4) pa_nil))))) (pv 7)) pa_nil))) (pe_tup (pa_cons (pv 8) (pa_cons (pv 9) pa_nil))) (nomark _)) (pss_cons (ps_ret pe_bl) pss_never) pss_nil) pss_nil) pss_nil) (pss_cons (ps_if (pt_cmpR op_gt (pe_callB call_abs (by rfl) T.abs (by decide +kernel) (pa_cons (pe_op op_sub (pv 10) (pv 4)) pa_nil)) pe_int (nomark _)) (pss_cons (ps_if (pt_cmpR (op_neDK (K := K) hr.units) (pe_fn G_made (hr.mono (by decide)) (by rfl) (pa_cons (pv 1) (pa_cons (pe_op op_cat (pe_op op_cat (pv 6) (pe_lst (pa_cons (pv 4) (pa_cons (pv 10) pa_nil)))) (pv 7)) pa_nil))) (pe_fn G_made (hr.mono (by decide)) (by rfl) (pa_cons (pv 1) (pa_cons (pe_op op_cat (pe_op op_cat (pv 6) (pe_lst (pa_cons (pv 10) (pa_cons (pv 4) pa_nil)))) (pv 7)) pa_nil))) (nomark _)) (pss_cons (ps_ret pe_bl) pss_never) pss_nil) pss_nil) pss_nil) pss_nil))) (pss_cons (ps_ret pe_bl) pss_never)))))))))), fun ns => ?_⟩) ht
  exact (show BX K _ [.sc (ns.map PyData.int), .un, .un, .un, .un, .un, .un, .un, .un, .un, .un] encR_l_law (l_law ns) from
   (bx_asgB (e := (eL PyData.int)) (i := 0) (EXw.sh (exw_slSc (i := 0) rfl eo_none (eo_some ex_int))) (fun ns_1 => (bx_bind fun u2 hu2 => (bx_bind fun u8 hu8 => (bx_asg (d := (eL PyData.int) [u8.1, u8.2.1, u8.2.2.1, u8.2.2.2.1, u8.2.2.2.2]) (ex_is (EXw.sh (exw_call (ea_cons (ex_var (i := 0) rfl) (ea_cons ex_int (ea_cons (EXw.sh (exw_lst (ds := ([(9 : Int), (10 : Int), (10 : Int), (9 : Int), (9 : Int)] : (List Int)).map PyData.int) (ea_cons ex_int (ea_cons ex_int (ea_cons ex_int (ea_cons ex_int (ea_cons ex_int ea_nil))))) (Nat.le_of_ble_eq_true rfl))) ea_nil))) ⟨(ns_1, (60 : Int), ([(9 : Int), (10 : Int), (10 : Int), (9 : Int), (9 : Int)])), u2, rfl, hu2, rfl⟩)) (congrArg (eL PyData.int) (unp5_ok hu8))) (EGc.eg (vs := [1, 2, 3, 4, 5]) (egc_lst (egs_cons (egc_name (i := 1) (by decide)) (egs_cons (egc_name (i := 2) (by decide)) (egs_cons (egc_name (i := 3) (by decide)) (egs_cons (egc_name (i := 4) (by decide)) (egs_cons (egc_name (i := 5) (by decide)) egs_nil))))) rfl)) (bx_asgB (e := PyData.int) (i := 1) (ex_add ex_int (ex_var (i := 1) rfl)) (fun v_pegs_9 => (bx_bind fun u10 hu10 => (bx_asg (d := (eL PyData.int) u10) (EXw.sh (exw_call (ea_cons (ex_var (i := 0) rfl) (ea_cons ex_int (ea_cons (ex_var (i := 1) rfl) (ea_cons (ex_var (i := 2) rfl) ea_nil)))) ⟨(ns_1, (0 : Int), v_pegs_9, u8.2.1), u10, rfl, hu10, rfl⟩)) (EGc.eg (egc_name (i := 6) (vs := [6]) (by decide))) (bx_bind fun u11 hu11 => (bx_asg (d := (eL PyData.int) u11) (EXw.sh (exw_call (ea_cons (ex_var (i := 0) rfl) (ea_cons ex_int (ea_cons (ex_var (i := 1) rfl) (ea_cons (ex_var (i := 3) rfl) ea_nil)))) ⟨(ns_1, (2 : Int), v_pegs_9, u8.2.2.1), u11, rfl, hu11, rfl⟩)) (EGc.eg (egc_name (i := 7) (vs := [7]) (by decide))) (bx_bind fun g12 hg12 => (bx_asgB (e := PyData.int) (i := 4) (ex_mod (ex_var (i := 4) rfl) (ex_sub (ex_var (i := 1) rfl) ex_int) (grd_ok hg12)) (fun v_number_13 => (bx_bind fun g14 hg14 => (bx_bind fun g15 hg15 => (bx_bind fun u16 hu16 => (bx_asg (d := (eP (eT PyData.int) PyData.int) u16) (ex_call (ea_cons (ex_var (i := 1) rfl) (ea_cons (EXw.sh (exw_catT (EXw.l (exw_catT (EX.l (ex_var (i := 6) rfl)) (EXw.l (exw_lst (ds := ([v_number_13] : (List Int)).map PyData.int) (ea_cons (ex_var (i := 4) rfl) ea_nil) (Nat.le_of_ble_eq_true rfl))) (grd_ok hg14))) (EX.l (ex_var (i := 7) rfl)) (grd_ok hg15))) ea_nil)) ⟨(v_pegs_9, ((u10 ++ ([v_number_13])) ++ u11)), u16, rfl, hu16, rfl⟩) (EGc.eg (vs := [8, 9]) (egc_tup (egs_cons (egc_name (i := 8) (by decide)) (egs_cons (egc_name (i := 9) (by decide)) egs_nil)) rfl)) (bx_bind fun g17 hg17 => (bx_bind fun g18 hg18 => (bx_bind fun u19 hu19 => (bx_ifRet (et_of (ex_neT (EnOk.pair (EnOk.tup EnOk.int) EnOk.int) (EX.q (ex_call (ea_cons (ex_var (i := 1) rfl) (ea_cons (EXw.sh (exw_catT (EXw.l (exw_catT (EX.l (ex_var (i := 6) rfl)) (EXw.l (exw_lst (ds := ([v_number_13, v_number_13] : (List Int)).map PyData.int) (ea_cons (ex_var (i := 4) rfl) (ea_cons (ex_var (i := 4) rfl) ea_nil)) (Nat.le_of_ble_eq_true rfl))) (grd_ok hg17))) (EX.l (ex_var (i := 7) rfl)) (grd_ok hg18))) ea_nil)) ⟨(v_pegs_9, ((u10 ++ ([v_number_13, v_number_13])) ++ u11)), u19, rfl, hu19, rfl⟩)) (EX.q (ex_tup (ea_cons (ex_var (i := 8) rfl) (ea_cons (ex_add (ex_var (i := 9) rfl) ex_int) ea_nil)) (Nat.le_of_ble_eq_true rfl))))) (fun _ => (bx_retS ex_bl rfl)) (fun _ _ _ h => nomatch h) (fun _ => (bx_bind fun g20 hg20 => (bx_bindR (envS := (fun (s : Unit) => [.sh ((eL PyData.int) ns_1), .sh (PyData.int v_pegs_9), .sh (PyData.int u8.2.1), .sh (PyData.int u8.2.2.1), .sh (PyData.int v_number_13), .sh (PyData.int u8.2.2.2.2), .sh ((eL PyData.int) u10), .sh ((eL PyData.int) u11), .sh ((eT PyData.int) u16.1), .sh (PyData.int u16.2), .un])) (encR := encR_l_law) (bx_forR (encR := encR_l_law) (envS := (fun (s : Unit) => [.sh ((eL PyData.int) ns_1), .sh (PyData.int v_pegs_9), .sh (PyData.int u8.2.1), .sh (PyData.int u8.2.2.1), .sh (PyData.int v_number_13), .sh (PyData.int u8.2.2.2.2), .sh ((eL PyData.int) u10), .sh ((eL PyData.int) u11), .sh ((eT PyData.int) u16.1), .sh (PyData.int u16.2), .un])) (e := PyData.int) (envB := (fun (s : Unit) (x21 : Int) => [.sh ((eL PyData.int) ns_1), .sh (PyData.int v_pegs_9), .sh (PyData.int u8.2.1), .sh (PyData.int u8.2.2.1), .sh (PyData.int v_number_13), .sh (PyData.int u8.2.2.2.2), .sh ((eL PyData.int) u10), .sh ((eL PyData.int) u11), .sh ((eT PyData.int) u16.1), .sh (PyData.int u16.2), .sh (PyData.int x21)])) (f := (l_law_for1 v_pegs_9 v_number_13 u10 u11 u16.1 u16.2)) (eis_rng1 (ex_sub (ex_var (i := 1) rfl) ex_int) (grd_ok hg20)) (.same (.same (.same (.same (.same (.same (.same (.same (.same (.same (.un .nil))))))))))) (fun _ => ⟨_, rfl⟩) (fun s x21 _ => EGc.eg (vs := [10]) (egc_name (i := 10) (by decide))) (fun s x21 _ => (bx_bindR (envS := fun (s22 : Unit) => [.sh ((eL PyData.int) ns_1), .sh (PyData.int v_pegs_9), .sh (PyData.int u8.2.1), .sh (PyData.int u8.2.2.1), .sh (PyData.int v_number_13), .sh (PyData.int u8.2.2.2.2), .sh ((eL PyData.int) u10), .sh ((eL PyData.int) u11), .sh ((eT PyData.int) u16.1), .sh (PyData.int u16.2), .sh (PyData.int x21)]) (encR := encR_l_law) (bx_if (et_of (ex_eqI (ex_abs (ex_sub (ex_var (i := 10) rfl) (ex_var (i := 4) rfl))) ex_int)) (fun _ => (bx_bind fun g23 hg23 => (bx_bind fun g24 hg24 => (bx_bind fun u25 hu25 => (bx_ifRetM (encR := encR_l_law) (et_of (ex_neT (EnOk.pair (EnOk.tup EnOk.int) EnOk.int) (EX.q (ex_call (ea_cons (ex_var (i := 1) rfl) (ea_cons (EXw.sh (exw_catT (EXw.l (exw_catT (EX.l (ex_var (i := 6) rfl)) (EXw.l (exw_lst (ds := ([v_number_13, x21, v_number_13] : (List Int)).map PyData.int) (ea_cons (ex_var (i := 4) rfl) (ea_cons (ex_var (i := 10) rfl) (ea_cons (ex_var (i := 4) rfl) ea_nil))) (Nat.le_of_ble_eq_true rfl))) (grd_ok hg23))) (EX.l (ex_var (i := 7) rfl)) (grd_ok hg24))) ea_nil)) ⟨(v_pegs_9, ((u10 ++ ([v_number_13, x21, v_number_13])) ++ u11)), u25, rfl, hu25, rfl⟩)) (EX.q (ex_tup (ea_cons (ex_var (i := 8) rfl) (ea_cons (ex_var (i := 9) rfl) ea_nil)) (Nat.le_of_ble_eq_true rfl))))) (fun _ => (bx_retS ex_bl rfl)) (fun _ _ h => nomatch h) (fun _ => rfl) (fun _ => (bx_nx (.same (.same (.same (.same (.same (.same (.same (.same (.same (.same (.same .nil))))))))))) rfl))))))) (fun _ => (bx_nx (.same (.same (.same (.same (.same (.same (.same (.same (.same (.same (.same .nil))))))))))) rfl))) (fun _ => rfl) (fun _ _ h => nomatch h) (fun s22 _ => (bx_last (bx_if (et_of (ex_gt (ex_abs (ex_sub (ex_var (i := 10) rfl) (ex_var (i := 4) rfl))) ex_int)) (fun _ => (bx_bind fun g26 hg26 => (bx_bind fun g27 hg27 => (bx_bind fun u28 hu28 => (bx_bind fun g29 hg29 => (bx_bind fun g30 hg30 => (bx_bind fun u31 hu31 => (bx_ifRetM (encR := encR_l_law) (et_of (ex_neT (EnOk.pair (EnOk.tup EnOk.int) EnOk.int) (EX.q (ex_call (ea_cons (ex_var (i := 1) rfl) (ea_cons (EXw.sh (exw_catT (EXw.l (exw_catT (EX.l (ex_var (i := 6) rfl)) (EXw.l (exw_lst (ds := ([v_number_13, x21] : (List Int)).map PyData.int) (ea_cons (ex_var (i := 4) rfl) (ea_cons (ex_var (i := 10) rfl) ea_nil)) (Nat.le_of_ble_eq_true rfl))) (grd_ok hg26))) (EX.l (ex_var (i := 7) rfl)) (grd_ok hg27))) ea_nil)) ⟨(v_pegs_9, ((u10 ++ ([v_number_13, x21])) ++ u11)), u28, rfl, hu28, rfl⟩)) (EX.q (ex_call (ea_cons (ex_var (i := 1) rfl) (ea_cons (EXw.sh (exw_catT (EXw.l (exw_catT (EX.l (ex_var (i := 6) rfl)) (EXw.l (exw_lst (ds := ([x21, v_number_13] : (List Int)).map PyData.int) (ea_cons (ex_var (i := 10) rfl) (ea_cons (ex_var (i := 4) rfl) ea_nil)) (Nat.le_of_ble_eq_true rfl))) (grd_ok hg29))) (EX.l (ex_var (i := 7) rfl)) (grd_ok hg30))) ea_nil)) ⟨(v_pegs_9, ((u10 ++ ([x21, v_number_13])) ++ u11)), u31, rfl, hu31, rfl⟩)))) (fun _ => (bx_retS ex_bl rfl)) (fun _ _ h => nomatch h) (fun _ => rfl) (fun _ => (bx_nx (.same (.same (.same (.same (.same (.same (.same (.same (.same (.same (.un .nil))))))))))) rfl)))))))))) (fun _ => (bx_nx (.same (.same (.same (.same (.same (.same (.same (.same (.same (.same (.un .nil))))))))))) rfl)))))))) (fun _ => rfl) (fun _ _ h => nomatch h) (fun s32 _ => (bx_retS ex_bl rfl))))))))))))))))))))))))))))
end Rb.M_k23

set_option Elab.async false
set_option linter.all false
set_option maxRecDepth 100000
set_option maxHeartbeats 0
namespace Rb.M_k23
open PySem PySem.Spec PyProof.Rows L2 Rb
def dD (i : Nat) (x : Str) : He.DefD := ⟨(x, none), x, x, defArgs (top i), defBody (top i), defScope (top i), [], []⟩
def fn : List He.DefD := [dD 6 "ask_pegs", dD 7 "plain", dD 9 "followed", dD 10 "rings_left", dD 11 "put_together", dD 13 "ask_hook", dD 14 "ask_row", dD 15 "hook", dD 16 "made", dD 18 "_law_mix", dD 19 "_law_raw", dD 20 "_law_digits", dD 21 "_law_hooks", dD 22 "law"]
def fa : List He.Fa := [.glo "ask_pegs", .glo "plain", .glo "followed", .glo "rings_left", .glo "put_together", .glo "ask_hook", .glo "ask_row", .glo "hook", .glo "made", .glo "_law_mix", .glo "_law_raw", .glo "_law_digits", .glo "_law_hooks", .glo "law", .free "abs", .free "len", .free "list", .free "max", .free "min", .free "range", .free "tuple", .int "MOST_PEGS" 10]
def loose0 : List Str := ["RibbonError", "BadPegs", "BadHook", "MOST_PEGS", "ask_pegs", "plain", "followed", "rings_left", "put_together", "ask_hook", "ask_row", "hook", "made", "_law_mix", "_law_raw", "_law_digits", "_law_hooks"]
def loose : List Str := loose0
abbrev R0 : PySem.W.OpenRow := PySem.W.OpenLaw.row PySem.Challenge.rw_ribbonloft_k23_whole_three_exchanges
abbrev hk : PySem.W.Hook := He.hookD 4 fa fn
def ob (s : PySem.W.SharedT) : He.AlD := He.obsDG 4 fa fn (HandSHeadRun.getT s)
theorem ob_eq (s : PySem.W.SharedT) : ob s = hk.obs s.abs := He.obsDG_eq (HandSHeadRun.getT_eq s)
theorem run (w : World) : HandSHeadRun.RunEq R0 (PySem.W.view R0.prog [22]) hk ob 6000 loose w := by
  intro os
  kernel_rfl
theorem facts (ht : ∀ ns : List Int, ns.length ≤ 63 → l_law ns = some true) {P : Program} {w : World} {K : PySem.W.Frag} {h : Heap} {mg : Str → Option Value} {f : Addr} (X : K.In h) (G : h.Ns mainGlobals mg) (hfa : mg ("law" : Str) = some (.ref f)) (c : He.SaysD fa fn K) :
    ∃ fd : FuncData, (∀ (s : Shared) (v : Value), BindsTo s fd ⟨[v], []⟩ [("_law_script", v)]) ∧ ∀ base : Heap, K.In base → base.Ns mainGlobals mg → FnOk P w K mg base CX0 5 f fd ["_law_script"] (spLaw K) := by
  obtain ⟨fd0, F0⟩ := c.def_ 0 (d := dD 6 "ask_pegs") rfl
  obtain ⟨fd1, F1⟩ := c.def_ 1 (d := dD 7 "plain") rfl
  obtain ⟨fd2, F2⟩ := c.def_ 2 (d := dD 9 "followed") rfl
  obtain ⟨fd3, F3⟩ := c.def_ 3 (d := dD 10 "rings_left") rfl
  obtain ⟨fd4, F4⟩ := c.def_ 4 (d := dD 11 "put_together") rfl
  obtain ⟨fd5, F5⟩ := c.def_ 5 (d := dD 13 "ask_hook") rfl
  obtain ⟨fd6, F6⟩ := c.def_ 6 (d := dD 14 "ask_row") rfl
  obtain ⟨fd7, F7⟩ := c.def_ 7 (d := dD 15 "hook") rfl
  obtain ⟨fd8, F8⟩ := c.def_ 8 (d := dD 16 "made") rfl
  obtain ⟨fd9, F9⟩ := c.def_ 9 (d := dD 18 "_law_mix") rfl
  obtain ⟨fd10, F10⟩ := c.def_ 10 (d := dD 19 "_law_raw") rfl
  obtain ⟨fd11, F11⟩ := c.def_ 11 (d := dD 20 "_law_digits") rfl
  obtain ⟨fd12, F12⟩ := c.def_ 12 (d := dD 21 "_law_hooks") rfl
  obtain ⟨fd13, F13⟩ := c.def_ 13 (d := dD 22 "law") rfl
  have e := hfa.symm.trans (He.glo_ok X G (c.fact 13 (f := .glo "law") rfl))
  cases e
  have T : Tx mg := ⟨He.free_ok X G (c.fact 14 (f := .free "abs") rfl), He.free_ok X G (c.fact 15 (f := .free "len") rfl), He.free_ok X G (c.fact 16 (f := .free "list") rfl), He.free_ok X G (c.fact 17 (f := .free "max") rfl), He.free_ok X G (c.fact 18 (f := .free "min") rfl), He.free_ok X G (c.fact 19 (f := .free "range") rfl), He.free_ok X G (c.fact 20 (f := .free "tuple") rfl), He.int_ok X G (c.fact 21 (f := .int "MOST_PEGS" 10) rfl)⟩
  refine ⟨fd13, fun s v => FunD.bindsA (ps := ["_law_script"]) F13 (fun _ _ _ _ _ _ us hl => match us, hl with | [_], _ => rfl) s [v] rfl, fun base _ _ => ?_⟩
  have G_ask_pegs := fn_p_ask_pegs (P := P) (w := w) (base := base) F0 (He.glo_ok X G (c.fact 0 (f := .glo "ask_pegs") rfl)) T 
  have G_plain := fn_p_plain (P := P) (w := w) (base := base) F1 (He.glo_ok X G (c.fact 1 (f := .glo "plain") rfl)) T G_ask_pegs
  have G_followed := fn_p_followed (P := P) (w := w) (base := base) F2 (He.glo_ok X G (c.fact 2 (f := .glo "followed") rfl)) T 
  have G_rings_left := fn_p_rings_left (P := P) (w := w) (base := base) F3 (He.glo_ok X G (c.fact 3 (f := .glo "rings_left") rfl)) T 
  have G_put_together := fn_p_put_together (P := P) (w := w) (base := base) F4 (He.glo_ok X G (c.fact 4 (f := .glo "put_together") rfl)) T G_followed G_rings_left
  have G_ask_hook := fn_p_ask_hook (P := P) (w := w) (base := base) F5 (He.glo_ok X G (c.fact 5 (f := .glo "ask_hook") rfl)) T 
  have G_ask_row := fn_p_ask_row (P := P) (w := w) (base := base) F6 (He.glo_ok X G (c.fact 6 (f := .glo "ask_row") rfl)) T G_ask_pegs G_ask_hook
  have G_hook := fn_p_hook (P := P) (w := w) (base := base) F7 (He.glo_ok X G (c.fact 7 (f := .glo "hook") rfl)) T G_ask_pegs G_ask_hook G_plain
  have G_made := fn_p_made (P := P) (w := w) (base := base) F8 (He.glo_ok X G (c.fact 8 (f := .glo "made") rfl)) T G_ask_row G_plain G_hook G_put_together
  have G__law_mix := fn_l_mix (P := P) (w := w) (base := base) F9 (He.glo_ok X G (c.fact 9 (f := .glo "_law_mix") rfl)) T 
  have G__law_raw := fn_l_raw (P := P) (w := w) (base := base) F10 (He.glo_ok X G (c.fact 10 (f := .glo "_law_raw") rfl)) T G__law_mix
  have G__law_digits := fn_l_digits (P := P) (w := w) (base := base) F11 (He.glo_ok X G (c.fact 11 (f := .glo "_law_digits") rfl)) T G__law_raw
  have G__law_hooks := fn_l_hooks (P := P) (w := w) (base := base) F12 (He.glo_ok X G (c.fact 12 (f := .glo "_law_hooks") rfl)) T G__law_digits
  exact fn_law F13 T G__law_digits G__law_hooks G_made ht
end Rb.M_k23
open PySem PySem.W PySem.Calls PyProof.Rows
set_option maxHeartbeats 0 in
theorem PySem.Challenge.cw_ribbonloft_k23_whole_three_exchanges_holds : PySem.Challenge.rw_ribbonloft_k23_whole_three_exchanges.Holds := by
  w_on; o_law
  refine HandSHeadRun.head_any (r := OpenLaw.row PySem.Challenge.rw_ribbonloft_k23_whole_three_exchanges) (q := view (OpenLaw.row PySem.Challenge.rw_ribbonloft_k23_whole_three_exchanges).prog [22]) (H := Rb.M_k23.hk) (ob := Rb.M_k23.ob) (M := 6000) (loose := Rb.M_k23.loose) (d := HandSHeadRun.topDef (OpenLaw.row PySem.Challenge.rw_ribbonloft_k23_whole_three_exchanges).prog 22) (kwd := []) Rb.M_k23.ob_eq
    (by kernel_rfl) (fun s => by kernel_rfl) Rb.M_k23.run (by kernel_rfl) (by kernel_rfl) (by kernel_rfl) (by rfl) (by first | assumption | decide +kernel) (by decide +kernel) ⟨rfl, rfl, rfl, rfl, rfl, by decide +kernel⟩ ?hw ?hc
  case hw => w_witness2
  case hc =>
    refine L2.walk_ofE (l := PySem.Challenge.rw_ribbonloft_k23_whole_three_exchanges) (n := 63) (k := 5) (x := "_law_script") (CX := L2.CX0) rfl (by decide) (by kernel_rfl) ⟨rfl, by decide, by decide⟩ ?F (fun _ _ _ _ z => z)
    intro w mg fa h Y G hmg0
    obtain ⟨K, KX, c⟩ := Y
    have hmg : mg ("law" : PySem.Str) = some (.ref fa) := by
      have e : (HandSHeadRun.topDef (OpenLaw.row PySem.Challenge.rw_ribbonloft_k23_whole_three_exchanges).prog 22).name = ("law" : PySem.Str) := by kernel_rfl
      rw [← e]
      exact hmg0
    obtain ⟨fd, hb, hF⟩ := Rb.M_k23.facts Rb.M_k23.law_true (P := (PySem.Challenge.rw_ribbonloft_k23_whole_three_exchanges).prog) (w := w) KX G hmg c
    exact ⟨K, fd, Rb.spLaw K, KX, hb, fun H a ns hl _ hS => ⟨a, ns, rfl, hS, hl, fun _ => rfl⟩, hF⟩

