import PyProof.Rows.All
import Wide.All
import OpenK.AllK
import Wide.FinOn
import HandS.ForMost
import HandS.ForExc
import HandS.Evl
import HandS.IsInst
import HandS.Walk
import HandS.Lambda
import HandS.TupAny
import HandS.TupMul
import HandS.Conv
import HandS.CallSlots
import HandS.Deep
import HandS.Codes
import KE.DataMinMax
import HandS.Zip
import KE.GoesEnum
import HandS.Dict
import HandS.List
import HandS.Defaults
import HandS.ExcOwn
import HandS.ExcCtx
import HandS.HotCalls
import KE.DatumOrd
import PyProof.Rows.RowBridgeK
import HandS.Style
import KE.KRevSl
import HandS.TupSets
import HandS.HeadHook4
import KE.KStateDown
import HandS.Head0
import HandS.Head1
import HandS.Head2
import HandS.HeadEnd
import HandS.HeadHook1
import HandS.HeadHook2
import HandS.HeadHook3
import HandS.HeadWalk
import PySem.Challenge.RW_loopracks_k86_whole_tiles_and_shifts
set_option Elab.async false
set_option linter.all false
set_option maxRecDepth 100000
set_option maxHeartbeats 4000000
/-! Mini0: data by value, slots, the state relation -/
namespace MI
open PySem PySem.Spec PyProof.Rows L2

abbrev D := PyData
abbrev Zs := List Addr
/-- no table of code objects -/
def nT (o : HO) : Prop := ∀ ps, o ≠ .tbl ps
theorem nT_lst {xs : List V} : nT (.lst xs) := fun _ h => by cases h
theorem nT_tup {xs : List V} : nT (.tup xs) := fun _ h => by cases h
theorem nT_dK {xs : List (Key × V)} : nT (.dK xs) := fun _ h => by cases h
theorem nT_xd {xs : List (Str × V)} : nT (.xd xs) := fun _ h => by cases h
theorem nT_frz {o : Obj} {u : HO} : nT (.frz o u) := fun _ h => by cases h
/-- all stands, but the tables -/
def Sm (H H' : Hp) : Prop := ∀ a o, nT o → H a = some o → H' a = some o
theorem Sm.refl (H : Hp) : Sm H H := fun _ _ _ h => h
theorem Sm.trans {H H1 H2 : Hp} (a : Sm H H1) (b : Sm H1 H2) : Sm H H2 := fun c o n h => b c o n (a c o n h)
theorem Sm.of {H H1 : Hp} (a : Same H H1) : Sm H H1 := fun c o _ h => a c o h
theorem exT {K : PySem.W.Frag} {H H' : Hp} {a : Addr} {xs : List V} (e : Sm H H') (h : SqT K H a xs) : SqT K H' a xs := by
  rcases h with (h | ⟨o, h⟩) | h
  · exact .inl (.inl (e _ _ nT_tup h))
  · exact .inl (.inr ⟨o, e _ _ nT_frz h⟩)
  · exact .inr h
theorem exL {K : PySem.W.Frag} {H H' : Hp} {a : Addr} {xs : List V} (e : Sm H H') (h : SqL K H a xs) : SqL K H' a xs := by
  rcases h with (h | ⟨o, h⟩) | h
  · exact .inl (.inl (e _ _ nT_lst h))
  · exact .inl (.inr ⟨o, e _ _ nT_frz h⟩)
  · exact .inr h
/-- the heap without what is forbidden -/
def mns (H : Hp) (Z : Zs) : Hp := fun a => if a ∈ Z then none else H a
theorem mns_some {H : Hp} {Z : Zs} {a : Addr} {o : HO} : mns H Z a = some o ↔ a ∉ Z ∧ H a = some o := by
  unfold mns
  by_cases h : a ∈ Z
  · rw [if_pos h]; constructor
    · intro q; cases q
    · intro q; exact absurd h q.1
  · rw [if_neg h]; exact ⟨fun q => ⟨h, q⟩, fun q => q.2⟩
theorem mns_same {H H' : Hp} {Z : Zs} (e : ∀ a o, a ∉ Z → H a = some o → H' a = some o) : Sm (mns H Z) (mns H' Z) := fun a o _ h => by
  obtain ⟨h1, h2⟩ := mns_some.mp h
  exact mns_some.mpr ⟨h1, e a o h1 h2⟩
theorem mns_sub {H : Hp} {Z Z' : Zs} (e : ∀ a, a ∈ Z' → a ∈ Z) : Sm (mns H Z) (mns H Z') := fun a o _ h => by
  obtain ⟨h1, h2⟩ := mns_some.mp h
  exact mns_some.mpr ⟨fun q => h1 (e a q), h2⟩
theorem mns_le {H : Hp} {Z : Zs} : Sm (mns H Z) H := fun a o _ h => (mns_some.mp h).2
theorem same_upd {H : Hp} {p : Addr} {o : HO} (h : H p = none) : Same H (upd H p o) := fun a u e => by
  rw [upd_ne (ne_of_none e h)]; exact e

/-! data by value: lists stand as tracked lists -/
mutual
inductive Dq (K : PySem.W.Frag) (H : Hp) : V → D → Prop
  | non : Dq K H .non .none
  | bl (b : Bool) : Dq K H (.bl b) (.bool b)
  | int (i : Int) : Dq K H (.int i) (.int i)
  | str (x : Str) : Dq K H (.str x) (.str x)
  | lst {a : Addr} {xs : List V} {ds : List D} : H a = some (.lst xs) → Dqs K H xs ds → Dq K H (.ref a) (.list ds)
  | tup {a : Addr} {xs : List V} {ds : List D} : SqT K H a xs → Dqs K H xs ds → Dq K H (.ref a) (.tuple ds)
inductive Dqs (K : PySem.W.Frag) (H : Hp) : List V → List D → Prop
  | nil : Dqs K H [] []
  | cons {v : V} {vs : List V} {d : D} {ds : List D} : Dq K H v d → Dqs K H vs ds → Dqs K H (v :: vs) (d :: ds)
end
mutual
theorem Dq.dp {K : PySem.W.Frag} {H : Hp} : ∀ {v : V} {d : D}, Dq K H v d → Dp K H v d
  | _, _, .non => .non
  | _, _, .bl b => .bl b
  | _, _, .int i => .int i
  | _, _, .str x => .str x
  | _, _, .lst h a => .lst (SqL.of h) (Dqs.dp a)
  | _, _, .tup h a => .tup h (Dqs.dp a)
theorem Dqs.dp {K : PySem.W.Frag} {H : Hp} : ∀ {v : List V} {d : List D}, Dqs K H v d → DpAll K H v d
  | _, _, .nil => .nil
  | _, _, .cons h t => .cons (Dq.dp h) (Dqs.dp t)
end
mutual
theorem dpM {K : PySem.W.Frag} {H H' : Hp} (e : Sm H H') : ∀ {v : V} {d : D}, Dp K H v d → Dp K H' v d
  | _, _, .non => .non
  | _, _, .bl b => .bl b
  | _, _, .int i => .int i
  | _, _, .str x => .str x
  | _, _, .lst h a => .lst (exL e h) (dpsM e a)
  | _, _, .tup h a => .tup (exT e h) (dpsM e a)
theorem dpsM {K : PySem.W.Frag} {H H' : Hp} (e : Sm H H') : ∀ {v : List V} {d : List D}, DpAll K H v d → DpAll K H' v d
  | _, _, .nil => .nil
  | _, _, .cons h t => .cons (dpM e h) (dpsM e t)
end
mutual
theorem dqM {K : PySem.W.Frag} {H H' : Hp} (e : Sm H H') : ∀ {v : V} {d : D}, Dq K H v d → Dq K H' v d
  | _, _, .non => .non
  | _, _, .bl b => .bl b
  | _, _, .int i => .int i
  | _, _, .str x => .str x
  | _, _, .lst h a => .lst (e _ _ nT_lst h) (dqsM e a)
  | _, _, .tup h a => .tup (exT e h) (dqsM e a)
theorem dqsM {K : PySem.W.Frag} {H H' : Hp} (e : Sm H H') : ∀ {v : List V} {d : List D}, Dqs K H v d → Dqs K H' v d
  | _, _, .nil => .nil
  | _, _, .cons h t => .cons (dqM e h) (dqsM e t)
end
theorem dqsLen {K : PySem.W.Frag} {H : Hp} : ∀ {vs : List V} {ds : List D}, Dqs K H vs ds → vs.length = ds.length
  | _, _, .nil => rfl
  | _, _, .cons _ t => by rw [List.length_cons, List.length_cons, dqsLen t]
theorem dqsApp {K : PySem.W.Frag} {H : Hp} : ∀ {vs ws : List V} {ds es : List D}, Dqs K H vs ds → Dqs K H ws es → Dqs K H (vs ++ ws) (ds ++ es)
  | _, _, _, _, .nil, t => t
  | _, _, _, _, .cons h t, u => .cons h (dqsApp t u)
theorem dqsGet {K : PySem.W.Frag} {H : Hp} : ∀ {vs : List V} {ds : List D} {i : Nat} {d : D}, Dqs K H vs ds → ds[i]? = some d → ∃ v, vs[i]? = some v ∧ Dq K H v d
  | _, _, _, _, .nil, e => by simp at e
  | _, _, 0, _, .cons h _, e => by simp at e; subst e; exact ⟨_, rfl, h⟩
  | _, _, i + 1, d, .cons _ t, e => by
    obtain ⟨v, h1, h2⟩ := dqsGet (i := i) t (by simpa using e)
    exact ⟨v, by simpa using h1, h2⟩
theorem dqsGetV {K : PySem.W.Frag} {H : Hp} : ∀ {vs : List V} {ds : List D} {i : Nat} {v : V}, Dqs K H vs ds → vs[i]? = some v → ∃ d, ds[i]? = some d ∧ Dq K H v d
  | _, _, _, _, .nil, e => by simp at e
  | _, _, 0, _, .cons h _, e => by simp at e; subst e; exact ⟨_, rfl, h⟩
  | _, _, i + 1, d, .cons _ t, e => by
    obtain ⟨v, h1, h2⟩ := dqsGetV (i := i) t (by simpa using e)
    exact ⟨v, by simpa using h1, h2⟩
theorem dqsTake {K : PySem.W.Frag} {H : Hp} : ∀ (n : Nat) {vs : List V} {ds : List D}, Dqs K H vs ds → Dqs K H (vs.take n) (ds.take n)
  | 0, _, _, _ => .nil
  | _ + 1, _, _, .nil => .nil
  | n + 1, _, _, .cons h t => .cons h (dqsTake n t)
theorem dqsDrop {K : PySem.W.Frag} {H : Hp} : ∀ (n : Nat) {vs : List V} {ds : List D}, Dqs K H vs ds → Dqs K H (vs.drop n) (ds.drop n)
  | 0, _, _, h => h
  | _ + 1, _, _, .nil => .nil
  | n + 1, _, _, .cons _ t => dqsDrop n t
theorem dqsRev {K : PySem.W.Frag} {H : Hp} : ∀ {vs : List V} {ds : List D}, Dqs K H vs ds → Dqs K H vs.reverse ds.reverse
  | _, _, .nil => .nil
  | _, _, .cons h t => by rw [List.reverse_cons, List.reverse_cons]; exact dqsApp (dqsRev t) (.cons h .nil)
theorem dqsSet {K : PySem.W.Frag} {H : Hp} {v : V} {d : D} (h : Dq K H v d) : ∀ (n : Nat) {vs : List V} {ds : List D}, Dqs K H vs ds → Dqs K H (vs.set n v) (ds.set n d)
  | _, _, _, .nil => .nil
  | 0, _, _, .cons _ t => .cons h t
  | n + 1, _, _, .cons g t => .cons g (dqsSet h n t)
theorem dqsRep {K : PySem.W.Frag} {H : Hp} {vs : List V} {ds : List D} (h : Dqs K H vs ds) : ∀ k : Nat, Dqs K H (List.replicate k vs).flatten (List.replicate k ds).flatten
  | 0 => .nil
  | k + 1 => by rw [List.replicate_succ, List.replicate_succ, List.flatten_cons, List.flatten_cons]; exact dqsApp h (dqsRep h k)
theorem dqsInts {K : PySem.W.Frag} {H : Hp} : ∀ ns : List Int, Dqs K H (ns.map V.int) (ns.map PyData.int)
  | [] => .nil
  | n :: r => .cons (.int n) (dqsInts r)

/-- what a slot holds: a value, or a list | a dict of its own -/
inductive SV where
  | val (d : D) | lst (ds : List D) | dct (kvs : List (Key × D)) | scr (ns : List Int)
def SV.own : SV → Bool
  | .lst _ => true
  | .dct _ => true
  | _ => false
abbrev En := List (Option SV)
/-- a dict's pairs -/
def KD (K : PySem.W.Frag) (H : Hp) (us : List (Key × V)) (kvs : List (Key × D)) : Prop := Paired (fun (p : Key × V) (q : Key × D) => p.1 = q.1 ∧ Dq K H p.2 q.2) us kvs
theorem KD.mono {K : PySem.W.Frag} {H H' : Hp} (e : Sm H H') {us : List (Key × V)} {kvs : List (Key × D)} (h : KD K H us kvs) : KD K H' us kvs := Paired.mapP h fun _ _ q => ⟨q.1, dqM e q.2⟩
def SvR (K : PySem.W.Frag) (H : Hp) (Z : Zs) : SV → V → Prop
  | .val d, v => Dq K (mns H Z) v d
  | .lst ds, v => ∃ a vs, v = .ref a ∧ H a = some (.lst vs) ∧ Dqs K (mns H Z) vs ds
  | .dct kvs, v => ∃ a us, v = .ref a ∧ H a = some (.dK us) ∧ KD K (mns H Z) us kvs
  | .scr ns, v => ∃ a, v = .ref a ∧ SqL K (mns H Z) a (ns.map V.int)
/-- what is fixed through a def's body: what its callers forbid, the heap at its entry, the parameters that it may change with their addresses -/
structure Fx where
  Zc : Zs
  H0 : Hp
  Pm : List (Nat × Addr)
  T : List (Addr × Str)
abbrev Fx.M (x : Fx) : Zs := x.Pm.map (·.2)
/-- the state: O the own objects, Z the forbidden ones -/
structure SRel (K : PySem.W.Frag) (x : Fx) (O Z : Zs) (H : Hp) (σ : L2.St) (env : En) : Prop where
  len : σ.length = env.length
  slot : ∀ (i : Nat) s, env[i]? = some (some s) → ∃ v, σ[i]? = some (some v) ∧ SvR K H Z s v
  ownO : ∀ (i : Nat) s a, env[i]? = some (some s) → s.own = true → σ[i]? = some (some (.ref a)) → a ∈ O
  inj : ∀ (i j : Nat) si sj a, i ≠ j → env[i]? = some (some si) → env[j]? = some (some sj) → si.own = true → sj.own = true → σ[i]? = some (some (.ref a)) → σ[j]? = some (some (.ref a)) → False
  osub : ∀ a ∈ O, a ∈ Z
  zsub : ∀ a ∈ x.Zc, a ∈ Z
  trk : ∀ a ∈ Z, ∃ o, H a = some o ∧ nT o
  keep : ∀ a o, x.H0 a = some o → a ∉ x.M → H a = some o
  oM : ∀ a ∈ O, a ∈ x.M ∨ (x.H0 a = none ∧ a ∉ x.Zc)
  par : ∀ p ∈ x.Pm, σ[p.1]? = some (some (.ref p.2)) ∧ ∃ s, env[p.1]? = some (some s) ∧ s.own = true
  tb : LamX.Tabs x.T H
  tf : x.T ≠ [] → ∀ a o, x.H0 a = some o → nT o
theorem SRel.nn {K : PySem.W.Frag} {x : Fx} {O Z : Zs} {H : Hp} {σ : L2.St} {env : En} (S : SRel K x O Z H σ env) {a : Addr} (h : a ∈ Z) : H a ≠ none := by
  obtain ⟨o, h1, _⟩ := S.trk a h
  rw [h1]; exact fun z => by cases z
section
variable {K : PySem.W.Frag} {x : Fx} {O Z : Zs} {H H' : Hp} {σ : L2.St} {env : En}
theorem SvR.mono {s : SV} {v : V} (e : Sm (mns H Z) (mns H' Z)) (k : s.own = true → ∀ a, v = .ref a → H' a = H a) (h : SvR K H Z s v) : SvR K H' Z s v := by
  cases s with
  | val d => exact dqM e h
  | lst ds =>
    obtain ⟨a, vs, rfl, h1, h2⟩ := h
    exact ⟨a, vs, rfl, by rw [k rfl a rfl]; exact h1, dqsM e h2⟩
  | dct kvs =>
    obtain ⟨a, us, rfl, h1, h2⟩ := h
    exact ⟨a, us, rfl, by rw [k rfl a rfl]; exact h1, KD.mono e h2⟩
  | scr ns => obtain ⟨a, rfl, h1⟩ := h; exact ⟨a, rfl, exL e h1⟩
theorem SvR.ref {s : SV} {v : V} (o : s.own = true) (h : SvR K H Z s v) : ∃ a, v = .ref a := by
  cases s with
  | val d => cases o
  | lst ds => obtain ⟨a, _, e, _⟩ := h; exact ⟨a, e⟩
  | dct kvs => obtain ⟨a, _, e, _⟩ := h; exact ⟨a, e⟩
  | scr ns => cases o
/-- the heap grows by what is not tracked -/
theorem SRel.grow (S : SRel K x O Z H σ env) (e : Same H H') : SRel K x O Z H' σ env where
  len := S.len
  slot := fun i s h => by
    obtain ⟨v, h1, h2⟩ := S.slot i s h
    refine ⟨v, h1, h2.mono (mns_same fun a o _ q => e a o q) fun o a ev => ?_⟩
    have ha : a ∈ Z := S.osub a (S.ownO i s a h o (by rw [h1, ev]))
    obtain ⟨u, q, _⟩ := S.trk a ha
    rw [q]; exact e a u q
  ownO := S.ownO
  inj := S.inj
  osub := S.osub
  zsub := S.zsub
  trk := fun a h => by
    obtain ⟨u, q, n⟩ := S.trk a h
    exact ⟨u, e a u q, n⟩
  keep := fun a o h n => e a o (S.keep a o h n)
  oM := S.oM
  par := S.par
  tb := S.tb.ext e
  tf := S.tf
/-- forbidding less -/
theorem SvR.less {s : SV} {v : V} {Z' : Zs} (hz : ∀ a ∈ Z', a ∈ Z) (h : SvR K H Z s v) : SvR K H Z' s v := by
  cases s with
  | val d => exact dqM (mns_sub hz) h
  | lst ds => obtain ⟨a, vs, e, h1, h2⟩ := h; exact ⟨a, vs, e, h1, dqsM (mns_sub hz) h2⟩
  | dct kvs => obtain ⟨a, us, e, h1, h2⟩ := h; exact ⟨a, us, e, h1, KD.mono (mns_sub hz) h2⟩
  | scr ns => obtain ⟨a, e, h1⟩ := h; exact ⟨a, e, exL (mns_sub hz) h1⟩
theorem SRel.less {Z' : Zs} (S : SRel K x O Z H σ env) (hz : ∀ a ∈ Z', a ∈ Z) (ho : ∀ a ∈ O, a ∈ Z') (hc : ∀ a ∈ x.Zc, a ∈ Z') : SRel K x O Z' H σ env :=
  ⟨S.len, fun i s h => by obtain ⟨v, h1, h2⟩ := S.slot i s h; exact ⟨v, h1, h2.less hz⟩, S.ownO, S.inj, ho, hc, fun a h => S.trk a (hz a h), S.keep, S.oM, S.par, S.tb, S.tf⟩
/-- a new object, forbidden at once -/
theorem SRel.lay (S : SRel K x O Z H σ env) {p : Addr} {o : HO} (hp : H p = none) (ho : nT o) : SRel K x O (p :: Z) (upd H p o) σ env where
  len := S.len
  slot := fun i s h => by
    obtain ⟨v, h1, h2⟩ := S.slot i s h
    refine ⟨v, h1, ?_⟩
    have e : Sm (mns H Z) (mns (upd H p o) (p :: Z)) := fun a u _ q => by
      obtain ⟨q1, q2⟩ := mns_some.mp q
      have ne : a ≠ p := ne_of_none q2 hp
      exact mns_some.mpr ⟨fun z => by rcases List.mem_cons.mp z with z | z; exact ne z; exact q1 z, by rw [upd_ne ne]; exact q2⟩
    cases s with
    | val d => exact dqM e h2
    | lst ds =>
      obtain ⟨a, vs, e1, h3, h4⟩ := h2
      exact ⟨a, vs, e1, by rw [upd_ne (ne_of_none h3 hp)]; exact h3, dqsM e h4⟩
    | dct kvs =>
      obtain ⟨a, us, e1, h3, h4⟩ := h2
      exact ⟨a, us, e1, by rw [upd_ne (ne_of_none h3 hp)]; exact h3, KD.mono e h4⟩
    | scr ns => obtain ⟨a, e1, h3⟩ := h2; exact ⟨a, e1, exL e h3⟩
  ownO := S.ownO
  inj := S.inj
  osub := fun a h => List.mem_cons_of_mem _ (S.osub a h)
  zsub := fun a h => List.mem_cons_of_mem _ (S.zsub a h)
  trk := fun a h => by
    rcases List.mem_cons.mp h with e | h
    · exact ⟨o, by rw [e, upd_same], ho⟩
    · obtain ⟨u, q, n⟩ := S.trk a h
      exact ⟨u, by rw [upd_ne (ne_of_none q hp)]; exact q, n⟩
  keep := fun a u h n => by
    have q := S.keep a u h n
    rw [upd_ne (ne_of_none q hp)]; exact q
  oM := S.oM
  par := S.par
  tb := S.tb.ext (same_upd hp)
  tf := S.tf
theorem lay_same {p : Addr} {o : HO} (hp : H p = none) : Sm (mns H Z) (mns (upd H p o) (p :: Z)) := fun a u _ q => by
  obtain ⟨q1, q2⟩ := mns_some.mp q
  have ne : a ≠ p := ne_of_none q2 hp
  exact mns_some.mpr ⟨fun z => by rcases List.mem_cons.mp z with z | z; exact ne z; exact q1 z, by rw [upd_ne ne]; exact q2⟩
end

/-! ### what comes of an expression, of a statement -/
inductive Out (α : Type) where
  | ok (a : α) (e : En) | err (c : Str) (p : D) (e : En) | stuck
inductive SOut where
  | nx (e : En) | rt (r : SV) (e : En) | bk (e : En) | ct (e : En) | err (c : Str) (p : D) (e : En) | stuck
abbrev Fe := En → Out D
abbrev Fs := En → SOut
def Out.bnd {α β : Type} (o : Out α) (k : α → En → Out β) : Out β := match o with
  | .ok a e => k a e
  | .err c p e => .err c p e
  | .stuck => .stuck
/-- the addresses of the text's error classes, their fields -/
structure Er where
  T : List (Addr × Str)
  ca : Str → Addr
  fld : Str → Str
/-- readings -/
def wOk (K : PySem.W.Frag) (G : Er) (W : WX) (x : Fx) (O Z : Zs) (σ : L2.St) (H : Hp) (c : Str) (p : D) (env : En) : Prop :=
  ∀ dx v H', SRel K x O Z H' σ env → Sm (mns H Z) (mns H' Z) → dx ∉ Z → H' dx = some (.xd [(G.fld c, v)]) → Dq K (mns H' Z) v p → W (.ref (G.ca c)) (some dx) σ H'
theorem wOk.same {K : PySem.W.Frag} {G : Er} {W : WX} {x : Fx} {O Z : Zs} {σ : L2.St} {H H1 : Hp} {c : Str} {p : D} {env : En} (e : Sm (mns H Z) (mns H1 Z)) (h : wOk K G W x O Z σ H c p env) : wOk K G W x O Z σ H1 c p env := fun dx v H' S m n q d => h dx v H' S (e.trans m) n q d
/-- what is wanted behind o: Rl relates what the machine gives to the datum -/
def PO {α β : Type} (K : PySem.W.Frag) (G : Er) (W : WX) (x : Fx) (O Z : Zs) (σ : L2.St) (Rl : Hp → β → α → Prop) (H : Hp) (o : Out α) (Q : β → Hp → Prop) : Prop := match o with
  | .ok d env' => ∀ v H', SRel K x O Z H' σ env' → Sm (mns H Z) (mns H' Z) → Rl (mns H' Z) v d → Q v H'
  | .err c p env' => wOk K G W x O Z σ H c p env'
  | .stuck => False
def tG {α β : Type} (K : PySem.W.Frag) (G : Er) (W : WX) (x : Fx) (Rl : Hp → β → α → Prop) (f : En → Out α) : L2.St → Hp → (β → Hp → Prop) → Prop := fun σ H Q => ∃ O Z env, SRel K x O Z H σ env ∧ PO K G W x O Z σ Rl H (f env) Q
abbrev tD (K : PySem.W.Frag) (G : Er) (W : WX) (x : Fx) (f : Fe) : TE := tG K G W x (Dq K) f
abbrev RlB : Hp → Bool → Bool → Prop := fun _ a b => a = b
abbrev RlO : Hp → Option Int → Option Int → Prop := fun _ a b => a = b
section
variable {K : PySem.W.Frag} {G : Er} {W : WX} {x : Fx} {O Z : Zs} {σ : L2.St} {H H1 : Hp}
theorem PO.same {α β : Type} {Rl : Hp → β → α → Prop} {o : Out α} {Q : β → Hp → Prop} (e : Sm (mns H Z) (mns H1 Z)) (h : PO K G W x O Z σ Rl H o Q) : PO K G W x O Z σ Rl H1 o Q := by
  cases o with
  | ok d e1 => exact fun v H' S m r => h v H' S (e.trans m) r
  | err c p e1 => exact wOk.same e h
  | stuck => exact h
theorem PO.bnd {α β α' β' : Type} {Rl : Hp → β → α → Prop} {Rl' : Hp → β' → α' → Prop} {o : Out α} {k : α → En → Out α'} {Q : β' → Hp → Prop} {Q' : β → Hp → Prop} (h : PO K G W x O Z σ Rl' H (o.bnd k) Q)
    (hk : ∀ d e1 v H1, SRel K x O Z H1 σ e1 → Sm (mns H Z) (mns H1 Z) → Rl (mns H1 Z) v d → PO K G W x O Z σ Rl' H1 (k d e1) Q → Q' v H1) : PO K G W x O Z σ Rl H o Q' := by
  cases o with
  | ok d e1 => exact fun v H1 S m r => hk d e1 v H1 S m r (PO.same m h)
  | err c p e1 => exact h
  | stuck => exact h
end
end MI
set_option Elab.async false
set_option linter.all false
set_option maxRecDepth 100000
set_option maxHeartbeats 4000000
/-! Mini1: expressions -/
namespace MI
open PySem PySem.Spec PyProof.Rows L2

structure DE (X : Cx) (G : Er) (W : WX) (e : Expr) (f : Fe) : Prop where
  run : ∀ x : Fx, x.T = G.T → PE X e (tD X.K G W x f)
structure DT (X : Cx) (G : Er) (W : WX) (e : Expr) (f : En → Out Bool) : Prop where
  run : ∀ x : Fx, x.T = G.T → PT X e (tG X.K G W x RlB f)
structure DW (X : Cx) (G : Er) (W : WX) (e : Expr) (f : En → Out Bool) : Prop where
  run : ∀ x : Fx, x.T = G.T → PW X e (tG X.K G W x RlB f)
structure DA (X : Cx) (G : Er) (W : WX) (es : List Expr) (f : En → Out (List D)) : Prop where
  run : ∀ x : Fx, x.T = G.T → PA X es (tG X.K G W x (Dqs X.K) f)
structure DP (X : Cx) (G : Er) (W : WX) (e : Option Expr) (f : En → Out (Option Int)) : Prop where
  run : ∀ x : Fx, x.T = G.T → L2.PO X e (tG X.K G W x RlO f)
theorem peImp {X : Cx} {e : Expr} {t t' : TE} (h : PE X e t) (i : ∀ σ H Q, t' σ H Q → t σ H Q) : PE X e t' := ⟨fun pins s σ H Q I q => h.run pins s σ H Q I (i σ H Q q)⟩
theorem ptImp {X : Cx} {e : Expr} {t t' : TT} (h : PT X e t) (i : ∀ σ H Q, t' σ H Q → t σ H Q) : PT X e t' := ⟨fun pins s σ H Q I q => h.run pins s σ H Q I (i σ H Q q)⟩
theorem pwImp {X : Cx} {e : Expr} {t t' : TT} (h : PW X e t) (i : ∀ σ H Q, t' σ H Q → t σ H Q) : PW X e t' := ⟨fun w pins s σ H Q I q => h.run w pins s σ H Q I (i σ H Q q)⟩
theorem paImp {X : Cx} {e : List Expr} {t t' : TA} (h : PA X e t) (i : ∀ σ H Q, t' σ H Q → t σ H Q) : PA X e t' := ⟨fun p pins s σ H Q I q => h.run p pins s σ H Q I (i σ H Q q)⟩
theorem poImp {X : Cx} {e : Option Expr} {t t' : TO} (h : L2.PO X e t) (i : ∀ σ H Q, t' σ H Q → t σ H Q) : L2.PO X e t' := ⟨fun pins s σ H Q I q => h.run pins s σ H Q I (i σ H Q q)⟩
section
variable {X : Cx} {G : Er} {W : WX} {a b c e : Expr} {fa fb fc f : Fe} {pos : Pos}

/-! ### constants, names -/
def dK (d : D) : Fe := fun env => .ok d env
theorem deK {d : D} {v : V} (h : PE X e (tC v)) (r : ∀ H, Dq X.K H v d) : DE X G W e (dK d) := ⟨fun x xt => peImp h fun σ H Q ⟨O, Z, env, S, q⟩ => q v H S (Sm.refl _) (r _)⟩
theorem de_int {i : Int} {j : Nat} : DE X G W (.Constant (.int i) j pos) (dK (.int i)) := deK pe_int fun _ => .int i
theorem de_bl {b : Bool} {j : Nat} : DE X G W (.Constant (.bool b) j pos) (dK (.bool b)) := deK pe_bl fun _ => .bl b
theorem de_non {j : Nat} : DE X G W (.Constant .none j pos) (dK .none) := deK pe_non fun _ => .non
theorem de_str {z : Str} {j : Nat} : DE X G W (.Constant (.str z) j pos) (dK (.str z)) := deK pe_str fun _ => .str z
/-- a constant of the module -/
theorem de_glob {n : Str} {v : V} {u : Value} {d : D} (hg : Gl X n) (hm : X.mg n = some u) (r : RelV v u) (q : ∀ H, Dq X.K H v d) (hd : (n == ("__debug__" : Str)) = false := by decide) : DE X G W (.Name n pos) (dK d) := deK (pe_glob hg hm r hd) q
def gv (env : En) (i : Nat) : Option D := match env[i]? with
  | some (some (.val d)) => some d
  | _ => none
def outO {α : Type} (o : Option α) (env : En) : Out α := match o with
  | some a => .ok a env
  | none => .stuck
def dV (i : Nat) : Fe := fun env => outO (gv env i) env
theorem gv_some {env : En} {i : Nat} {d : D} (h : gv env i = some d) : env[i]? = some (some (.val d)) := by
  unfold gv at h
  split at h
  · cases h; assumption
  · cases h
theorem de_var (i : Nat) {n : Str} (h : PE X (.Name n pos) (tVar i)) : DE X G W (.Name n pos) (dV i) := ⟨fun x xt => peImp h fun σ H Q ⟨O, Z, env, S, q⟩ => by
  unfold dV at q
  cases hd : gv env i with
  | none => rw [hd] at q; exact q.elim
  | some d =>
    rw [hd] at q
    obtain ⟨v, h1, h2⟩ := S.slot i _ (gv_some hd)
    exact ⟨v, h1, q v H S (Sm.refl _) h2⟩⟩

/-! ### operations on values -/
/-- r gives g's datum -/
def RD (K : PySem.W.Frag) (r : R2) (g : D → D → Option D) : Prop := ∀ (H : Hp) (Z : Zs) (v w : V) (d e z : D) (Q : VK), (∀ p, H p = none → p ∉ Z) → Dq K (mns H Z) v d → Dq K (mns H Z) w e → g d e = some z →
  (∀ u H', Same H H' → Dq K (mns H' Z) u z → Q u H') → r v w H Q
theorem RD.or {K : PySem.W.Frag} {r r' : R2} {g g' : D → D → Option D} (h : RD K r g) (h' : RD K r' g') : RD K (fun v w H Q => r v w H Q ∨ r' v w H Q) (fun d e => (g d e).or (g' d e)) := fun H Z v w d e z Q n dv dw hz k => by
  replace hz : (g d e).or (g' d e) = some z := hz
  cases hg : g d e with
  | some y =>
    have e1 : y = z := by rw [hg] at hz; exact Option.some.inj hz
    subst e1
    exact .inl (h H Z v w d e y Q n dv dw hg k)
  | none =>
    rw [hg] at hz
    exact .inr (h' H Z v w d e z Q n dv dw hz k)
def d2 (g : D → D → Option D) (fa fb : Fe) : Fe := fun env => (fa env).bnd fun d e1 => (fb e1).bnd fun e e2 => outO (g d e) e2
theorem trkN {K : PySem.W.Frag} {x : Fx} {O Z : Zs} {H : Hp} {σ : L2.St} {env : En} (S : SRel K x O Z H σ env) : ∀ p, H p = none → p ∉ Z := fun p h z => S.nn z h
theorem same_m {H H' : Hp} {Z : Zs} (e : Same H H') : Sm (mns H Z) (mns H' Z) := mns_same fun a o _ q => e a o q
theorem po_fin {K : PySem.W.Frag} {x : Fx} {O Z : Zs} {σ : L2.St} {H H' : Hp} {α β : Type} {Rl : Hp → β → α → Prop} {d : α} {env : En} {Q : β → Hp → Prop} {v : β} (h : PO K G W x O Z σ Rl H (.ok d env) Q) (S : SRel K x O Z H σ env) (e : Same H H') (r : Rl (mns H' Z) v d) : Q v H' :=
  h v H' (S.grow e) (same_m e) r
theorem tD_d2 {x : Fx} {g : D → D → Option D} {r : R2} {σ : L2.St} {H : Hp} {Q : VK} (hr : RD X.K r g) (h : tD X.K G W x (d2 g fa fb) σ H Q) : tOp r (tD X.K G W x fa) (tD X.K G W x fb) σ H Q := by
  obtain ⟨O, Z, env, S, h⟩ := h
  refine ⟨O, Z, env, S, PO.bnd h fun d e1 v H1 S1 _ dp1 h1 => ⟨O, Z, e1, S1, PO.bnd h1 fun e e2 w H2 S2 m2 dp2 h2 => ?_⟩⟩
  cases hz : g d e with
  | none => rw [hz] at h2; exact h2.elim
  | some z =>
    rw [hz] at h2
    exact hr H2 Z v w d e z Q (trkN S2) (dqM m2 dp1) dp2 hz fun u H' sm dq => po_fin h2 S2 sm dq
theorem de_op {op : Operator} {r : R2} {g : D → D → Option D} (ho : OpR X (binaryOp op) r) (hr : RD X.K r g) (ha : DE X G W a fa) (hb : DE X G W b fb) : DE X G W (.BinOp a op b pos) (d2 g fa fb) :=
  ⟨fun x xt => peImp (pe_op ho (ha.run x xt) (hb.run x xt)) fun σ H Q h => tD_d2 hr h⟩
theorem de_cmp {op : CmpOp} {r : R2} {g : D → D → Option D} (ho : OpR X (compareOp op) r) (hr : RD X.K r g) (ha : DE X G W a fa) (hb : DE X G W b fb) (hm : behindInMarks op b = false) : DE X G W (.Compare a [op] [b] pos) (d2 g fa fb) :=
  ⟨fun x xt => peImp (pe_cmpR ho (ha.run x xt) (hb.run x xt) hm) fun σ H Q h => tD_d2 hr h⟩
/-- a value as a test -/
def dB (f : Fe) : En → Out Bool := fun env => (f env).bnd fun d e1 => match d with
  | .bool b => .ok b e1
  | _ => .stuck
theorem tT_B {x : Fx} {σ : L2.St} {H : Hp} {Q : Bool → Hp → Prop} {t : TE} (i : ∀ σ H Q, tD X.K G W x f σ H Q → t σ H Q) (h : tG X.K G W x RlB (dB f) σ H Q) : tTest t σ H Q := by
  obtain ⟨O, Z, env, S, h⟩ := h
  refine i σ H _ ⟨O, Z, env, S, PO.bnd h fun d e1 v H1 S1 _ dp1 h1 => ?_⟩
  cases dp1 with
  | bl b => exact ⟨b, rfl, h1 b H1 S1 (Sm.refl _) rfl⟩
  | non => exact h1.elim
  | int i => exact h1.elim
  | str z => exact h1.elim
  | lst _ _ => exact h1.elim
  | tup _ _ => exact h1.elim
theorem dt_cmp {op : CmpOp} {r : R2} {g : D → D → Option D} (ho : OpR X (compareOp op) r) (hr : RD X.K r g) (ha : DE X G W a fa) (hb : DE X G W b fb) (hm : behindInMarks op b = false) : DT X G W (.Compare a [op] [b] pos) (dB (d2 g fa fb)) :=
  ⟨fun x xt => ptImp (pt_cmpR ho (ha.run x xt) (hb.run x xt) hm) fun σ H Q h => tT_B (fun σ H Q h => tD_d2 hr h) h⟩
theorem dt_val (h : DE X G W e f) (he : ∀ whole, isTrue e X.env whole = (do let v ← whole; standAt e.pos; holding [v] (truthy v)) := by intro _; rfl) : DT X G W e (dB f) :=
  ⟨fun x xt => ptImp (pt_val (h.run x xt) he) fun σ H Q h => tT_B (t := tD X.K G W x f) (fun σ H Q h => h) h⟩
/-- a op1 b op2 c -/
def dChain (g g' : D → D → Option D) (fa fb fc : Fe) : Fe := fun env => (fa env).bnd fun d e1 => (fb e1).bnd fun e e2 => match g d e with
  | some (.bool true) => (fc e2).bnd fun z e3 => outO (g' e z) e3
  | some (.bool false) => .ok (.bool false) e2
  | _ => .stuck
theorem dq_bool {K : PySem.W.Frag} {H : Hp} {v : V} {b : Bool} (h : Dq K H v (.bool b)) : v = .bl b := by cases h; rfl
theorem tD_chain {x : Fx} {g g' : D → D → Option D} {r r' : R2} {σ : L2.St} {H : Hp} {Q : VK} (hr : RD X.K r g) (hr' : RD X.K r' g') (h : tD X.K G W x (dChain g g' fa fb fc) σ H Q) : tChain r r' (tD X.K G W x fa) (tD X.K G W x fb) (tD X.K G W x fc) σ H Q := by
  obtain ⟨O, Z, env, S, h⟩ := h
  refine ⟨O, Z, env, S, PO.bnd h fun d e1 v H1 S1 _ dp1 h1 => ⟨O, Z, e1, S1, PO.bnd h1 fun e e2 w H2 S2 m2 dp2 h2 => ?_⟩⟩
  split at h2
  · rename_i hz
    refine hr H2 Z v w d e _ _ (trkN S2) (dqM m2 dp1) dp2 hz fun u H' sm dq => ⟨true, dq_bool dq, ?_⟩
    refine iteT ⟨O, Z, e2, S2.grow sm, PO.bnd (PO.same (same_m sm) h2) fun z e3 y H3 S3 m3 dp3 h3 => ?_⟩
    cases hz' : g' e z with
    | none => rw [hz'] at h3; exact h3.elim
    | some z' =>
      rw [hz'] at h3
      exact hr' H3 Z w y e z z' Q (trkN S3) (dqM (same_m sm |>.trans m3) dp2) dp3 hz' fun u H' sm dq => po_fin h3 S3 sm dq
  · rename_i hz
    refine hr H2 Z v w d e _ _ (trkN S2) (dqM m2 dp1) dp2 hz fun u H' sm dq => ⟨false, dq_bool dq, ?_⟩
    exact iteF (po_fin h2 S2 sm (.bl false))
  · exact h2.elim
theorem de_chain {op op' : CmpOp} {r r' : R2} {g g' : D → D → Option D} (ho : OpR X (compareOp op) r) (ho' : OpR X (compareOp op') r') (hr : RD X.K r g) (hr' : RD X.K r' g') (ha : DE X G W a fa) (hb : DE X G W b fb) (hc : DE X G W c fc)
    (hm : lastMarks [op, op'] [b, c] = false := by with_unfolding_all rfl) : DE X G W (.Compare a [op, op'] [b, c] pos) (dChain g g' fa fb fc) :=
  ⟨fun x xt => peImp (pe_chain ho ho' (ha.run x xt) (hb.run x xt) (hc.run x xt) hm) fun σ H Q h => tD_chain hr hr' h⟩
theorem dt_chain {op op' : CmpOp} {r r' : R2} {g g' : D → D → Option D} (ho : OpR X (compareOp op) r) (ho' : OpR X (compareOp op') r') (hr : RD X.K r g) (hr' : RD X.K r' g') (ha : DE X G W a fa) (hb : DE X G W b fb) (hc : DE X G W c fc)
    (hm : lastMarks [op, op'] [b, c] = false := by with_unfolding_all rfl) : DT X G W (.Compare a [op, op'] [b, c] pos) (dB (dChain g g' fa fb fc)) :=
  ⟨fun x xt => ptImp (pt_chain ho ho' (ha.run x xt) (hb.run x xt) (hc.run x xt) hm) fun σ H Q h => tT_B (fun σ H Q h => tD_chain hr hr' h) h⟩

/-! ### and, or, not, if -/
def dAndB (f : En → Out Bool) (g : En → Out Bool) : En → Out Bool := fun env => (f env).bnd fun b e1 => if b = true then g e1 else .ok false e1
def dOrB (f : En → Out Bool) (g : En → Out Bool) : En → Out Bool := fun env => (f env).bnd fun b e1 => if b = true then .ok true e1 else g e1
def dNotB (f : En → Out Bool) : En → Out Bool := fun env => (f env).bnd fun b e1 => .ok (!b) e1
variable {p q : En → Out Bool} {rest : List Expr}
theorem DW.pt (h : DW X G W e p) : DT X G W e p := ⟨fun x xt => (h.run x xt).pt⟩
theorem dw_and1 (h : DT X G W a p) : DW X G W (.BoolOp .And [a] pos) p := ⟨fun x xt => pw_and1 (h.run x xt)⟩
theorem dw_or1 (h : DT X G W a p) : DW X G W (.BoolOp .Or [a] pos) p := ⟨fun x xt => pw_or1 (h.run x xt)⟩
theorem dw_and (h : DT X G W a p) (k : DW X G W (.BoolOp .And (b :: rest) pos) q) : DW X G W (.BoolOp .And (a :: b :: rest) pos) (dAndB p q) := ⟨fun x xt => pwImp (pw_and (h.run x xt) (k.run x xt)) fun σ H Q ⟨O, Z, env, S, h⟩ => ⟨O, Z, env, S, PO.bnd h fun d e1 v H1 S1 _ dp1 h1 => by
  cases dp1
  cases d with
  | true => exact iteT ⟨O, Z, e1, S1, h1⟩
  | false => exact iteF (h1 false H1 S1 (Sm.refl _) rfl)⟩⟩
theorem dw_or (h : DT X G W a p) (k : DW X G W (.BoolOp .Or (b :: rest) pos) q) : DW X G W (.BoolOp .Or (a :: b :: rest) pos) (dOrB p q) := ⟨fun x xt => pwImp (pw_or (h.run x xt) (k.run x xt)) fun σ H Q ⟨O, Z, env, S, h⟩ => ⟨O, Z, env, S, PO.bnd h fun d e1 v H1 S1 _ dp1 h1 => by
  cases dp1
  cases d with
  | true => exact iteT (h1 true H1 S1 (Sm.refl _) rfl)
  | false => exact iteF ⟨O, Z, e1, S1, h1⟩⟩⟩
theorem dt_not (h : DT X G W a p) : DT X G W (.UnaryOp .Not a pos) (dNotB p) := ⟨fun x xt => ptImp (pt_not (h.run x xt)) fun σ H Q ⟨O, Z, env, S, h⟩ => ⟨O, Z, env, S, PO.bnd h fun d e1 v H1 S1 _ dp1 h1 => by
  cases dp1
  exact h1 (!d) H1 S1 (Sm.refl _) rfl⟩⟩
/-- .. as values -/
def dAnd (f g : Fe) : Fe := fun env => (f env).bnd fun d e1 => match d with
  | .bool true => g e1
  | .bool false => .ok (.bool false) e1
  | _ => .stuck
def dOr (f g : Fe) : Fe := fun env => (f env).bnd fun d e1 => match d with
  | .bool true => .ok (.bool true) e1
  | .bool false => g e1
  | _ => .stuck
def dNot (f : Fe) : Fe := fun env => (f env).bnd fun d e1 => match d with
  | .bool b => .ok (.bool (!b)) e1
  | _ => .stuck
theorem de_one {op : BoolOp} (h : DE X G W a fa) : DE X G W (.BoolOp op [a] pos) fa := ⟨fun x xt => pe_one (h.run x xt)⟩
theorem de_and (h : DE X G W a fa) (k : DE X G W (.BoolOp .And (b :: rest) pos) fb) : DE X G W (.BoolOp .And (a :: b :: rest) pos) (dAnd fa fb) := ⟨fun x xt => peImp (pe_and (h.run x xt) (k.run x xt)) fun σ H Q ⟨O, Z, env, S, h⟩ => ⟨O, Z, env, S, PO.bnd h fun d e1 v H1 S1 _ dp1 h1 => by
  cases dp1 with
  | bl b =>
    refine ⟨b, rfl, ?_⟩
    cases b with
    | true => exact iteT ⟨O, Z, e1, S1, h1⟩
    | false => exact iteF (h1 _ H1 S1 (Sm.refl _) (.bl false))
  | non => exact h1.elim
  | int i => exact h1.elim
  | str z => exact h1.elim
  | lst _ _ => exact h1.elim
  | tup _ _ => exact h1.elim⟩⟩
theorem de_or (h : DE X G W a fa) (k : DE X G W (.BoolOp .Or (b :: rest) pos) fb) : DE X G W (.BoolOp .Or (a :: b :: rest) pos) (dOr fa fb) := ⟨fun x xt => peImp (pe_or (h.run x xt) (k.run x xt)) fun σ H Q ⟨O, Z, env, S, h⟩ => ⟨O, Z, env, S, PO.bnd h fun d e1 v H1 S1 _ dp1 h1 => by
  cases dp1 with
  | bl b =>
    refine ⟨b, rfl, ?_⟩
    cases b with
    | true => exact iteT (h1 _ H1 S1 (Sm.refl _) (.bl true))
    | false => exact iteF ⟨O, Z, e1, S1, h1⟩
  | non => exact h1.elim
  | int i => exact h1.elim
  | str z => exact h1.elim
  | lst _ _ => exact h1.elim
  | tup _ _ => exact h1.elim⟩⟩
theorem de_not (h : DE X G W a fa) : DE X G W (.UnaryOp .Not a pos) (dNot fa) := ⟨fun x xt => peImp (pe_not (h.run x xt)) fun σ H Q ⟨O, Z, env, S, h⟩ => ⟨O, Z, env, S, PO.bnd h fun d e1 v H1 S1 _ dp1 h1 => by
  cases dp1 with
  | bl b => exact ⟨b, rfl, h1 _ H1 S1 (Sm.refl _) (.bl _)⟩
  | non => exact h1.elim
  | int i => exact h1.elim
  | str z => exact h1.elim
  | lst _ _ => exact h1.elim
  | tup _ _ => exact h1.elim⟩⟩
def dIf (p : En → Out Bool) (f g : Fe) : Fe := fun env => (p env).bnd fun b e1 => if b = true then f e1 else g e1
theorem de_if (hc : DT X G W c p) (ha : DE X G W a fa) (hb : DE X G W b fb) : DE X G W (.IfExp c a b pos) (dIf p fa fb) := ⟨fun x xt => peImp (pe_ifExp (hc.run x xt) (ha.run x xt) (hb.run x xt)) fun σ H Q ⟨O, Z, env, S, h⟩ => ⟨O, Z, env, S, PO.bnd h fun d e1 v H1 S1 _ dp1 h1 => by
  cases dp1
  cases d with
  | true => exact iteT ⟨O, Z, e1, S1, h1⟩
  | false => exact iteF ⟨O, Z, e1, S1, h1⟩⟩⟩
/-! ### lists of arguments, displays -/
def dNil : En → Out (List D) := fun env => .ok [] env
def dCons (f : Fe) (g : En → Out (List D)) : En → Out (List D) := fun env => (f env).bnd fun d e1 => (g e1).bnd fun ds e2 => .ok (d :: ds) e2
theorem da_nil : DA X G W [] dNil := ⟨fun x xt => paImp pa_nil fun σ H Q ⟨O, Z, env, S, h⟩ => h [] H S (Sm.refl _) .nil⟩
theorem da_cons {es : List Expr} {fs : En → Out (List D)} (ha : DE X G W a fa) (hr : DA X G W es fs) (hs : starEach (a :: es) X.env = (false, eval a X.env) :: starEach es X.env := by rfl) : DA X G W (a :: es) (dCons fa fs) :=
  ⟨fun x xt => paImp (pa_cons (ha.run x xt) (hr.run x xt) hs) fun σ H Q ⟨O, Z, env, S, h⟩ => ⟨O, Z, env, S, PO.bnd h fun d e1 v H1 S1 _ dp1 h1 => ⟨O, Z, e1, S1, PO.bnd h1 fun ds e2 vs H2 S2 m2 dp2 h2 => h2 (v :: vs) H2 S2 (Sm.refl _) (.cons (dqM m2 dp1) dp2)⟩⟩⟩
def dTup (fs : En → Out (List D)) : Fe := fun env => (fs env).bnd fun ds e1 => if ds.length ≤ 1000000 then .ok (.tuple ds) e1 else .stuck
theorem line_of {n : Nat} (h : n ≤ 1000000) : n ≤ sizeLine := by rw [sizeLine_eq]; omega
theorem de_tup {es : List Expr} {k : Nat} {fs : En → Out (List D)} (h : DA X G W es fs) : DE X G W (.Tuple es k pos) (dTup fs) := ⟨fun x xt => peImp (pe_tup (h.run x xt)) fun σ H Q ⟨O, Z, env, S, h⟩ => ⟨O, Z, env, S, PO.bnd h fun ds e1 vs H1 S1 _ dp1 h1 => by
  by_cases hl : ds.length ≤ 1000000
  · rw [if_pos hl] at h1
    refine ⟨by rw [dqsLen dp1]; exact line_of hl, fun p hp => po_fin h1 S1 (same_upd hp) (.tup (.inl (.inl (mns_some.mpr ⟨fun z => S1.nn z hp, upd_same⟩))) (dqsM (same_m (same_upd hp)) dp1))⟩
  · rw [if_neg hl] at h1; exact h1.elim⟩⟩
end
end MI
set_option Elab.async false
set_option linter.all false
set_option maxRecDepth 100000
set_option maxHeartbeats 4000000
/-! Mini2: operators and built-ins -/
namespace MI
open PySem PySem.Spec PyProof.Rows L2
section
variable {K : PySem.W.Frag} {H H' : Hp} {Z : Zs}
theorem dqL {a : Addr} {ds : List D} (h : Dq K H (.ref a) (.list ds)) : ∃ xs, H a = some (.lst xs) ∧ Dqs K H xs ds := by cases h; exact ⟨_, ‹_›, ‹_›⟩
theorem dqT {a : Addr} {ds : List D} (h : Dq K H (.ref a) (.tuple ds)) : ∃ xs, SqT K H a xs ∧ Dqs K H xs ds := by cases h; exact ⟨_, ‹_›, ‹_›⟩
theorem sqT_up {a : Addr} {xs : List V} (h : SqT K (mns H Z) a xs) : SqT K H a xs := exT mns_le h
theorem lst_up {a : Addr} {o : HO} (h : mns H Z a = some o) : H a = some o := (mns_some.mp h).2
/-- a new list, a new tuple as data -/
theorem new_l {p : Addr} {xs : List V} {ds : List D} (n : p ∉ Z) (hp : H p = none) (h : Dqs K (mns H Z) xs ds) : Dq K (mns (upd H p (.lst xs)) Z) (.ref p) (.list ds) := .lst (mns_some.mpr ⟨n, upd_same⟩) (dqsM (same_m (same_upd hp)) h)
theorem new_t {p : Addr} {xs : List V} {ds : List D} (n : p ∉ Z) (hp : H p = none) (h : Dqs K (mns H Z) xs ds) : Dq K (mns (upd H p (.tup xs)) Z) (.ref p) (.tuple ds) := .tup (.inl (.inl (mns_some.mpr ⟨n, upd_same⟩))) (dqsM (same_m (same_upd hp)) h)
end
/-! ### arithmetic -/
def gI (f : Int → Int → Option D) : D → D → Option D := fun d e => match d, e with
  | .int i, .int j => f i j
  | _, _ => none
theorem gI_some {f : Int → Int → Option D} {d e z : D} (h : gI f d e = some z) : ∃ i j, d = .int i ∧ e = .int j ∧ f i j = some z := by
  unfold gI at h
  split at h
  · exact ⟨_, _, rfl, rfl, h⟩
  · cases h
section
variable {K : PySem.W.Frag} {H : Hp} {Z : Zs} {v w : V}
theorem dq_int {i : Int} (h : Dq K H v (.int i)) : v = .int i := by cases h; rfl
theorem dq_str {i : Str} (h : Dq K H v (.str i)) : v = .str i := by cases h; rfl
theorem dq_bl {i : Bool} (h : Dq K H v (.bool i)) : v = .bl i := by cases h; rfl
theorem dq_non (h : Dq K H v .none) : v = .non := by cases h; rfl
theorem dq_ltup {ds : List D} (h : Dq K H v (.tuple ds)) : ∃ a xs, v = .ref a ∧ SqT K H a xs ∧ Dqs K H xs ds := by cases h; exact ⟨_, _, rfl, ‹_›, ‹_›⟩
theorem dq_llst {ds : List D} (h : Dq K H v (.list ds)) : ∃ a xs, v = .ref a ∧ H a = some (.lst xs) ∧ Dqs K H xs ds := by cases h; exact ⟨_, _, rfl, ‹_›, ‹_›⟩
end
theorem rd_I0 {K : PySem.W.Frag} {f : Int → Int → Int} : RD K (rI0 fun i j => .int (f i j)) (gI fun i j => some (.int (f i j))) := fun H Z v w d e z Q n dv dw hz k => by
  obtain ⟨i, j, rfl, rfl, hf⟩ := gI_some hz
  cases hf
  exact ⟨i, j, dq_int dv, dq_int dw, k _ H (Same.refl H) (.int _)⟩
theorem rd_B0 {K : PySem.W.Frag} {f : Int → Int → Bool} : RD K (rI0 fun i j => .bl (f i j)) (gI fun i j => some (.bool (f i j))) := fun H Z v w d e z Q n dv dw hz k => by
  obtain ⟨i, j, rfl, rfl, hf⟩ := gI_some hz
  cases hf
  exact ⟨i, j, dq_int dv, dq_int dw, k _ H (Same.refl H) (.bl _)⟩
theorem rd_I {K : PySem.W.Frag} {C : Int → Int → Prop} {c : Int → Int → Bool} {f : Int → Int → Int} (hc : ∀ i j, c i j = true → C i j) : RD K (rI C fun i j => .int (f i j)) (gI fun i j => if c i j = true then some (.int (f i j)) else none) := fun H Z v w d e z Q n dv dw hz k => by
  obtain ⟨i, j, rfl, rfl, hf⟩ := gI_some hz
  by_cases h : c i j = true
  · rw [if_pos h] at hf
    cases hf
    exact ⟨i, j, dq_int dv, dq_int dw, hc i j h, k _ H (Same.refl H) (.int _)⟩
  · rw [if_neg h] at hf; cases hf
def gSub : D → D → Option D := gI fun i j => some (.int (i - j))
theorem rd_sub {K : PySem.W.Frag} : RD K (rI0 fun i j => .int (i - j)) gSub := rd_I0
def cDiv (i j : Int) : Bool := match j with
  | .ofNat n => decide (1 ≤ n) && decide (n < 1073741824)
  | .negSucc _ => false
def gFdiv : D → D → Option D := gI fun i j => if cDiv i j = true then some (.int (i / j)) else none
theorem rd_fdiv {K : PySem.W.Frag} : RD K (rI CDiv fun i j => .int (i / j)) gFdiv := rd_I fun i j h => by
  unfold cDiv at h
  split at h
  · simp only [Bool.and_eq_true, decide_eq_true_eq] at h
    rename_i n
    exact ⟨show (0 : Int) < (n : Int) by omega, show (n : Int) < 1073741824 by omega⟩
  · cases h
def gMod : D → D → Option D := gI fun i j => if decide (0 < j) = true then some (.int (i % j)) else none
theorem rd_mod {K : PySem.W.Frag} : RD K (rI (fun _ j => 0 < j) fun i j => .int (i % j)) gMod := rd_I fun i j h => of_decide_eq_true h
def cPow (i j : Int) : Bool := decide (0 ≤ j) && decide (j ≤ 1000) && decide (i.natAbs < 1000)
def gPow : D → D → Option D := gI fun i j => if cPow i j = true then some (.int (i ^ j.toNat)) else none
theorem rd_pow {K : PySem.W.Frag} : RD K (rI CPow fun i j => .int (i ^ j.toNat)) gPow := rd_I fun i j h => by
  unfold cPow at h
  simp only [Bool.and_eq_true, decide_eq_true_eq] at h
  exact ⟨h.1.1, by omega, Nat.lt_of_lt_of_le h.2 (by decide)⟩
def gLt : D → D → Option D := gI fun i j => some (.bool (decide (i < j)))
def gLe : D → D → Option D := gI fun i j => some (.bool (decide (i ≤ j)))
def gGt : D → D → Option D := gI fun i j => some (.bool (decide (j < i)))
def gGe : D → D → Option D := gI fun i j => some (.bool (decide (j ≤ i)))
theorem rd_lt {K : PySem.W.Frag} : RD K (rI0 fun i j => .bl (decide (i < j))) gLt := rd_B0
theorem rd_le {K : PySem.W.Frag} : RD K (rI0 fun i j => .bl (decide (i ≤ j))) gLe := rd_B0
theorem rd_gt {K : PySem.W.Frag} : RD K (rI0 fun i j => .bl (decide (j < i))) gGt := rd_B0
theorem rd_ge {K : PySem.W.Frag} : RD K (rI0 fun i j => .bl (decide (j ≤ i))) gGe := rd_B0
/-! + -/
def small (n : Nat) : Bool := decide (n ≤ 1000000)
theorem small_ok {n : Nat} (h : small n = true) : n ≤ sizeLine := line_of (of_decide_eq_true h)
def gAdd : D → D → Option D := fun d e => match d, e with
  | .int i, .int j => some (.int (i + j))
  | .str x, .str y => if small (x.length + y.length) = true then some (.str (x ++ y)) else none
  | .tuple xs, .tuple ys => if small (xs.length + ys.length) = true then some (.tuple (xs ++ ys)) else none
  | .list xs, .list ys => if small (xs.length + ys.length) = true then some (.list (xs ++ ys)) else none
  | _, _ => none
abbrev rAddS : R2 := fun x y H Q => ∃ i j, x = .str i ∧ y = .str j ∧ i.length + j.length ≤ sizeLine ∧ Q (.str (i ++ j)) H
def rAddD (K : PySem.W.Frag) : R2 := fun x y H Q => (rI0 (fun i j => .int (i + j)) x y H Q ∨ rAddS x y H Q) ∨ rCatA K x y H Q ∨ rCat x y H Q
theorem op_addD {X : Cx} : OpR X (binaryOp .Add) (rAddD X.K) := (op_add.or op_add_str).or (op_catA.or op_cat)
theorem rd_add {K : PySem.W.Frag} : RD K (rAddD K) gAdd := fun H Z v w d e z Q n dv dw hz k => by
  unfold gAdd at hz
  split at hz
  · cases hz
    exact .inl (.inl ⟨_, _, dq_int dv, dq_int dw, k _ H (Same.refl H) (.int _)⟩)
  · split at hz
    · rename_i hs
      cases hz
      exact .inl (.inr ⟨_, _, dq_str dv, dq_str dw, small_ok hs, k _ H (Same.refl H) (.str _)⟩)
    · cases hz
  · rename_i xs ys
    split at hz
    · rename_i hs
      cases hz
      obtain ⟨a, us, rfl, h1, h2⟩ := dq_ltup dv
      obtain ⟨b, ws, rfl, h3, h4⟩ := dq_ltup dw
      have l1 := dqsLen h2
      have l2 := dqsLen h4
      refine .inr (.inl ⟨a, b, us, ws, rfl, rfl, sqT_up h1, sqT_up h3, by rw [l1, l2]; exact small_ok hs, fun e => ?_, fun _ e => ?_, fun _ _ p hp => ?_⟩)
      · have e2 : xs = [] := List.length_eq_zero_iff.mp (by rw [← l1, e]; rfl)
        rw [e2, List.nil_append] at k
        exact k _ H (Same.refl H) dw
      · have e2 : ys = [] := List.length_eq_zero_iff.mp (by rw [← l2, e]; rfl)
        rw [e2, List.append_nil] at k
        exact k _ H (Same.refl H) dv
      · exact k _ _ (same_upd hp) (new_t (n p hp) hp (dqsApp h2 h4))
    · cases hz
  · rename_i xs ys
    split at hz
    · rename_i hs
      cases hz
      obtain ⟨a, us, rfl, h1, h2⟩ := dq_llst dv
      obtain ⟨b, ws, rfl, h3, h4⟩ := dq_llst dw
      refine .inr (.inr ⟨a, b, us, ws, rfl, rfl, lst_up h1, lst_up h3, by rw [dqsLen h2, dqsLen h4]; exact small_ok hs, fun p hp => ?_⟩)
      exact k _ _ (same_upd hp) (new_l (n p hp) hp (dqsApp h2 h4))
    · cases hz
  · cases hz
/-! == -/
def gEq : D → D → Option D := fun d e => if SeqAt.shaped d = true ∧ SeqAt.shaped e = true then some (.bool (PyData.eqv d e)) else none
def gNe : D → D → Option D := fun d e => if SeqAt.shaped d = true ∧ SeqAt.shaped e = true then some (.bool (!PyData.eqv d e)) else none
theorem rd_eq {K : PySem.W.Frag} : RD K (rEqD K) gEq := fun H Z v w d e z Q n dv dw hz k => by
  unfold gEq at hz
  split at hz
  · rename_i h
    cases hz
    exact ⟨d, e, dpM mns_le dv.dp, dpM mns_le dw.dp, h.1, h.2, k _ H (Same.refl H) (.bl _)⟩
  · cases hz
theorem rd_ne {K : PySem.W.Frag} : RD K (rNeD K) gNe := fun H Z v w d e z Q n dv dw hz k => by
  unfold gNe at hz
  split at hz
  · rename_i h
    cases hz
    exact ⟨d, e, dpM mns_le dv.dp, dpM mns_le dw.dp, h.1, h.2, k _ H (Same.refl H) (.bl _)⟩
  · cases hz
/-! in -/
def flatD : D → Bool
  | .none => true
  | .bool _ => true
  | .int _ => true
  | .str _ => true
  | _ => false
theorem flat_of {K : PySem.W.Frag} {H : Hp} {v : V} {d : D} (h : Dq K H v d) (f : flatD d = true) : flatV v = true := by cases h <;> first | rfl | cases f
theorem flats_of {K : PySem.W.Frag} {H : Hp} : ∀ {vs : List V} {ds : List D}, Dqs K H vs ds → ds.all flatD = true → vs.all flatV = true
  | _, _, .nil, _ => rfl
  | _, _, .cons h t, f => by
    rw [List.all_cons, Bool.and_eq_true] at f
    rw [List.all_cons, flat_of h f.1, flats_of t f.2]; rfl
theorem eqV_of {K : PySem.W.Frag} {H : Hp} {v w : V} {d e : D} (h : Dq K H v d) (h' : Dq K H w e) (f : flatD d = true) (f' : flatD e = true) : eqV v w = PyData.eqv d e := by
  cases h <;> cases h' <;> first | cases f | cases f' | skip
  all_goals simp [eqV, PyData.eqv]
end MI
set_option Elab.async false
set_option linter.all false
set_option maxRecDepth 100000
set_option maxHeartbeats 4000000
/-! Mini3: more operators, built-ins -/
namespace MI
open PySem PySem.Spec PyProof.Rows L2
/-! in a list | a tuple -/
theorem shaped_mem {d : D} {ds : List D} (h : SeqAt.shaped (.list ds) = true) : True := trivial
theorem inV_of {K : PySem.W.Frag} {H : Hp} {v : V} {d : D} (h : Dq K H v d) (f : flatD d = true) : ∀ {vs : List V} {ds : List D}, Dqs K H vs ds → ds.all flatD = true → inV v vs = ds.any fun z => PyData.eqv z d
  | _, _, .nil, _ => rfl
  | _, _, .cons h' t, fs => by
    rw [List.all_cons, Bool.and_eq_true] at fs
    have ih := inV_of h f t fs.2
    unfold inV at ih ⊢
    rw [List.any_cons, List.any_cons, eqV_of h' h fs.1 f, ih]
theorem sing_of {y : Str} (h : y.cps.size = 1) : y = ⟨#[y.cps.getD 0 0]⟩ := by
  obtain ⟨⟨l⟩⟩ := y
  match l, h with
  | [c], _ => rfl
def gInB (d e : D) : Option Bool := match e with
  | .list ds => if SeqAt.shaped d = true ∧ SeqAt.shaped (.list ds) = true then some (ds.any fun z => PyData.eqv z d) else none
  | .tuple ds => if flatD d = true ∧ ds.all flatD = true then some (ds.any fun z => PyData.eqv z d) else none
  | .str z => (match d with
    | .str y => if y.cps.size = 1 then some (decide (y.cps.getD 0 0 ∈ z.cps.toList)) else none
    | _ => none)
  | _ => none
def gIn : D → D → Option D := fun d e => (gInB d e).map .bool
def gNotIn : D → D → Option D := fun d e => (gInB d e).map fun b => .bool (!b)
abbrev rInS : R2 := fun x y H Q => ∃ (c : Nat) (z : Str), x = .str ⟨#[c]⟩ ∧ y = .str z ∧ Q (.bl (decide (c ∈ z.cps.toList))) H
abbrev rNotInS : R2 := fun x y H Q => ∃ (c : Nat) (z : Str), x = .str ⟨#[c]⟩ ∧ y = .str z ∧ Q (.bl (!decide (c ∈ z.cps.toList))) H
def rInA (K : PySem.W.Frag) : R2 := fun x y H Q => (rInD K x y H Q ∨ rIn K false x y H Q) ∨ rInS x y H Q
def rNotInA (K : PySem.W.Frag) : R2 := fun x y H Q => (rNotInD K x y H Q ∨ rIn K true x y H Q) ∨ rNotInS x y H Q
theorem op_inA {X : Cx} (hu : X.A.units + 65 < cLine) : OpR X (compareOp .In) (rInA X.K) := ((op_inD hu).or op_in_seq).or op_in_sign
theorem op_notInA {X : Cx} (hu : X.A.units + 65 < cLine) : OpR X (compareOp .NotIn) (rNotInA X.K) := ((op_notInD hu).or op_notIn_seq).or op_notIn_sign
theorem rd_in {K : PySem.W.Frag} : RD K (rInA K) gIn := fun H Z v w d e z Q n dv dw hz k => by
  unfold gIn at hz
  cases e with
  | list ds =>
    unfold gInB at hz
    dsimp only at hz
    split at hz
    · rename_i h
      cases hz
      exact .inl (.inl ⟨d, ds, dpM mns_le dv.dp, dpM mns_le dw.dp, h.1, h.2, k _ H (Same.refl H) (.bl _)⟩)
    · cases hz
  | tuple ds =>
    unfold gInB at hz
    dsimp only at hz
    split at hz
    · rename_i h
      cases hz
      obtain ⟨a, us, rfl, h1, h2⟩ := dq_ltup dw
      refine .inl (.inr ⟨a, us, rfl, .inr (sqT_up h1), flat_of dv h.1, flats_of h2 h.2, ?_⟩)
      rw [inV_of dv h.1 h2 h.2]
      exact k _ H (Same.refl H) (.bl _)
    · cases hz
  | str y =>
    unfold gInB at hz
    dsimp only at hz
    split at hz
    · split at hz
      · rename_i u hu
        cases hz
        exact .inr ⟨_, y, (dq_str dv).trans (congrArg V.str (sing_of hu)), dq_str dw, k _ H (Same.refl H) (.bl _)⟩
      · cases hz
    · cases hz
  | none => cases hz
  | bool _ => cases hz
  | int _ => cases hz
  | dict _ => cases hz
theorem rd_notIn {K : PySem.W.Frag} : RD K (rNotInA K) gNotIn := fun H Z v w d e z Q n dv dw hz k => by
  unfold gNotIn at hz
  cases e with
  | list ds =>
    unfold gInB at hz
    dsimp only at hz
    split at hz
    · rename_i h
      cases hz
      exact .inl (.inl ⟨d, ds, dpM mns_le dv.dp, dpM mns_le dw.dp, h.1, h.2, k _ H (Same.refl H) (.bl _)⟩)
    · cases hz
  | tuple ds =>
    unfold gInB at hz
    dsimp only at hz
    split at hz
    · rename_i h
      cases hz
      obtain ⟨a, us, rfl, h1, h2⟩ := dq_ltup dw
      refine .inl (.inr ⟨a, us, rfl, .inr (sqT_up h1), flat_of dv h.1, flats_of h2 h.2, ?_⟩)
      rw [inV_of dv h.1 h2 h.2]
      exact k _ H (Same.refl H) (.bl _)
    · cases hz
  | str y =>
    unfold gInB at hz
    dsimp only at hz
    split at hz
    · split at hz
      · rename_i u hu
        cases hz
        exact .inr ⟨_, y, (dq_str dv).trans (congrArg V.str (sing_of hu)), dq_str dw, k _ H (Same.refl H) (.bl _)⟩
      · cases hz
    · cases hz
  | none => cases hz
  | bool _ => cases hz
  | int _ => cases hz
  | dict _ => cases hz
/-! is None -/
def isNone : D → Bool
  | .none => true
  | _ => false
def dIsN (f : Fe) : Fe := fun env => (f env).bnd fun d e1 => .ok (.bool (isNone d)) e1
def dNotN (f : Fe) : Fe := fun env => (f env).bnd fun d e1 => .ok (.bool (!isNone d)) e1
theorem isNone_of {K : PySem.W.Frag} {H : Hp} {v : V} {d : D} (h : Dq K H v d) : decide (v = .non) = isNone d := by cases h <;> simp [isNone]
section
variable {X : Cx} {G : Er} {W : WX} {a b c e o i : Expr} {fa fb fc f : Fe} {pos pos' p : Pos} {j : Nat}
theorem tD_isN {x : Fx} {σ : L2.St} {H : Hp} {Q : VK} (h : tD X.K G W x (dIsN f) σ H Q) : tIsN (tD X.K G W x f) σ H Q := by
  obtain ⟨O, Z, env, S, h⟩ := h
  refine ⟨O, Z, env, S, PO.bnd h fun d e1 v H1 S1 _ dp1 h1 => ?_⟩
  show Q (.bl (decide (v = .non))) H1
  rw [isNone_of dp1]
  exact h1 _ H1 S1 (Sm.refl _) (.bl _)
theorem tD_notN {x : Fx} {σ : L2.St} {H : Hp} {Q : VK} (h : tD X.K G W x (dNotN f) σ H Q) : tNotN (tD X.K G W x f) σ H Q := by
  obtain ⟨O, Z, env, S, h⟩ := h
  refine ⟨O, Z, env, S, PO.bnd h fun d e1 v H1 S1 _ dp1 h1 => ?_⟩
  show Q (.bl (!decide (v = .non))) H1
  rw [isNone_of dp1]
  exact h1 _ H1 S1 (Sm.refl _) (.bl _)
theorem de_isN (h : DE X G W a fa) : DE X G W (.Compare a [.Is] [.Constant .none j pos'] pos) (dIsN fa) := ⟨fun x xt => peImp (pe_cmp (pc_isN (h.run x xt))) fun σ H Q h => tD_isN h⟩
theorem de_notN (h : DE X G W a fa) : DE X G W (.Compare a [.IsNot] [.Constant .none j pos'] pos) (dNotN fa) := ⟨fun x xt => peImp (pe_cmp (pc_notN (h.run x xt))) fun σ H Q h => tD_notN h⟩
theorem tB_B {x : Fx} {σ : L2.St} {H : Hp} {Q : Bool → Hp → Prop} {t : TE} (i : ∀ σ H Q, tD X.K G W x f σ H Q → t σ H Q) (h : tG X.K G W x RlB (dB f) σ H Q) : tB t σ H Q := tT_B i h
theorem dt_isN (h : DE X G W a fa) : DT X G W (.Compare a [.Is] [.Constant .none j pos'] pos) (dB (dIsN fa)) := ⟨fun x xt => ptImp (pt_cmp (pc_isN (h.run x xt))) fun σ H Q h => tB_B (fun σ H Q h => tD_isN h) h⟩
theorem dt_notN (h : DE X G W a fa) : DT X G W (.Compare a [.IsNot] [.Constant .none j pos'] pos) (dB (dNotN fa)) := ⟨fun x xt => ptImp (pt_cmp (pc_notN (h.run x xt))) fun σ H Q h => tB_B (fun σ H Q h => tD_notN h) h⟩
/-! ### * -/
def cMul (i j : Int) : Bool := (decide (i.natAbs < 10000000000000000000)) || (decide (j.natAbs < 10000000000000000000))
theorem cMul_ok {i j : Int} (h : cMul i j = true) : CMul i j := by
  unfold cMul at h
  simp only [Bool.or_eq_true, decide_eq_true_eq] at h
  rcases h with h | h
  · exact .inl ⟨by omega, by omega⟩
  · exact .inr ⟨by omega, by omega⟩
def repS (z : Str) (n : Nat) : Str := ⟨(List.replicate n z.cps.toList).flatten.toArray⟩
def gMul : D → D → Option D := fun d e => match d, e with
  | .int i, .int j => if cMul i j = true then some (.int (i * j)) else none
  | .str z, .int k => if 1 ≤ k ∧ k ≤ 1000 ∧ 1 ≤ z.length ∧ z.length ≤ 1000 then some (.str (repS z k.toNat)) else none
  | .list xs, .int k => if 0 ≤ k ∧ k ≤ 1000 ∧ xs.length ≤ 1000 then some (.list (List.replicate k.toNat xs).flatten) else none
  | _, _ => none
abbrev rMulS : R2 := fun x y H Q => ∃ (z : Str) (k : Int), x = .str z ∧ y = .int k ∧ (1 ≤ k ∧ k ≤ 1000 ∧ 1 ≤ z.length ∧ z.length ≤ 1000) ∧ Q (.str (repS z k.toNat)) H
theorem foldl_app (c : Array Nat) : ∀ (n : Nat) (acc : Array Nat), (List.replicate n c).foldl (· ++ ·) acc = (acc.toList ++ (List.replicate n c.toList).flatten).toArray
  | 0, acc => by simp
  | n + 1, acc => by
    rw [List.replicate_succ, List.foldl_cons, foldl_app c n (acc ++ c), List.replicate_succ, List.flatten_cons]
    simp
theorem op_mulS {X : Cx} : OpR X (binaryOp .Mult) rMulS := by
  intro pins s σ H x y v u Q I rx ry h
  obtain ⟨z, k, rfl, rfl, ⟨h1, h2, h3, h4⟩, q⟩ := h
  obtain ⟨t, rfl⟩ := rx
  obtain ⟨t', rfl⟩ := ry
  have hk : k.toNat ≤ 1000 := by omega
  refine PySem.P.mul_str ?_ (fun _ _ => ?_) (fun _ _ => ?_) ?_
  · rw [decide_eq_false (by omega : ¬ k < -(2 ^ 63 : Int)), decide_eq_false (by omega : ¬ k ≥ 2 ^ 63)]; rfl
  · have : (1000 : Int) ≤ (2 ^ 63 - 1) / k := by
      rw [Int.le_ediv_iff_mul_le (by omega)]
      omega
    omega
  · have hh : z.length * k.toNat ≤ 1000000 := Nat.mul_le_mul h4 hk
    unfold Builtin.Str.tooLong
    rw [decide_eq_false]
    rw [sizeLine_eq]; omega
  · rw [if_neg (by omega)]
    by_cases he : (k == 1 || z.length == 0) = true
    · rw [if_pos he]
      have e1 : k = 1 := by
        simp only [Bool.or_eq_true, beq_iff_eq] at he
        omega
      have e2 : repS z k.toNat = z := by
        rw [e1]
        unfold repS
        simp
      rw [e2] at q
      exact ⟨.str z, H, I, ⟨_, rfl⟩, q⟩
    · rw [if_neg he]
      have e2 : (⟨(List.replicate k.toNat z.cps).foldl (· ++ ·) #[]⟩ : Str) = repS z k.toNat := by
        rw [foldl_app]
        unfold repS
        simp
      have e3 : (repS z k.toNat).length ≤ 1000000 := by
        unfold repS Str.length
        simp only [List.size_toArray, List.length_flatten, List.map_replicate, List.sum_replicate_nat, Array.length_toList]
        have : z.cps.size ≤ 1000 := h4
        exact Nat.le_trans (Nat.mul_le_mul hk this) (by decide)
      rw [e2]
      refine ⟨?_, ?_⟩
      · rw [sizeLine_eq]; omega
      · exact ⟨.str _, H, I.tok _, ⟨_, rfl⟩, q⟩
def rMulD : R2 := fun x y H Q => (rI CMul (fun i j => .int (i * j)) x y H Q ∨ rMulS x y H Q) ∨ rRep x y H Q
theorem op_mulD {X : Cx} : OpR X (binaryOp .Mult) rMulD := (op_mul.or op_mulS).or op_rep
theorem rd_mul {K : PySem.W.Frag} : RD K rMulD gMul := fun H Z v w d e z Q n dv dw hz k => by
  unfold gMul at hz
  split at hz
  · split at hz
    · rename_i h
      cases hz
      exact .inl (.inl ⟨_, _, dq_int dv, dq_int dw, cMul_ok h, k _ H (Same.refl H) (.int _)⟩)
    · cases hz
  · split at hz
    · rename_i h
      cases hz
      exact .inl (.inr ⟨_, _, dq_str dv, dq_int dw, h, k _ H (Same.refl H) (.str _)⟩)
    · cases hz
  · split at hz
    · rename_i xs i h
      cases hz
      obtain ⟨a, us, rfl, h1, h2⟩ := dq_llst dv
      have hz2 : us.length * i.toNat ≤ sizeLine := by
        rw [dqsLen h2]
        refine line_of ?_
        have h3 : i.toNat ≤ 1000 := by omega
        exact Nat.mul_le_mul h.2.2 h3
      refine .inr ⟨a, i, us, rfl, dq_int dw, lst_up h1, by omega, by omega, hz2, fun p hp => ?_⟩
      exact k _ _ (same_upd hp) (new_l (n p hp) hp (dqsRep h2 _))
    · cases hz
  · cases hz
/-! ### - -/
def dNeg (f : Fe) : Fe := fun env => (f env).bnd fun d e1 => match d with
  | .int i => .ok (.int (-i)) e1
  | _ => .stuck
theorem de_neg (h : DE X G W a fa) : DE X G W (.UnaryOp .USub a pos) (dNeg fa) := ⟨fun x xt => peImp (pe_un un_neg (h.run x xt)) fun σ H Q ⟨O, Z, env, S, h⟩ => ⟨O, Z, env, S, PO.bnd h fun d e1 v H1 S1 _ dp1 h1 => by
  cases d with
  | int i => exact ⟨i, dq_int dp1, h1 _ H1 S1 (Sm.refl _) (.int _)⟩
  | none => exact h1.elim
  | bool _ => exact h1.elim
  | str _ => exact h1.elim
  | list _ => exact h1.elim
  | tuple _ => exact h1.elim
  | dict _ => exact h1.elim⟩⟩
/-! ### calls of built-ins -/
def RC (K : PySem.W.Frag) (r : List V → Hp → VK → Prop) (g : List D → Option D) : Prop := ∀ (H : Hp) (Z : Zs) (vs : List V) (ds : List D) (z : D) (Q : VK), (∀ p, H p = none → p ∉ Z) → Dqs K (mns H Z) vs ds → g ds = some z →
  (∀ u H', Same H H' → Dq K (mns H' Z) u z → Q u H') → r vs H Q
def dC (g : List D → Option D) (fs : En → Out (List D)) : Fe := fun env => (fs env).bnd fun ds e1 => outO (g ds) e1
theorem tD_C {x : Fx} {es : List Expr} {fs : En → Out (List D)} {g : List D → Option D} {r : List V → Hp → VK → Prop} {σ : L2.St} {H : Hp} {Q : VK} (hr : RC X.K r g) (h : tD X.K G W x (dC g fs) σ H Q) : tCB r (tG X.K G W x (Dqs X.K) fs) σ H Q := by
  obtain ⟨O, Z, env, S, h⟩ := h
  refine ⟨O, Z, env, S, PO.bnd h fun ds e1 vs H1 S1 _ dp1 h1 => ?_⟩
  cases hz : g ds with
  | none => rw [hz] at h1; exact h1.elim
  | some z =>
    rw [hz] at h1
    exact hr H1 Z vs ds z Q (trkN S1) dp1 hz fun u H' sm dq => po_fin h1 S1 sm dq
theorem de_callB {id : String} {n : Str} {es : List Expr} {fs : En → Out (List D)} {g : List D → Option D} {r : List V → Hp → VK → Prop} (hc : CallR X (.builtin id) r) (hr : RC X.K r g) (hg : Gl X n) (hm : X.mg n = none) (hv : bootBuiltins n = some (.builtin id)) (ha : DA X G W (e :: es) fs)
    (hn : n ≠ "__name__" := by decide) (hdb : (n == ("__debug__" : Str)) = false := by decide) (he : starEach (e :: es) X.env = (false, eval e X.env) :: starEach es X.env := by rfl) (hpl : (backTo pos (starEach es X.env)).any (·.1) = false := by rfl) :
    DE X G W (.Call (.Name n p) (e :: es) [] pos) (dC g fs) := ⟨fun x xt => peImp (pe_callB hc hg hm hv (ha.run x xt) hn hdb he hpl) fun σ H Q h => tD_C (es := es) hr h⟩
theorem de_callTy {T : String} {n : Str} {es : List Expr} {fs : En → Out (List D)} {g : List D → Option D} {r : List V → Hp → VK → Prop} (hc : CallR X (.type T) r) (hr : RC X.K r g) (hg : Gl X n) (hm : X.mg n = none) (hv : bootBuiltins n = some (.type T)) (ha : DA X G W (e :: es) fs)
    (hn : n ≠ "__name__" := by decide) (hdb : (n == ("__debug__" : Str)) = false := by decide) (he : starEach (e :: es) X.env = (false, eval e X.env) :: starEach es X.env := by rfl) (hpl : (backTo pos (starEach es X.env)).any (·.1) = false := by rfl) :
    DE X G W (.Call (.Name n p) (e :: es) [] pos) (dC g fs) := ⟨fun x xt => peImp (pe_callTy hc hg hm hv (ha.run x xt) hn hdb he hpl) fun σ H Q h => tD_C (es := es) hr h⟩
def dLenO : D → Option Nat
  | .str z => if small z.length = true then some z.length else none
  | .list ds => some ds.length
  | .tuple ds => some ds.length
  | _ => none
def g1 (g : D → Option D) : List D → Option D
  | [d] => g d
  | _ => none
theorem g1_some {g : D → Option D} {ds : List D} {z : D} (h : g1 g ds = some z) : ∃ d, ds = [d] ∧ g d = some z := by
  match ds, h with
  | [d], h => exact ⟨d, rfl, h⟩
theorem dqs1 {K : PySem.W.Frag} {H : Hp} {vs : List V} {d : D} (h : Dqs K H vs [d]) : ∃ v, vs = [v] ∧ Dq K H v d := by
  cases h with
  | cons a t => cases t; exact ⟨_, rfl, a⟩
theorem dqs2 {K : PySem.W.Frag} {H : Hp} {vs : List V} {d e : D} (h : Dqs K H vs [d, e]) : ∃ v w, vs = [v, w] ∧ Dq K H v d ∧ Dq K H w e := by
  cases h with
  | cons a t =>
    obtain ⟨w, rfl, b⟩ := dqs1 t
    exact ⟨_, _, rfl, a, b⟩
theorem dqs0 {K : PySem.W.Frag} {H : Hp} {vs : List V} (h : Dqs K H vs []) : vs = [] := by cases h; rfl
def gLen : List D → Option D := g1 fun d => (dLenO d).map fun (n : Nat) => PyData.int (n : Int)
abbrev rLenA (K : PySem.W.Frag) : List V → Hp → VK → Prop := fun xs H Q => ∃ x n, xs = [x] ∧ LenV K x H n ∧ Q (.int n) H
theorem rc_len {K : PySem.W.Frag} : RC K (rLenA K) gLen := fun H Z vs ds z Q n dvs hz k => by
  obtain ⟨d, rfl, hd⟩ := g1_some hz
  obtain ⟨v, rfl, dv⟩ := dqs1 dvs
  cases d with
  | str y =>
    unfold dLenO at hd
    dsimp only at hd
    by_cases hs : small y.length = true
    · rw [if_pos hs] at hd
      cases hd
      rw [dq_str dv]
      exact ⟨_, y.length, rfl, ⟨small_ok hs, rfl⟩, k _ H (Same.refl H) (.int _)⟩
    · rw [if_neg hs] at hd; cases hd
  | list ds =>
    cases hd
    obtain ⟨a, us, rfl, h1, h2⟩ := dq_llst dv
    exact ⟨_, ds.length, rfl, .inl ⟨us, SqL.of (lst_up h1), (dqsLen h2).symm⟩, k _ H (Same.refl H) (.int _)⟩
  | tuple ds =>
    cases hd
    obtain ⟨a, us, rfl, h1, h2⟩ := dq_ltup dv
    exact ⟨_, ds.length, rfl, .inr ⟨us, sqT_up h1, (dqsLen h2).symm⟩, k _ H (Same.refl H) (.int _)⟩
  | none => cases hd
  | bool _ => cases hd
  | int _ => cases hd
  | dict _ => cases hd
def gAbs : List D → Option D := g1 fun d => match d with
  | .int i => some (.int (if i < 0 then -i else i))
  | _ => none
abbrev rAbs : List V → Hp → VK → Prop := fun xs H Q => ∃ i, xs = [.int i] ∧ Q (.int (if i < 0 then -i else i)) H
theorem rc_abs {K : PySem.W.Frag} : RC K rAbs gAbs := fun H Z vs ds z Q n dvs hz k => by
  obtain ⟨d, rfl, hd⟩ := g1_some hz
  obtain ⟨v, rfl, dv⟩ := dqs1 dvs
  split at hd
  · cases hd
    rw [dq_int dv]
    exact ⟨_, rfl, k _ H (Same.refl H) (.int _)⟩
  · cases hd
def gInt : List D → Option D := g1 fun d => match d with
  | .int i => some (.int i)
  | .bool b => some (.int (if b then 1 else 0))
  | _ => none
abbrev rInt : List V → Hp → VK → Prop := fun xs H Q => (∃ i, xs = [.int i] ∧ Q (.int i) H) ∨ ∃ k, xs = [.bl k] ∧ Q (.int (if k then 1 else 0)) H
theorem rc_int {K : PySem.W.Frag} : RC K rInt gInt := fun H Z vs ds z Q n dvs hz k => by
  obtain ⟨d, rfl, hd⟩ := g1_some hz
  obtain ⟨v, rfl, dv⟩ := dqs1 dvs
  split at hd
  · cases hd
    rw [dq_int dv]
    exact .inl ⟨_, rfl, k _ H (Same.refl H) (.int _)⟩
  · cases hd
    rw [dq_bl dv]
    exact .inr ⟨_, rfl, k _ H (Same.refl H) (.int _)⟩
  · cases hd
def gTuple : List D → Option D := g1 fun d => match d with
  | .list ds => some (.tuple ds)
  | .tuple ds => some (.tuple ds)
  | _ => none
abbrev rTuple (K : PySem.W.Frag) : List V → Hp → VK → Prop := fun xs H Q => ∃ p ys, xs = [.ref p] ∧ ((SqL K H p ys ∧ ∀ l, H l = none → Q (.ref l) (upd H l (.tup ys))) ∨ (SqT K H p ys ∧ Q (.ref p) H))
theorem rc_tuple {K : PySem.W.Frag} : RC K (rTuple K) gTuple := fun H Z vs ds z Q n dvs hz k => by
  obtain ⟨d, rfl, hd⟩ := g1_some hz
  obtain ⟨v, rfl, dv⟩ := dqs1 dvs
  split at hd
  · cases hd
    obtain ⟨a, us, rfl, h1, h2⟩ := dq_llst dv
    exact ⟨a, us, rfl, .inl ⟨SqL.of (lst_up h1), fun l hl => k _ _ (same_upd hl) (new_t (n l hl) hl h2)⟩⟩
  · cases hd
    obtain ⟨a, us, rfl, h1, h2⟩ := dq_ltup dv
    exact ⟨a, us, rfl, .inr ⟨sqT_up h1, k _ H (Same.refl H) dv⟩⟩
  · cases hd
def g2 (g : D → D → Option D) : List D → Option D
  | [d, e] => g d e
  | _ => none
theorem g2_some {g : D → D → Option D} {ds : List D} {z : D} (h : g2 g ds = some z) : ∃ d e, ds = [d, e] ∧ g d e = some z := by
  match ds, h with
  | [d, e], h => exact ⟨d, e, rfl, h⟩
def gMin2 : List D → Option D := g2 (gI fun i j => some (.int (if j < i then j else i)))
def gMax2 : List D → Option D := g2 (gI fun i j => some (.int (if j > i then j else i)))
theorem rc_min2 {K : PySem.W.Frag} : RC K (fun xs H Q => ∃ i j, xs = [.int i, .int j] ∧ Q (.int (if j < i then j else i)) H) gMin2 := fun H Z vs ds z Q n dvs hz k => by
  obtain ⟨d, e, rfl, hd⟩ := g2_some hz
  obtain ⟨v, w, rfl, dv, dw⟩ := dqs2 dvs
  obtain ⟨i, j, rfl, rfl, hf⟩ := gI_some hd
  cases hf
  rw [dq_int dv, dq_int dw]
  exact ⟨i, j, rfl, k _ H (Same.refl H) (.int _)⟩
theorem rc_max2 {K : PySem.W.Frag} : RC K (fun xs H Q => ∃ i j, xs = [.int i, .int j] ∧ Q (.int (if j > i then j else i)) H) gMax2 := fun H Z vs ds z Q n dvs hz k => by
  obtain ⟨d, e, rfl, hd⟩ := g2_some hz
  obtain ⟨v, w, rfl, dv, dw⟩ := dqs2 dvs
  obtain ⟨i, j, rfl, rfl, hf⟩ := gI_some hd
  cases hf
  rw [dq_int dv, dq_int dw]
  exact ⟨i, j, rfl, k _ H (Same.refl H) (.int _)⟩
/-- the truth values of a list -/
def boolsO : List D → Option (List Bool)
  | [] => some []
  | .bool b :: r => (boolsO r).map (b :: ·)
  | _ :: _ => none
theorem bools_of {K : PySem.W.Frag} {H : Hp} : ∀ {vs : List V} {ds : List D} {bs : List Bool}, Dqs K H vs ds → boolsO ds = some bs → vs = bs.map V.bl
  | _, _, _, .nil, h => by cases h; rfl
  | _, _, _, .cons (d := d) a t, h => by
    cases a with
    | bl b =>
      unfold boolsO at h
      cases hr : boolsO _ with
      | none => rw [hr] at h; cases h
      | some r =>
        rw [hr] at h
        cases h
        rw [bools_of t hr]; rfl
    | non => cases h
    | int _ => cases h
    | str _ => cases h
    | lst _ _ => cases h
    | tup _ _ => cases h
def gAll : List D → Option D := g1 fun d => match d with
  | .list ds => (boolsO ds).map fun bs => .bool (bs.all id)
  | _ => none
def gAny : List D → Option D := g1 fun d => match d with
  | .list ds => (boolsO ds).map fun bs => .bool (bs.any id)
  | _ => none
theorem rc_all {K : PySem.W.Frag} : RC K (rAll K) gAll := fun H Z vs ds z Q n dvs hz k => by
  obtain ⟨d, rfl, hd⟩ := g1_some hz
  obtain ⟨v, rfl, dv⟩ := dqs1 dvs
  split at hd
  · obtain ⟨a, us, rfl, h1, h2⟩ := dq_llst dv
    cases hb : boolsO _ with
    | none => rw [hb] at hd; cases hd
    | some bs =>
      rw [hb] at hd
      cases hd
      have e := bools_of h2 hb
      exact ⟨a, bs, rfl, SqL.of (by rw [← e]; exact lst_up h1), k _ H (Same.refl H) (.bl _)⟩
  · cases hd
theorem rc_any {K : PySem.W.Frag} : RC K (rAny K) gAny := fun H Z vs ds z Q n dvs hz k => by
  obtain ⟨d, rfl, hd⟩ := g1_some hz
  obtain ⟨v, rfl, dv⟩ := dqs1 dvs
  split at hd
  · obtain ⟨a, us, rfl, h1, h2⟩ := dq_llst dv
    cases hb : boolsO _ with
    | none => rw [hb] at hd; cases hd
    | some bs =>
      rw [hb] at hd
      cases hd
      have e := bools_of h2 hb
      exact ⟨a, bs, rfl, SqL.of (by rw [← e]; exact lst_up h1), k _ H (Same.refl H) (.bl _)⟩
  · cases hd
end
end MI
set_option Elab.async false
set_option linter.all false
set_option maxRecDepth 100000
set_option maxHeartbeats 4000000
/-! Mini4: isinstance, subscripts, slices, join, new lists -/
namespace MI
open PySem PySem.Spec PyProof.Rows L2
def tyD : D → String
  | .none => "NoneType"
  | .bool _ => "bool"
  | .int _ => "int"
  | .str _ => "str"
  | .list _ => "list"
  | .tuple _ => "tuple"
  | .dict _ => "dict"
theorem tyx_of {K : PySem.W.Frag} {H : Hp} {Z : Zs} {v : V} {d : D} (h : Dq K (mns H Z) v d) : TyX K H v (.type (tyD d)) := by
  cases h with
  | non => exact .base .non
  | bl b => exact .base (.bl b)
  | int i => exact .base (.int i)
  | str x => exact .base (.str x)
  | lst h _ => exact .base (.lst (lst_up h))
  | tup h _ =>
    rcases sqT_up h with (h | ⟨o, h⟩) | ⟨o, its, n, h1, h2, _⟩
    · exact .base (.tup h)
    · exact .fTuple h
    · exact .kTuple h1 h2
section
variable {X : Cx} {G : Er} {W : WX} {a b c e o i : Expr} {fa fb fc f : Fe} {f' : En → Out (List D)} {pos pos' p p2 : Pos} {j : Nat} {n : Str}
def dIsi (T : String) (f : Fe) : Fe := fun env => (f env).bnd fun d e1 => match kitB (tyD d) T with
  | some b => .ok (.bool b) e1
  | none => .stuck
theorem de_isi (T : String) (h : DE X G W a fa) (hg : Gl X "isinstance") (hm : X.mg "isinstance" = none) (hg2 : Gl X n) (hm2 : X.mg n = none) (hv : bootBuiltins n = some (.type T)) (hn : n ≠ "__name__" := by decide) (hd : (n == ("__debug__" : Str)) = false := by decide)
    (he : starEach (a :: [.Name n p2]) X.env = (false, eval a X.env) :: starEach [.Name n p2] X.env := by rfl) (he2 : starEach (.Name n p2 :: []) X.env = (false, eval (.Name n p2) X.env) :: starEach [] X.env := by rfl) (hpl : (backTo pos (starEach [.Name n p2] X.env)).any (·.1) = false := by rfl) :
    DE X G W (.Call (.Name "isinstance" p) [a, .Name n p2] [] pos) (dIsi T fa) := ⟨fun x xt => peImp (pe_callB call_isi hg hm (by decide +kernel) (pa_cons (h.run x xt) (pa_cons (pe_bltn (v := .ty T) hg2 hm2 hv rfl hn hd) pa_nil he2) he) (by decide) (by decide) he hpl) fun σ H Q ⟨O, Z, env, S, h⟩ => ⟨O, Z, env, S, PO.bnd h fun d e1 v H1 S1 _ dp1 h1 => by
  cases hk : kitB (tyD d) T with
  | none => rw [hk] at h1; exact h1.elim
  | some b =>
    rw [hk] at h1
    exact ⟨v, .ty T, .type (tyD d), .type T, b, rfl, .ty T, tyx_of dp1, kit_ty hk, h1 _ H1 S1 (Sm.refl _) (.bl _)⟩⟩⟩
/-! ### subscripts -/
def gIx : D → D → Option D := fun d e => match e with
  | .int i => (match d with
    | .str z => if small z.length = true then (atI z.cps.toList i).map fun c => .str ⟨#[c]⟩ else none
    | .list ds => atI ds i
    | .tuple ds => atI ds i
    | _ => none)
  | _ => none
theorem atI_dq {K : PySem.W.Frag} {H : Hp} {vs : List V} {ds : List D} {i : Int} {d : D} (h : Dqs K H vs ds) (e : atI ds i = some d) : ∃ v, atI vs i = some v ∧ Dq K H v d := by
  unfold atI at e ⊢
  rw [dqsLen h]
  cases hx : ixN ds.length i with
  | none => rw [hx] at e; cases e
  | some j =>
    rw [hx] at e
    obtain ⟨v, h1, h2⟩ := dqsGet (i := j) h (show ds[j]? = some d from e)
    exact ⟨v, h1, h2⟩
theorem rd_ix {K : PySem.W.Frag} : RD K (rIx K) gIx := fun H Z v w d e z Q n dv dw hz k => by
  unfold gIx at hz
  split at hz
  · rename_i i
    split at hz
    · rename_i y
      split at hz
      · rename_i hs
        cases ha : atI y.cps.toList i with
        | none => rw [ha] at hz; cases hz
        | some c =>
          rw [ha] at hz
          cases hz
          exact .inr (.inr ⟨y, i, c, dq_str dv, dq_int dw, small_ok hs, ha, k _ H (Same.refl H) (.str _)⟩)
      · cases hz
    · obtain ⟨a, us, rfl, h1, h2⟩ := dq_llst dv
      obtain ⟨u, h3, h4⟩ := atI_dq h2 hz
      exact .inl ⟨a, us, i, u, rfl, dq_int dw, SqL.of (lst_up h1), h3, k _ H (Same.refl H) h4⟩
    · obtain ⟨a, us, rfl, h1, h2⟩ := dq_ltup dv
      obtain ⟨u, h3, h4⟩ := atI_dq h2 hz
      exact .inr (.inl ⟨a, us, i, u, rfl, dq_int dw, sqT_up h1, h3, k _ H (Same.refl H) h4⟩)
    · cases hz
  · cases hz
theorem de_ix (ha : DE X G W a fa) (hb : DE X G W b fb) (hs : PlainIx b) : DE X G W (.Subscript a b pos) (d2 gIx fa fb) := ⟨fun x xt => peImp (pe_ix ix_seq (ha.run x xt) (hb.run x xt) hs) fun σ H Q h => tD_d2 rd_ix h⟩
theorem dp_none : DP X G W none (fun env => .ok none env) := ⟨fun x xt => poImp po_none fun σ H Q ⟨O, Z, env, S, h⟩ => h none H S (Sm.refl _) rfl⟩
def dPart (f : Fe) : En → Out (Option Int) := fun env => (f env).bnd fun d e1 => match d with
  | .int i => .ok (some i) e1
  | _ => .stuck
theorem dp_some (h : DE X G W a fa) : DP X G W (some a) (dPart fa) := ⟨fun x xt => poImp (po_some (h.run x xt)) fun σ H Q ⟨O, Z, env, S, h⟩ => ⟨O, Z, env, S, PO.bnd h fun d e1 v H1 S1 _ dp1 h1 => by
  cases d with
  | int i => exact ⟨i, dq_int dp1, h1 _ H1 S1 (Sm.refl _) rfl⟩
  | none => exact h1.elim
  | bool _ => exact h1.elim
  | str _ => exact h1.elim
  | list _ => exact h1.elim
  | tuple _ => exact h1.elim
  | dict _ => exact h1.elim⟩⟩
/-! slices -/
def cutD (ds : List D) (lo hi : Option Int) : List D := (ds.drop (HT.sIx ds.length 0 lo)).take (HT.sIx ds.length ds.length hi - HT.sIx ds.length 0 lo)
theorem cut_dq {K : PySem.W.Frag} {H : Hp} {vs : List V} {ds : List D} (h : Dqs K H vs ds) (lo hi : Option Int) : Dqs K H (cutV vs lo hi) (cutD ds lo hi) := by
  unfold cutV cutD
  rw [dqsLen h]
  exact dqsTake _ (dqsDrop _ h)
def gSl (d : D) (lo hi : Option Int) : Option D := match d with
  | .str z => if small z.length = true then some (.str (cutS z lo hi)) else none
  | .list ds => some (.list (cutD ds lo hi))
  | .tuple ds => some (.tuple (cutD ds lo hi))
  | _ => none
def rSlD (K : PySem.W.Frag) : V → Option Int → Option Int → Hp → VK → Prop := fun x lo hi H Q => (rSlS x lo hi H Q ∨ rSlL K x lo hi H Q) ∨ rSlA K x lo hi H Q
theorem sl_D : SlR X (rSlD X.K) := (sl_str.or sl_list).or sl_tupA
def dSl (f : Fe) (l h : En → Out (Option Int)) : Fe := fun env => (f env).bnd fun d e1 => (l e1).bnd fun lo e2 => (h e2).bnd fun hi e3 => outO (gSl d lo hi) e3
theorem cut_whole {ds : List D} {lo hi : Option Int} (h : HT.sIx ds.length 0 lo = 0 ∧ HT.sIx ds.length ds.length hi = ds.length) : cutD ds lo hi = ds := by
  unfold cutD
  rw [h.1, h.2]
  simp
theorem de_slice {lo hi : Option Expr} {l h : En → Out (Option Int)} (ha : DE X G W a fa) (hl : DP X G W lo l) (hh : DP X G W hi h) : DE X G W (.Subscript a (.Slice lo hi none p2) pos) (dSl fa l h) :=
  ⟨fun x xt => peImp (pe_slice sl_D (ha.run x xt) (hl.run x xt) (hh.run x xt)) fun σ H Q ⟨O, Z, env, S, h⟩ => ⟨O, Z, env, S, PO.bnd h fun d e1 v H1 S1 _ dp1 h1 => ⟨O, Z, e1, S1, PO.bnd h1 fun lo e2 v2 H2 S2 m2 q2 h2 => ⟨O, Z, e2, S2, PO.bnd h2 fun hi e3 v3 H3 S3 m3 q3 h3 => by
    cases q2
    cases q3
    have dv := dqM m3 (dqM m2 dp1)
    cases hz : gSl d lo hi with
    | none => rw [hz] at h3; exact h3.elim
    | some z =>
      rw [hz] at h3
      unfold gSl at hz
      split at hz
      · split at hz
        · rename_i hs
          cases hz
          exact .inl (.inl ⟨_, dq_str dv, small_ok hs, po_fin h3 S3 (Same.refl _) (.str _)⟩)
        · cases hz
      · cases hz
        obtain ⟨a, us, rfl, g1, g2⟩ := dq_llst dv
        exact .inl (.inr ⟨a, us, rfl, SqL.of (lst_up g1), fun p hp => po_fin h3 S3 (same_upd hp) (new_l (trkN S3 p hp) hp (cut_dq g2 _ _))⟩)
      · cases hz
        obtain ⟨a, us, rfl, g1, g2⟩ := dq_ltup dv
        refine .inr ⟨a, us, rfl, sqT_up g1, fun hw => ?_, fun _ p hp => po_fin h3 S3 (same_upd hp) (new_t (trkN S3 p hp) hp (cut_dq g2 _ _))⟩
        rw [dqsLen g2] at hw
        have h4 := h3
        rw [cut_whole hw] at h4
        exact po_fin h4 S3 (Same.refl _) dv
      · cases hz⟩⟩⟩⟩
/-! join -/
def strsO : List D → Option (List Str)
  | [] => some []
  | .str z :: r => (strsO r).map (z :: ·)
  | _ :: _ => none
theorem strs_of' {K : PySem.W.Frag} {H : Hp} : ∀ {vs : List V} {ds : List D} {zs : List Str}, Dqs K H vs ds → strsO ds = some zs → vs = zs.map V.str
  | _, _, _, .nil, h => by cases h; rfl
  | _, _, _, .cons a t, h => by
    cases a with
    | str z =>
      unfold strsO at h
      cases hr : strsO _ with
      | none => rw [hr] at h; cases h
      | some r =>
        rw [hr] at h
        cases h
        rw [strs_of' t hr]; rfl
    | non => cases h
    | int _ => cases h
    | bl _ => cases h
    | lst _ _ => cases h
    | tup _ _ => cases h
def gJoin (z : Str) : D → Option D := fun e => match (match e with
    | .list ds => strsO ds
    | .tuple ds => strsO ds
    | _ => none) with
  | some zs => if (zs.map (·.length)).sum + zs.length * z.length ≤ 16777216 then some (.str (Txt.join z zs)) else none
  | none => none
def dJoin (f g : Fe) : Fe := fun env => (f env).bnd fun d e1 => match d with
  | .str z => (g e1).bnd fun e e2 => outO (gJoin z e) e2
  | _ => .stuck
theorem de_join {apos : Pos} (ha : DE X G W a fa) (hb : DE X G W b fb) (hs : starEach [b] X.env = [(false, eval b X.env)] := by rfl) (hbase : attributeBase a "join" X.env (eval a X.env) = eval a X.env := by rfl) (hline : (apos.endLine == pos.line) = true := by rfl) :
    DE X G W (.Call (.Attribute a "join" apos) [b] [] pos) (dJoin fa fb) := ⟨fun x xt => peImp (pe_join (ha.run x xt) (hb.run x xt) hs hbase hline) fun σ H Q ⟨O, Z, env, S, h⟩ => ⟨O, Z, env, S, PO.bnd h fun d e1 v H1 S1 _ dp1 h1 => by
  split at h1
  · rename_i z
    rw [dq_str dp1]
    refine ⟨⟨z, rfl⟩, O, Z, e1, S1, PO.bnd h1 fun e e2 w H2 S2 m2 dp2 h2 => ?_⟩
    cases hz : gJoin z e with
    | none => rw [hz] at h2; exact h2.elim
    | some r =>
      rw [hz] at h2
      unfold gJoin at hz
      split at hz
      · rename_i zs hzs
        split at hz
        · rename_i hl
          cases hz
          split at hzs
          · obtain ⟨a, us, rfl, g1, g2⟩ := dq_llst dp2
            have e0 := strs_of' g2 hzs
            exact ⟨z, a, zs, rfl, rfl, .inl (SqL.of (by rw [← e0]; exact lst_up g1)), hl, po_fin h2 S2 (Same.refl _) (.str _)⟩
          · obtain ⟨a, us, rfl, g1, g2⟩ := dq_ltup dp2
            have e0 := strs_of' g2 hzs
            exact ⟨z, a, zs, rfl, rfl, .inr (by rw [← e0]; exact sqT_up g1), hl, po_fin h2 S2 (Same.refl _) (.str _)⟩
          · cases hzs
        · cases hz
      · cases hz
  · exact h1.elim⟩⟩
/-! ### new lists -/
/-- a new list, forbidden to all but its slot -/
abbrev RlN (K : PySem.W.Frag) (x : Fx) (Z : Zs) : Hp → V → List D → Prop := fun Hm v ds => True
def PON (K : PySem.W.Frag) (G : Er) (W : WX) (x : Fx) (O Z : Zs) (σ : L2.St) (H : Hp) (f : Out (List D)) (Q : VK) : Prop := match f with
  | .ok ds env' => ∀ p vs H', x.H0 p = none → p ∉ Z → SRel K x O (p :: Z) H' σ env' → Sm (mns H Z) (mns H' (p :: Z)) → H' p = some (.lst vs) → Dqs K (mns H' (p :: Z)) vs ds → Q (.ref p) H'
  | .err c p env' => wOk K G W x O Z σ H c p env'
  | .stuck => False
def tN (K : PySem.W.Frag) (G : Er) (W : WX) (x : Fx) (f : En → Out (List D)) : TE := fun σ H Q => ∃ O Z env, SRel K x O Z H σ env ∧ PON K G W x O Z σ H (f env) Q
structure DN (X : Cx) (G : Er) (W : WX) (e : Expr) (f : En → Out (List D)) : Prop where
  run : ∀ x : Fx, x.T = G.T → PE X e (tN X.K G W x f)
theorem h0_none {K : PySem.W.Frag} {x : Fx} {O Z : Zs} {H : Hp} {σ : L2.St} {env : En} (S : SRel K x O Z H σ env) {p : Addr} (hp : H p = none) : x.H0 p = none := by
  cases q : x.H0 p with
  | none => rfl
  | some o =>
    by_cases hm : p ∈ x.M
    · obtain ⟨⟨i, a⟩, h1, h2⟩ := List.mem_map.mp hm
      obtain ⟨h3, s, h4, h5⟩ := S.par _ h1
      have e : a = p := h2
      subst e
      exact absurd hp (S.nn (S.osub _ (S.ownO i s a h4 h5 h3)))
    · rw [S.keep p o q hm] at hp; cases hp
theorem mns_cons {H : Hp} {Z : Zs} {p : Addr} : Sm (mns H (p :: Z)) (mns H Z) := mns_sub fun a h => List.mem_cons_of_mem _ h
def dLst (f : En → Out (List D)) : Fe := fun env => (f env).bnd fun ds e1 => .ok (.list ds) e1
/-- a new list as a value -/
theorem DN.de (h : DN X G W e f') : DE X G W e (dLst f') := ⟨fun x xt => peImp (h.run x xt) fun σ H Q ⟨O, Z, env, S, h⟩ => ⟨O, Z, env, S, by
  unfold dLst at h
  cases hf : f' env with
  | ok ds e1 =>
    rw [hf] at h
    intro p vs H' _ hp S' m hl dq
    exact h (.ref p) H' (S'.less (fun a ha => List.mem_cons_of_mem _ ha) S.osub S.zsub) (m.trans mns_cons) (.lst (mns_some.mpr ⟨hp, hl⟩) (dqsM mns_cons dq))
  | err c p e1 => rw [hf] at h; exact h
  | stuck => rw [hf] at h; exact h⟩⟩
/-- a list is laid -/
theorem pon_lay {K : PySem.W.Frag} {x : Fx} {O Z : Zs} {σ : L2.St} {H : Hp} {ds : List D} {env : En} {Q : VK} {p : Addr} {vs : List V} (h : PON K G W x O Z σ H (.ok ds env) Q) (S : SRel K x O Z H σ env) (hp : H p = none) (d : Dqs K (mns H Z) vs ds) : Q (.ref p) (upd H p (.lst vs)) :=
  h p vs _ (h0_none S hp) (trkN S p hp) (S.lay hp nT_lst) (lay_same hp) upd_same (dqsM (lay_same hp) d)
theorem PON.same {K : PySem.W.Frag} {x : Fx} {O Z : Zs} {σ : L2.St} {H H1 : Hp} {o : Out (List D)} {Q : VK} (e : Sm (mns H Z) (mns H1 Z)) (h : PON K G W x O Z σ H o Q) : PON K G W x O Z σ H1 o Q := by
  cases o with
  | ok ds e1 => exact fun p vs H' h1 h2 S m hl d => h p vs H' h1 h2 S (e.trans m) hl d
  | err c p e1 => exact wOk.same e h
  | stuck => exact h
theorem PON.bnd {α β : Type} {K : PySem.W.Frag} {x : Fx} {O Z : Zs} {σ : L2.St} {H : Hp} {Rl : Hp → β → α → Prop} {o : Out α} {k : α → En → Out (List D)} {Q : VK} {Q' : β → Hp → Prop} (h : PON K G W x O Z σ H (o.bnd k) Q)
    (hk : ∀ d e1 v H1, SRel K x O Z H1 σ e1 → Sm (mns H Z) (mns H1 Z) → Rl (mns H1 Z) v d → PON K G W x O Z σ H1 (k d e1) Q → Q' v H1) : PO K G W x O Z σ Rl H o Q' := by
  cases o with
  | ok d e1 => exact fun v H1 S m r => hk d e1 v H1 S m r (PON.same m h)
  | err c p e1 => exact h
  | stuck => exact h
def dList (fs : En → Out (List D)) : En → Out (List D) := fun env => (fs env).bnd fun ds e1 => if ds.length ≤ 1000000 then .ok ds e1 else .stuck
theorem dn_lst {es : List Expr} {fs : En → Out (List D)} (h : DA X G W es fs) : DN X G W (.List es pos) (dList fs) := ⟨fun x xt => peImp (pe_lst (h.run x xt)) fun σ H Q ⟨O, Z, env, S, h⟩ => ⟨O, Z, env, S, PON.bnd h fun ds e1 vs H1 S1 _ dp1 h1 => by
  by_cases hl : ds.length ≤ 1000000
  · rw [if_pos hl] at h1
    exact ⟨by rw [dqsLen dp1]; exact line_of hl, fun p hp => pon_lay h1 S1 hp dp1⟩
  · rw [if_neg hl] at h1; exact h1.elim⟩⟩
end
end MI
set_option Elab.async false
set_option linter.all false
set_option maxRecDepth 100000
set_option maxHeartbeats 4000000
/-! Mini5: sources, targets, comprehensions -/
namespace MI
open PySem PySem.Spec PyProof.Rows L2
/-! ### slots forgotten for a while -/
def wipeE (env : En) : List Nat → En
  | [] => env
  | v :: vs => (wipeE env vs).set v none
theorem wipeE_len (env : En) : ∀ vs : List Nat, (wipeE env vs).length = env.length
  | [] => rfl
  | v :: vs => by show ((wipeE env vs).set v none).length = _; rw [List.length_set, wipeE_len env vs]
theorem wipeE_some {env : En} {i : Nat} {s : SV} : ∀ {vs : List Nat}, (wipeE env vs)[i]? = some (some s) → env[i]? = some (some s) ∧ i ∉ vs
  | [], h => ⟨h, by simp⟩
  | v :: vs, h => by
    have h' : ((wipeE env vs).set v none)[i]? = some (some s) := h
    by_cases e : v = i
    · subst e
      rw [List.getElem?_set_self'] at h'
      cases hx : (wipeE env vs)[v]? with
      | none => rw [hx] at h'; cases h'
      | some y => rw [hx] at h'; cases h'
    · rw [List.getElem?_set_ne e] at h'
      obtain ⟨h1, h2⟩ := wipeE_some h'
      exact ⟨h1, fun z => by rcases List.mem_cons.mp z with z | z; exact e z.symm; exact h2 z⟩
theorem wipeE_out {env : En} {i : Nat} : ∀ {vs : List Nat}, i ∉ vs → (wipeE env vs)[i]? = env[i]?
  | [], _ => rfl
  | v :: vs, h => by
    show ((wipeE env vs).set v none)[i]? = _
    rw [List.getElem?_set_ne (fun e => h (by rw [e]; exact List.mem_cons_self)), wipeE_out fun z => h (List.mem_cons_of_mem _ z)]
def mergeE (e0 eN : En) : List Nat → En
  | [] => eN
  | v :: vs => (mergeE e0 eN vs).set v ((e0[v]?).getD none)
theorem mergeE_len (e0 eN : En) : ∀ vs : List Nat, (mergeE e0 eN vs).length = eN.length
  | [] => rfl
  | v :: vs => by show ((mergeE e0 eN vs).set v _).length = _; rw [List.length_set, mergeE_len e0 eN vs]
theorem mergeE_out {e0 eN : En} {i : Nat} : ∀ {vs : List Nat}, i ∉ vs → (mergeE e0 eN vs)[i]? = eN[i]?
  | [], _ => rfl
  | v :: vs, h => by
    show ((mergeE e0 eN vs).set v _)[i]? = _
    rw [List.getElem?_set_ne (fun e => h (by rw [e]; exact List.mem_cons_self)), mergeE_out fun z => h (List.mem_cons_of_mem _ z)]
theorem mergeE_in {e0 eN : En} {i : Nat} {s : SV} : ∀ {vs : List Nat}, i ∈ vs → (mergeE e0 eN vs)[i]? = some (some s) → e0[i]? = some (some s)
  | [], h, _ => by simp at h
  | v :: vs, h, q => by
    have q' : ((mergeE e0 eN vs).set v ((e0[v]?).getD none))[i]? = some (some s) := q
    by_cases e : v = i
    · subst e
      rw [List.getElem?_set_self'] at q'
      cases hx : (mergeE e0 eN vs)[v]? with
      | none => rw [hx] at q'; cases q'
      | some y =>
        rw [hx] at q'
        cases hy : e0[v]? with
        | none => rw [hy] at q'; cases q'
        | some z => rw [hy] at q'; exact q'
    · rw [List.getElem?_set_ne e] at q'
      rcases List.mem_cons.mp h with z | z
      · exact absurd z.symm e
      · exact mergeE_in z q'
def freeV (vs : List Nat) (env : En) : Bool := vs.all fun i => match env[i]? with
  | some (some s) => !s.own
  | _ => true
theorem freeV_not {vs : List Nat} {env : En} (h : freeV vs env = true) {i : Nat} {s : SV} (e : env[i]? = some (some s)) (o : s.own = true) : i ∉ vs := fun hm => by
  have q := List.all_eq_true.mp h i hm
  rw [e] at q
  simp [o] at q
section
variable {K : PySem.W.Frag} {x : Fx} {O Z : Zs} {H H' : Hp} {σ : L2.St} {env e0 eN : En} {vs : List Nat}
theorem srel_wipe (S : SRel K x O Z H σ env) (f : freeV vs env = true) : SRel K x O Z H (wipe σ vs) (wipeE env vs) where
  len := by rw [wipe_length, wipeE_len, S.len]
  slot := fun i s h => by
    obtain ⟨h1, h2⟩ := wipeE_some h
    obtain ⟨v, h3, h4⟩ := S.slot i s h1
    exact ⟨v, by rw [wipe_out h2]; exact h3, h4⟩
  ownO := fun i s a h o q => by
    obtain ⟨h1, h2⟩ := wipeE_some h
    rw [wipe_out h2] at q
    exact S.ownO i s a h1 o q
  inj := fun i j si sj a n h1 h2 o1 o2 q1 q2 => by
    obtain ⟨g1, n1⟩ := wipeE_some h1
    obtain ⟨g2, n2⟩ := wipeE_some h2
    rw [wipe_out n1] at q1
    rw [wipe_out n2] at q2
    exact S.inj i j si sj a n g1 g2 o1 o2 q1 q2
  osub := S.osub
  zsub := S.zsub
  trk := S.trk
  keep := S.keep
  oM := S.oM
  par := fun p hp => by
    obtain ⟨h1, s, h2, h3⟩ := S.par p hp
    have n := freeV_not f h2 h3
    exact ⟨by rw [wipe_out n]; exact h1, s, by rw [wipeE_out n]; exact h2, h3⟩
  tb := S.tb
  tf := S.tf
theorem srel_merge (S0 : SRel K x O Z H σ e0) (SN : SRel K x O Z H' (wipe σ vs) eN) (m : Sm (mns H Z) (mns H' Z)) (f : freeV vs e0 = true) : SRel K x O Z H' σ (mergeE e0 eN vs) := by
  have own_out : ∀ {i : Nat} {s : SV}, (mergeE e0 eN vs)[i]? = some (some s) → s.own = true → i ∉ vs ∧ eN[i]? = some (some s) := fun {i s} h o => by
    by_cases hi : i ∈ vs
    · exact absurd hi (freeV_not f (mergeE_in hi h) o)
    · rw [mergeE_out hi] at h; exact ⟨hi, h⟩
  refine ⟨?_, fun i s h => ?_, fun i s a h o q => ?_, fun i j si sj a n h1 h2 o1 o2 q1 q2 => ?_, S0.osub, S0.zsub, SN.trk, SN.keep, S0.oM, fun p hp => ?_, SN.tb, SN.tf⟩
  · rw [mergeE_len, ← SN.len, wipe_length]
  · by_cases hi : i ∈ vs
    · have h1 := mergeE_in hi h
      obtain ⟨v, h2, h3⟩ := S0.slot i s h1
      exact ⟨v, h2, h3.mono m fun o => absurd hi (freeV_not f h1 o)⟩
    · rw [mergeE_out hi] at h
      obtain ⟨v, h2, h3⟩ := SN.slot i s h
      exact ⟨v, by rw [wipe_out hi] at h2; exact h2, h3⟩
  · obtain ⟨hi, h1⟩ := own_out h o
    exact SN.ownO i s a h1 o (by rw [wipe_out hi]; exact q)
  · obtain ⟨hi, g1⟩ := own_out h1 o1
    obtain ⟨hj, g2⟩ := own_out h2 o2
    exact SN.inj i j si sj a n g1 g2 o1 o2 (by rw [wipe_out hi]; exact q1) (by rw [wipe_out hj]; exact q2)
  · obtain ⟨h1, s, h2, h3⟩ := S0.par p hp
    have n := freeV_not f h2 h3
    obtain ⟨h4, s', h5, h6⟩ := SN.par p hp
    exact ⟨h1, s', by rw [mergeE_out n]; exact h5, h6⟩
/-- a slot gets a value -/
theorem srel_set (S : SRel K x O Z H σ env) {i : Nat} {v : V} {s : SV} (hs : s.own = false) (h : SvR K H Z s v) (hp : i ∉ x.Pm.map (·.1)) : SRel K x O Z H (σ.set i (some v)) (env.set i (some s)) := by
  have own_ne : ∀ {j : Nat} {t : SV}, (env.set i (some s))[j]? = some (some t) → t.own = true → i ≠ j ∧ env[j]? = some (some t) := fun {j t} q o => by
    by_cases e : i = j
    · subst e
      rw [List.getElem?_set_self'] at q
      cases hx : env[i]? with
      | none => rw [hx] at q; cases q
      | some y => rw [hx] at q; cases q; rw [hs] at o; cases o
    · rw [List.getElem?_set_ne e] at q; exact ⟨e, q⟩
  refine ⟨?_, fun j t q => ?_, fun j t a q o r => ?_, fun j k sj sk a n q1 q2 o1 o2 r1 r2 => ?_, S.osub, S.zsub, S.trk, S.keep, S.oM, fun p hm => ?_, S.tb, S.tf⟩
  · rw [List.length_set, List.length_set, S.len]
  · by_cases e : i = j
    · subst e
      have hl : i < env.length := by
        rw [← List.length_set (as := env) (i := i) (a := some s)]
        exact (List.getElem?_eq_some_iff.mp q).1
      rw [List.getElem?_set_self hl] at q
      cases q
      exact ⟨v, List.getElem?_set_self (by rw [S.len]; exact hl), h⟩
    · rw [List.getElem?_set_ne e] at q
      obtain ⟨u, h1, h2⟩ := S.slot j t q
      exact ⟨u, by rw [List.getElem?_set_ne e]; exact h1, h2⟩
  · obtain ⟨e, q'⟩ := own_ne q o
    rw [List.getElem?_set_ne e] at r
    exact S.ownO j t a q' o r
  · obtain ⟨e1, g1⟩ := own_ne q1 o1
    obtain ⟨e2, g2⟩ := own_ne q2 o2
    rw [List.getElem?_set_ne e1] at r1
    rw [List.getElem?_set_ne e2] at r2
    exact S.inj j k sj sk a n g1 g2 o1 o2 r1 r2
  · obtain ⟨h1, t, h2, h3⟩ := S.par p hm
    have e : i ≠ p.1 := fun z => hp (List.mem_map.mpr ⟨p, hm, z.symm⟩)
    exact ⟨by rw [List.getElem?_set_ne e]; exact h1, t, by rw [List.getElem?_set_ne e]; exact h2, h3⟩
end
/-! ### targets: where an item goes -/
/-- b says what a target does with a datum; js are its slots -/
structure DG (K : PySem.W.Frag) (g : TG) (js : List Nat) (b : D → En → Option En) : Prop where
  run : ∀ (x : Fx) (O Z : Zs) (H : Hp) (σ : L2.St) (env : En) (v : V) (d : D) (env' : En) (Q : L2.St → Hp → Prop), (∀ j ∈ js, j ∉ x.Pm.map (·.1)) → SRel K x O Z H σ env → Dq K (mns H Z) v d → b d env = some env' →
    (∀ σ', SRel K x O Z H σ' env' → (∀ vs, (∀ j ∈ js, j ∈ vs) → wipe σ' vs = wipe σ vs) → Q σ' H) → g v σ H Q
def bName (i : Nat) : D → En → Option En := fun d env => some (env.set i (some (.val d)))
theorem wipe_set {σ : L2.St} {i : Nat} {v : Option V} : ∀ {vs : List Nat}, i ∈ vs → wipe (σ.set i v) vs = wipe σ vs
  | [], h => by simp at h
  | w :: ws, h => by
    show (wipe (σ.set i v) ws).set w none = (wipe σ ws).set w none
    have key : ∀ us : List Nat, i ∉ us → wipe (σ.set i v) us = (wipe σ us).set i v := by
      intro us
      induction us with
      | nil => intro _; rfl
      | cons u us ih =>
        intro hn
        show (wipe (σ.set i v) us).set u none = ((wipe σ us).set u none).set i v
        rw [ih fun z => hn (List.mem_cons_of_mem _ z), List.set_comm _ _ (fun e => hn (by rw [e]; exact List.mem_cons_self))]
    by_cases hm : i ∈ ws
    · rw [wipe_set hm]
    · have e : i = w := by
        rcases List.mem_cons.mp h with e | e
        · exact e
        · exact absurd e hm
      rw [key ws hm, e, List.set_set]
theorem dg_name {K : PySem.W.Frag} (i : Nat) : DG K (gName i) [i] (bName i) := ⟨fun x O Z H σ env v d env' Q hp S dv hb k => by
  cases hb
  exact k _ (srel_set S rfl dv (hp i List.mem_cons_self)) fun vs hv => wipe_set (hv i List.mem_cons_self)⟩
/-- several targets -/
structure DGs (K : PySem.W.Frag) (g : TGs) (js : List Nat) (b : List D → En → Option En) : Prop where
  run : ∀ (x : Fx) (O Z : Zs) (H : Hp) (σ : L2.St) (env : En) (vs : List V) (ds : List D) (env' : En) (Q : L2.St → Hp → Prop), (∀ j ∈ js, j ∉ x.Pm.map (·.1)) → SRel K x O Z H σ env → Dqs K (mns H Z) vs ds → b ds env = some env' →
    (∀ σ', SRel K x O Z H σ' env' → (∀ vs, (∀ j ∈ js, j ∈ vs) → wipe σ' vs = wipe σ vs) → Q σ' H) → g vs σ H Q
def bNil : List D → En → Option En := fun ds env => match ds with
  | [] => some env
  | _ :: _ => none
def bCons (b : D → En → Option En) (bs : List D → En → Option En) : List D → En → Option En := fun ds env => match ds with
  | [] => none
  | d :: r => (b d env).bind (bs r)
theorem dgs_nil {K : PySem.W.Frag} : DGs K gNil [] bNil := ⟨fun x O Z H σ env vs ds env' Q hp S dv hb k => by
  cases dv with
  | nil => cases hb; exact ⟨rfl, k σ S fun _ _ => rfl⟩
  | cons _ _ => cases hb⟩
theorem dgs_cons {K : PySem.W.Frag} {g : TG} {gs : TGs} {j1 j2 : List Nat} {b : D → En → Option En} {bs : List D → En → Option En} (h : DG K g j1 b) (hs : DGs K gs j2 bs) : DGs K (gCons g gs) (j1 ++ j2) (bCons b bs) := ⟨fun x O Z H σ env vs ds env' Q hp S dv hb k => by
  cases dv with
  | nil => cases hb
  | cons d1 dr =>
    rename_i v vr d r
    have hb' : (b d env).bind (bs r) = some env' := hb
    cases h1 : b d env with
    | none => rw [h1] at hb'; cases hb'
    | some e1 =>
      rw [h1] at hb'
      refine ⟨v, vr, rfl, h.run x O Z H σ env v d e1 _ (fun j hj => hp j (List.mem_append_left _ hj)) S d1 h1 fun σ1 S1 w1 => ?_⟩
      exact hs.run x O Z H σ1 e1 vr r env' Q (fun j hj => hp j (List.mem_append_right _ hj)) S1 dr hb' fun σ2 S2 w2 => k σ2 S2 fun vs hv => (w2 vs fun j hj => hv j (List.mem_append_right _ hj)).trans (w1 vs fun j hj => hv j (List.mem_append_left _ hj))⟩
def bTup (n : Nat) (bs : List D → En → Option En) : D → En → Option En := fun d env => match d with
  | .tuple ds => if ds.length = n then bs ds env else none
  | _ => none
theorem dg_tup {K : PySem.W.Frag} {n : Nat} {gs : TGs} {js : List Nat} {bs : List D → En → Option En} (h : DGs K gs js bs) : DG K (gTup K n gs) js (bTup n bs) := ⟨fun x O Z H σ env v d env' Q hp S dv hb k => by
  unfold bTup at hb
  split at hb
  · split at hb
    · rename_i hl
      obtain ⟨a, us, rfl, h1, h2⟩ := dq_ltup dv
      exact ⟨a, us, rfl, sqT_up h1, (dqsLen h2).trans hl, h.run x O Z H σ env us _ env' Q hp S h2 hb k⟩
    · cases hb
  · cases hb⟩
/-! ### sources: what is walked -/
/-- J walks the items; Hs: the safe part of the heap at its start -/
def SrcOk (K : PySem.W.Frag) (J : It) (items : List D) (Hs : Hp) : Prop := ∃ (Gp : Hp → Prop) (Y : Nat → Hp → V → Hp → Prop), Walk J items.length Gp Y ∧ (∀ H1, Sm Hs H1 → Gp H1) ∧
  ∀ (i : Nat) (H1 : Hp) (v : V) (H2 : Hp) (Z1 : Zs), Sm Hs (mns H1 Z1) → (∀ p, H1 p = none → p ∉ Z1) → Y i H1 v H2 → i < items.length → ∃ d, items[i]? = some d ∧ Same H1 H2 ∧ Dq K (mns H2 Z1) v d
def POI (K : PySem.W.Frag) (G : Er) (W : WX) (x : Fx) (O Z : Zs) (σ : L2.St) (H : Hp) (o : Out (List D)) (R : It → Hp → Prop) : Prop := match o with
  | .ok items env' => ∀ J H', SRel K x O Z H' σ env' → Sm (mns H Z) (mns H' Z) → SrcOk K J items (mns H' Z) → R J H'
  | .err c p env' => wOk K G W x O Z σ H c p env'
  | .stuck => False
def tI (K : PySem.W.Frag) (G : Er) (W : WX) (x : Fx) (src : En → Out (List D)) : TI := fun σ H R => ∃ O Z env, SRel K x O Z H σ env ∧ POI K G W x O Z σ H (src env) R
theorem POI.same {K : PySem.W.Frag} {G : Er} {W : WX} {x : Fx} {O Z : Zs} {σ : L2.St} {H H1 : Hp} {o : Out (List D)} {R : It → Hp → Prop} (e : Sm (mns H Z) (mns H1 Z)) (h : POI K G W x O Z σ H o R) : POI K G W x O Z σ H1 o R := by
  cases o with
  | ok ds e1 => exact fun J H' S m hJ => h J H' S (e.trans m) hJ
  | err c p e1 => exact wOk.same e h
  | stuck => exact h
theorem POI.bnd {α β : Type} {K : PySem.W.Frag} {G : Er} {W : WX} {x : Fx} {O Z : Zs} {σ : L2.St} {H : Hp} {Rl : Hp → β → α → Prop} {o : Out α} {k : α → En → Out (List D)} {R : It → Hp → Prop} {Q' : β → Hp → Prop} (h : POI K G W x O Z σ H (o.bnd k) R)
    (hk : ∀ d e1 v H1, SRel K x O Z H1 σ e1 → Sm (mns H Z) (mns H1 Z) → Rl (mns H1 Z) v d → POI K G W x O Z σ H1 (k d e1) R → Q' v H1) : PO K G W x O Z σ Rl H o Q' := by
  cases o with
  | ok d e1 => exact fun v H1 S m r => hk d e1 v H1 S m r (POI.same m h)
  | err c p e1 => exact h
  | stuck => exact h
structure DI (X : Cx) (G : Er) (W : WX) (tg iter : Expr) (src : En → Out (List D)) : Prop where
  run : ∀ x : Fx, x.T = G.T → PI X tg iter (tI X.K G W x src)
theorem piImp {X : Cx} {tg e : Expr} {t t' : TI} (h : PI X tg e t) (i : ∀ σ H Q, t' σ H Q → t σ H Q) : PI X tg e t' := ⟨fun pins s σ H Q I q => h.run pins s σ H Q I (i σ H Q q)⟩
/-- the items of a list, a tuple, a text -/
def itemsO : D → Option (List D)
  | .list ds => some ds
  | .tuple ds => some ds
  | .str z => some (z.cps.toList.map fun c => .str ⟨#[c]⟩)
  | _ => none
theorem src_list {K : PySem.W.Frag} {Hs : Hp} {a : Addr} {xs : List V} {ds : List D} (h : Hs a = some (.lst xs)) (q : Dqs K Hs xs ds) : SrcOk K (Itl K a) ds Hs := by
  refine ⟨fun H => SqL K H a xs, YAt xs, ?_, fun H1 e => SqL.of (e a _ nT_lst h), fun i H1 v H2 Z1 e n y hi => ?_⟩
  · rw [← dqsLen q]; exact walk_list
  · obtain ⟨e2, y2⟩ := y
    subst e2
    obtain ⟨d, h1, h2⟩ := dqsGetV q y2
    exact ⟨d, h1, Same.refl _, dqM e h2⟩
theorem src_tup {K : PySem.W.Frag} {Hs : Hp} {a : Addr} {xs : List V} {ds : List D} (h : SqT K Hs a xs) (q : Dqs K Hs xs ds) : SrcOk K (Itt K a) ds Hs := by
  refine ⟨fun H => SqT K H a xs, YAt xs, ?_, fun H1 e => exT e h, fun i H1 v H2 Z1 e n y hi => ?_⟩
  · rw [← dqsLen q]; exact walk_tup
  · obtain ⟨e2, y2⟩ := y
    subst e2
    obtain ⟨d, h1, h2⟩ := dqsGetV q y2
    exact ⟨d, h1, Same.refl _, dqM e h2⟩
theorem src_str {K : PySem.W.Frag} {Hs : Hp} {z : Str} : SrcOk K (Its z) (z.cps.toList.map fun c => .str ⟨#[c]⟩) Hs := by
  refine ⟨fun _ => True, fun i H v H' => H' = H ∧ ∃ c, z.cps[i]? = some c ∧ v = V.str ⟨#[c]⟩, ?_, fun H1 e => trivial, fun i H1 v H2 Z1 e n y hi => ?_⟩
  · rw [List.length_map, Array.length_toList]; exact walk_str
  · obtain ⟨e2, c, h1, h2⟩ := y
    subst e2 h2
    refine ⟨.str ⟨#[c]⟩, ?_, Same.refl _, .str _⟩
    rw [List.getElem?_map, Array.getElem?_toList, h1]; rfl
theorem src_range {K : PySem.W.Frag} {Hs : Hp} {lo : Int} {n : Nat} : SrcOk K (Itr lo n) ((List.range n).map fun (i : Nat) => .int (lo + (i : Int))) Hs := by
  refine ⟨fun _ => True, YFn fun (i : Nat) => V.int (lo + (i : Int)), ?_, fun H1 e => trivial, fun i H1 v H2 Z1 e n y hi => ?_⟩
  · rw [List.length_map, List.length_range]; exact walk_range
  · obtain ⟨e2, h2⟩ := y
    subst e2 h2
    rw [List.length_map, List.length_range] at hi
    refine ⟨.int (lo + i), ?_, Same.refl _, .int _⟩
    rw [List.getElem?_map, List.getElem?_range hi]; rfl
section
variable {X : Cx} {G : Er} {W : WX} {tg a b e : Expr} {fa fb f : Fe} {pos p : Pos}
/-- iter(v), the value told -/
theorem iter_v {pins : List (Addr × Obj)} {s : Shared} {σ : L2.St} {H : Hp} {Z : Zs} {R : It → Hp → Prop} {v : V} {u : Value} {d : D} {items : List D} {E : Value → Shared → Prop} (I : Inv X pins σ H s) (r : RelV v u) (q : Dq X.K (mns H Z) v d) (hi : itemsO d = some items)
    (h : ∀ J, SrcOk X.K J items (mns H Z) → R J H) : wpAny (model X.prog X.w) X.A (pyIter u) (PIE X pins σ tg R) E s := by
  cases d with
  | list ds =>
    cases hi
    obtain ⟨l, xs, rfl, h1, h2⟩ := dq_llst q
    cases r
    obtain ⟨its, rv, pl, hz⟩ := I.list (SqL.of (lst_up h1))
    refine wpAny_pyIter_list pl.isList ⟨s.heap.objs.size, [s.heap.objs.size], _, _, H, rfl, I.kept (t' := s.toks) fun b o q => Heap.get?_push_of_some _ q, turn_list l _, ⟨_, Heap.get?_push_size _ rfl, rfl, rfl⟩, fun b hb => ?_, h _ (src_list h1 h2)⟩
    have e : b = s.heap.objs.size := by simpa using hb
    subst e
    exact I.fpOk (Nat.le_refl _) I.fresh
  | tuple ds =>
    cases hi
    obtain ⟨l, xs, rfl, h1, h2⟩ := dq_ltup q
    cases r
    obtain ⟨its, rv, pl, hz⟩ := I.tuple (sqT_up h1)
    refine wpAny_pyIter_tuple (show s.heap.IsTuple l its.toArray from pl) ⟨s.heap.objs.size, [s.heap.objs.size], _, _, H, rfl, I.kept (t' := s.toks) fun b o q => Heap.get?_push_of_some _ q, turn_tuple l _, ⟨_, Heap.get?_push_size _ rfl, rfl, rfl⟩, fun b hb => ?_, h _ (src_tup h1 h2)⟩
    have e : b = s.heap.objs.size := by simpa using hb
    subst e
    exact I.fpOk (Nat.le_refl _) I.fresh
  | str z =>
    cases hi
    have ev := dq_str q
    subst ev
    obtain ⟨t, rfl⟩ := r
    cases hw : z.cps.all (· < 128)
    · exact wpAny_pyIter_wide hw (pi_one (tk := s.toks) I _ (turn_str _ z t "str_iterator" (.inr rfl)) ⟨_, Heap.get?_push_size _ rfl, rfl, rfl⟩ (h _ src_str))
    · exact wpAny_pyIter_ascii hw (pi_one (tk := s.toks) I _ (turn_str _ z t "str_ascii_iterator" (.inl rfl)) ⟨_, Heap.get?_push_size _ rfl, rfl, rfl⟩ (h _ src_str))
  | none => cases hi
  | bool _ => cases hi
  | int _ => cases hi
  | dict _ => cases hi
def sSeq (f : Fe) : En → Out (List D) := fun env => (f env).bnd fun d e1 => outO (itemsO d) e1
theorem di_seq (h : DE X G W a fa) : DI X G W tg a (sSeq fa) := ⟨fun x xt => ⟨fun pins s σ H R I ⟨O, Z, env, S, q⟩ => by
  have ht : tD X.K G W x fa σ H (fun v H1 => ∃ d items, Dq X.K (mns H1 Z) v d ∧ itemsO d = some items ∧ ∀ J, SrcOk X.K J items (mns H1 Z) → R J H1) := ⟨O, Z, env, S, POI.bnd q fun d e1 v H1 S1 _ dq k => by
    cases hi : itemsO d with
    | none => rw [hi] at k; exact k.elim
    | some items =>
      rw [hi] at k
      exact ⟨d, items, dq, hi, fun J hJ => k J H1 S1 (Sm.refl _) hJ⟩⟩
  exact thn ((h.run x xt).run pins s σ H _ I ht) fun u s1 ⟨v, H1, I1, r1, d, items, dq, hi, k⟩ => iter_v I1 r1 dq hi k⟩⟩
def rgD (lo hi : Int) : List D := (List.range (hi - lo).toNat).map fun (i : Nat) => .int (lo + (i : Int))
def smallI (i : Int) : Bool := decide (i.natAbs ≤ 1000000000)
theorem smallI_ok {i : Int} (h : smallI i = true) : -(2 ^ 62) ≤ i ∧ i < 2 ^ 62 := by
  have := of_decide_eq_true h
  omega
def sRng1 (fs : En → Out (List D)) : En → Out (List D) := fun env => (fs env).bnd fun ds e1 => match ds with
  | [.int j] => if smallI j = true then .ok (rgD 0 j) e1 else .stuck
  | _ => .stuck
def sRng2 (fs : En → Out (List D)) : En → Out (List D) := fun env => (fs env).bnd fun ds e1 => match ds with
  | [.int i, .int j] => if smallI i = true ∧ smallI j = true then .ok (rgD i j) e1 else .stuck
  | _ => .stuck
theorem di_range1 {fs : En → Out (List D)} (hg : Gl X "range") (hm : X.mg "range" = none) (ha : DA X G W [a] fs) (hs : starEach [a] X.env = [(false, eval a X.env)] := by rfl) : DI X G W tg (.Call (.Name "range" p) [a] [] pos) (sRng1 fs) := ⟨fun x xt => piImp (pi_range1 hg hm (ha.run x xt) hs) fun σ H R ⟨O, Z, env, S, q⟩ => ⟨O, Z, env, S, POI.bnd q fun ds e1 vs H1 S1 _ dq k => by
  split at k
  · rename_i jj
    split at k
    · rename_i hj
      obtain ⟨v, rfl, dv⟩ := dqs1 dq
      obtain ⟨h1, h2⟩ := smallI_ok hj
      refine ⟨jj, by rw [dq_int dv], h1, h2, k _ H1 S1 (Sm.refl _) ?_⟩
      have : rgD 0 jj = (List.range jj.toNat).map fun (i : Nat) => PyData.int ((0 : Int) + (i : Int)) := by unfold rgD; rw [Int.sub_zero]
      rw [this]
      exact src_range
    · exact k.elim
  · exact k.elim⟩⟩
theorem di_range2 {fs : En → Out (List D)} (hg : Gl X "range") (hm : X.mg "range" = none) (ha : DA X G W [a, b] fs) (hs : starEach [a, b] X.env = [(false, eval a X.env), (false, eval b X.env)] := by rfl) (hs2 : starEach [b] X.env = [(false, eval b X.env)] := by rfl) : DI X G W tg (.Call (.Name "range" p) [a, b] [] pos) (sRng2 fs) := ⟨fun x xt => piImp (pi_range2 hg hm (ha.run x xt) hs hs2) fun σ H R ⟨O, Z, env, S, q⟩ => ⟨O, Z, env, S, POI.bnd q fun ds e1 vs H1 S1 _ dq k => by
  split at k
  · rename_i ii jj
    split at k
    · rename_i hj
      obtain ⟨v, w, rfl, dv, dw⟩ := dqs2 dq
      obtain ⟨h1, h2⟩ := smallI_ok hj.1
      obtain ⟨h3, h4⟩ := smallI_ok hj.2
      exact ⟨ii, jj, by rw [dq_int dv, dq_int dw], ⟨h1, h2, h3, h4⟩, k _ H1 S1 (Sm.refl _) src_range⟩
    · exact k.elim
  · exact k.elim⟩⟩
end
end MI
set_option Elab.async false
set_option linter.all false
set_option maxRecDepth 100000
set_option maxHeartbeats 4000000
/-! Mini6: enumerate and zip as sources -/
namespace MI
open PySem PySem.Spec PyProof.Rows L2
open PySem.AutoSeq1 (wpAny_loadPart')
/-- enumerate(v): the iterator of v is laid, then the enumerate object -/
theorem enum1_meets {v : Value} {o : Obj} {H : Heap → Prop} (B : Begins v o H) : Meets (Builtin.«enumerate.__new__» ⟨[.type "enumerate", v], []⟩) (fun _ R s => H s.heap ∧
      R (.ok (.ret (.ref (s.heap.push o).objs.size))) { s with heap := (s.heap.push o).push { cls := .type "enumerate", data := .fields #[.none, .bool false, .ref s.heap.objs.size, rawInt 0, .none, .none] } }) :=
  .of_wp fun prog w A R s h => by
    obtain ⟨hp, g, d, tk, os⟩ := s
    obtain ⟨h1, h⟩ := h
    have hsub := sub_enumerate
    have step : ∀ {A' : Around} {E : Value → Shared → Prop} {Q : Value → Shared → Prop}, Q (.ref hp.objs.size) ⟨hp.push o, g, d, tk, os⟩ → wpAny (model prog w) A' (pyIter v) Q E ⟨hp, g, d, tk, os⟩ := fun q => B.iter prog w _ _ ⟨hp, g, d, tk, os⟩ _ h1 q
    wp_walk using step
    refine wpAny_stack_any fun st => wpAny_pure ?_
    split
    · rename_i c _ _ _ _ _
      cases (c == Value.type "enumerate") <;> (wp_walk using step; exact ⟨_, rfl, h⟩)
    · wp_walk using step
      exact ⟨_, rfl, h⟩
theorem enum1_call {prog : Program} {w : World} {A : Around} {E : Value → Shared → Prop} {s : Shared} {v : Value} {o : Obj} {H : Heap → Prop} {Q : Value → Shared → Prop} (B : Begins v o H) (h1 : H s.heap)
    (h : ∀ h', IsEnum h' (s.heap.objs.size + 1) s.heap.objs.size 0 .none → h'.get? s.heap.objs.size = some o → (∀ b o, s.heap.get? b = some o → h'.get? b = some o) → Q (.ref (s.heap.objs.size + 1)) { s with heap := h' }) :
    wpAny (model prog w) A (call (.type "enumerate") [v]) Q E s := by
  refine callType_new F.called_enumerate (by decide) (F.typeCall_enumerate_1 _) (F.newCall_enumerate_1 _) (fun obj => F.args_object_init_2 obj _) F.entry_enumerate_new (enum1_meets B) ⟨h1, ?_⟩
  have hz : (s.heap.push o).objs.size = s.heap.objs.size + 1 := Heap.size_push ..
  have he : IsEnum ((s.heap.push o).push { cls := .type "enumerate", data := .fields #[.none, .bool false, .ref s.heap.objs.size, rawInt 0, .none, .none] }) (s.heap.objs.size + 1) s.heap.objs.size 0 .none := by
    have q := Heap.get?_push_size (s.heap.push o) (o := { cls := .type "enumerate", data := .fields #[.none, .bool false, .ref s.heap.objs.size, rawInt 0, .none, .none] }) rfl
    rw [hz] at q
    exact q
  show _ ∧ _
  rw [hz]
  exact ⟨⟨_, he, rfl⟩, h _ he (Heap.get?_push_of_some _ (Heap.get?_push_size _ B.free)) fun b o x => Heap.get?_push_of_some _ (Heap.get?_push_of_some _ x)⟩
/-- what an enumerated source draws, at the state of an Inv: n items, the i-th one xs i, while Gp holds of the heap -/
structure EnSrc (P : Program) (w : World) (K : PySem.W.Frag) (it : Addr) (itO : Nat → Heap → Prop) (n : Nat) (Gp : Hp → Prop) (xs : Nat → V → Prop) : Prop where
  obj : ∀ i h, itO i h → ∃ o, h.get? it = some o ∧ ∀ v, o.data ≠ .cell v
  keep : ∀ i h h', itO i h → (∀ o, h.get? it = some o → h'.get? it = some o) → itO i h'
  at_ : ∀ (X : Cx), X.prog = P → X.w = w → X.K = K → X.calm = true → ∀ (i : Nat) (pins : List (Addr × Obj)) (s : Shared) (σ : L2.St) (H : Hp), Inv X pins σ H s → Gp H → itO i s.heap →
    ∃ (fp : List Addr) (Pv : Nat → Value → Prop) (St : Nat → Heap → Prop), Draws P w X.A.in1 it fp n Pv St ∧ St i s.heap ∧ (∀ b ∈ fp, ∃ o, s.heap.get? b = some o ∧ o.cls ≠ .type "enumerate") ∧ (∀ h', St (i + 1) h' → itO (i + 1) h') ∧ ∀ j u, Pv j u → ∃ y, xs j y ∧ RelV y u
def IteG (n : Nat) (Gp : Hp → Prop) (xs : Nat → V → Prop) : It :=
  ⟨fun i H => Gp H ∧ i < n, fun i H v H' => ∃ T y, v = .ref T ∧ H T = none ∧ H' = upd H T (.tup [.int (i : Nat), y]) ∧ xs i y, fun i H => Gp H ∧ i = n⟩
theorem turn_enumG {P : Program} {w : World} {K : PySem.W.Frag} {elts : List Expr} {kk : Nat} {tpos : Pos} {e it : Addr} {itO : Nat → Heap → Prop} {n : Nat} {Gp : Hp → Prop} {xs : Nat → V → Prop} (S : EnSrc P w K it itO n Gp xs) :
    Turn P w K (.Tuple elts kk tpos) (IteG n Gp xs) [e, it] e (fun i h => (∃ old, IsEnum h e it ((i : Nat) : Int) old) ∧ itO i h ∧ e ≠ it) where
  mem := List.mem_cons_self
  obj := fun i h st b hb => by
    obtain ⟨⟨old, he⟩, hi, _⟩ := st
    rcases List.mem_cons.mp hb with z | z
    · rw [z]; exact ⟨_, he, fun v q => nomatch q⟩
    · rw [List.mem_singleton.mp z]; exact S.obj i h hi
  keep := fun i h h' st k => ⟨⟨st.1.choose, k e List.mem_cons_self _ st.1.choose_spec⟩, S.keep i h h' st.2.1 (fun o q => k it (List.mem_cons_of_mem _ (List.mem_singleton.mpr rfl)) o q), st.2.2⟩
  item := by
    intro X hP hw hK hc i pins s σ H E I hf st hg
    obtain ⟨⟨old, he⟩, hi, hne⟩ := st
    obtain ⟨fp, Pv, St, Dr, hst, hfp, hnext, hval⟩ := S.at_ X hP hw hK hc i pins s σ H I hg.1 hi
    subst hP hw hK
    have hef : e ∉ fp := fun z => by
      obtain ⟨o, ho, hcl⟩ := hfp e z
      rw [he] at ho
      cases ho
      exact hcl rfl
    have hel : e < s.heap.objs.size := Heap.lt_size he
    have hil : it < s.heap.objs.size := by obtain ⟨o, ho, _⟩ := S.obj i s.heap hi; exact Heap.lt_size ho
    refine wpAny_pyNext_enum_itemD Dr he hst hg.2 hne hef fun u h' tk hP ho hst' hT hsz hk => ?_
    obtain ⟨y, hy, ry⟩ := hval i u hP
    refine ⟨_, rfl, wpAny_letOwnedTupleGo_enum (s := { s with heap := h', toks := tk + 1 }) ho fun h'' he' sb => ?_⟩
    have hT2 : h''.get? s.heap.objs.size = some { cls := .type "tuple", data := .seq #[.int i tk, u] } := (sb.2 _ (Nat.ne_of_gt hel)).trans hT
    have new : ObjOk X.prog X.w (upd H s.heap.objs.size (.tup [.int (i : Nat), y])) h'' s.heap.objs.size (.tup [.int (i : Nat), y]) := ⟨by show 2 ≤ sizeLine; decide, [.int i tk, u], .cons ⟨_, rfl⟩ (.cons ry .nil), ⟨_, hT2, rfl, _, rfl⟩⟩
    have I1 : Inv X pins σ (upd H s.heap.objs.size (.tup [.int (i : Nat), y])) { s with heap := h'', toks := tk + 1 } :=
      I.turnedNew (ch := [e, it]) (fun b ob hb q => (sb.2 b (fun z => hb (by rw [z]; exact List.mem_cons_self))).trans (hk b ob (fun z => hb (by rw [z]; exact List.mem_cons_self)) (fun z => hb (by rw [z]; exact List.mem_cons_of_mem _ (List.mem_singleton.mpr rfl))) q)) hf (Nat.le_refl _) new
    have e1 : ((i + 1 : Nat) : Int) = (i : Int) + 1 := by omega
    have he2 : IsEnum h'' e it ((i + 1 : Nat) : Int) u := by rw [e1]; exact he'
    refine ⟨.ref s.heap.objs.size, _, I1, rfl, ⟨_, y, rfl, I.fresh, rfl, hy⟩, ⟨⟨u, he2⟩, S.keep (i + 1) h' h'' (hnext h' hst') (fun o q => (sb.2 it (Ne.symm hne)).trans q), hne⟩, fun b hb => ?_⟩
    have hb' : b < s.heap.objs.size := by
      rcases List.mem_cons.mp hb with z | z
      · rw [z]; exact hel
      · rw [List.mem_singleton.mp z]; exact hil
    rw [upd_ne (Nat.ne_of_lt hb')]
    exact (hf b hb).1
  done := by
    intro X hP hw hK hc i pins s σ H E I hf st hg
    obtain ⟨⟨old, he⟩, hi, hne⟩ := st
    obtain ⟨fp, Pv, St, Dr, hst, hfp, hnext, hval⟩ := S.at_ X hP hw hK hc i pins s σ H I hg.1 hi
    subst hP hw hK
    obtain ⟨f0, f1, f2, f3, f4, f5⟩ := hf it (List.mem_cons_of_mem _ (List.mem_singleton.mpr rfl))
    rw [hg.2] at hst
    exact wpAny_pyNext_enum_endD Dr he hst fun h' eb => ⟨rfl, I.turned (t' := s.toks) (fun b o hb q => eb b o hb q) f0 f1 f3 f4 f5⟩
  self := fun A i s Q E st h => let ⟨⟨_, he⟩, _⟩ := st; wpAny_pyIter_enum he h
theorem hd_in1 {X : Cx} {pins : List (Addr × Obj)} {σ : L2.St} {H : Hp} {s : Shared} (I : Inv X pins σ H s) (hc : X.calm = true) : X.A.in1.handled = none := I.ok.hd hc
theorem ensrc_list {P : Program} {w : World} {K : PySem.W.Frag} {a it : Addr} {us : List V} (hne : a ≠ it) : EnSrc P w K it (fun i h => h.IsListIter it a i) us.length (fun H => SqL K H a us) (fun i y => us[i]? = some y) where
  obj := fun i h ⟨o, ho, _, hd⟩ => ⟨o, ho, fun v q => by rw [hd] at q; cases q⟩
  keep := fun i h h' st k => st.at fun o q => k o q
  at_ := by
    intro X hP hw hK hc i pins s σ H I hg hi
    subst hP hw hK
    obtain ⟨its, rv, p, hz⟩ := I.list hg
    have hl : us.length = its.toArray.size := by rw [List.size_toArray]; exact rv.length
    have Dr := Draws.list (prog := X.prog) (w := X.w) (A := X.A.in1) (hd_in1 I hc) it a hne its.toArray
    rw [← hl] at Dr
    refine ⟨_, _, _, Dr, ⟨hi, p.isList⟩, fun b hb => ?_, fun h' st => st.1, fun j u hj => ?_⟩
    · rcases List.mem_cons.mp hb with z | z
      · obtain ⟨o, ho, hcl, _⟩ := hi
        exact ⟨o, by rw [z]; exact ho, by rw [hcl]; decide⟩
      · obtain ⟨o, ho, hcl, _⟩ := p.isList
        exact ⟨o, by rw [List.mem_singleton.mp z]; exact ho, by rw [hcl]; decide⟩
    · have hj' : its[j]? = some u := by simpa using hj
      have hlt := (List.getElem?_eq_some_iff.mp hj').1
      have hlt2 : j < us.length := by rw [rv.length]; exact hlt
      obtain ⟨u2, e1, e2⟩ := rv.get (i := j) (List.getElem?_eq_getElem hlt2)
      rw [hj'] at e1
      cases e1
      exact ⟨_, List.getElem?_eq_getElem hlt2, e2⟩
theorem ensrc_tup {P : Program} {w : World} {K : PySem.W.Frag} {a it : Addr} {us : List V} (hne : a ≠ it) : EnSrc P w K it (fun i h => h.IsTupleIter it a i) us.length (fun H => SqT K H a us) (fun i y => us[i]? = some y) where
  obj := fun i h ⟨o, ho, _, hd⟩ => ⟨o, ho, fun v q => by rw [hd] at q; cases q⟩
  keep := fun i h h' st k => st.at fun o q => k o q
  at_ := by
    intro X hP hw hK hc i pins s σ H I hg hi
    subst hP hw hK
    obtain ⟨its, rv, p, hz⟩ := I.tuple hg
    have hl : us.length = its.toArray.size := by rw [List.size_toArray]; exact rv.length
    have p2 : s.heap.IsTuple a its.toArray := p
    have Dr := Draws.tuple (prog := X.prog) (w := X.w) (A := X.A.in1) (hd_in1 I hc) it a hne its.toArray
    rw [← hl] at Dr
    refine ⟨_, _, _, Dr, ⟨hi, p2⟩, fun b hb => ?_, fun h' st => st.1, fun j u hj => ?_⟩
    · rcases List.mem_cons.mp hb with z | z
      · obtain ⟨o, ho, hcl, _⟩ := hi
        exact ⟨o, by rw [z]; exact ho, by rw [hcl]; decide⟩
      · obtain ⟨o, ho, hcl, _⟩ := p2
        exact ⟨o, by rw [List.mem_singleton.mp z]; exact ho, by rw [hcl]; decide⟩
    · have hj' : its[j]? = some u := by simpa using hj
      have hlt := (List.getElem?_eq_some_iff.mp hj').1
      have hlt2 : j < us.length := by rw [rv.length]; exact hlt
      obtain ⟨u2, e1, e2⟩ := rv.get (i := j) (List.getElem?_eq_getElem hlt2)
      rw [hj'] at e1
      cases e1
      exact ⟨_, List.getElem?_eq_getElem hlt2, e2⟩
theorem ensrc_str {P : Program} {w : World} {K : PySem.W.Frag} {it : Addr} {z : Str} {t : Tok} : EnSrc P w K it (fun i h => h.IsStrIter it (strIterType z) z t i) z.cps.size (fun _ => True) (fun i y => ∃ c, z.cps[i]? = some c ∧ y = .str ⟨#[c]⟩) where
  obj := fun i h ⟨o, ho, _, hd⟩ => ⟨o, ho, fun v q => by rw [hd] at q; cases q⟩
  keep := fun i h h' st k => by
    obtain ⟨o, ho, r⟩ := st
    exact ⟨o, k o ho, r⟩
  at_ := by
    intro X hP hw hK hc i pins s σ H I hg hi
    subst hP hw hK
    refine ⟨_, _, _, Draws.text (hd_in1 I hc) it z t, hi, fun b hb => ?_, fun h' st => st, fun j u hj => ?_⟩
    · obtain ⟨o, ho, hcl, _⟩ := hi
      refine ⟨o, by rw [List.mem_singleton.mp hb]; exact ho, ?_⟩
      rw [hcl]
      unfold strIterType
      split <;> decide
    · obtain ⟨c, u', h1, h2⟩ := hj
      exact ⟨_, ⟨c, h1, rfl⟩, u', h2⟩
def enumD (ds : List D) : List D := ds.mapIdx fun i d => .tuple [.int (i : Nat), d]
theorem src_enum {K : PySem.W.Frag} {Hs : Hp} {n : Nat} {Gp : Hp → Prop} {xs : Nat → V → Prop} {ds : List D} (hn : n = ds.length) (hG : ∀ H1, Sm Hs H1 → Gp H1) (hx : ∀ i y, i < n → xs i y → ∃ d, ds[i]? = some d ∧ Dq K Hs y d) : SrcOk K (IteG n Gp xs) (enumD ds) Hs := by
  have hl : (enumD ds).length = n := by unfold enumD; rw [List.length_mapIdx, hn]
  refine ⟨Gp, fun i H v H' => ∃ T y, v = V.ref T ∧ H T = none ∧ H' = upd H T (.tup [.int (i : Nat), y]) ∧ xs i y, ?_, hG, fun i H1 v H2 Z1 e nn y hi => ?_⟩
  · rw [hl]
    exact ⟨fun i H h1 h2 => ⟨h2, h1⟩, fun H h2 => ⟨h2, rfl⟩, fun i H x H' h1 h2 h3 => h3⟩
  · obtain ⟨T, u, rfl, hT, rfl, hu⟩ := y
    rw [hl] at hi
    obtain ⟨d, h1, h2⟩ := hx i u hi hu
    refine ⟨.tuple [.int (i : Nat), d], ?_, same_upd hT, new_t (nn T hT) hT (.cons (.int _) (.cons (dqM e h2) .nil))⟩
    unfold enumD
    rw [List.getElem?_mapIdx, h1]; rfl
section
variable {X : Cx} {G : Er} {W : WX} {a b e : Expr} {fa fb f : Fe} {pos p tpos : Pos} {elts : List Expr} {kk : Nat}
/-- enumerate(v) and its iterator, the value told -/
theorem enum_v {pins : List (Addr × Obj)} {s : Shared} {σ : L2.St} {H : Hp} {Z : Zs} {R : It → Hp → Prop} {v : V} {u : Value} {d : D} {items : List D} {E : Value → Shared → Prop} (I : Inv X pins σ H s) (r : RelV v u) (q : Dq X.K (mns H Z) v d) (hi : itemsO d = some items)
    (h : ∀ J, SrcOk X.K J (enumD items) (mns H Z) → R J H) :
    wpAny (model X.prog X.w) X.A (call (.type "enumerate") [u]) (fun x s1 => wpAny (model X.prog X.w) X.A (pyIter x) (PIE X pins σ (.Tuple elts kk tpos) R) E s1) E s := by
  have fr : ∀ b ∈ [s.heap.objs.size + 1, s.heap.objs.size], FpOk X pins H b := fun b hb => by
    have hle : s.heap.objs.size ≤ b := by
      rcases List.mem_cons.mp hb with z | z
      · rw [z]; exact Nat.le_add_right _ _
      · rw [List.mem_singleton.mp z]; exact Nat.le_refl _
    exact I.fpOk hle (I.hok.fresh hle)
  cases d with
  | list ds =>
    cases hi
    obtain ⟨l, us, rfl, h1, h2⟩ := dq_llst q
    cases r
    obtain ⟨its, rv, pl, hz⟩ := I.list (SqL.of (lst_up h1))
    refine enum1_call (begins_list l its.toArray) pl.isList fun h' he hit hk => wpAny_pyIter_enum he ?_
    have hne : l ≠ s.heap.objs.size := by obtain ⟨o, ho, _⟩ := pl.isList; exact Nat.ne_of_lt (Heap.lt_size ho)
    exact ⟨_, _, _, _, H, rfl, I.kept (t' := s.toks) hk, turn_enumG (ensrc_list hne), ⟨⟨.none, he⟩, ⟨_, hit, rfl, rfl⟩, Nat.succ_ne_self _⟩, fr, h _ (src_enum (dqsLen h2) (fun H1 e => SqL.of (e _ _ nT_lst h1)) fun i y _ hy => dqsGetV h2 hy)⟩
  | tuple ds =>
    cases hi
    obtain ⟨l, us, rfl, h1, h2⟩ := dq_ltup q
    cases r
    obtain ⟨its, rv, pl, hz⟩ := I.tuple (sqT_up h1)
    have p2 : s.heap.IsTuple l its.toArray := pl
    refine enum1_call (begins_tuple l its.toArray) p2 fun h' he hit hk => wpAny_pyIter_enum he ?_
    have hne : l ≠ s.heap.objs.size := by obtain ⟨o, ho, _⟩ := p2; exact Nat.ne_of_lt (Heap.lt_size ho)
    exact ⟨_, _, _, _, H, rfl, I.kept (t' := s.toks) hk, turn_enumG (ensrc_tup hne), ⟨⟨.none, he⟩, ⟨_, hit, rfl, rfl⟩, Nat.succ_ne_self _⟩, fr, h _ (src_enum (dqsLen h2) (fun H1 e => exT e h1) fun i y _ hy => dqsGetV h2 hy)⟩
  | str z =>
    cases hi
    have ev := dq_str q
    subst ev
    obtain ⟨t, rfl⟩ := r
    refine enum1_call (begins_text z t) trivial fun h' he hit hk => wpAny_pyIter_enum he ?_
    refine ⟨_, _, _, _, H, rfl, I.kept (t' := s.toks) hk, turn_enumG (ensrc_str (z := z) (t := t)), ⟨⟨.none, he⟩, ⟨_, hit, rfl, rfl⟩, Nat.succ_ne_self _⟩, fr, h _ (src_enum (by rw [List.length_map, Array.length_toList]) (fun _ _ => trivial) fun i y _ hy => ?_)⟩
    obtain ⟨c, h1, rfl⟩ := hy
    exact ⟨.str ⟨#[c]⟩, by rw [List.getElem?_map, Array.getElem?_toList, h1]; rfl, .str _⟩
  | none => cases hi
  | bool _ => cases hi
  | int _ => cases hi
  | dict _ => cases hi
def sEnum (fs : En → Out (List D)) : En → Out (List D) := fun env => (fs env).bnd fun ds e1 => match ds with
  | [d] => outO ((itemsO d).map enumD) e1
  | _ => .stuck
theorem di_enum {fs : En → Out (List D)} (hg : Gl X "enumerate") (hm : X.mg "enumerate" = none) (ha : DA X G W [a] fs) (hs : starEach [a] X.env = [(false, eval a X.env)] := by rfl) : DI X G W (.Tuple elts kk tpos) (.Call (.Name "enumerate" p) [a] [] pos) (sEnum fs) := ⟨fun x xt => ⟨fun pins s σ H R I ⟨O, Z, env, S, q⟩ => by
  have ht : tG X.K G W x (Dqs X.K) fs σ H (fun vs H1 => ∃ v d items, vs = [v] ∧ Dq X.K (mns H1 Z) v d ∧ itemsO d = some items ∧ ∀ J, SrcOk X.K J (enumD items) (mns H1 Z) → R J H1) := ⟨O, Z, env, S, POI.bnd q fun ds e1 vs H1 S1 _ dq k => by
    split at k
    · rename_i d
      obtain ⟨v, rfl, dv⟩ := dqs1 dq
      cases hi : itemsO d with
      | none => rw [hi] at k; exact k.elim
      | some items =>
        rw [hi] at k
        exact ⟨v, d, items, rfl, dv, hi, fun J hJ => k J H1 S1 (Sm.refl _) hJ⟩
    · exact k.elim⟩
  refine Call_ (ld_blt I hg hm PyProof.Rows.boot_enumerate (PyProof.Rows.callWith_type1 (thn ((ha.run x xt).run pos pins s σ H _ I ht) fun us s1 ⟨vs, H1, I1, r1, v, d, items, ev, dq, hi, k⟩ => ?_) hs rfl))
  subst ev
  obtain ⟨u, rfl, ru⟩ := Vals.one r1
  exact enum_v I1 ru dq hi k⟩⟩
/-! zip -/
def zipD (xs ys : List D) : List D := (xs.zip ys).map fun p => .tuple [p.1, p.2]
def zipItems (d e : D) : Option (List D) := match d, e with
  | .list xs, .list ys => some (zipD xs ys)
  | .tuple xs, .tuple ys => some (zipD xs ys)
  | _, _ => none
theorem src_zip {K : PySem.W.Frag} {Hs : Hp} {n : Nat} {J : It} {Gp : Hp → Prop} {us ws : List V} {ds es : List D} (hn : n = min us.length ws.length) (hw : Walk J n Gp (YPair (fun i => us[i]?) (fun i => ws[i]?))) (hG : ∀ H1, Sm Hs H1 → Gp H1) (h1 : Dqs K Hs us ds) (h2 : Dqs K Hs ws es) : SrcOk K J (zipD ds es) Hs := by
  have hl : (zipD ds es).length = n := by unfold zipD; rw [List.length_map, List.length_zip, hn, dqsLen h1, dqsLen h2]
  refine ⟨Gp, YPair (fun i => us[i]?) (fun i => ws[i]?), by rw [hl]; exact hw, hG, fun i H1 v H2 Z1 e nn y hi => ?_⟩
  obtain ⟨T, u, w, rfl, hT, rfl, g1, g2⟩ := y
  obtain ⟨d, a1, a2⟩ := dqsGetV h1 g1
  obtain ⟨d', b1, b2⟩ := dqsGetV h2 g2
  refine ⟨.tuple [d, d'], ?_, same_upd hT, new_t (nn T hT) hT (.cons (dqM e a2) (.cons (dqM e b2) .nil))⟩
  unfold zipD
  have e1 : (ds.zip es)[i]? = some (d, d') := List.getElem?_zip_eq_some.mpr ⟨a1, b1⟩
  rw [List.getElem?_map, e1]; rfl
def sZip (fs : En → Out (List D)) : En → Out (List D) := fun env => (fs env).bnd fun ds e1 => match ds with
  | [d, e] => outO (zipItems d e) e1
  | _ => .stuck
theorem walk_zipT {K : PySem.W.Frag} {a b : Addr} {us ws : List V} {n : Nat} (hn : n = min us.length ws.length) : Walk (RZ.ItzT K a b) n (fun H => SqT K H a us ∧ SqT K H b ws) (YPair (fun i => us[i]?) (fun i => ws[i]?)) where
  goes := fun i H hi ⟨h1, h2⟩ => ⟨us, ws, us[i]'(by omega), ws[i]'(by omega), h1, h2, List.getElem?_eq_getElem _, List.getElem?_eq_getElem _⟩
  stops := fun H ⟨h1, h2⟩ => ⟨us, ws, h1, h2, by omega⟩
  yields := fun i H x H' hi ⟨h1, h2⟩ ⟨T, u, w, e, hT, eH, k1, k2⟩ => ⟨T, u, w, e, hT, eH, k1 us h1, k2 ws h2⟩
theorem di_zip {fs : En → Out (List D)} (hg : Gl X "zip") (hm : X.mg "zip" = none) (ha : DA X G W [a, b] fs) (hs : starEach [a, b] X.env = (false, eval a X.env) :: starEach [b] X.env := by rfl) (hpl : (backTo pos (starEach [b] X.env)).any (·.1) = false := by rfl) :
    DI X G W (.Tuple elts kk tpos) (.Call (.Name "zip" p) [a, b] [] pos) (sZip fs) := ⟨fun x xt => piImp (RZ.pi_zipA hg hm (ha.run x xt) hs hpl) fun σ H R ⟨O, Z, env, S, q⟩ => ⟨O, Z, env, S, POI.bnd q fun ds e1 vs H1 S1 _ dq k => by
  split at k
  · rename_i d e
    obtain ⟨v, w, rfl, dv, dw⟩ := dqs2 dq
    unfold zipItems at k
    split at k
    · obtain ⟨a1, us, rfl, h1, h2⟩ := dq_llst dv
      obtain ⟨b1, ws, rfl, h3, h4⟩ := dq_llst dw
      exact ⟨a1, b1, us, ws, rfl, .inl ⟨SqL.of (lst_up h1), SqL.of (lst_up h3), k _ H1 S1 (Sm.refl _) (src_zip rfl (walk_zip rfl) (fun H2 e => ⟨SqL.of (e _ _ nT_lst h1), SqL.of (e _ _ nT_lst h3)⟩) h2 h4)⟩⟩
    · obtain ⟨a1, us, rfl, h1, h2⟩ := dq_ltup dv
      obtain ⟨b1, ws, rfl, h3, h4⟩ := dq_ltup dw
      exact ⟨a1, b1, us, ws, rfl, .inr ⟨sqT_up h1, sqT_up h3, k _ H1 S1 (Sm.refl _) (src_zip rfl (walk_zipT rfl) (fun H2 e => ⟨exT e h1, exT e h3⟩) h2 h4)⟩⟩
    · exact k.elim
  · exact k.elim⟩⟩
end
end MI
set_option Elab.async false
set_option linter.all false
set_option maxRecDepth 100000
set_option maxHeartbeats 4000000
/-! Mini7: comprehensions -/
namespace MI
open PySem PySem.Spec PyProof.Rows L2
structure DTs (X : Cx) (G : Er) (W : WX) (es : List Expr) (f : En → Out Bool) : Prop where
  run : ∀ x : Fx, x.T = G.T → PTs X es (tG X.K G W x RlB f)
def tY : En → Out Bool := fun env => .ok true env
theorem ptsImp {X : Cx} {e : List Expr} {t t' : TT} (h : PTs X e t) (i : ∀ σ H Q, t' σ H Q → t σ H Q) : PTs X e t' := ⟨fun pins s σ H Q I q => h.run pins s σ H Q I (i σ H Q q)⟩
theorem dts_nil {X : Cx} {G : Er} {W : WX} : DTs X G W [] tY := ⟨fun x xt => ptsImp pts_nil fun σ H Q ⟨O, Z, env, S, h⟩ => h true H S (Sm.refl _) rfl⟩
theorem dts_one {X : Cx} {G : Er} {W : WX} {c : Expr} {f : En → Out Bool} (h : DT X G W c f) : DTs X G W [c] f := ⟨fun x xt => pts_one (h.run x xt)⟩
/-- the exception is not told within a comprehension -/
def Out.bns {α β : Type} (o : Out α) (k : α → En → Out β) : Out β := match o with
  | .ok a e => k a e
  | _ => .stuck
abbrev W0 : WX := fun _ _ _ _ => False
theorem bns_po {α β α' : Type} {K : PySem.W.Frag} {G : Er} {W : WX} {x : Fx} {O Z : Zs} {σ : L2.St} {H : Hp} {Rl : Hp → β → α → Prop} {o : Out α} {k : α → En → Out α'} {P : Out α' → Prop} {Q' : β → Hp → Prop} (h : P (o.bns k)) (hs : ¬ P .stuck)
    (hk : ∀ d e1 v H1, o = .ok d e1 → SRel K x O Z H1 σ e1 → Sm (mns H Z) (mns H1 Z) → Rl (mns H1 Z) v d → P (k d e1) → Q' v H1) : PO K G W x O Z σ Rl H o Q' := by
  cases o with
  | ok d e1 => exact fun v H1 S m r => hk d e1 v H1 rfl S m r h
  | err c p e1 => exact (hs h).elim
  | stuck => exact (hs h).elim
def lcGo (b : D → En → Option En) (vs : List Nat) (tt : En → Out Bool) (te : Fe) : List D → En → List D → Out (List D)
  | [], env, acc => .ok acc env
  | d :: r, env, acc => match b d env with
    | none => .stuck
    | some e1 => (tt e1).bns fun t e2 => if t = true then (te e2).bns fun y e3 => if freeV vs e3 = true then lcGo b vs tt te r (wipeE e3 vs) (acc ++ [y]) else .stuck
      else if freeV vs e2 = true then lcGo b vs tt te r (wipeE e2 vs) acc else .stuck
def dLc (src : En → Out (List D)) (b : D → En → Option En) (vs : List Nat) (tt : En → Out Bool) (te : Fe) : En → Out (List D) := fun env => (src env).bnd fun items e1 =>
  if freeV vs e1 = true ∧ items.length ≤ 1000000 then (lcGo b vs tt te items (wipeE e1 vs) []).bns fun ds eN => .ok ds (mergeE e1 eN vs) else .stuck
theorem PON.bndI {α : Type} {K : PySem.W.Frag} {G : Er} {W : WX} {x : Fx} {O Z : Zs} {σ : L2.St} {H : Hp} {o : Out (List D)} {k : List D → En → Out (List D)} {Q : VK} {R : It → Hp → Prop} (h : PON K G W x O Z σ H (o.bnd k) Q)
    (hk : ∀ ds e1 J H1, SRel K x O Z H1 σ e1 → Sm (mns H Z) (mns H1 Z) → SrcOk K J ds (mns H1 Z) → PON K G W x O Z σ H1 (k ds e1) Q → R J H1) : POI K G W x O Z σ H o R := by
  cases o with
  | ok d e1 => exact fun J H1 S m r => hk d e1 J H1 S m r (PON.same m h)
  | err c p e1 => exact h
  | stuck => exact h
/-- what is forbidden but nobody's own may change -/
theorem tabs_upd {T : List (Addr × Str)} {H : Hp} {p : Addr} {o u : HO} (t : LamX.Tabs T H) (hp : H p = some u) (hu : nT u) (hc : ∀ c q, u ≠ LamX.CodeO c q) : LamX.Tabs T (upd H p o) := fun q hq => by
  obtain ⟨ps, h1, h2, h3⟩ := t q hq
  refine ⟨ps, by rw [upd_ne (fun z => hu ps (by rw [z, hp] at h1; cases h1; rfl))]; exact h1, h2, fun pos cv e => ?_⟩
  obtain ⟨c, e1, e2⟩ := h3 pos cv e
  exact ⟨c, e1, by rw [upd_ne (fun z => hc c q.2 (by rw [z, hp] at e2; cases e2; rw [z]))]; exact e2⟩
theorem lst_code {xs : List V} : ∀ c q, HO.lst xs ≠ LamX.CodeO c q := fun c q h => by unfold LamX.CodeO at h; cases h
theorem dK_code {xs : List (Key × V)} : ∀ c q, HO.dK xs ≠ LamX.CodeO c q := fun c q h => by unfold LamX.CodeO at h; cases h
theorem srel_upd {K : PySem.W.Frag} {x : Fx} {O Z : Zs} {H : Hp} {σ : L2.St} {env : En} (S : SRel K x O Z H σ env) {p : Addr} {o : HO} {xs : List V} (hz : p ∈ Z) (ho : p ∉ O) (h0 : x.H0 p = none) (hl : H p = some (.lst xs)) (hn : nT o) : SRel K x O Z (upd H p o) σ env := by
  have e : Sm (mns H Z) (mns (upd H p o) Z) := fun a u _ q => by
    obtain ⟨q1, q2⟩ := mns_some.mp q
    exact mns_some.mpr ⟨q1, by rw [upd_ne (fun z => q1 (by rw [z]; exact hz))]; exact q2⟩
  refine ⟨S.len, fun i s h => ?_, S.ownO, S.inj, S.osub, S.zsub, fun a h => ?_, fun a u h n => ?_, S.oM, S.par, tabs_upd S.tb hl nT_lst lst_code, S.tf⟩
  · obtain ⟨v, h1, h2⟩ := S.slot i s h
    refine ⟨v, h1, h2.mono e fun o a ev => ?_⟩
    have ha := S.ownO i s a h o (by rw [h1, ev])
    rw [upd_ne (fun z => ho (by rw [← z]; exact ha))]
  · by_cases q : a = p
    · exact ⟨o, by rw [q, upd_same], hn⟩
    · rw [upd_ne q]; exact S.trk a h
  · have ne : a ≠ p := fun z => by rw [z, h0] at h; cases h
    rw [upd_ne ne]; exact S.keep a u h n
theorem srel_updK {K : PySem.W.Frag} {x : Fx} {O Z : Zs} {H : Hp} {σ : L2.St} {env : En} (S : SRel K x O Z H σ env) {p : Addr} {o : HO} {xs : List (Key × V)} (hz : p ∈ Z) (ho : p ∉ O) (h0 : x.H0 p = none) (hl : H p = some (.dK xs)) (hn : nT o) : SRel K x O Z (upd H p o) σ env := by
  have e : Sm (mns H Z) (mns (upd H p o) Z) := fun a u _ q => by
    obtain ⟨q1, q2⟩ := mns_some.mp q
    exact mns_some.mpr ⟨q1, by rw [upd_ne (fun z => q1 (by rw [z]; exact hz))]; exact q2⟩
  refine ⟨S.len, fun i s h => ?_, S.ownO, S.inj, S.osub, S.zsub, fun a h => ?_, fun a u h n => ?_, S.oM, S.par, tabs_upd S.tb hl nT_dK dK_code, S.tf⟩
  · obtain ⟨v, h1, h2⟩ := S.slot i s h
    refine ⟨v, h1, h2.mono e fun o a ev => ?_⟩
    have ha := S.ownO i s a h o (by rw [h1, ev])
    rw [upd_ne (fun z => ho (by rw [← z]; exact ha))]
  · by_cases q : a = p
    · exact ⟨o, by rw [q, upd_same], hn⟩
    · rw [upd_ne q]; exact S.trk a h
  · have ne : a ≠ p := fun z => by rw [z, h0] at h; cases h
    rw [upd_ne ne]; exact S.keep a u h n
theorem upd_same_m {H : Hp} {Z : Zs} {p : Addr} {o : HO} (hz : p ∈ Z) : Sm (mns H Z) (mns (upd H p o) Z) := fun a u _ q => by
  obtain ⟨q1, q2⟩ := mns_some.mp q
  exact mns_some.mpr ⟨q1, by rw [upd_ne (fun z => q1 (by rw [z]; exact hz))]; exact q2⟩
theorem wipe_none {σ : L2.St} {i : Nat} : ∀ {vs : List Nat}, i ∈ vs → ∀ v, (wipe σ vs)[i]? = some (some v) → False
  | [], h, _, _ => by simp at h
  | w :: ws, h, v, q => by
    have q' : ((wipe σ ws).set w none)[i]? = some (some v) := q
    by_cases e : w = i
    · subst e
      rw [List.getElem?_set_self'] at q'
      cases hx : (wipe σ ws)[w]? with
      | none => rw [hx] at q'; cases q'
      | some y => rw [hx] at q'; cases q'
    · rw [List.getElem?_set_ne e] at q'
      rcases List.mem_cons.mp h with z | z
      · exact e z.symm
      · exact wipe_none z v q'
theorem set_none_id {σ : L2.St} {i : Nat} (h : ∀ v, σ[i]? = some (some v) → False) : σ.set i none = σ := by
  apply List.ext_getElem?
  intro j
  by_cases e : i = j
  · subst e
    rw [List.getElem?_set_self']
    cases hx : σ[i]? with
    | none => rfl
    | some y =>
      cases y with
      | none => rfl
      | some v => exact (h v hx).elim
  · rw [List.getElem?_set_ne e]
theorem wipe_idem_go {σ : L2.St} {vs : List Nat} : ∀ {us : List Nat}, (∀ i ∈ us, i ∈ vs) → wipe (wipe σ vs) us = wipe σ vs
  | [], _ => rfl
  | u :: us, h => by
    show (wipe (wipe σ vs) us).set u none = _
    rw [wipe_idem_go fun i hi => h i (List.mem_cons_of_mem _ hi)]
    exact set_none_id fun v q => wipe_none (h u List.mem_cons_self) v q
theorem wipe_idem {σ : L2.St} {vs : List Nat} : wipe (wipe σ vs) vs = wipe σ vs := wipe_idem_go fun _ h => h
/-- one more object that stays -/
def Fx.put (x : Fx) (D : Addr) (o : HO) : Fx := { x with H0 := upd x.H0 D o }
theorem srel_in {K : PySem.W.Frag} {x : Fx} {O Z : Zs} {H : Hp} {σ : L2.St} {env : En} {D : Addr} {o : HO} (S : SRel K x O Z H σ env) (hD : D ∉ O) (h : H D = some o) (hn : nT o) : SRel K (x.put D o) O Z H σ env := by
  refine ⟨S.len, S.slot, S.ownO, S.inj, S.osub, S.zsub, S.trk, fun a u q n => ?_, fun a ha => ?_, S.par, S.tb, fun ht a u q => ?_⟩
  · by_cases e : a = D
    · subst e
      have q' : upd x.H0 a o a = some u := q
      rw [upd_same] at q'
      cases q'
      exact h
    · have q' : upd x.H0 D o a = some u := q
      rw [upd_ne e] at q'
      exact S.keep a u q' n
  · rcases S.oM a ha with z | ⟨z, z2⟩
    · exact .inl z
    · refine .inr ⟨?_, z2⟩
      show upd x.H0 D o a = none
      rw [upd_ne (fun e => hD (by rw [← e]; exact ha))]
      exact z
  · by_cases e : a = D
    · subst e
      have q' : upd x.H0 a o a = some u := q
      rw [upd_same] at q'
      cases q'
      exact hn
    · have q' : upd x.H0 D o a = some u := q
      rw [upd_ne e] at q'
      exact S.tf ht a u q'
theorem srel_out {K : PySem.W.Frag} {x : Fx} {O Z : Zs} {H : Hp} {σ : L2.St} {env : En} {D : Addr} {o : HO} (S : SRel K (x.put D o) O Z H σ env) (hD : D ∉ O) (h0 : x.H0 D = none) : SRel K x O Z H σ env ∧ H D = some o := by
  have hM : D ∉ x.M := fun z => by
    obtain ⟨p, hp, e⟩ := List.mem_map.mp z
    obtain ⟨h1, s, h2, h3⟩ := S.par p hp
    exact hD (by rw [← e]; exact S.ownO p.1 s p.2 h2 h3 h1)
  have gD : H D = some o := S.keep D o (show upd x.H0 D o D = some o from upd_same) hM
  refine ⟨⟨S.len, S.slot, S.ownO, S.inj, S.osub, S.zsub, S.trk, fun a u q n => ?_, fun a ha => ?_, S.par, S.tb, fun ht a u q => S.tf ht a u ?_⟩, gD⟩
  · refine S.keep a u ?_ n
    show upd x.H0 D o a = some u
    rw [upd_ne (fun e => by rw [e, h0] at q; cases q)]
    exact q
  · rcases S.oM a ha with z | ⟨z, z2⟩
    · exact .inl z
    · refine .inr ⟨?_, z2⟩
      have z' : upd x.H0 D o a = none := z
      rwa [upd_ne (fun e => hD (by rw [← e]; exact ha))] at z'
  · show upd x.H0 D o a = some u
    rw [upd_ne (fun e => by rw [e, h0] at q; cases q)]
    exact q
section
variable {X : Cx} {G : Er} {W : WX}
theorem DE.any {e : Expr} {f : Fe} (h : DE X G W e f) : PE X e (fun σ H Q => ∃ x : Fx, x.T = G.T ∧ tD X.K G W x f σ H Q) := ⟨fun pins s σ H Q I ⟨x, xt, q⟩ => (h.run x xt).run pins s σ H Q I q⟩
theorem DTs.any {e : List Expr} {f : En → Out Bool} (h : DTs X G W e f) : PTs X e (fun σ H Q => ∃ x : Fx, x.T = G.T ∧ tG X.K G W x RlB f σ H Q) := ⟨fun pins s σ H Q I ⟨x, xt, q⟩ => (h.run x xt).run pins s σ H Q I q⟩
theorem wipe_nil_out {env : En} : ∀ {vs : List Nat}, True := fun {_} => trivial
theorem lc_imp {tg iter : Expr} {own : List (Str × Nat)} {g : TG} {src : En → Out (List D)} {js : List Nat} {b : D → En → Option En} {tt : En → Out Bool} {te : Fe} (hi : DI X G W tg iter src) (hd : DG X.K g js b) (hj : ∀ j ∈ js, j ∈ own.map (·.2)) (x : Fx) (xt : x.T = G.T) (σ : L2.St) (H : Hp) (Q : VK)
    (hq : tN X.K G W x (dLc src b (own.map (·.2)) tt te) σ H Q) : tLc (tI X.K G W x src) g (fun σ H Q => ∃ x : Fx, x.T = G.T ∧ tG X.K G W0 x RlB tt σ H Q) (fun σ H Q => ∃ x : Fx, x.T = G.T ∧ tD X.K G W0 x te σ H Q) (own.map (·.2)) σ H Q := by
  obtain ⟨O, Z, env, S, q⟩ := hq
  refine ⟨O, Z, env, S, PON.bndI (α := Unit) q fun items e1 J H1 S1 m1 hJ k D hD => ?_⟩
  split at k
  case isFalse => exact k.elim
  rename_i hfl
  obtain ⟨hf, hl⟩ := hfl
  obtain ⟨Gp, Y, w, hG, hY⟩ := hJ
  have hDZ : D ∉ Z := trkN S1 D hD
  have hDO : D ∉ O := fun z => hDZ (S1.osub D z)
  have hD0 : x.H0 D = none := h0_none S1 hD
  have hww : ∀ σ2 : L2.St, wipe σ2 (own.map (·.2)) = wipe (wipe σ (own.map (·.2))) (own.map (·.2)) → wipe σ2 (own.map (·.2)) = wipe σ (own.map (·.2)) := fun σ2 h => h.trans wipe_idem
  generalize hvs : own.map (·.2) = vs at *
  have S2 : SRel X.K x O (D :: Z) (upd H1 D (.lst [])) (wipe σ vs) (wipeE e1 vs) := (srel_wipe S1 hf).lay hD nT_lst
  refine lc_it w (g := g) (tt := fun σ H Q => ∃ x : Fx, x.T = G.T ∧ tG X.K G W0 x RlB tt σ H Q) (te := fun σ H Q => ∃ x : Fx, x.T = G.T ∧ tD X.K G W0 x te σ H Q) (vs := vs) (σ := σ) (H1 := H1) (D := D) (Qd := fun H => Q (.ref D) H) (fun i Hc => ∃ eN acc ds, SRel X.K x O (D :: Z) Hc (wipe σ vs) eN ∧ Hc D = some (.lst acc) ∧ Dqs X.K (mns Hc (D :: Z)) acc ds ∧ acc.length ≤ i ∧ Sm (mns H1 Z) (mns Hc (D :: Z)) ∧
      PON X.K G W x O Z σ H1 ((lcGo b vs tt te (items.drop i) eN ds).bns fun ds eN => .ok ds (mergeE e1 eN vs)) Q) ?_ ?_ ?_ ?_
  · exact ⟨_, [], [], S2, upd_same, .nil, Nat.le_refl _, lay_same hD, by rw [List.drop_zero]; exact k⟩
  · rintro i Hc hi ⟨eN, acc, ds, SN, hacc, dacc, hla, mN, kN⟩
    exact hG Hc (mN.trans mns_le)
  · rintro i xv Hc H' hi ⟨eN, acc, ds, SN, hacc, dacc, hla, mN, kN⟩ y
    obtain ⟨d, hd1, sm, dv⟩ := hY i Hc xv H' (D :: Z) mN (trkN SN) y hi
    have hdrop : items.drop i = d :: items.drop (i + 1) := by
      obtain ⟨hlt, e⟩ := List.getElem?_eq_some_iff.mp hd1
      rw [List.drop_eq_getElem_cons hlt, e]
    rw [hdrop] at kN
    unfold lcGo at kN
    cases hb : b d eN with
    | none => rw [hb] at kN; exact kN.elim
    | some e2 =>
      rw [hb] at kN
      simp only at kN
      have SN' := SN.grow sm
      have hpm : ∀ j ∈ js, j ∉ x.Pm.map (·.1) := fun j hj' z => by
        obtain ⟨p, hp, e⟩ := List.mem_map.mp z
        obtain ⟨_, s, h2, h3⟩ := S1.par p hp
        exact freeV_not hf h2 h3 (by rw [e]; exact hj j hj')
      refine hd.run x O (D :: Z) H' _ eN xv d e2 _ hpm SN' dv hb fun σ2 S3 hw => ⟨hww _ (hw _ hj), ?_⟩
      have hw' := hww _ (hw _ hj)
      have hacc' : H' D = some (.lst acc) := sm D _ hacc
      have dacc' : Dqs X.K (mns H' (D :: Z)) acc ds := dqsM (same_m sm) dacc
      have mN' : Sm (mns H1 Z) (mns H' (D :: Z)) := mN.trans (same_m sm)
      refine ⟨x.put D (.lst acc), xt, O, D :: Z, e2, srel_in S3 hDO hacc' nT_lst, ?_⟩
      cases ht2 : tt e2 with
      | err c p e => rw [ht2] at kN; exact kN.elim
      | stuck => rw [ht2] at kN; exact kN.elim
      | ok t e3 =>
        rw [ht2] at kN
        intro bb H3 S4 m4 r4
        cases r4
        obtain ⟨S5, h5⟩ := srel_out S4 hDO hD0
        replace kN : PON X.K G W x O Z σ H1 (Out.bns (if t = true then (te e3).bns fun y e3 => if freeV vs e3 = true then lcGo b vs tt te (items.drop (i + 1)) (wipeE e3 vs) (ds ++ [y]) else .stuck
          else if freeV vs e3 = true then lcGo b vs tt te (items.drop (i + 1)) (wipeE e3 vs) ds else .stuck) fun ds eN => .ok ds (mergeE e1 eN vs)) Q := kN
        cases t with
        | false =>
          rw [if_neg (by decide)] at kN ⊢
          split at kN
          case isFalse => exact kN.elim
          rename_i hfr
          have S6 := srel_wipe S5 hfr
          rw [hw'] at S6
          exact ⟨_, acc, ds, S6, h5, dqsM m4 dacc', Nat.le_succ_of_le hla, mN'.trans m4, kN⟩
        | true =>
          rw [if_pos rfl] at kN ⊢
          refine ⟨x.put D (.lst acc), xt, O, D :: Z, e3, srel_in S5 hDO h5 nT_lst, ?_⟩
          cases he2 : te e3 with
          | err c p e => rw [he2] at kN; exact kN.elim
          | stuck => rw [he2] at kN; exact kN.elim
          | ok yd e4 =>
            rw [he2] at kN
            intro yv H4 S6 m6 r6
            obtain ⟨S7, h7⟩ := srel_out S6 hDO hD0
            replace kN : PON X.K G W x O Z σ H1 (Out.bns (if freeV vs e4 = true then lcGo b vs tt te (items.drop (i + 1)) (wipeE e4 vs) (ds ++ [yd]) else .stuck) fun ds eN => .ok ds (mergeE e1 eN vs)) Q := kN
            split at kN
            case isFalse => exact kN.elim
            rename_i hfr
            have S8 := srel_upd (o := .lst (acc ++ [yv])) (srel_wipe S7 hfr) (List.mem_cons_self) hDO hD0 h7 nT_lst
            rw [hw'] at S8
            have um : Sm (mns H4 (D :: Z)) (mns (upd H4 D (.lst (acc ++ [yv]))) (D :: Z)) := upd_same_m List.mem_cons_self
            refine ⟨acc, h7, line_of (by omega), _, _, _, S8, upd_same, dqsM um (dqsApp (dqsM (m4.trans m6) dacc') (.cons r6 .nil)), by rw [List.length_append]; exact Nat.succ_le_succ hla, ((mN'.trans m4).trans m6).trans um, kN⟩
  · rintro Hc ⟨eN, acc, ds, SN, hacc, dacc, hla, mN, kN⟩
    rw [List.drop_length] at kN
    have S1' : SRel X.K x O (D :: Z) (upd H1 D (.lst [])) σ e1 := S1.lay hD nT_lst
    exact kN D acc Hc hD0 hDZ (srel_merge S1' SN (fun a o n h => by
      obtain ⟨z1, z2⟩ := mns_some.mp h
      have ne : a ≠ D := fun e => z1 (by rw [e]; exact List.mem_cons_self)
      rw [upd_ne ne] at z2
      exact mN a o n (mns_some.mpr ⟨fun z => z1 (List.mem_cons_of_mem _ z), z2⟩)) hf) mN hacc dacc
theorem dn_lc {elt tg iter : Expr} {ifs : List Expr} {scope : Scope} {own : List (Str × Nat)} {pos : Pos} {g : TG} {src : En → Out (List D)} {js : List Nat} {b : D → En → Option En} {tt : En → Out Bool} {te : Fe}
    (hc : X.calm = true) (hN : X.N.Nodup) (hi : DI X G W tg iter src) (ok : BlkOk X.N X.env.scope scope own)
    (hg : ∀ (s : Shared) (H : Hp) (C : Addr) (cl : List (Str × Addr)) (fp : List Addr), PG (X.blk s H scope (compEnvC scope cl C X.env) fp) tg g) (hd : DG X.K g js b)
    (ht : ∀ (s : Shared) (H : Hp) (C : Addr) (cl : List (Str × Addr)) (fp : List Addr), DTs (X.blk s H scope (compEnvC scope cl C X.env) fp) G W0 ifs tt)
    (he : ∀ (s : Shared) (H : Hp) (C : Addr) (cl : List (Str × Addr)) (fp : List Addr), DE (X.blk s H scope (compEnvC scope cl C X.env) fp) G W0 elt te)
    (hj : ∀ j ∈ js, j ∈ own.map (·.2)) (hs : ∀ x, foldedSetIterable iter X.env x = pure x := by intro _; rfl) :
    DN X G W (.ListComp elt [⟨tg, iter, ifs, 0⟩] scope pos) (dLc src b (own.map (·.2)) tt te) := ⟨fun x xt => peImp (pe_lc (tt := fun σ H Q => ∃ x : Fx, x.T = G.T ∧ tG X.K G W0 x RlB tt σ H Q) (te := fun σ H Q => ∃ x : Fx, x.T = G.T ∧ tD X.K G W0 x te σ H Q) hc hN (hi.run x xt) ok hg (fun s H C cl fp => (ht s H C cl fp).any) (fun s H C cl fp => (he s H C cl fp).any) hs) (lc_imp hi hd hj x xt)⟩
end
end MI
set_option Elab.async false
set_option linter.all false
set_option maxRecDepth 100000
set_option maxHeartbeats 4000000
/-! Mini8: statements -/
namespace MI
open PySem PySem.Spec PyProof.Rows L2
/-- what a def gives back -/
def RtR (K : PySem.W.Frag) (Zc Zf : Zs) (H0 H' : Hp) : SV → V → Prop
  | .val d, v => Dq K (mns H' Zc) v d
  | .scr _, _ => False
  | .lst ds, v => ∃ p, v = .ref p ∧ H0 p = none ∧ p ∉ Zc ∧ p ∈ Zf ∧ SvR K H' (p :: Zc) (.lst ds) v
  | .dct kvs, v => ∃ p, v = .ref p ∧ H0 p = none ∧ p ∉ Zc ∧ p ∈ Zf ∧ SvR K H' (p :: Zc) (.dct kvs) v
def SO (K : PySem.W.Frag) (G : Er) (W : WX) (x : Fx) (H : Hp) (Z : Zs) (D : Ends) : SOut → Prop
  | .nx e => ∀ O' Z' H' σ', SRel K x O' Z' H' σ' e → Sm (mns H Z) (mns H' Z') → D.nx σ' H'
  | .bk e => ∀ O' Z' H' σ', SRel K x O' Z' H' σ' e → Sm (mns H Z) (mns H' Z') → D.bk σ' H'
  | .ct e => ∀ O' Z' H' σ', SRel K x O' Z' H' σ' e → Sm (mns H Z) (mns H' Z') → D.ct σ' H'
  | .rt r e => ∀ O' Z' H' σ' v, SRel K x O' Z' H' σ' e → Sm (mns H Z) (mns H' Z') → RtR K x.Zc Z' x.H0 H' r v → D.rt v H'
  | .err c p e => ∀ O' Z' H' σ' dx v, SRel K x O' Z' H' σ' e → Sm (mns H Z) (mns H' Z') → dx ∉ Z' → H' dx = some (.xd [(G.fld c, v)]) → Dq K (mns H' Z') v p → W (.ref (G.ca c)) (some dx) σ' H'
  | .stuck => False
theorem SO.same {K : PySem.W.Frag} {G : Er} {W : WX} {x : Fx} {H H1 : Hp} {Z Z1 : Zs} {D : Ends} {o : SOut} (e : Sm (mns H Z) (mns H1 Z1)) (h : SO K G W x H Z D o) : SO K G W x H1 Z1 D o := by
  cases o with
  | nx e1 => exact fun O' Z' H' σ' S m => h O' Z' H' σ' S (e.trans m)
  | bk e1 => exact fun O' Z' H' σ' S m => h O' Z' H' σ' S (e.trans m)
  | ct e1 => exact fun O' Z' H' σ' S m => h O' Z' H' σ' S (e.trans m)
  | rt r e1 => exact fun O' Z' H' σ' v S m => h O' Z' H' σ' v S (e.trans m)
  | err c p e1 => exact fun O' Z' H' σ' dx v S m => h O' Z' H' σ' dx v S (e.trans m)
  | stuck => exact h
/-- another end -/
theorem SO.ends {K : PySem.W.Frag} {G : Er} {W : WX} {x : Fx} {H : Hp} {Z : Zs} {D D' : Ends} {o : SOut} (h : SO K G W x H Z D o) (h1 : ∀ e, o = .nx e → SO K G W x H Z D (.nx e) → SO K G W x H Z D' (.nx e))
    (h2 : ∀ e, o = .bk e → SO K G W x H Z D (.bk e) → SO K G W x H Z D' (.bk e)) (h3 : ∀ e, o = .ct e → SO K G W x H Z D (.ct e) → SO K G W x H Z D' (.ct e)) (h4 : D.rt = D'.rt) : SO K G W x H Z D' o := by
  cases o with
  | nx e1 => exact h1 _ rfl h
  | bk e1 => exact h2 _ rfl h
  | ct e1 => exact h3 _ rfl h
  | rt r e1 => intro O' Z' H' σ' v S m r; rw [← h4]; exact h O' Z' H' σ' v S m r
  | err c p e1 => exact h
  | stuck => exact h
def tS (K : PySem.W.Frag) (G : Er) (W : WX) (x : Fx) (f : Fs) : TS := fun D σ H => ∃ O Z env, SRel K x O Z H σ env ∧ SO K G W x H Z D (f env)
structure DS (X : Cx) (G : Er) (W : WX) (mp : List Nat) (st : Stmt) (f : Fs) : Prop where
  run : ∀ x : Fx, x.T = G.T → x.Pm.map (·.1) = mp → PS X st (tS X.K G W x f)
structure DSs (X : Cx) (G : Er) (W : WX) (mp : List Nat) (st : List Stmt) (f : Fs) : Prop where
  run : ∀ x : Fx, x.T = G.T → x.Pm.map (·.1) = mp → PSs X st (tS X.K G W x f)
theorem psImp {X : Cx} {e : Stmt} {t t' : TS} (h : PS X e t) (i : ∀ D σ H, t' D σ H → t D σ H) : PS X e t' := ⟨fun pins s σ H D I q => h.run pins s σ H D I (i D σ H q)⟩
theorem pssImp {X : Cx} {e : List Stmt} {t t' : TS} (h : PSs X e t) (i : ∀ D σ H, t' D σ H → t D σ H) : PSs X e t' := ⟨fun pins s σ H D I q => h.run pins s σ H D I (i D σ H q)⟩
def Out.bnS {α : Type} (o : Out α) (k : α → En → SOut) : SOut := match o with
  | .ok a e => k a e
  | .err c p e => .err c p e
  | .stuck => .stuck
section
variable {K : PySem.W.Frag} {G : Er} {W : WX} {x : Fx} {H : Hp} {O Z : Zs} {σ : L2.St} {D : Ends}
theorem so_err {c : Str} {p : MI.D} {e : En} {D0 : Ends} (h : SO K G W x H Z D0 (.err c p e)) : wOk K G W x O Z σ H c p e := fun dx v H' S m n q d => h O Z H' σ dx v S m n q d
theorem SO.bnd {α β : Type} {Rl : Hp → β → α → Prop} {o : Out α} {k : α → En → SOut} {Q' : β → Hp → Prop} (h : SO K G W x H Z D (o.bnS k))
    (hk : ∀ d e1 v H1, SRel K x O Z H1 σ e1 → Sm (mns H Z) (mns H1 Z) → Rl (mns H1 Z) v d → SO K G W x H1 Z D (k d e1) → Q' v H1) : MI.PO K G W x O Z σ Rl H o Q' := by
  cases o with
  | ok d e1 => exact fun v H1 S m r => hk d e1 v H1 S m r (SO.same m h)
  | err c p e1 => exact so_err h
  | stuck => exact h
theorem SO.bndI {o : Out (List MI.D)} {k : List MI.D → En → SOut} {R : It → Hp → Prop} (h : SO K G W x H Z D (o.bnS k))
    (hk : ∀ ds e1 J H1, SRel K x O Z H1 σ e1 → Sm (mns H Z) (mns H1 Z) → SrcOk K J ds (mns H1 Z) → SO K G W x H1 Z D (k ds e1) → R J H1) : POI K G W x O Z σ H o R := by
  cases o with
  | ok d e1 => exact fun J H1 S m r => hk d e1 J H1 S m r (SO.same m h)
  | err c p e1 => exact so_err h
  | stuck => exact h
end
/-! ### own things made -/
def POF (K : PySem.W.Frag) (G : Er) (W : WX) (x : Fx) (O Z : Zs) (σ : L2.St) (H : Hp) (f : Out SV) (Q : VK) : Prop := match f with
  | .ok s env' => s.own = true ∧ ∀ p H', x.H0 p = none → p ∉ Z → SRel K x O (p :: Z) H' σ env' → Sm (mns H Z) (mns H' (p :: Z)) → SvR K H' (p :: Z) s (.ref p) → Q (.ref p) H'
  | .err c p env' => wOk K G W x O Z σ H c p env'
  | .stuck => False
def tF (K : PySem.W.Frag) (G : Er) (W : WX) (x : Fx) (f : En → Out SV) : TE := fun σ H Q => ∃ O Z env, SRel K x O Z H σ env ∧ POF K G W x O Z σ H (f env) Q
/-- an expression that makes a list | a dict that nobody else has -/
structure DF (X : Cx) (G : Er) (W : WX) (e : Expr) (f : En → Out SV) : Prop where
  run : ∀ x : Fx, x.T = G.T → PE X e (tF X.K G W x f)
def fLst (f : En → Out (List D)) : En → Out SV := fun env => (f env).bnd fun ds e1 => .ok (.lst ds) e1
theorem DN.df {X : Cx} {G : Er} {W : WX} {e : Expr} {f : En → Out (List D)} (h : DN X G W e f) : DF X G W e (fLst f) := ⟨fun x xt => peImp (h.run x xt) fun σ H Q ⟨O, Z, env, S, q⟩ => ⟨O, Z, env, S, by
  unfold fLst at q
  cases hf : f env with
  | ok ds e1 =>
    rw [hf] at q
    exact fun p vs H' h0 hz S' m hl dq => q.2 p H' h0 hz S' m ⟨p, vs, rfl, hl, dq⟩
  | err c p e1 => rw [hf] at q; exact q
  | stuck => rw [hf] at q; exact q⟩⟩
theorem SO.bndF {K : PySem.W.Frag} {G : Er} {W : WX} {x : Fx} {H : Hp} {O Z : Zs} {σ : L2.St} {D : Ends} {o : Out SV} {k : SV → En → SOut} {Q' : VK} (h : SO K G W x H Z D (o.bnS fun s e => if s.own = true then k s e else .stuck))
    (hk : ∀ s e1 p H1, s.own = true → x.H0 p = none → p ∉ Z → SRel K x O (p :: Z) H1 σ e1 → Sm (mns H Z) (mns H1 (p :: Z)) → SvR K H1 (p :: Z) s (.ref p) → SO K G W x H1 (p :: Z) D (k s e1) → Q' (.ref p) H1) : POF K G W x O Z σ H o Q' := by
  cases o with
  | ok s e1 =>
    by_cases hs : s.own = true
    · have h' : SO K G W x H Z D (if s.own = true then k s e1 else .stuck) := h
      rw [if_pos hs] at h'
      exact ⟨hs, fun p H' h0 hz S m r => hk s e1 p H' hs h0 hz S m r (SO.same m h')⟩
    · have h' : SO K G W x H Z D (if s.own = true then k s e1 else .stuck) := h
      rw [if_neg hs] at h'
      exact h'.elim
  | err c p e1 => exact so_err h
  | stuck => exact h
/-- a slot gets a new own thing -/
theorem srel_own {K : PySem.W.Frag} {x : Fx} {O Z : Zs} {H : Hp} {σ : L2.St} {env : En} {i : Nat} {p : Addr} {s : SV} (S : SRel K x O (p :: Z) H σ env) (hs : s.own = true) (h0 : x.H0 p = none) (hz : p ∉ Z) (hZ : ∀ a ∈ O, a ∈ Z) (hc : ∀ a ∈ x.Zc, a ∈ Z) (h : SvR K H (p :: Z) s (.ref p)) (hp : i ∉ x.Pm.map (·.1)) :
    SRel K x (p :: O) (p :: Z) H (σ.set i (some (.ref p))) (env.set i (some s)) := by
  have pO : p ∉ O := fun z => hz (hZ p z)
  refine ⟨?_, fun j t q => ?_, fun j t a q o r => ?_, fun j k sj sk a n q1 q2 o1 o2 r1 r2 => ?_, fun a ha => ?_, S.zsub, S.trk, S.keep, fun a ha => ?_, fun pp hm => ?_, S.tb, S.tf⟩
  · rw [List.length_set, List.length_set, S.len]
  · by_cases e : i = j
    · subst e
      have hl : i < env.length := by
        rw [← List.length_set (as := env) (i := i) (a := some s)]
        exact (List.getElem?_eq_some_iff.mp q).1
      rw [List.getElem?_set_self hl] at q
      cases q
      exact ⟨.ref p, List.getElem?_set_self (by rw [S.len]; exact hl), h⟩
    · rw [List.getElem?_set_ne e] at q
      obtain ⟨u, h1, h2⟩ := S.slot j t q
      exact ⟨u, by rw [List.getElem?_set_ne e]; exact h1, h2⟩
  · by_cases e : i = j
    · subst e
      have hl : i < σ.length := by
        rw [S.len, ← List.length_set (as := env) (i := i) (a := some s)]
        exact (List.getElem?_eq_some_iff.mp q).1
      rw [List.getElem?_set_self hl] at r
      cases r
      exact List.mem_cons_self
    · rw [List.getElem?_set_ne e] at q r
      exact List.mem_cons_of_mem _ (S.ownO j t a q o r)
  · have key : ∀ {j k : Nat} {sj sk : SV}, j ≠ k → i = j → (env.set i (some sk))[k]? = (env.set i (some sk))[k]? → env[k]? = some (some sk) → sk.own = true → (σ.set i (some (.ref p)))[j]? = some (some (.ref a)) → σ[k]? = some (some (.ref a)) → False := fun {j k sj sk} n e _ q2 o2 r1 r2 => by
      subst e
      have hl : i < σ.length := by
        rw [← List.length_set (as := σ) (i := i) (a := some (.ref p))]
        exact (List.getElem?_eq_some_iff.mp r1).1
      rw [List.getElem?_set_self hl] at r1
      cases r1
      exact pO (S.ownO k sk p q2 o2 r2)
    by_cases e : i = j
    · have e2 : i ≠ k := fun z => n (e.symm.trans z)
      rw [List.getElem?_set_ne e2] at q2 r2
      exact key (sj := sj) n e rfl q2 o2 r1 r2
    · by_cases e2 : i = k
      · rw [List.getElem?_set_ne e] at q1 r1
        exact key (sj := sk) (Ne.symm n) e2 rfl q1 o1 r2 r1
      · rw [List.getElem?_set_ne e] at q1 r1
        rw [List.getElem?_set_ne e2] at q2 r2
        exact S.inj j k sj sk a n q1 q2 o1 o2 r1 r2
  · rcases List.mem_cons.mp ha with z | z
    · rw [z]; exact List.mem_cons_self
    · exact List.mem_cons_of_mem _ (hZ a z)
  · rcases List.mem_cons.mp ha with z | z
    · rw [z]; exact .inr ⟨h0, fun y => hz (hc p y)⟩
    · exact S.oM a z
  · obtain ⟨h1, t, h2, h3⟩ := S.par pp hm
    have e : i ≠ pp.1 := fun z => hp (List.mem_map.mpr ⟨pp, hm, z.symm⟩)
    exact ⟨by rw [List.getElem?_set_ne e]; exact h1, t, by rw [List.getElem?_set_ne e]; exact h2, h3⟩
section
variable {X : Cx} {G : Er} {W : WX} {mp : List Nat} {st : Stmt} {rest : List Stmt} {e : Expr} {pos : Pos} {f g : Fs} {fe : Fe}
def sNx : Fs := fun env => .nx env
def sSq (f g : Fs) : Fs := fun env => match f env with
  | .nx e => g e
  | o => o
theorem dss_nil : DSs X G W mp [] sNx := ⟨fun x xt _ => pssImp pss_nil fun D σ H ⟨O, Z, env, S, q⟩ => q O Z H σ S (Sm.refl _)⟩
theorem so_sq {K : PySem.W.Frag} {x : Fx} {H : Hp} {Z : Zs} {D : Ends} {env : En} {t : TS} (h : SO K G W x H Z D (sSq f g env)) (ht : ∀ O' Z' H' σ' e, SRel K x O' Z' H' σ' e → Sm (mns H Z) (mns H' Z') → SO K G W x H' Z' D (g e) → t D σ' H') : SO K G W x H Z { D with nx := t D } (f env) := by
  unfold sSq at h
  cases hf : f env with
  | nx e => rw [hf] at h; exact fun O' Z' H' σ' S m => ht O' Z' H' σ' e S m (SO.same m h)
  | bk e => rw [hf] at h; exact h
  | ct e => rw [hf] at h; exact h
  | rt r e => rw [hf] at h; exact h
  | err c p e => rw [hf] at h; exact h
  | stuck => rw [hf] at h; exact h
theorem dss_cons (h : DS X G W mp st f) (hr : DSs X G W mp rest g) : DSs X G W mp (st :: rest) (sSq f g) := ⟨fun x xt hx => pssImp (pss_cons (h.run x xt hx) (hr.run x xt hx)) fun D σ H ⟨O, Z, env, S, q⟩ => ⟨O, Z, env, S, so_sq q fun O' Z' H' σ' e S' _ q' => ⟨O', Z', e, S', q'⟩⟩⟩
theorem dss_one (h : DS X G W mp st f) : DSs X G W mp [st] f := ⟨fun x xt hx => pss_one (h.run x xt hx)⟩
/-- code that is not reached -/
def sNo : Fs := fun _ => .stuck
theorem ds_no : DS X G W mp st sNo := ⟨fun x xt _ => psImp ps_never fun D σ H ⟨O, Z, env, S, q⟩ => q⟩
theorem dss_no {sts : List Stmt} : DSs X G W mp sts sNo := ⟨fun x xt _ => pssImp pss_never fun D σ H ⟨O, Z, env, S, q⟩ => q⟩
theorem ds_pass : DS X G W mp (.Pass pos) sNx := ⟨fun x xt _ => psImp ps_pass fun D σ H ⟨O, Z, env, S, q⟩ => q O Z H σ S (Sm.refl _)⟩
def sBk : Fs := fun env => .bk env
def sCt : Fs := fun env => .ct env
theorem ds_break : DS X G W mp (.Break pos) sBk := ⟨fun x xt _ => psImp ps_break fun D σ H ⟨O, Z, env, S, q⟩ => q O Z H σ S (Sm.refl _)⟩
theorem ds_cont : DS X G W mp (.Continue pos) sCt := ⟨fun x xt _ => psImp ps_continue fun D σ H ⟨O, Z, env, S, q⟩ => q O Z H σ S (Sm.refl _)⟩
def sIf (p : En → Out Bool) (f g : Fs) : Fs := fun env => (p env).bnS fun b e => if b = true then f e else g e
theorem ds_if {c : Expr} {p : En → Out Bool} {a b : List Stmt} (hc : DT X G W c p) (ha : DSs X G W mp a f) (hb : DSs X G W mp b g) : DS X G W mp (.If c a b pos) (sIf p f g) := ⟨fun x xt hx => psImp (ps_if (hc.run x xt) (ha.run x xt hx) (hb.run x xt hx)) fun D σ H ⟨O, Z, env, S, q⟩ => ⟨O, Z, env, S, SO.bnd q fun d e1 v H1 S1 m r k => by
  cases r
  cases d with
  | true => exact iteT ⟨O, Z, e1, S1, k⟩
  | false => exact iteF ⟨O, Z, e1, S1, k⟩⟩⟩
def sRet (f : Fe) : Fs := fun env => (f env).bnS fun d e => .rt (.val d) e
theorem ds_ret (h : DE X G W e fe) : DS X G W mp (.Return (some e) pos) (sRet fe) := ⟨fun x xt _ => psImp (ps_ret (h.run x xt)) fun D σ H ⟨O, Z, env, S, q⟩ => ⟨O, Z, env, S, SO.bnd q fun d e1 v H1 S1 m r k => k O Z H1 σ v S1 (Sm.refl _) (dqM (mns_sub S1.zsub) r)⟩⟩
def sRetN : Fs := fun env => .rt (.val .none) env
theorem ds_retN : DS X G W mp (.Return none pos) sRetN := ⟨fun x xt _ => psImp ps_retN fun D σ H ⟨O, Z, env, S, q⟩ => q O Z H σ .non S (Sm.refl _) .non⟩
def sRetF (f : En → Out SV) : Fs := fun env => (f env).bnS fun s e => if s.own = true then .rt s e else .stuck
theorem rtr_own {K : PySem.W.Frag} {Zc Zf : Zs} {H0 H' : Hp} {s : SV} {p : Addr} (hs : s.own = true) (h0 : H0 p = none) (hz : p ∉ Zc) (hf : p ∈ Zf) (h : SvR K H' (p :: Zc) s (.ref p)) : RtR K Zc Zf H0 H' s (.ref p) := by
  cases s with
  | val d => cases hs
  | scr d => cases hs
  | lst ds => exact ⟨p, rfl, h0, hz, hf, h⟩
  | dct ds => exact ⟨p, rfl, h0, hz, hf, h⟩
theorem ds_retF {ff : En → Out SV} (h : DF X G W e ff) : DS X G W mp (.Return (some e) pos) (sRetF ff) := ⟨fun x xt _ => psImp (ps_ret (h.run x xt)) fun D σ H ⟨O, Z, env, S, q⟩ => ⟨O, Z, env, S, SO.bndF q fun s e1 p H1 hs h0 hz S1 m r k =>
  k O (p :: Z) H1 σ (.ref p) S1 (Sm.refl _) (rtr_own hs h0 (fun z => hz (S.zsub p z)) List.mem_cons_self (r.less fun a ha => by
    rcases List.mem_cons.mp ha with z | z
    · rw [z]; exact List.mem_cons_self
    · exact List.mem_cons_of_mem _ (S.zsub a z)))⟩⟩
/-- return name, an own thing of this def -/
def sRetO (i : Nat) : Fs := fun env => match env[i]? with
  | some (some s) => if s.own = true then .rt s env else .stuck
  | _ => .stuck
theorem own_notM {K : PySem.W.Frag} {x : Fx} {O Z : Zs} {H : Hp} {σ : L2.St} {env : En} {i : Nat} {s : SV} {a : Addr} (S : SRel K x O Z H σ env) (he : env[i]? = some (some s)) (hs : s.own = true) (ha : σ[i]? = some (some (.ref a))) (hi : i ∉ x.Pm.map (·.1)) : a ∉ x.M := fun z => by
  obtain ⟨p, hp, e⟩ := List.mem_map.mp z
  obtain ⟨h1, t, h2, h3⟩ := S.par p hp
  have n : i ≠ p.1 := fun y => hi (List.mem_map.mpr ⟨p, hp, y.symm⟩)
  exact S.inj i p.1 s t a n he h2 hs h3 ha (by rw [h1, e])
theorem ds_retO (i : Nat) {n : Str} {np : Pos} (h : PE X (.Name n np) (tVar i)) (hi : i ∉ mp) : DS X G W mp (.Return (some (.Name n np)) pos) (sRetO i) := ⟨fun x xt hx => psImp (ps_ret h) fun D σ H ⟨O, Z, env, S, q⟩ => by
  unfold sRetO at q
  split at q
  · rename_i s he
    split at q
    · rename_i hs
      obtain ⟨v, h1, h2⟩ := S.slot i s he
      obtain ⟨a, rfl⟩ := h2.ref hs
      have hO := S.ownO i s a he hs h1
      have hM := own_notM S he hs h1 (by rw [hx]; exact hi)
      have h0 := (S.oM a hO).resolve_left hM
      exact ⟨.ref a, h1, q O Z H σ (.ref a) S (Sm.refl _) (rtr_own hs h0.1 h0.2 (S.osub a hO) (h2.less fun b hb => by
        rcases List.mem_cons.mp hb with z | z
        · rw [z]; exact S.osub a hO
        · exact S.zsub b z))⟩
    · exact q.elim
  · exact q.elim⟩
def sDrp (f : Fe) : Fs := fun env => (f env).bnS fun _ e => .nx e
theorem ds_expr (h : DE X G W e fe) (hs : swapsWith e none pos.line X.env = pure false := by rfl) : DS X G W mp (.Expr e pos) (sDrp fe) := ⟨fun x xt _ => psImp (ps_expr (h.run x xt) hs) fun D σ H ⟨O, Z, env, S, q⟩ => ⟨O, Z, env, S, SO.bnd q fun d e1 v H1 S1 m r k => k O Z H1 σ S1 (Sm.refl _)⟩⟩
/-! ### stores -/
def sAsg (f : Fe) (b : D → En → Option En) : Fs := fun env => (f env).bnS fun d e => match b d e with
  | some e2 => .nx e2
  | none => .stuck
theorem ds_asg {tg : Expr} {gt : TG} {js : List Nat} {b : D → En → Option En} (he : DE X G W e fe) (hg : PG X tg gt) (hd : DG X.K gt js b) (hj : ∀ j ∈ js, j ∉ mp) (hs : swapsWithSole [tg] e pos.line X.env = pure false := by rfl) (hw : swappedStores [tg] e X.env = pure none := by rfl)
    (h1 : (assignEach [tg] X.env).map (·.2) = [assign tg X.env] := by rfl) : DS X G W mp (.Assign [tg] e pos) (sAsg fe b) := ⟨fun x xt hx => psImp (ps_asg (he.run x xt) hg hs hw h1) fun D σ H ⟨O, Z, env, S, q⟩ => ⟨O, Z, env, S, SO.bnd q fun d e1 v H1 S1 m r k => by
  cases hb : b d e1 with
  | none => rw [hb] at k; exact k.elim
  | some e2 =>
    rw [hb] at k
    exact hd.run x O Z H1 σ e1 v d e2 _ (fun j hj' => by rw [hx]; exact hj j hj') S1 r hb fun σ' S' _ => k O Z H1 σ' S' (Sm.refl _)⟩⟩
def sAsgF (f : En → Out SV) (i : Nat) : Fs := fun env => (f env).bnS fun s e => if s.own = true then .nx (e.set i (some s)) else .stuck
theorem ds_asgF {i : Nat} {n : Str} {np : Pos} {ff : En → Out SV} (he : DF X G W e ff) (hg : PG X (.Name n np) (gName i)) (hj : i ∉ mp) (hs : swapsWithSole [.Name n np] e pos.line X.env = pure false := by rfl) (hw : swappedStores [.Name n np] e X.env = pure none := by rfl)
    (h1 : (assignEach [.Name n np] X.env).map (·.2) = [assign (.Name n np) X.env] := by rfl) : DS X G W mp (.Assign [.Name n np] e pos) (sAsgF ff i) := ⟨fun x xt hx => psImp (ps_asg (he.run x xt) hg hs hw h1) fun D σ H ⟨O, Z, env, S, q⟩ => ⟨O, Z, env, S, SO.bndF q fun s e1 p H1 hs h0 hz S1 m r k =>
  k (p :: O) (p :: Z) H1 _ (srel_own S1 hs h0 hz S.osub S.zsub r (by rw [hx]; exact hj)) (Sm.refl _)⟩⟩
/-- name = [..], a comprehension, on one line -/
theorem ds_setLc {i : Nat} {n : Str} {np : Pos} {elt tg iter : Expr} {ifs : List Expr} {scope : Scope} {own : List (Str × Nat)} {cpos : Pos} {gt : TG} {src : En → Out (List D)} {js : List Nat} {b : D → En → Option En} {tt : En → Out Bool} {te : Fe}
    (hc : X.calm = true) (hN : X.N.Nodup) (hy : X.N[i]? = some n) (hyl : X.env.scope.names.lookup n = some .local) (hsw : swapsWith (.ListComp elt [⟨tg, iter, ifs, 0⟩] scope cpos) (some (.Name n np)) pos.line X.env = pure true) (hi : DI X G W tg iter src) (ok : BlkOk X.N X.env.scope scope own)
    (hg : ∀ (s : Shared) (H : Hp) (C : Addr) (cl : List (Str × Addr)) (fp : List Addr), PG (X.blk s H scope (compEnvC scope cl C X.env) fp) tg gt) (hd : DG X.K gt js b)
    (ht : ∀ (s : Shared) (H : Hp) (C : Addr) (cl : List (Str × Addr)) (fp : List Addr), DTs (X.blk s H scope (compEnvC scope cl C X.env) fp) G W0 ifs tt)
    (he : ∀ (s : Shared) (H : Hp) (C : Addr) (cl : List (Str × Addr)) (fp : List Addr), DE (X.blk s H scope (compEnvC scope cl C X.env) fp) G W0 elt te)
    (hj : ∀ j ∈ js, j ∈ own.map (·.2)) (hi' : i ∉ mp) (hs : ∀ x, foldedSetIterable iter X.env x = pure x := by intro _; rfl) :
    DS X G W mp (.Assign [.Name n np] (.ListComp elt [⟨tg, iter, ifs, 0⟩] scope cpos) pos) (sAsgF (fLst (dLc src b (own.map (·.2)) tt te)) i) := ⟨fun x xt hx => psImp (ps_setLc (tt := fun σ H Q => ∃ x : Fx, x.T = G.T ∧ tG X.K G W0 x RlB tt σ H Q) (te := fun σ H Q => ∃ x : Fx, x.T = G.T ∧ tD X.K G W0 x te σ H Q) hc hN hy hyl hsw (hi.run x xt) ok hg (fun s H C cl fp => (ht s H C cl fp).any) (fun s H C cl fp => (he s H C cl fp).any) hs) fun D σ H ⟨O, Z, env, S, q⟩ => by
  refine lc_imp hi hd hj x xt σ H _ ⟨O, Z, env, S, ?_⟩
  unfold sAsgF fLst at q
  cases hf : dLc src b (own.map (·.2)) tt te env with
  | err c p e1 => rw [hf] at q; exact so_err q
  | stuck => rw [hf] at q; exact q
  | ok ds e1 =>
    rw [hf] at q
    have q' : SO X.K G W x H Z D (.nx (e1.set i (some (.lst ds)))) := q
    exact fun p vs H' h0 hz S' m hl dq => q' (p :: O) (p :: Z) H' _ (srel_own (s := .lst ds) S' rfl h0 hz S.osub S.zsub ⟨p, vs, rfl, hl, dq⟩ (by rw [hx]; exact hi')) m⟩
/-- a, b = e1, e2 (plain locals) -/
def sPar (i j : Nat) (fs : En → Out (List D)) : Fs := fun env => (fs env).bnS fun ds e => match ds with
  | [d1, d2] => .nx ((e.set i (some (.val d1))).set j (some (.val d2)))
  | _ => .stuck
theorem ds_par {i j : Nat} {n1 n2 : Str} {a b : Expr} {fs : En → Out (List D)} {px py pt : Pos} {kt k2 pt2} (hc : X.calm = true) (hN : X.N.Nodup) (hi : X.N[i]? = some n1) (hj : X.N[j]? = some n2) (hij : i ≠ j)
    (hx : X.env.scope.names.lookup n1 = some .local) (hy : X.env.scope.names.lookup n2 = some .local) (ha : DA X G W [a, b] fs) (hmi : i ∉ mp) (hmj : j ∉ mp)
    (hw : swappedStores [.Tuple [.Name n1 px, .Name n2 py] kt pt] (.Tuple [a, b] k2 pt2) X.env = pure (some [n1, n2]))
    (hs : swapsWithSole [.Tuple [.Name n1 px, .Name n2 py] kt pt] (.Tuple [a, b] k2 pt2) pos.line X.env = pure false := by rfl) :
    DS X G W mp (.Assign [.Tuple [.Name n1 px, .Name n2 py] kt pt] (.Tuple [a, b] k2 pt2) pos) (sPar i j fs) := ⟨fun x xt hxm => psImp (ps_par hc hN hi hj hij hx hy (ha.run x xt) hw hs) fun D σ H ⟨O, Z, env, S, q⟩ => ⟨O, Z, env, S, SO.bnd q fun ds e1 vs H1 S1 m r k => by
  split at k
  · rename_i d1 d2
    obtain ⟨v, w, rfl, dv, dw⟩ := dqs2 r
    exact ⟨v, w, rfl, k O Z H1 _ (srel_set (s := .val d2) (srel_set (s := .val d1) S1 rfl dv (by rw [hxm]; exact hmi)) rfl dw (by rw [hxm]; exact hmj)) (Sm.refl _)⟩
  · exact k.elim⟩⟩
/-! ### for -/
def fGo (b : D → En → Option En) (body : Fs) : List D → En → SOut
  | [], env => .nx env
  | d :: r, env => match b d env with
    | none => .stuck
    | some e1 => match body e1 with
      | .nx e2 => fGo b body r e2
      | .ct e2 => fGo b body r e2
      | .bk e2 => .nx e2
      | o => o
def sFor (src : En → Out (List D)) (b : D → En → Option En) (body : Fs) : Fs := fun env => (src env).bnS fun items e1 => fGo b body items e1
theorem ds_for {tg iter : Expr} {body : List Stmt} {gt : TG} {js : List Nat} {src : En → Out (List D)} {b : D → En → Option En} (hp : PassesOwn (model X.prog X.w) X.A X.env X.xe) (hc : X.calm = true) (hi : DI X G W tg iter src) (hg : PG X tg gt) (hd : DG X.K gt js b) (hb : DSs X G W mp body f) (hj : ∀ j ∈ js, j ∉ mp)
    (hs : ∀ x, foldedSetIterable iter X.env x = pure x := by intro _; rfl) : DS X G W mp (.For tg iter body [] pos) (sFor src b f) := ⟨fun x xt hx => psImp (ps_for hp hc (hi.run x xt) hg (hb.run x xt hx) hs) fun D σ H ⟨O, Z, env, S, q⟩ => ⟨O, Z, env, S, SO.bndI q fun items e1 J H1 S1 m1 hJ k => by
  obtain ⟨Gp, Y, w, hG, hY⟩ := hJ
  refine for_it w (g := gt) (tb := tS X.K G W x f) (D := D) (σ := σ) (H := H1) (fun i σ' Hc => ∃ O' Z' eN, SRel X.K x O' Z' Hc σ' eN ∧ Sm (mns H1 Z) (mns Hc Z') ∧ SO X.K G W x Hc Z' D (fGo b f (items.drop i) eN)) ?_ ?_ ?_ ?_
  · exact ⟨O, Z, e1, S1, Sm.refl _, by rw [List.drop_zero]; exact k⟩
  · rintro i σ' Hc hi ⟨O', Z', eN, SN, mN, kN⟩
    exact hG Hc (mN.trans mns_le)
  · rintro i xv σ' Hc H' hi ⟨O', Z', eN, SN, mN, kN⟩ y
    obtain ⟨d, hd1, sm, dv⟩ := hY i Hc xv H' Z' mN (trkN SN) y hi
    have hdrop : items.drop i = d :: items.drop (i + 1) := by
      obtain ⟨hlt, e⟩ := List.getElem?_eq_some_iff.mp hd1
      rw [List.drop_eq_getElem_cons hlt, e]
    rw [hdrop] at kN
    unfold fGo at kN
    cases hb : b d eN with
    | none => rw [hb] at kN; exact kN.elim
    | some e2 =>
      rw [hb] at kN
      simp only at kN
      refine hd.run x O' Z' H' σ' eN xv d e2 _ (fun j hj' => by rw [hx]; exact hj j hj') (SN.grow sm) dv hb fun σ2 S3 _ => ⟨O', Z', e2, S3, ?_⟩
      replace kN := SO.same (same_m sm) kN
      cases hf : f e2 with
      | nx e3 => rw [hf] at kN; exact fun O3 Z3 H3 σ3 S4 m4 => ⟨O3, Z3, e3, S4, (mN.trans (same_m sm)).trans m4, SO.same m4 kN⟩
      | ct e3 => rw [hf] at kN; exact fun O3 Z3 H3 σ3 S4 m4 => ⟨O3, Z3, e3, S4, (mN.trans (same_m sm)).trans m4, SO.same m4 kN⟩
      | bk e3 => rw [hf] at kN; exact kN
      | rt r e3 => rw [hf] at kN; exact kN
      | err c p e3 => rw [hf] at kN; exact kN
      | stuck => rw [hf] at kN; exact kN
  · rintro σ' Hc ⟨O', Z', eN, SN, mN, kN⟩
    rw [List.drop_length] at kN
    exact kN O' Z' Hc σ' SN (Sm.refl _)⟩⟩
end
end MI
set_option Elab.async false
set_option linter.all false
set_option maxRecDepth 100000
set_option maxHeartbeats 4000000
/-! Mini9: own lists, own dicts, borrowing -/
namespace MI
open PySem PySem.Spec PyProof.Rows L2
def gOwn (env : En) (i : Nat) : Option SV := match env[i]? with
  | some (some s) => if s.own = true then some s else none
  | _ => none
theorem gOwn_some {env : En} {i : Nat} {s : SV} (h : gOwn env i = some s) : env[i]? = some (some s) ∧ s.own = true := by
  unfold gOwn at h
  split at h
  · split at h
    · cases h; exact ⟨‹_›, ‹_›⟩
    · cases h
  · cases h
theorem own_tabs {K : PySem.W.Frag} {T : List (Addr × Str)} {H : Hp} {Z : Zs} {s : SV} {a : Addr} {o : HO} (t : LamX.Tabs T H) (hs : s.own = true) (h : SvR K H Z s (.ref a)) : LamX.Tabs T (upd H a o) := by
  cases s with
  | val d => cases hs
  | scr d => cases hs
  | lst ds => obtain ⟨b, us, eb, h5, _⟩ := h; cases eb; exact tabs_upd t h5 nT_lst lst_code
  | dct ds => obtain ⟨b, us, eb, h5, _⟩ := h; cases eb; exact tabs_upd t h5 nT_dK dK_code
/-- an own thing changes in place -/
theorem srel_put {K : PySem.W.Frag} {x : Fx} {O Z : Zs} {H : Hp} {σ : L2.St} {env : En} {i : Nat} {a : Addr} {s s' : SV} {o : HO} (S : SRel K x O Z H σ env) (he : env[i]? = some (some s)) (hs : s.own = true) (hs' : s'.own = true) (ha : σ[i]? = some (some (.ref a))) (hn : nT o)
    (h : SvR K (upd H a o) Z s' (.ref a)) : SRel K x O Z (upd H a o) σ (env.set i (some s')) := by
  have aO := S.ownO i s a he hs ha
  have aZ := S.osub a aO
  have e := upd_same_m (H := H) (o := o) aZ
  have il : i < env.length := (List.getElem?_eq_some_iff.mp he).1
  refine ⟨by rw [List.length_set]; exact S.len, fun j t q => ?_, fun j t b q w r => ?_, fun j k sj sk b n q1 q2 o1 o2 r1 r2 => ?_, S.osub, S.zsub, fun b hb => ?_, fun b u q n => ?_, S.oM, fun p hp => ?_, ?_, S.tf⟩
  · by_cases c : i = j
    · subst c
      rw [List.getElem?_set_self il] at q
      cases q
      exact ⟨.ref a, ha, h⟩
    · rw [List.getElem?_set_ne c] at q
      obtain ⟨v, h1, h2⟩ := S.slot j t q
      refine ⟨v, h1, h2.mono e fun w b ev => ?_⟩
      rw [upd_ne (fun z => S.inj i j s t a c he q hs w ha (by rw [h1, ev, z]))]
  · by_cases c : i = j
    · subst c
      exact S.ownO i s b he hs r
    · rw [List.getElem?_set_ne c] at q
      exact S.ownO j t b q w r
  · have back : ∀ {m : Nat} {t : SV}, (env.set i (some s'))[m]? = some (some t) → t.own = true → ∃ t', env[m]? = some (some t') ∧ t'.own = true := fun {m t} q w => by
      by_cases c : i = m
      · subst c; exact ⟨s, he, hs⟩
      · rw [List.getElem?_set_ne c] at q; exact ⟨t, q, w⟩
    obtain ⟨t1, g1, w1⟩ := back q1 o1
    obtain ⟨t2, g2, w2⟩ := back q2 o2
    exact S.inj j k t1 t2 b n g1 g2 w1 w2 r1 r2
  · by_cases c : b = a
    · exact ⟨o, by rw [c, upd_same], hn⟩
    · rw [upd_ne c]; exact S.trk b hb
  · have ne : b ≠ a := fun z => by
      subst z
      rcases S.oM b aO with y | ⟨y, _⟩
      · exact n y
      · rw [y] at q; cases q
    rw [upd_ne ne]; exact S.keep b u q n
  · obtain ⟨h1, t, h2, h3⟩ := S.par p hp
    refine ⟨h1, ?_⟩
    by_cases c : i = p.1
    · rw [← c]; exact ⟨s', List.getElem?_set_self il, hs'⟩
    · exact ⟨t, by rw [List.getElem?_set_ne c]; exact h2, h3⟩
  · exact own_tabs S.tb hs (S.slot i s he |> fun ⟨v, h1, h2⟩ => by rw [ha] at h1; cases h1; exact h2)
section
variable {X : Cx} {G : Er} {W : WX} {mp : List Nat} {e : Expr} {pos np ap : Pos} {fe : Fe} {n : Str}
theorem sv_own {K : PySem.W.Frag} {x : Fx} {O Z : Zs} {H : Hp} {σ : L2.St} {env : En} {i : Nat} {s : SV} (S : SRel K x O Z H σ env) (h : gOwn env i = some s) : ∃ a, σ[i]? = some (some (.ref a)) ∧ SvR K H Z s (.ref a) := by
  obtain ⟨h1, h2⟩ := gOwn_some h
  obtain ⟨v, h3, h4⟩ := S.slot i s h1
  obtain ⟨a, rfl⟩ := h4.ref h2
  exact ⟨a, h3, h4⟩
/-- name.append(e) -/
def sApp (i : Nat) (f : Fe) : Fs := fun env => match gOwn env i with
  | some (.lst _) => (f env).bnS fun d e => match gOwn e i with
    | some (.lst ds) => if ds.length < 1000000 then .nx (e.set i (some (.lst (ds ++ [d])))) else .stuck
    | _ => .stuck
  | _ => .stuck
theorem ds_app (i : Nat) (hn : PE X (.Name n np) (tVar i)) (he : DE X G W e fe)
    (hbase : attributeBase (.Name n np) "append" X.env (eval (.Name n np) X.env) = eval (.Name n np) X.env := by rfl)
    (hfew : ((backTo pos (starEach [e] X.env)).all (fun x => !x.1) && (backToKw pos (keywordEach [] X.env)).all (fun x => x.1.isSome) && decide (([e] : List Expr).length + ([] : List Keyword).length + (if ([] : List Keyword).isEmpty then 0 else 1) < 30)) = true := by rfl)
    (hline : (ap.endLine == pos.line) = true := by rfl) (hs : starEach [e] X.env = [(false, eval e X.env)] := by rfl) (hplain : (backTo pos (starEach [] X.env)).any (·.1) = false := by rfl)
    {p2 : Pos} (hsw : swapsWith (.Call (.Attribute (.Name n np) "append" ap) [e] [] pos) none p2.line X.env = pure false := by rfl) :
    DS X G W mp (.Expr (.Call (.Attribute (.Name n np) "append" ap) [e] [] pos) p2) (sApp i fe) := ⟨fun x xt _ => psImp (ps_expr (pe_bm PySem.F.plainAttrs_list PySem.F.slot_list_append PySem.F.type_list_append mt_append hn (pa_cons (he.run x xt) pa_nil hs) hbase hfew hline hs hplain) hsw) fun D σ H ⟨O, Z, env, S, q⟩ => by
  unfold sApp at q
  split at q
  · rename_i ds0 h0
    obtain ⟨a, ha, a', vs, ea, h3, h4⟩ := sv_own S h0
    cases ea
    refine ⟨.ref a, ha, .inl ⟨rfl, vs, SqL.of h3⟩, O, Z, env, S, SO.bnd q fun d e1 v H1 S1 m r k => ?_⟩
    split at k
    · rename_i ds h5
      split at k
      · rename_i hl
        obtain ⟨b, hb, b', us, eb, h6, h7⟩ := sv_own S1 h5
        cases eb
        rw [ha] at hb
        cases hb
        refine ⟨a, us, v, rfl, rfl, h6, by rw [dqsLen h7]; exact line_of (by omega), ?_⟩
        obtain ⟨g1, g2⟩ := gOwn_some h5
        have e := upd_same_m (H := H1) (o := .lst (us ++ [v])) (S1.osub a (S1.ownO i _ a g1 g2 ha))
        exact k O Z _ σ (srel_put (s' := .lst (ds ++ [d])) S1 g1 g2 rfl ha nT_lst ⟨a, us ++ [v], rfl, upd_same, dqsM e (dqsApp h7 (.cons r .nil))⟩) e
      · exact k.elim
    · exact k.elim
  · exact q.elim⟩
end
/-! dicts: keys ints and texts -/
def valD (kvs : List (Key × D)) (k : Key) : Option D := (kvs.find? fun kv => decide (kv.1 = k)).map (·.2)
def putD (kvs : List (Key × D)) (k : Key) (d : D) : List (Key × D) := if (kvs.any fun kv => decide (kv.1 = k)) = true then kvs.map (fun kv => if kv.1 = k then (kv.1, d) else kv) else kvs ++ [(k, d)]
theorem kd_len {K : PySem.W.Frag} {H : Hp} {us : List (Key × V)} {kvs : List (Key × D)} (h : KD K H us kvs) : us.length = kvs.length := by
  unfold KD at h
  induction h with
  | nil => rfl
  | cons _ _ ih => rw [List.length_cons, List.length_cons, ih]
theorem kd_val {K : PySem.W.Frag} {H : Hp} {us : List (Key × V)} {kvs : List (Key × D)} {k : Key} {d : D} (h : KD K H us kvs) (e : valD kvs k = some d) : ∃ v, valV us k = some v ∧ Dq K H v d := by
  unfold KD at h
  induction h with
  | nil => cases e
  | @cons p q ps qs h t ih =>
    by_cases c : q.1 = k
    · have e' : some q.2 = some d := by rw [← e]; unfold valD; rw [List.find?_cons, decide_eq_true c]; rfl
      cases e'
      exact ⟨p.2, valV_pos (h.1.trans c), h.2⟩
    · have e' : valD qs k = some d := by rw [← e]; unfold valD; rw [List.find?_cons, decide_eq_false c]
      obtain ⟨v, h1, h2⟩ := ih e'
      exact ⟨v, by rw [valV_neg (fun z => c (h.1.symm.trans z))]; exact h1, h2⟩
theorem kd_any {K : PySem.W.Frag} {H : Hp} {us : List (Key × V)} {kvs : List (Key × D)} {k : Key} (h : KD K H us kvs) : (us.any fun kv => decide (kv.1 = k)) = (kvs.any fun kv => decide (kv.1 = k)) := by
  unfold KD at h
  induction h with
  | nil => rfl
  | @cons p q ps qs h t ih => rw [List.any_cons, List.any_cons, ih, h.1]
theorem kd_app {K : PySem.W.Frag} {H : Hp} {us us' : List (Key × V)} {kvs kvs' : List (Key × D)} (h : KD K H us kvs) (h' : KD K H us' kvs') : KD K H (us ++ us') (kvs ++ kvs') := by
  unfold KD at h
  induction h with
  | nil => exact h'
  | cons p t ih => exact .cons p ih
theorem kd_put {K : PySem.W.Frag} {H : Hp} {us : List (Key × V)} {kvs : List (Key × D)} {k : Key} {v : V} {d : D} (h : KD K H us kvs) (hd : Dq K H v d) : KD K H (putK us k v) (putD kvs k d) := by
  unfold putK putD
  rw [kd_any h]
  split
  · rename_i hany
    clear hany
    unfold KD at h
    induction h with
    | nil => exact .nil
    | @cons p q ps qs h t ih =>
      rw [List.map_cons, List.map_cons]
      refine .cons ?_ ih
      by_cases c : q.1 = k
      · rw [if_pos c, if_pos (h.1.trans c)]; exact ⟨h.1, hd⟩
      · rw [if_neg c, if_neg (fun z => c (h.1.symm.trans z))]; exact h
  · exact kd_app h (.cons ⟨rfl, hd⟩ .nil)
def keyD : D → Option Key
  | .int i => some (.inl i)
  | .str z => some (.inr z)
  | _ => none
theorem key_of' {K : PySem.W.Frag} {H : Hp} {v : V} {d : D} {k : Key} (h : Dq K H v d) (e : keyD d = some k) : v = kV k := by
  cases h <;> first | (cases e; rfl) | cases e
/-- the slot holds an own thing, or no answer -/
def dSlot (i : Nat) (f : Fe) : Fe := fun env => match gOwn env i with
  | some _ => f env
  | none => .stuck
section
variable {X : Cx} {G : Er} {W : WX} {mp : List Nat} {e a : Expr} {pos np ap pos' : Pos} {fe fi : Fe} {n : Str}
/-- name[key], an own dict -/
def dGet (i : Nat) (f : Fe) : Fe := fun env => (f env).bnd fun kd e1 => match gOwn e1 i, keyD kd with
  | some (.dct kvs), some k => outO (valD kvs k) e1
  | _, _ => .stuck
theorem de_dget (i : Nat) (hu : X.A.units + 1 < cLine) (hn : PE X (.Name n np) (tVar i)) (he : DE X G W e fe) (hs : NoSl e) : DE X G W (.Subscript (.Name n np) e pos) (dSlot i (dGet i fe)) := ⟨fun x xt => peImp (pe_dget hu hn (he.run x xt) hs) fun σ H Q ⟨O, Z, env, S, q⟩ => by
  unfold dSlot at q
  split at q
  · rename_i s0 h0
    obtain ⟨b, hb, _⟩ := sv_own S h0
    refine ⟨.ref b, hb, O, Z, env, S, MI.PO.bnd q fun d e1 v H1 S1 m r k => ?_⟩
    split at k
    · rename_i kvs kk h5 h6
      obtain ⟨c, hc, c', us, ec, h7, h8⟩ := sv_own S1 h5
      cases ec
      rw [hb] at hc
      cases hc
      cases hv : valD kvs kk with
      | none => rw [hv] at k; exact k.elim
      | some z =>
        rw [hv] at k
        obtain ⟨w, hw, dw⟩ := kd_val h8 hv
        refine ⟨b, w, rfl, ?_, k w H1 S1 (Sm.refl _) dw⟩
        rw [key_of' r h6]
        have := DGet.k (k := kk) h7
        rw [hw] at this
        exact this
    · exact k.elim
  · exact q.elim⟩
/-- name[key] = e, an own dict -/
def sPut (i : Nat) (fk fv : Fe) : Fs := fun env => (fv env).bnS fun d e1 => match gOwn e1 i with
  | some _ => (fk e1).bnS fun kd e2 => match gOwn e2 i, keyD kd with
    | some (.dct kvs), some k => if kvs.length < 1000000 then .nx (e2.set i (some (.dct (putD kvs k d)))) else .stuck
    | _, _ => .stuck
  | none => .stuck
theorem ds_put (i : Nat) (hu : X.A.units + 1 < cLine) (hn : PE X (.Name n np) (tVar i)) (hk : DE X G W a fi) (hv : DE X G W e fe) (hs : swapsWith e (some (.Subscript (.Name n np) a pos')) pos.line X.env = pure false := by rfl) :
    DS X G W mp (.Assign [.Subscript (.Name n np) a pos'] e pos) (sPut i fi fe) := ⟨fun x xt _ => psImp (ps_dput hu hn (hk.run x xt) (hv.run x xt) hs) fun D σ H ⟨O, Z, env, S, q⟩ => ⟨O, Z, env, S, SO.bnd q fun d e1 v H1 S1 m r k => by
  split at k
  · rename_i s0 h0
    obtain ⟨b, hb, _⟩ := sv_own S1 h0
    refine ⟨.ref b, hb, O, Z, e1, S1, SO.bnd k fun kd e2 kv H2 S2 m2 r2 k2 => ?_⟩
    split at k2
    · rename_i kvs kk h5 h6
      split at k2
      · rename_i hl
        obtain ⟨c, hc, c', us, ec, h7, h8⟩ := sv_own S2 h5
        cases ec
        rw [hb] at hc
        cases hc
        obtain ⟨g1, g2⟩ := gOwn_some h5
        have em := upd_same_m (H := H2) (o := .dK (putK us kk v)) (S2.osub b (S2.ownO i _ b g1 g2 hb))
        refine ⟨b, _, rfl, by rw [key_of' r2 h6]; exact DPut.k h7 (by rw [kd_len h8]; exact line_of (by omega)), ?_⟩
        exact k2 O Z _ σ (srel_put (s' := .dct (putD kvs kk d)) S2 g1 g2 rfl hb nT_dK ⟨b, _, rfl, upd_same, KD.mono em (kd_put h8 (dqM m2 r))⟩) em
      · exact k2.elim
    · exact k2.elim
  · exact k.elim⟩⟩
end
/-! ### looking at own things -/
/-- own lists seen as values -/
def seeE (env : En) : En := env.map fun o => match o with
  | some (.lst ds) => some (.val (.list ds))
  | some (.dct _) => none
  | o => o
def scalD : D → Bool
  | .none => true
  | .bool _ => true
  | .int _ => true
  | .str _ => true
  | _ => false
theorem scal_dq {K : PySem.W.Frag} {H H' : Hp} {v : V} {d : D} (h : Dq K H v d) (s : scalD d = true) : Dq K H' v d := by
  cases h with
  | non => exact .non
  | bl b => exact .bl b
  | int i => exact .int i
  | str z => exact .str z
  | lst _ _ => cases s
  | tup _ _ => cases s
theorem mns_nil {H : Hp} : mns H [] = H := funext fun a => if_neg (by simp)
theorem seeE_get {env : En} {i : Nat} {s : SV} (h : (seeE env)[i]? = some (some s)) : (s.own = false) ∧ (env[i]? = some (some s) ∨ ∃ ds, env[i]? = some (some (.lst ds)) ∧ s = .val (.list ds)) := by
  unfold seeE at h
  rw [List.getElem?_map] at h
  cases he : env[i]? with
  | none => rw [he] at h; cases h
  | some o =>
    rw [he] at h
    cases o with
    | none => cases h
    | some t =>
      cases t with
      | val d => cases h; exact ⟨rfl, .inl rfl⟩
      | lst ds => cases h; exact ⟨rfl, .inr ⟨ds, rfl, rfl⟩⟩
      | dct kvs => cases h
      | scr ns => cases h; exact ⟨rfl, .inl rfl⟩
/-- all that stands (where code tables grow: but them) is to stay -/
noncomputable def seeX (x : Fx) (H : Hp) : Fx := ⟨[], fun a => open Classical in if x.T ≠ [] ∧ ∃ ps, H a = some (.tbl ps) then none else H a, [], x.T⟩
theorem seeX_some {x : Fx} {H : Hp} {a : Addr} {o : HO} (h : (seeX x H).H0 a = some o) : H a = some o ∧ (x.T ≠ [] → nT o) := by
  have h' : (open Classical in if x.T ≠ [] ∧ ∃ ps, H a = some (.tbl ps) then none else H a) = some o := h
  split at h'
  · cases h'
  · rename_i n
    exact ⟨h', fun ht ps e => n ⟨ht, ps, by rw [h', e]⟩⟩
theorem seeX_of {x : Fx} {H : Hp} {a : Addr} {o : HO} (h : H a = some o) (n : x.T = [] ∨ nT o) : (seeX x H).H0 a = some o := by
  show (open Classical in if x.T ≠ [] ∧ ∃ ps, H a = some (.tbl ps) then none else H a) = some o
  rw [if_neg]
  · exact h
  · rintro ⟨h1, ps, h2⟩
    rcases n with n | n
    · exact h1 n
    · rw [h] at h2; cases h2; exact n ps rfl
theorem srel_see {K : PySem.W.Frag} {x : Fx} {O Z : Zs} {H : Hp} {σ : L2.St} {env : En} (S : SRel K x O Z H σ env) : SRel K (seeX x H) [] [] H σ (seeE env) where
  len := by unfold seeE; rw [List.length_map]; exact S.len
  slot := fun i s h => by
    obtain ⟨_, h1 | ⟨ds, h1, rfl⟩⟩ := seeE_get h
    · obtain ⟨v, h2, h3⟩ := S.slot i s h1
      exact ⟨v, h2, h3.less fun a ha => by cases ha⟩
    · obtain ⟨v, h2, a, vs, rfl, h3, h4⟩ := S.slot i _ h1
      exact ⟨_, h2, .lst (by rw [mns_nil]; exact h3) (dqsM (mns_sub fun a ha => by cases ha) h4)⟩
  ownO := fun i s a h o => by rw [(seeE_get h).1] at o; cases o
  inj := fun i j si sj a n h1 h2 o1 => by rw [(seeE_get h1).1] at o1; cases o1
  osub := fun a ha => by cases ha
  zsub := fun a ha => by cases ha
  trk := fun a ha => by cases ha
  keep := fun a o h _ => (seeX_some h).1
  oM := fun a ha => by cases ha
  par := fun p hp => by cases hp
  tb := S.tb
  tf := fun ht a o h => (seeX_some h).2 ht
theorem see_back {K : PySem.W.Frag} {x : Fx} {O Z : Zs} {H H' : Hp} {σ : L2.St} {env e1 : En} (S : SRel K x O Z H σ env) (S1 : SRel K (seeX x H) [] [] H' σ e1) : SRel K x O Z H' σ env ∧ Sm (mns H Z) (mns H' Z) := by
  have k : ∀ a o, H a = some o → (x.T = [] ∨ nT o) → H' a = some o := fun a o h n => S1.keep a o (seeX_of h n) (fun z => by cases z)
  have kn : ∀ a o, nT o → H a = some o → H' a = some o := fun a o n h => k a o h (.inr n)
  have m : Sm (mns H Z) (mns H' Z) := fun a o n h => by
    obtain ⟨h1, h2⟩ := mns_some.mp h
    exact mns_some.mpr ⟨h1, kn a o n h2⟩
  refine ⟨⟨S.len, fun i s h => ?_, S.ownO, S.inj, S.osub, S.zsub, fun a h => ?_, fun a o h n => ?_, S.oM, S.par, S1.tb, S.tf⟩, m⟩
  · obtain ⟨v, h1, h2⟩ := S.slot i s h
    refine ⟨v, h1, h2.mono m fun o a ev => ?_⟩
    obtain ⟨u, q, n⟩ := S.trk a (S.osub a (S.ownO i s a h o (by rw [h1, ev])))
    rw [q]; exact kn a u n q
  · obtain ⟨u, q, n⟩ := S.trk a h
    exact ⟨u, kn a u n q, n⟩
  · refine k a o (S.keep a o h n) ?_
    by_cases ht : x.T = []
    · exact .inl ht
    · exact .inr (S.tf ht a o h)
section
variable {X : Cx} {G : Er} {W : WX} {e : Expr} {fe : Fe}
def dSee (f : Fe) : Fe := fun env => match f (seeE env) with
  | .ok d _ => if scalD d = true then .ok d env else .stuck
  | _ => .stuck
theorem de_see (h : DE X G W e fe) : DE X G W e (dSee fe) := ⟨fun x xt => peImp h.any fun σ H Q ⟨O, Z, env, S, q⟩ => ⟨seeX x H, xt, [], [], seeE env, srel_see S, by
  unfold dSee at q
  cases hf : fe (seeE env) with
  | ok d e1 =>
    rw [hf] at q
    simp only at q
    by_cases hs : scalD d = true
    · rw [if_pos hs] at q
      exact fun v H' S' _ r => q v H' (see_back S S').1 (see_back S S').2 (scal_dq r hs)
    · rw [if_neg hs] at q; exact q.elim
  | err c p e1 => rw [hf] at q; exact q.elim
  | stuck => rw [hf] at q; exact q.elim⟩⟩
def bSee (f : En → Out Bool) : En → Out Bool := fun env => match f (seeE env) with
  | .ok d _ => .ok d env
  | _ => .stuck
theorem dt_see {f : En → Out Bool} (h : DT X G W e f) : DT X G W e (bSee f) := ⟨fun x xt => ⟨fun pins s σ H Q I ⟨O, Z, env, S, q⟩ => (h.run (seeX x H) xt).run pins s σ H Q I ⟨[], [], seeE env, srel_see S, by
  unfold bSee at q
  cases hf : f (seeE env) with
  | ok d e1 =>
    rw [hf] at q
    exact fun v H' S' _ r => q v H' (see_back S S').1 (see_back S S').2 r
  | err c p e1 => rw [hf] at q; exact q.elim
  | stuck => rw [hf] at q; exact q.elim⟩⟩⟩
end
/-! ### an own list becomes a value -/
def frz (i : Nat) (env : En) : En := match env[i]? with
  | some (some (.lst ds)) => env.set i (some (.val (.list ds)))
  | _ => env
theorem srel_frz {K : PySem.W.Frag} {x : Fx} {O Z : Zs} {H : Hp} {σ : L2.St} {env : En} {i : Nat} (S : SRel K x O Z H σ env) (hi : i ∉ x.Pm.map (·.1)) : ∃ O' Z', SRel K x O' Z' H σ (frz i env) ∧ ∀ a ∈ Z', a ∈ Z := by
  unfold frz
  split
  · rename_i ds he
    obtain ⟨v, hv, a, vs, rfl, h3, h4⟩ := S.slot i _ he
    have aO := S.ownO i _ a he rfl hv
    have aM := own_notM S he rfl hv hi
    have aC : a ∉ x.Zc := ((S.oM a aO).resolve_left aM).2
    have il : i < env.length := (List.getElem?_eq_some_iff.mp he).1
    have sub : ∀ b ∈ Z.filter (fun b => decide (b ≠ a)), b ∈ Z := fun b hb => (List.mem_filter.mp hb).1
    refine ⟨O.filter (fun b => decide (b ≠ a)), Z.filter (fun b => decide (b ≠ a)), ⟨by rw [List.length_set]; exact S.len, fun j t q => ?_, fun j t b q w r => ?_, fun j k sj sk b n q1 q2 o1 o2 r1 r2 => ?_, fun b hb => ?_, fun b hb => ?_, fun b hb => S.trk b (sub b hb), S.keep, fun b hb => S.oM b (List.mem_filter.mp hb).1, fun p hp => ?_, S.tb, S.tf⟩, sub⟩
    · by_cases c : i = j
      · subst c
        rw [List.getElem?_set_self il] at q
        cases q
        exact ⟨_, hv, .lst (mns_some.mpr ⟨fun z => by simp at z, h3⟩) (dqsM (mns_sub sub) h4)⟩
      · rw [List.getElem?_set_ne c] at q
        obtain ⟨v, h1, h2⟩ := S.slot j t q
        exact ⟨v, h1, h2.less sub⟩
    · by_cases c : i = j
      · subst c
        rw [List.getElem?_set_self il] at q
        cases q
        cases w
      · rw [List.getElem?_set_ne c] at q
        refine List.mem_filter.mpr ⟨S.ownO j t b q w r, decide_eq_true fun z => ?_⟩
        exact S.inj i j _ t a c he q rfl w hv (by rw [r, z])
    · have back : ∀ {m : Nat} {t : SV}, (env.set i (some (.val (.list ds))))[m]? = some (some t) → t.own = true → env[m]? = some (some t) := fun {m t} q w => by
        by_cases c : i = m
        · subst c
          rw [List.getElem?_set_self il] at q
          cases q
          cases w
        · rw [List.getElem?_set_ne c] at q; exact q
      exact S.inj j k sj sk b n (back q1 o1) (back q2 o2) o1 o2 r1 r2
    · exact List.mem_filter.mpr ⟨S.osub b (List.mem_filter.mp hb).1, (List.mem_filter.mp hb).2⟩
    · exact List.mem_filter.mpr ⟨S.zsub b hb, decide_eq_true fun z => aC (by rw [← z]; exact hb)⟩
    · obtain ⟨h1, t, h2, h3⟩ := S.par p hp
      have e : i ≠ p.1 := fun z => hi (List.mem_map.mpr ⟨p, hp, z.symm⟩)
      exact ⟨h1, t, by rw [List.getElem?_set_ne e]; exact h2, h3⟩
  · exact ⟨O, Z, S, fun _ h => h⟩
theorem dss_frz {X : Cx} {G : Er} {W : WX} {mp : List Nat} {sts : List Stmt} {f : Fs} (i : Nat) (h : DSs X G W mp sts f) (hi : i ∉ mp) : DSs X G W mp sts (fun env => f (frz i env)) := ⟨fun x xt hx => pssImp (h.run x xt hx) fun D σ H ⟨O, Z, env, S, q⟩ => by
  obtain ⟨O', Z', S', hz⟩ := srel_frz S (i := i) (by rw [hx]; exact hi)
  exact ⟨O', Z', frz i env, S', SO.same (mns_sub hz) q⟩⟩
end MI
set_option Elab.async false
set_option linter.all false
set_option maxRecDepth 100000
set_option maxHeartbeats 4000000
/-! Mini10: defs and calls -/
namespace MI
open PySem PySem.Spec PyProof.Rows L2
/-- what comes of a call: the value, what is in the changed parameters -/
inductive FO where
  | rt (r : SV) (ms : List SV) | err (c : Str) (p : D) (ms : List SV) | stuck
abbrev Fn := List SV → FO
def fnOf (fs : Fs) (nL : Nat) (mp : List Nat) : Fn := fun svs => match fs (svs.map some ++ List.replicate (nL - svs.length) none) with
  | .rt r e => match mp.mapM (gOwn e) with
    | some ms => .rt r ms
    | none => .stuck
  | .nx e => match mp.mapM (gOwn e) with
    | some ms => .rt (.val .none) ms
    | none => .stuck
  | .err c p e => match mp.mapM (gOwn e) with
    | some ms => .err c p ms
    | none => .stuck
  | _ => .stuck
structure ArgOk (K : PySem.W.Frag) (H : Hp) (Zc : Zs) (svs : List SV) (vs : List V) (Pm : List (Nat × Addr)) : Prop where
  len : svs.length = vs.length
  arg : ∀ (i : Nat) s, svs[i]? = some s → ∃ v, vs[i]? = some v ∧ SvR K H Zc s v
  own : ∀ (i : Nat) s, svs[i]? = some s → s.own = true → i ∈ Pm.map (·.1)
  pm : ∀ p ∈ Pm, vs[p.1]? = some (.ref p.2) ∧ p.2 ∈ Zc ∧ ∃ s, svs[p.1]? = some s ∧ s.own = true
  inj : ∀ p ∈ Pm, ∀ q ∈ Pm, p.2 = q.2 → p.1 = q.1
  trk : ∀ a ∈ Zc, ∃ o, H a = some o ∧ nT o
structure CEnd (K : PySem.W.Frag) (H : Hp) (Zx : Zs) (Pm : List (Nat × Addr)) (ms : List SV) (H' : Hp) : Prop where
  keep : ∀ a o, H a = some o → a ∉ Pm.map (·.2) → H' a = some o
  len : ms.length = Pm.length
  own : ∀ (k : Nat) p s, Pm[k]? = some p → ms[k]? = some s → s.own = true ∧ SvR K H' Zx s (.ref p.2)
def RtX (K : PySem.W.Frag) (H : Hp) (Zc : Zs) (Pm : List (Nat × Addr)) (ms : List SV) (H' : Hp) : SV → V → Prop
  | .val d, v => CEnd K H Zc Pm ms H' ∧ Dq K (mns H' Zc) v d
  | .scr _, _ => False
  | .lst ds, v => ∃ p, v = .ref p ∧ H p = none ∧ p ∉ Zc ∧ CEnd K H (p :: Zc) Pm ms H' ∧ SvR K H' (p :: Zc) (.lst ds) v
  | .dct kvs, v => ∃ p, v = .ref p ∧ H p = none ∧ p ∉ Zc ∧ CEnd K H (p :: Zc) Pm ms H' ∧ SvR K H' (p :: Zc) (.dct kvs) v
/-- a def's promise -/
def spF (K : PySem.W.Frag) (G : Er) (F : Fn) (n : Nat) (mp : List Nat) : Sp := fun vs H Q E => ∃ (Zc : Zs) (svs : List SV) (Pm : List (Nat × Addr)), vs.length = n ∧ Pm.map (·.1) = mp ∧ ArgOk K H Zc svs vs Pm ∧ match F svs with
  | .rt r ms => ∀ v H', RtX K H Zc Pm ms H' r v → Q v H'
  | .err c p ms => ∀ dx v H', CEnd K H Zc Pm ms H' → dx ∉ Zc → H' dx = some (.xd [(G.fld c, v)]) → Dq K (mns H' Zc) v p → E (.ref (G.ca c)) (some dx) H'
  | .stuck => False
theorem mapM_get {α β : Type} {f : α → Option β} : ∀ {l : List α} {r : List β}, l.mapM f = some r → r.length = l.length ∧ ∀ (k : Nat) a b, l[k]? = some a → r[k]? = some b → f a = some b
  | [], r, h => by
    have e : r = [] := by simpa using h.symm
    subst e
    exact ⟨rfl, fun k a b h1 _ => by simp at h1⟩
  | x :: l, r, h => by
    rw [List.mapM_cons] at h
    cases hx : f x with
    | none => rw [hx] at h; cases h
    | some y =>
      rw [hx] at h
      cases hl : l.mapM f with
      | none => rw [hl] at h; cases h
      | some ys =>
        rw [hl] at h
        cases h
        obtain ⟨h1, h2⟩ := mapM_get hl
        refine ⟨by rw [List.length_cons, List.length_cons, h1], fun k a b q1 q2 => ?_⟩
        cases k with
        | zero => simp at q1 q2; subst q1 q2; exact hx
        | succ k => exact h2 k a b (by simpa using q1) (by simpa using q2)
section
variable {K : PySem.W.Frag} {x : Fx} {O Z Z' : Zs} {H H' : Hp} {σ : L2.St} {env : En} {svs : List SV} {vs : List V} {Pm : List (Nat × Addr)} {Zc : Zs} {N : List Str}
/-- a def's start -/
theorem srel_start (A : ArgOk K H Zc svs vs Pm) : SRel K ⟨Zc, H, Pm, []⟩ (Pm.map (·.2)) Zc H (L2.start N vs) (svs.map some ++ List.replicate (N.length - svs.length) none) := by
  have get : ∀ {i : Nat} {s : SV}, (svs.map some ++ List.replicate (N.length - svs.length) none)[i]? = some (some s) → svs[i]? = some s := fun {i s} h => by
    by_cases c : i < svs.length
    · rw [List.getElem?_append_left (by simpa using c), List.getElem?_map] at h
      cases q : svs[i]? with
      | none => rw [q] at h; cases h
      | some t => rw [q] at h; cases h; rfl
    · rw [List.getElem?_append_right (by simpa using c), List.getElem?_replicate] at h
      split at h <;> cases h
  have gets : ∀ {i : Nat} {v : V}, vs[i]? = some v → (L2.start N vs)[i]? = some (some v) := fun {i v} h => by
    have c := (List.getElem?_eq_some_iff.mp h).1
    unfold L2.start
    rw [List.getElem?_append_left (by simpa using c), List.getElem?_map, h]; rfl
  have getv : ∀ {i : Nat} {s : SV} {a : Addr}, svs[i]? = some s → (L2.start N vs)[i]? = some (some (.ref a)) → vs[i]? = some (.ref a) := fun {i s a} h q => by
    obtain ⟨v, hv, _⟩ := A.arg i s h
    rw [gets hv] at q
    cases q
    exact hv
  refine ⟨?_, fun i s h => ?_, fun i s a h o q => ?_, fun i j si sj a n h1 h2 o1 o2 q1 q2 => ?_, fun a ha => ?_, fun a ha => ha, A.trk, fun a o h _ => h, fun a ha => .inl ha, fun p hp => ?_, fun q hq => (nomatch hq), fun ht => absurd rfl ht⟩
  · unfold L2.start
    rw [List.length_append, List.length_append, List.length_map, List.length_map, List.length_replicate, List.length_replicate, A.len]
  · obtain ⟨v, hv, r⟩ := A.arg i s (get h)
    exact ⟨v, gets hv, r⟩
  · obtain ⟨p, hp, e⟩ := List.mem_map.mp (A.own i s (get h) o)
    have h1 := (A.pm p hp).1
    rw [e, getv (get h) q] at h1
    cases h1
    exact List.mem_map.mpr ⟨p, hp, rfl⟩
  · obtain ⟨p, hp, e1⟩ := List.mem_map.mp (A.own i si (get h1) o1)
    obtain ⟨p', hp', e2⟩ := List.mem_map.mp (A.own j sj (get h2) o2)
    have g1 := (A.pm p hp).1
    have g2 := (A.pm p' hp').1
    rw [e1, getv (get h1) q1] at g1
    rw [e2, getv (get h2) q2] at g2
    cases g1
    have e3 : p.2 = p'.2 := by injection g2 with g2; injection g2
    exact n (by rw [← e1, ← e2]; exact A.inj p hp p' hp' e3)
  · obtain ⟨p, hp, rfl⟩ := List.mem_map.mp ha
    exact (A.pm p hp).2.1
  · obtain ⟨h1, _, s, h2, h3⟩ := A.pm p hp
    refine ⟨gets h1, s, ?_, h3⟩
    have c := (List.getElem?_eq_some_iff.mp h2).1
    rw [List.getElem?_append_left (by simpa using c), List.getElem?_map, h2]; rfl
/-- a def's end -/
theorem cend_of (S : SRel K ⟨Zc, H, Pm, []⟩ O Z H' σ env) {mp : List Nat} {ms : List SV} (hm : mp.mapM (gOwn env) = some ms) (hp : Pm.map (·.1) = mp) {Zx : Zs} (hz : ∀ a ∈ Zx, a ∈ Z) : CEnd K H Zx Pm ms H' := by
  obtain ⟨h1, h2⟩ := mapM_get hm
  refine ⟨fun a o h n => S.keep a o h n, ?_, fun k p s hk hs => ?_⟩
  · rw [h1, ← hp, List.length_map]
  · have hmp : mp[k]? = some p.1 := by rw [← hp, List.getElem?_map, hk]; rfl
    have g := h2 k p.1 s hmp hs
    obtain ⟨g1, g2⟩ := gOwn_some g
    obtain ⟨q1, _⟩ := S.par p (List.mem_of_getElem? hk)
    obtain ⟨v, q3, q4⟩ := S.slot p.1 s g1
    rw [q1] at q3
    cases q3
    exact ⟨g2, q4.less hz⟩
end
/-- a def's body, from the promise -/
theorem fn_body {X : Cx} {G : Er} {fs : Fs} {mp : List Nat} {body : List Stmt} {N : List Str} {n : Nat} {vs : List V} {H : Hp} {Q : VK} {E : XK} (hb : DSs X G (fun cls d _ H => E cls d H) mp body fs) (hT : G.T = []) (h : spF X.K G (fnOf fs N.length mp) n mp vs H Q E) :
    ∃ t, PSs X body t ∧ t { nx := fun _ H' => Q .non H', rt := Q } (L2.start N vs) H := by
  obtain ⟨Zc, svs, Pm, h1, h2, h3, h4⟩ := h
  refine ⟨_, hb.run ⟨Zc, H, Pm, []⟩ hT.symm h2, _, _, _, srel_start h3, ?_⟩
  unfold fnOf at h4
  cases hf : fs (svs.map some ++ List.replicate (N.length - svs.length) none) with
  | stuck => rw [hf] at h4; exact h4.elim
  | bk e => rw [hf] at h4; exact h4.elim
  | ct e => rw [hf] at h4; exact h4.elim
  | nx e =>
    rw [hf] at h4
    cases hm : mp.mapM (gOwn e) with
    | none => simp only [hm] at h4
    | some ms =>
      simp only [hm] at h4
      exact fun O' Z' H' σ' S' m => h4 .non H' ⟨cend_of S' hm h2 S'.zsub, .non⟩
  | rt r e =>
    rw [hf] at h4
    cases hm : mp.mapM (gOwn e) with
    | none => simp only [hm] at h4
    | some ms =>
      simp only [hm] at h4
      refine fun O' Z' H' σ' v S' m hr => h4 v H' ?_
      cases r with
      | val d => exact ⟨cend_of S' hm h2 S'.zsub, hr⟩
      | scr d => exact hr
      | lst ds =>
        obtain ⟨p, e1, e2, e3, e4, e5⟩ := hr
        exact ⟨p, e1, e2, e3, cend_of S' hm h2 (fun a ha => by
          rcases List.mem_cons.mp ha with z | z
          · rw [z]; exact e4
          · exact S'.zsub a z), e5⟩
      | dct ds =>
        obtain ⟨p, e1, e2, e3, e4, e5⟩ := hr
        exact ⟨p, e1, e2, e3, cend_of S' hm h2 (fun a ha => by
          rcases List.mem_cons.mp ha with z | z
          · rw [z]; exact e4
          · exact S'.zsub a z), e5⟩
  | err c p e =>
    rw [hf] at h4
    cases hm : mp.mapM (gOwn e) with
    | none => simp only [hm] at h4
    | some ms =>
      simp only [hm] at h4
      exact fun O' Z' H' σ' dx v S' m n q d => h4 dx v H' (cend_of S' hm h2 S'.zsub) (fun z => n (S'.zsub dx z)) q (dqM (mns_sub S'.zsub) d)
theorem fn_ok {P : Program} {w : World} {K : PySem.W.Frag} {mg : Str → Option Value} {base : Heap} {CX : CXT} {x qual : Str} {params : Arguments} {body : List Stmt} {scope : Scope} {dvs : List V} {kws : List (Str × V)} {f : Addr} {fd : FuncData} {N ps : List Str} {k : Nat} {G : Er} {fs : Fs} {mp : List Nat}
    (F : FunD K x qual params body scope dvs kws f fd) (S : FnScope N ps scope) (hT : G.T = [])
    (hbody : ∀ (cdv : Value) (A : Around) (outer : List Env) (s : Shared) (H : Hp) (E : XK), Room k (A.deeper (envOfC qual scope s.heap.objs.size f cdv)) → DSs (cxOf CX P w K mg base N qual scope f cdv A outer s H E) G (fun cls d _ H => E cls d H) mp body fs) :
    FnOk P w K mg base CX (k + 1) f fd ps (spF K G (fnOf fs N.length mp) ps.length mp) :=
  F.ok S (fun vs H Q E h => by obtain ⟨_, _, _, h1, _⟩ := h; exact h1) (fun cdv A outer s H vs Q E hr h => fn_body (X := cxOf CX P w K mg base N qual scope f cdv A outer s H E) (hbody cdv A outer s H E hr) hT h)
end MI
set_option Elab.async false
set_option linter.all false
set_option maxRecDepth 100000
set_option maxHeartbeats 4000000
/-! Mini11: calls -/
namespace MI
open PySem PySem.Spec PyProof.Rows L2
/-- an argument: a value, or what a slot holds -/
abbrev AR := D ⊕ Nat
inductive ArgsR (K : PySem.W.Frag) (σ : L2.St) (H : Hp) : List V → List AR → Prop
  | nil : ArgsR K σ H [] []
  | val {v : V} {vs : List V} {d : D} {as : List AR} : Dq K H v d → ArgsR K σ H vs as → ArgsR K σ H (v :: vs) (.inl d :: as)
  | slot {v : V} {vs : List V} {j : Nat} {as : List AR} : σ[j]? = some (some v) → ArgsR K σ H vs as → ArgsR K σ H (v :: vs) (.inr j :: as)
theorem ArgsR.mono {K : PySem.W.Frag} {σ : L2.St} {H H' : Hp} (e : Sm H H') {vs : List V} {as : List AR} (h : ArgsR K σ H vs as) : ArgsR K σ H' vs as := by
  induction h with
  | nil => exact .nil
  | val d _ ih => exact .val (dqM e d) ih
  | slot d _ ih => exact .slot d ih
theorem ArgsR.len {K : PySem.W.Frag} {σ : L2.St} {H : Hp} {vs : List V} {as : List AR} (h : ArgsR K σ H vs as) : vs.length = as.length := by
  induction h with
  | nil => rfl
  | val d _ ih => rw [List.length_cons, List.length_cons, ih]
  | slot d _ ih => rw [List.length_cons, List.length_cons, ih]
theorem ArgsR.get {K : PySem.W.Frag} {σ : L2.St} {H : Hp} {vs : List V} {as : List AR} (h : ArgsR K σ H vs as) : ∀ {i : Nat} {a : AR}, as[i]? = some a → ∃ v, vs[i]? = some v ∧ ArgsR K σ H [v] [a] := by
  induction h with
  | nil => intro i a e; simp at e
  | @val v vs d as hd _ ih =>
    intro i a e
    cases i with
    | zero => simp at e; subst e; exact ⟨v, rfl, .val hd .nil⟩
    | succ i => obtain ⟨u, h1, h2⟩ := ih (i := i) (a := a) (by simpa using e); exact ⟨u, by simpa using h1, h2⟩
  | @slot v vs j as hj _ ih =>
    intro i a e
    cases i with
    | zero => simp at e; subst e; exact ⟨v, rfl, .slot hj .nil⟩
    | succ i => obtain ⟨u, h1, h2⟩ := ih (i := i) (a := a) (by simpa using e); exact ⟨u, by simpa using h1, h2⟩
structure DM (X : Cx) (G : Er) (W : WX) (es : List Expr) (f : En → Out (List AR)) : Prop where
  run : ∀ x : Fx, x.T = G.T → PA X es fun σ H Q => ∃ O Z env, SRel X.K x O Z H σ env ∧ PO X.K G W x O Z σ (ArgsR X.K σ) H (f env) Q
structure DK (X : Cx) (G : Er) (W : WX) (es : List Keyword) (f : En → Out (List AR)) : Prop where
  run : ∀ x : Fx, x.T = G.T → PK X es fun σ H Q => ∃ O Z env, SRel X.K x O Z H σ env ∧ PO X.K G W x O Z σ (ArgsR X.K σ) H (f env) Q
def mNil : En → Out (List AR) := fun env => .ok [] env
def mVal (f : Fe) (g : En → Out (List AR)) : En → Out (List AR) := fun env => (f env).bnd fun d e1 => (g e1).bnd fun as e2 => .ok (.inl d :: as) e2
def mSlot (j : Nat) (g : En → Out (List AR)) : En → Out (List AR) := fun env => match env[j]? with
  | some (some _) => (g env).bnd fun as e2 => .ok (.inr j :: as) e2
  | _ => .stuck
section
variable {X : Cx} {G : Er} {W : WX} {e : Expr} {es : List Expr} {kws : List Keyword} {fe : Fe} {g : En → Out (List AR)} {n : Str} {np kp : Pos} {nm : Option Str}
theorem dm_nil : DM X G W [] mNil := ⟨fun x xt => paImp pa_nil fun σ H Q ⟨O, Z, env, S, h⟩ => h [] H S (Sm.refl _) .nil⟩
theorem dm_val (ha : DE X G W e fe) (hr : DM X G W es g) (hs : starEach (e :: es) X.env = (false, eval e X.env) :: starEach es X.env := by rfl) : DM X G W (e :: es) (mVal fe g) :=
  ⟨fun x xt => paImp (pa_cons (ha.run x xt) (hr.run x xt) hs) fun σ H Q ⟨O, Z, env, S, h⟩ => ⟨O, Z, env, S, PO.bnd h fun d e1 v H1 S1 _ dp1 h1 => ⟨O, Z, e1, S1, PO.bnd h1 fun ds e2 vs H2 S2 m2 dp2 h2 => h2 (v :: vs) H2 S2 (Sm.refl _) (.val (dqM m2 dp1) dp2)⟩⟩⟩
theorem dm_slot (j : Nat) (ha : PE X (.Name n np) (tVar j)) (hr : DM X G W es g) (hs : starEach (.Name n np :: es) X.env = (false, eval (.Name n np) X.env) :: starEach es X.env := by rfl) : DM X G W (.Name n np :: es) (mSlot j g) :=
  ⟨fun x xt => paImp (pa_cons ha (hr.run x xt) hs) fun σ H Q ⟨O, Z, env, S, h⟩ => by
    unfold mSlot at h
    split at h
    · rename_i s he
      obtain ⟨v, h1, h2⟩ := S.slot j s he
      exact ⟨v, h1, O, Z, env, S, PO.bnd h fun as e2 vs H2 S2 m2 dp2 k => k (v :: vs) H2 S2 (Sm.refl _) (.slot h1 dp2)⟩
    · exact h.elim⟩
theorem pkImp {t t' : TA} (h : PK X kws t) (i : ∀ σ H Q, t' σ H Q → t σ H Q) : PK X kws t' := ⟨fun p pins s σ H Q I q => h.run p pins s σ H Q I (i σ H Q q)⟩
theorem dk_nil : DK X G W [] mNil := ⟨fun x xt => pkImp pk_nil fun σ H Q ⟨O, Z, env, S, h⟩ => h [] H S (Sm.refl _) .nil⟩
theorem dk_val (ha : DE X G W e fe) (hr : DK X G W kws g) : DK X G W (⟨nm, e, kp⟩ :: kws) (mVal fe g) :=
  ⟨fun x xt => pkImp (pk_cons (ha.run x xt) (hr.run x xt)) fun σ H Q ⟨O, Z, env, S, h⟩ => ⟨O, Z, env, S, PO.bnd h fun d e1 v H1 S1 _ dp1 h1 => ⟨O, Z, e1, S1, PO.bnd h1 fun ds e2 vs H2 S2 m2 dp2 h2 => h2 (v :: vs) H2 S2 (Sm.refl _) (.val (dqM m2 dp1) dp2)⟩⟩⟩
theorem dk_slot (j : Nat) (ha : PE X (.Name n np) (tVar j)) (hr : DK X G W kws g) : DK X G W (⟨nm, .Name n np, kp⟩ :: kws) (mSlot j g) :=
  ⟨fun x xt => pkImp (pk_cons ha (hr.run x xt)) fun σ H Q ⟨O, Z, env, S, h⟩ => by
    unfold mSlot at h
    split at h
    · rename_i s he
      obtain ⟨v, h1, h2⟩ := S.slot j s he
      exact ⟨v, h1, O, Z, env, S, PO.bnd h fun as e2 vs H2 S2 m2 dp2 k => k (v :: vs) H2 S2 (Sm.refl _) (.slot h1 dp2)⟩
    · exact h.elim⟩
end
/-! ### what the callee gets -/
def argSV (env : En) : AR → Option SV
  | .inl d => some (.val d)
  | .inr j => match env[j]? with
    | some (some s) => some s
    | _ => none
theorem argSV_inr {env : En} {j : Nat} {s : SV} (h : argSV env (.inr j) = some s) : env[j]? = some (some s) := by
  simp only [argSV] at h
  split at h
  · cases h; assumption
  · cases h
def ownP (env : En) : Nat → List AR → List (Nat × Nat)
  | _, [] => []
  | i, .inl _ :: r => ownP env (i + 1) r
  | i, .inr j :: r => if (gOwn env j).isSome = true then (i, j) :: ownP env (i + 1) r else ownP env (i + 1) r
theorem ownP_mem {env : En} {i j : Nat} : ∀ {k : Nat} {as : List AR}, (i, j) ∈ ownP env k as ↔ ∃ m, i = k + m ∧ as[m]? = some (.inr j) ∧ (gOwn env j).isSome = true
  | k, [] => by
    constructor
    · intro h; exact absurd h (by unfold ownP; simp)
    · rintro ⟨m, _, h, _⟩; simp at h
  | k, .inl d :: r => by
    unfold ownP
    rw [ownP_mem]
    constructor
    · rintro ⟨m, h1, h2, h3⟩; exact ⟨m + 1, by omega, by simpa using h2, h3⟩
    · rintro ⟨m, h1, h2, h3⟩
      cases m with
      | zero => simp at h2
      | succ m => exact ⟨m, by omega, by simpa using h2, h3⟩
  | k, .inr j' :: r => by
    have ih := ownP_mem (env := env) (i := i) (j := j) (k := k + 1) (as := r)
    have step : (∃ m, i = k + m ∧ ((.inr j' :: r : List AR))[m]? = some (.inr j) ∧ (gOwn env j).isSome = true) ↔ ((i = k ∧ j' = j ∧ (gOwn env j).isSome = true) ∨ ∃ m, i = k + 1 + m ∧ r[m]? = some (.inr j) ∧ (gOwn env j).isSome = true) := by
      constructor
      · rintro ⟨m, h1, h2, h3⟩
        cases m with
        | zero => simp at h2; exact .inl ⟨by omega, h2, h3⟩
        | succ m => exact .inr ⟨m, by omega, by simpa using h2, h3⟩
      · rintro (⟨h1, h2, h3⟩ | ⟨m, h1, h2, h3⟩)
        · exact ⟨0, by omega, by simp [h2], h3⟩
        · exact ⟨m + 1, by omega, by simpa using h2, h3⟩
    rw [step, ← ih]
    have eq : ownP env k (.inr j' :: r) = if (gOwn env j').isSome = true then (k, j') :: ownP env (k + 1) r else ownP env (k + 1) r := by rw [ownP]
    rw [eq]
    split
    · rename_i ho
      constructor
      · intro h
        rcases List.mem_cons.mp h with z | z
        · cases z; exact .inl ⟨rfl, rfl, ho⟩
        · exact .inr z
      · rintro (⟨h1, h2, _⟩ | z)
        · subst h1 h2; exact List.mem_cons_self
        · exact List.mem_cons_of_mem _ z
    · rename_i ho
      constructor
      · intro h; exact .inr h
      · rintro (⟨h1, h2, h3⟩ | z)
        · subst h2; exact absurd h3 ho
        · exact z
def adr (σ : L2.St) (j : Nat) : Addr := match σ[j]? with
  | some (some (.ref a)) => a
  | _ => 0
theorem adr_of {σ : L2.St} {j : Nat} {a : Addr} (h : σ[j]? = some (some (.ref a))) : adr σ j = a := by unfold adr; rw [h]
def setJs : List Nat → List SV → En → En
  | j :: js, m :: ms, env => setJs js ms (env.set j (some m))
  | _, _, env => env
theorem setJs_len : ∀ (js : List Nat) (ms : List SV) (env : En), (setJs js ms env).length = env.length
  | [], _, _ => rfl
  | _ :: _, [], _ => rfl
  | j :: js, m :: ms, env => by show (setJs js ms (env.set j (some m))).length = _; rw [setJs_len, List.length_set]
theorem setJs_get : ∀ {js : List Nat} {ms : List SV} {env : En} {j : Nat} {s : SV}, ms.length = js.length → (setJs js ms env)[j]? = some (some s) → (∃ k : Nat, js[k]? = some j ∧ ms[k]? = some s) ∨ (j ∉ js ∧ env[j]? = some (some s))
  | [], [], env, j, s, _, h => .inr ⟨by simp, h⟩
  | [], _ :: _, _, _, _, l, _ => by simp at l
  | _ :: _, [], _, _, _, l, _ => by simp at l
  | i :: js, m :: ms, env, j, s, l, h => by
    have h' : (setJs js ms (env.set i (some m)))[j]? = some (some s) := h
    rcases setJs_get (by simpa using l) h' with ⟨k, h1, h2⟩ | ⟨h1, h2⟩
    · exact .inl ⟨k + 1, by simpa using h1, by simpa using h2⟩
    · by_cases c : i = j
      · subst c
        rw [List.getElem?_set_self'] at h2
        cases hx : env[i]? with
        | none => rw [hx] at h2; cases h2
        | some y => rw [hx] at h2; cases h2; exact .inl ⟨0, by simp, by simp⟩
      · rw [List.getElem?_set_ne c] at h2
        exact .inr ⟨fun z => by rcases List.mem_cons.mp z with z | z; exact c z.symm; exact h1 z, h2⟩
theorem setJs_own : ∀ {js : List Nat} {ms : List SV} {env : En} {j : Nat} {s : SV}, (∀ m ∈ ms, m.own = true) → env[j]? = some (some s) → s.own = true → ∃ s', (setJs js ms env)[j]? = some (some s') ∧ s'.own = true
  | [], _, env, j, s, _, h, o => ⟨s, h, o⟩
  | _ :: _, [], env, j, s, _, h, o => ⟨s, h, o⟩
  | i :: js, m :: ms, env, j, s, hm, h, o => by
    by_cases c : i = j
    · subst c
      exact setJs_own (js := js) (ms := ms) (env := env.set i (some m)) (s := m) (fun m' h' => hm m' (List.mem_cons_of_mem _ h')) (List.getElem?_set_self (List.getElem?_eq_some_iff.mp h).1) (hm m List.mem_cons_self)
    · exact setJs_own (js := js) (ms := ms) (env := env.set i (some m)) (s := s) (fun m' h' => hm m' (List.mem_cons_of_mem _ h')) (by rw [List.getElem?_set_ne c]; exact h) o
section
variable {K : PySem.W.Frag} {x : Fx} {O Z Zx : Zs} {H H' : Hp} {σ : L2.St} {env : En} {vs : List V} {as : List AR} {svs ms : List SV}
abbrev pmOf (σ : L2.St) (env : En) (as : List AR) : List (Nat × Addr) := (ownP env 0 as).map fun q => (q.1, adr σ q.2)
theorem argOk_of (S : SRel K x O Z H σ env) (hv : ArgsR K σ (mns H Z) vs as) (hs : as.mapM (argSV env) = some svs) (hnd : ((ownP env 0 as).map (·.2)).Nodup) : ArgOk K H Z svs vs (pmOf σ env as) := by
  obtain ⟨hl, hg⟩ := mapM_get hs
  have at_ : ∀ {i : Nat} {s : SV}, svs[i]? = some s → ∃ a, as[i]? = some a ∧ argSV env a = some s := fun {i s} h => by
    have c : i < as.length := by rw [← hl]; exact (List.getElem?_eq_some_iff.mp h).1
    exact ⟨as[i], List.getElem?_eq_getElem c, hg i _ s (List.getElem?_eq_getElem c) h⟩
  have ownAt : ∀ {j : Nat}, (gOwn env j).isSome = true → ∃ s a, env[j]? = some (some s) ∧ s.own = true ∧ σ[j]? = some (some (.ref a)) ∧ a ∈ O := fun {j} h => by
    obtain ⟨s, hs⟩ := Option.isSome_iff_exists.mp h
    obtain ⟨g1, g2⟩ := gOwn_some hs
    obtain ⟨v, h1, h2⟩ := S.slot j s g1
    obtain ⟨a, rfl⟩ := h2.ref g2
    exact ⟨s, a, g1, g2, h1, S.ownO j s a g1 g2 h1⟩
  refine ⟨hl.trans hv.len.symm, fun i s h => ?_, fun i s h o => ?_, fun p hp => ?_, fun p hp q hq e => ?_, S.trk⟩
  · obtain ⟨a, h1, h2⟩ := at_ h
    obtain ⟨v, h3, h4⟩ := hv.get h1
    refine ⟨v, h3, ?_⟩
    cases h4 with
    | val hd _ => cases h2; exact hd
    | slot hj _ =>
      obtain ⟨u, h5, h6⟩ := S.slot _ s (argSV_inr h2)
      rw [hj] at h5
      cases h5
      exact h6
  · obtain ⟨a, h1, h2⟩ := at_ h
    cases a with
    | inl d => cases h2; cases o
    | inr j =>
      have hx := argSV_inr h2
      have hj : (gOwn env j).isSome = true := by unfold gOwn; rw [hx]; simp [o]
      have : (i, j) ∈ ownP env 0 as := ownP_mem.mpr ⟨i, by omega, h1, hj⟩
      exact List.mem_map.mpr ⟨(i, adr σ j), List.mem_map.mpr ⟨(i, j), this, rfl⟩, rfl⟩
  · obtain ⟨⟨i, j⟩, hm, rfl⟩ := List.mem_map.mp hp
    obtain ⟨m, h1, h2, h3⟩ := ownP_mem.mp hm
    have e : i = m := by omega
    subst e
    obtain ⟨s, a, g1, g2, g3, g4⟩ := ownAt h3
    obtain ⟨v, h4, h5⟩ := hv.get h2
    cases h5 with
    | slot hj _ =>
      rw [g3] at hj
      cases hj
      have ea := adr_of g3
      refine ⟨by show vs[i]? = some (.ref (adr σ j)); rw [ea]; exact h4, by show adr σ j ∈ Z; rw [ea]; exact S.osub a g4, s, ?_, g2⟩
      have c : i < svs.length := by rw [hl]; exact (List.getElem?_eq_some_iff.mp h2).1
      have := argSV_inr (hg i _ svs[i] h2 (List.getElem?_eq_getElem c))
      rw [g1] at this
      show svs[i]? = some s
      rw [List.getElem?_eq_getElem c]
      injection this with this
      rw [Option.some.inj this]
  · obtain ⟨⟨i, j⟩, hm, rfl⟩ := List.mem_map.mp hp
    obtain ⟨⟨i', j'⟩, hm', rfl⟩ := List.mem_map.mp hq
    obtain ⟨m, h1, h2, h3⟩ := ownP_mem.mp hm
    obtain ⟨m', h1', h2', h3'⟩ := ownP_mem.mp hm'
    obtain ⟨s, a, g1, g2, g3, g4⟩ := ownAt h3
    obtain ⟨s', a', g1', g2', g3', g4'⟩ := ownAt h3'
    have e' : adr σ j = adr σ j' := e
    rw [adr_of g3, adr_of g3'] at e'
    subst e'
    have ej : j = j' := by
      by_cases c : j = j'
      · exact c
      · exact (S.inj j j' s s' a c g1 g1' g2 g2' g3 g3').elim
    subst ej
    -- the same slot twice: not so
    have key : ∀ {l : List (Nat × Nat)}, (l.map (·.2)).Nodup → (i, j) ∈ l → (i', j) ∈ l → i = i' := by
      intro l
      induction l with
      | nil => intro _ h; cases h
      | cons q l ih =>
        intro nd h h'
        rw [List.map_cons, List.nodup_cons] at nd
        rcases List.mem_cons.mp h with z | z
        · rcases List.mem_cons.mp h' with z' | z'
          · rw [← z] at z'; cases z'; rfl
          · exact absurd (List.mem_map.mpr ⟨_, z', by rw [← z]⟩) nd.1
        · rcases List.mem_cons.mp h' with z' | z'
          · exact absurd (List.mem_map.mpr ⟨_, z, by rw [← z']⟩) nd.1
          · exact ih nd.2 z z'
    exact key hnd hm hm'
theorem sv_nT {s : SV} {p : Addr} (hs : s.own = true) (h : SvR K H' Z s (.ref p)) : ∃ o, H' p = some o ∧ nT o := by
  cases s with
  | val d => cases hs
  | scr d => cases hs
  | lst ds => obtain ⟨b, us, eb, h5, _⟩ := h; cases eb; exact ⟨_, h5, nT_lst⟩
  | dct ds => obtain ⟨b, us, eb, h5, _⟩ := h; cases eb; exact ⟨_, h5, nT_dK⟩
/-- behind a call -/
theorem srel_after (S : SRel K x O Z H σ env) (C : CEnd K H Zx (pmOf σ env as) ms H') (hx : ∀ a ∈ Z, a ∈ Zx) (hf : ∀ a ∈ Zx, a ∈ Z ∨ (H a = none ∧ ∃ o, H' a = some o ∧ nT o)) :
    SRel K x O Zx H' σ (setJs ((ownP env 0 as).map (·.2)) ms env) ∧ Sm (mns H Z) (mns H' Zx) := by
  have ownAt : ∀ {i j : Nat}, (i, j) ∈ ownP env 0 as → ∃ s a, env[j]? = some (some s) ∧ s.own = true ∧ σ[j]? = some (some (.ref a)) ∧ a ∈ O ∧ adr σ j = a := fun {i j} hm => by
    obtain ⟨m, h1, h2, h3⟩ := ownP_mem.mp hm
    obtain ⟨s, hs⟩ := Option.isSome_iff_exists.mp h3
    obtain ⟨g1, g2⟩ := gOwn_some hs
    obtain ⟨v, h1, h2⟩ := S.slot j s g1
    obtain ⟨a, rfl⟩ := h2.ref g2
    exact ⟨s, a, g1, g2, h1, S.ownO j s a g1 g2 h1, adr_of h1⟩
  have msO : ∀ a, a ∈ (pmOf σ env as).map (·.2) → a ∈ O := fun a ha => by
    obtain ⟨p, hp, rfl⟩ := List.mem_map.mp ha
    obtain ⟨⟨i, j⟩, hm, rfl⟩ := List.mem_map.mp hp
    obtain ⟨s, a, g1, g2, g3, g4, g5⟩ := ownAt hm
    show adr σ j ∈ O
    rw [g5]; exact g4
  have sm : Sm (mns H Z) (mns H' Zx) := fun a o _ h => by
    obtain ⟨h1, h2⟩ := mns_some.mp h
    refine mns_some.mpr ⟨fun z => ?_, C.keep a o h2 fun z => h1 (S.osub a (msO a z))⟩
    rcases hf a z with y | ⟨y, _⟩
    · exact h1 y
    · rw [y] at h2; cases h2
  have len : ms.length = ((ownP env 0 as).map (·.2)).length := by rw [C.len, List.length_map, List.length_map]
  have own_all : ∀ m ∈ ms, m.own = true := fun m hm => by
    obtain ⟨k, hk, e⟩ := List.mem_iff_getElem.mp hm
    have c : k < (pmOf σ env as).length := by rw [← C.len]; exact hk
    exact (C.own k _ m (List.getElem?_eq_getElem c) (by rw [List.getElem?_eq_getElem hk, e])).1
  -- a slot that was given away
  have given : ∀ {k j : Nat} {s : SV}, ((ownP env 0 as).map (·.2))[k]? = some j → ms[k]? = some s → ∃ s0 a, env[j]? = some (some s0) ∧ s0.own = true ∧ σ[j]? = some (some (.ref a)) ∧ a ∈ (pmOf σ env as).map (·.2) ∧ SvR K H' Zx s (.ref a) := fun {k j s} h1 h2 => by
    rw [List.getElem?_map] at h1
    cases hq : (ownP env 0 as)[k]? with
    | none => rw [hq] at h1; cases h1
    | some q =>
      rw [hq] at h1
      obtain ⟨i, j'⟩ := q
      have ej : j' = j := Option.some.inj h1
      subst ej
      have hm : (i, j') ∈ ownP env 0 as := List.mem_of_getElem? hq
      obtain ⟨s0, a, g1, g2, g3, g4, g5⟩ := ownAt hm
      have hp : (pmOf σ env as)[k]? = some (i, a) := by
        show ((ownP env 0 as).map fun q => (q.1, adr σ q.2))[k]? = _
        rw [List.getElem?_map, hq]
        show some (i, adr σ j') = _
        rw [g5]
      exact ⟨s0, a, g1, g2, g3, List.mem_map.mpr ⟨_, List.mem_of_getElem? hp, rfl⟩, (C.own k (i, a) s hp h2).2⟩
  -- any slot that holds an own thing held one before
  have back : ∀ {j : Nat} {s : SV}, (setJs ((ownP env 0 as).map (·.2)) ms env)[j]? = some (some s) → s.own = true → ∃ s0, env[j]? = some (some s0) ∧ s0.own = true := fun {j s} h o => by
    rcases setJs_get len h with ⟨k, h1, h2⟩ | ⟨h1, h2⟩
    · obtain ⟨s0, a, g1, g2, _⟩ := given h1 h2
      exact ⟨s0, g1, g2⟩
    · exact ⟨s, h2, o⟩
  refine ⟨⟨by rw [setJs_len]; exact S.len, fun j s h => ?_, fun j s a h o q => ?_, fun i j si sj a n h1 h2 o1 o2 q1 q2 => ?_, fun a ha => hx a (S.osub a ha), fun a ha => hx a (S.zsub a ha), fun a ha => ?_, fun a o h n => ?_, S.oM, fun p hp => ?_, fun q hq => ?_, S.tf⟩, sm⟩
  · rcases setJs_get len h with ⟨k, h1, h2⟩ | ⟨h1, h2⟩
    · obtain ⟨s0, a, g1, g2, g3, g4, g5⟩ := given h1 h2
      exact ⟨_, g3, g5⟩
    · obtain ⟨v, h3, h4⟩ := S.slot j s h2
      refine ⟨v, h3, ?_⟩
      cases s with
      | val d => exact dqM sm h4
      | scr ns => obtain ⟨a, e, h5⟩ := h4; exact ⟨a, e, exL sm h5⟩
      | lst ds =>
        obtain ⟨a, us, rfl, h5, h6⟩ := h4
        refine ⟨a, us, rfl, C.keep a _ h5 fun z => ?_, dqsM sm h6⟩
        obtain ⟨p, hp, e⟩ := List.mem_map.mp z
        obtain ⟨⟨i, j'⟩, hm, rfl⟩ := List.mem_map.mp hp
        obtain ⟨s0, a0, g1, g2, g3, g4, g5⟩ := ownAt hm
        have e' : a0 = a := g5.symm.trans e
        subst e'
        by_cases c : j = j'
        · subst c; exact h1 (List.mem_map.mpr ⟨_, hm, rfl⟩)
        · exact S.inj j j' _ s0 a0 c h2 g1 rfl g2 h3 g3
      | dct ds =>
        obtain ⟨a, us, rfl, h5, h6⟩ := h4
        refine ⟨a, us, rfl, C.keep a _ h5 fun z => ?_, KD.mono sm h6⟩
        obtain ⟨p, hp, e⟩ := List.mem_map.mp z
        obtain ⟨⟨i, j'⟩, hm, rfl⟩ := List.mem_map.mp hp
        obtain ⟨s0, a0, g1, g2, g3, g4, g5⟩ := ownAt hm
        have e' : a0 = a := g5.symm.trans e
        subst e'
        by_cases c : j = j'
        · subst c; exact h1 (List.mem_map.mpr ⟨_, hm, rfl⟩)
        · exact S.inj j j' _ s0 a0 c h2 g1 rfl g2 h3 g3
  · obtain ⟨s0, g1, g2⟩ := back h o
    exact S.ownO j s0 a g1 g2 q
  · obtain ⟨s1, g1, w1⟩ := back h1 o1
    obtain ⟨s2, g2, w2⟩ := back h2 o2
    exact S.inj i j s1 s2 a n g1 g2 w1 w2 q1 q2
  · rcases hf a ha with z | ⟨_, z⟩
    · by_cases c : a ∈ (pmOf σ env as).map (·.2)
      · obtain ⟨p, hp, e⟩ := List.mem_map.mp c
        obtain ⟨k, hk, e2⟩ := List.mem_iff_getElem.mp hp
        have c2 : k < ms.length := by rw [C.len]; exact hk
        obtain ⟨o1, r⟩ := C.own k p ms[k] (by rw [List.getElem?_eq_getElem hk, e2]) (List.getElem?_eq_getElem c2)
        rw [e] at r
        exact sv_nT o1 r
      · obtain ⟨u, q, n⟩ := S.trk a z
        exact ⟨u, C.keep a u q c, n⟩
    · exact z
  · refine C.keep a o (S.keep a o h n) fun z => ?_
    rcases S.oM a (msO a z) with y | ⟨y, _⟩
    · exact n y
    · rw [y] at h; cases h
  · obtain ⟨h1, s, h2, h3⟩ := S.par p hp
    obtain ⟨s', h4, h5⟩ := setJs_own (js := (ownP env 0 as).map (·.2)) own_all h2 h3
    exact ⟨h1, s', h4, h5⟩
  · have notMs : ∀ b u, H b = some u → (∃ ps, u = .tbl ps) ∨ (∃ c q, u = LamX.CodeO c q) → b ∉ (pmOf σ env as).map (·.2) := fun b u hb hu z => by
      obtain ⟨p, hp, e⟩ := List.mem_map.mp z
      obtain ⟨⟨i, j⟩, hm, rfl⟩ := List.mem_map.mp hp
      obtain ⟨s0, a0, g1, g2, g3, g4, g5⟩ := ownAt hm
      have e' : a0 = b := g5.symm.trans e
      subst e'
      obtain ⟨v, h1, h2⟩ := S.slot j s0 g1
      rw [g3] at h1
      cases h1
      cases s0 with
      | val d => cases g2
      | scr d => cases g2
      | lst ds =>
        obtain ⟨b, us, eb, h5, _⟩ := h2
        cases eb
        rw [h5] at hb
        cases hb
        rcases hu with ⟨ps, e⟩ | ⟨c, q, e⟩
        · cases e
        · exact lst_code c q e
      | dct ds =>
        obtain ⟨b, us, eb, h5, _⟩ := h2
        cases eb
        rw [h5] at hb
        cases hb
        rcases hu with ⟨ps, e⟩ | ⟨c, q, e⟩
        · cases e
        · exact dK_code c q e
    obtain ⟨ps, h1, h2, h3⟩ := S.tb q hq
    refine ⟨ps, C.keep _ _ h1 (notMs _ _ h1 (.inl ⟨ps, rfl⟩)), h2, fun pos cv e => ?_⟩
    obtain ⟨c, e1, e2⟩ := h3 pos cv e
    exact ⟨c, e1, C.keep _ _ e2 (notMs _ _ e2 (.inr ⟨c, _, rfl⟩))⟩
end
end MI
set_option Elab.async false
set_option linter.all false
set_option maxRecDepth 100000
set_option maxHeartbeats 4000000
/-! Mini12: call rules -/
namespace MI
open PySem PySem.Spec PyProof.Rows L2
def aft (F : Fn) (mp : List Nat) (n : Nat) (as : List AR) (e1 : En) : Out SV := match as.mapM (argSV e1) with
  | none => .stuck
  | some svs => if as.length = n ∧ (ownP e1 0 as).map (·.1) = mp ∧ ((ownP e1 0 as).map (·.2)).Nodup then (match F svs with
    | .rt r ms => .ok r (setJs ((ownP e1 0 as).map (·.2)) ms e1)
    | .err c p ms => .err c p (setJs ((ownP e1 0 as).map (·.2)) ms e1)
    | .stuck => .stuck) else .stuck
def asV : SV → Option D
  | .val d => some d
  | .lst ds => some (.list ds)
  | _ => none
def dAft (F : Fn) (mp : List Nat) (n : Nat) : List AR → En → Out D := fun as e1 => (aft F mp n as e1).bnd fun s e => outO (asV s) e
def fAft (F : Fn) (mp : List Nat) (n : Nat) : List AR → En → Out SV := fun as e1 => (aft F mp n as e1).bnd fun s e => if s.own = true then .ok s e else .stuck
section
variable {K : PySem.W.Frag} {G : Er} {W : WX} {x : Fx} {O Z : Zs} {H : Hp} {σ : L2.St} {e1 : En} {vs : List V} {as : List AR} {F : Fn} {mp : List Nat} {n : Nat} {Q : VK}
theorem fresh1 {H H' : Hp} {Z : Zs} {p : Addr} (h : H p = none) (h' : ∃ o, H' p = some o ∧ nT o) : ∀ a ∈ p :: Z, a ∈ Z ∨ (H a = none ∧ ∃ o, H' a = some o ∧ nT o) := fun a ha => by
  rcases List.mem_cons.mp ha with z | z
  · rw [z]; exact .inr ⟨h, h'⟩
  · exact .inl z
theorem call_err {c : Str} {p : D} {ms : List SV} (S : SRel K x O Z H σ e1) (h : wOk K G W x O Z σ H c p (setJs ((ownP e1 0 as).map (·.2)) ms e1)) :
    ∀ dx v H', CEnd K H Z (pmOf σ e1 as) ms H' → dx ∉ Z → H' dx = some (.xd [(G.fld c, v)]) → Dq K (mns H' Z) v p → WE W σ (.ref (G.ca c)) (some dx) H' := fun dx v H' C nd hd dq => by
  obtain ⟨S', sm⟩ := srel_after S C (fun _ h => h) (fun _ h => .inl h)
  exact h dx v H' S' sm nd hd dq
theorem call_val (S : SRel K x O Z H σ e1) (hv : ArgsR K σ (mns H Z) vs as) (h : MI.PO K G W x O Z σ (Dq K) H (dAft F mp n as e1) Q) : spF K G F n mp vs H Q (WE W σ) := by
  unfold dAft aft at h
  cases hs : as.mapM (argSV e1) with
  | none => rw [hs] at h; exact h.elim
  | some svs =>
    rw [hs] at h
    simp only at h
    split at h
    case isFalse => exact h.elim
    rename_i hc
    obtain ⟨c1, c2, c3⟩ := hc
    refine ⟨Z, svs, pmOf σ e1 as, hv.len.trans c1, by rw [← c2, List.map_map]; rfl, argOk_of S hv hs c3, ?_⟩
    cases hF : F svs with
    | stuck => rw [hF] at h; exact h.elim
    | err c p ms => rw [hF] at h; exact call_err S h
    | rt r ms =>
      rw [hF] at h
      intro v H' hr
      cases r with
      | val d =>
        obtain ⟨S', sm⟩ := srel_after S hr.1 (fun _ h => h) (fun _ h => .inl h)
        exact h v H' S' sm hr.2
      | scr d => exact hr.elim
      | dct d => exact h.elim
      | lst ds =>
        obtain ⟨p, rfl, h0, hz, C, b, us, eb, h5, h6⟩ := hr
        cases eb
        obtain ⟨S', sm⟩ := srel_after S C (fun _ h => List.mem_cons_of_mem _ h) (fresh1 h0 ⟨_, h5, nT_lst⟩)
        exact h (.ref p) H' (S'.less (fun a ha => List.mem_cons_of_mem _ ha) S.osub S.zsub) (sm.trans mns_cons) (.lst (mns_some.mpr ⟨hz, h5⟩) (dqsM mns_cons h6))
theorem call_own (S : SRel K x O Z H σ e1) (hv : ArgsR K σ (mns H Z) vs as) (h : POF K G W x O Z σ H (fAft F mp n as e1) Q) : spF K G F n mp vs H Q (WE W σ) := by
  unfold fAft aft at h
  cases hs : as.mapM (argSV e1) with
  | none => rw [hs] at h; exact h.elim
  | some svs =>
    rw [hs] at h
    simp only at h
    split at h
    case isFalse => exact h.elim
    rename_i hc
    obtain ⟨c1, c2, c3⟩ := hc
    refine ⟨Z, svs, pmOf σ e1 as, hv.len.trans c1, by rw [← c2, List.map_map]; rfl, argOk_of S hv hs c3, ?_⟩
    cases hF : F svs with
    | stuck => rw [hF] at h; exact h.elim
    | err c p ms => rw [hF] at h; exact call_err S h
    | rt r ms =>
      rw [hF] at h
      intro v H' hr
      have hr2 : r.own = true → ∃ p, v = .ref p ∧ H p = none ∧ p ∉ Z ∧ CEnd K H (p :: Z) (pmOf σ e1 as) ms H' ∧ SvR K H' (p :: Z) r v := fun o => by
        cases r with
        | val d => cases o
        | scr d => cases o
        | lst ds => exact hr
        | dct ds => exact hr
      replace h : POF K G W x O Z σ H (if r.own = true then .ok r (setJs ((ownP e1 0 as).map (·.2)) ms e1) else .stuck) Q := h
      by_cases o : r.own = true
      · rw [if_pos o] at h
        obtain ⟨p, rfl, h0, hz, C, rs⟩ := hr2 o
        obtain ⟨S', sm⟩ := srel_after S C (fun _ h => List.mem_cons_of_mem _ h) (fresh1 h0 (sv_nT o rs))
        exact h.2 p H' (h0_none S h0) hz S' sm rs
      · rw [if_neg o] at h; exact h.elim
end
/-- the arguments, then the rest -/
theorem PO.bndF {α β : Type} {K : PySem.W.Frag} {G : Er} {W : WX} {x : Fx} {O Z : Zs} {σ : L2.St} {H : Hp} {Rl : Hp → β → α → Prop} {o : Out α} {k : α → En → Out SV} {Q : VK} {Q' : β → Hp → Prop} (h : POF K G W x O Z σ H (o.bnd k) Q)
    (hk : ∀ d e1 v H1, SRel K x O Z H1 σ e1 → Sm (mns H Z) (mns H1 Z) → Rl (mns H1 Z) v d → POF K G W x O Z σ H1 (k d e1) Q → Q' v H1) : MI.PO K G W x O Z σ Rl H o Q' := by
  cases o with
  | ok d e1 =>
    refine fun v H1 S m r => hk d e1 v H1 S m r ?_
    have h' : POF K G W x O Z σ H (k d e1) Q := h
    cases hk' : k d e1 with
    | ok s e2 => rw [hk'] at h'; exact ⟨h'.1, fun p H' h0 hz S' m' => h'.2 p H' h0 hz S' (m.trans m')⟩
    | err c p e2 => rw [hk'] at h'; exact wOk.same m h'
    | stuck => rw [hk'] at h'; exact h'
  | err c p e1 => exact h
  | stuck => exact h
def dCall (F : Fn) (mp : List Nat) (n : Nat) (fa : En → Out (List AR)) : Fe := fun env => (fa env).bnd (dAft F mp n)
def fCall (F : Fn) (mp : List Nat) (n : Nat) (fa : En → Out (List AR)) : En → Out SV := fun env => (fa env).bnd (fAft F mp n)
section
variable {X : Cx} {CX : CXT} {G : Er} {W : WX} {k n : Nat} {f : Addr} {fd : FuncData} {ps ks : List Str} {F : Fn} {mp : List Nat} {y : Str} {p pos : Pos} {e : Expr} {es : List Expr} {kws : List Keyword} {fa : En → Out (List AR)}
theorem de_call (Fo : FnOk X.prog X.w X.K X.mg X.base CX k f fd ps (spF X.K G F n mp)) (hr : Room k X.A) (hg : Gl X y) (hm : X.mg y = some (.ref f)) (hk : PySem.W.keepIn X.K (.ref f) = true) (hb : Binds X.K fd ps []) (hx : ∀ σ, PassesAt CX X σ (WE W σ))
    (ha : DM X G W (e :: es) fa) (hdb : (y == ("__debug__" : Str)) = false := by decide) (he : starEach (e :: es) X.env = (false, eval e X.env) :: starEach es X.env := by rfl) (hpl : (backTo pos (starEach es X.env)).any (·.1) = false := by rfl) :
    DE X G W (.Call (.Name y p) (e :: es) [] pos) (dCall F mp n fa) := ⟨fun x xt => peImp (pe_callS Fo hr hg hm hk hb hx (ha.run x xt) hdb he hpl) fun σ H Q ⟨O, Z, env, S, q⟩ => ⟨O, Z, env, S, PO.bnd q fun as e1 vs H1 S1 m r k => call_val S1 r k⟩⟩
theorem df_call (Fo : FnOk X.prog X.w X.K X.mg X.base CX k f fd ps (spF X.K G F n mp)) (hr : Room k X.A) (hg : Gl X y) (hm : X.mg y = some (.ref f)) (hk : PySem.W.keepIn X.K (.ref f) = true) (hb : Binds X.K fd ps []) (hx : ∀ σ, PassesAt CX X σ (WE W σ))
    (ha : DM X G W (e :: es) fa) (hdb : (y == ("__debug__" : Str)) = false := by decide) (he : starEach (e :: es) X.env = (false, eval e X.env) :: starEach es X.env := by rfl) (hpl : (backTo pos (starEach es X.env)).any (·.1) = false := by rfl) :
    DF X G W (.Call (.Name y p) (e :: es) [] pos) (fCall F mp n fa) := ⟨fun x xt => peImp (pe_callS Fo hr hg hm hk hb hx (ha.run x xt) hdb he hpl) fun σ H Q ⟨O, Z, env, S, q⟩ => ⟨O, Z, env, S, PO.bndF q fun as e1 vs H1 S1 m r k => call_own S1 r k⟩⟩
/-- within an except suite -/
theorem de_callH (Fo : L2H.FnH X.prog X.w X.K X.mg X.base CX k f fd ps (spF X.K G F n mp)) (hr : L2H.RoomH k X.A) (hc : L2H.HotC X) (hg : Gl X y) (hm : X.mg y = some (.ref f)) (hk : PySem.W.keepIn X.K (.ref f) = true) (hb : Binds X.K fd ps []) (hx : ∀ σ, PassesAt CX X σ (WE W σ))
    (ha : DM X G W (e :: es) fa) (hdb : (y == ("__debug__" : Str)) = false := by decide) (he : starEach (e :: es) X.env = (false, eval e X.env) :: starEach es X.env := by rfl) (hpl : (backTo pos (starEach es X.env)).any (·.1) = false := by rfl) :
    DE X G W (.Call (.Name y p) (e :: es) [] pos) (dCall F mp n fa) := ⟨fun x xt => peImp (L2H.pe_callH Fo hr hc hg hm hk hb hx (ha.run x xt) hdb he hpl) fun σ H Q ⟨O, Z, env, S, q⟩ => ⟨O, Z, env, S, PO.bnd q fun as e1 vs H1 S1 m r k => call_val S1 r k⟩⟩
/-! keywords only -/
def pick {α : Type} (π : List Nat) (l : List α) : List α := π.filterMap fun i => l[i]?
theorem pick_vals {π : List Nat} {vs : List V} {us : List Value} (h : Vals vs us) : Vals (pick π vs) (pick π us) := by
  induction π with
  | nil => exact .nil
  | cons i π ih =>
    unfold pick
    rw [List.filterMap_cons, List.filterMap_cons]
    cases hv : vs[i]? with
    | none =>
      have : us[i]? = none := by
        have h1 := h.length
        exact List.getElem?_eq_none_iff.mpr (by have := List.getElem?_eq_none_iff.mp hv; omega)
      rw [this]
      exact ih
    | some v =>
      obtain ⟨u, hu, r⟩ := h.get hv
      rw [hu]
      exact .cons r ih
theorem argsR_one {K : PySem.W.Frag} {σ : L2.St} {H : Hp} {v : V} {a : AR} {vs : List V} {as : List AR} (h : ArgsR K σ H [v] [a]) (r : ArgsR K σ H vs as) : ArgsR K σ H (v :: vs) (a :: as) := by
  cases h with
  | val d _ => exact .val d r
  | slot d _ => exact .slot d r
theorem pick_args {K : PySem.W.Frag} {σ : L2.St} {H : Hp} {π : List Nat} {vs : List V} {as : List AR} (h : ArgsR K σ H vs as) : ArgsR K σ H (pick π vs) (pick π as) := by
  induction π with
  | nil => exact .nil
  | cons i π ih =>
    unfold pick
    rw [List.filterMap_cons, List.filterMap_cons]
    cases hv : as[i]? with
    | none =>
      have : vs[i]? = none := by
        have h1 := h.len
        exact List.getElem?_eq_none_iff.mpr (by have := List.getElem?_eq_none_iff.mp hv; omega)
      rw [this]
      exact ih
    | some v =>
      obtain ⟨u, hu, r⟩ := h.get hv
      rw [hu]
      exact argsR_one r ih
def dCallK (F : Fn) (mp : List Nat) (n : Nat) (π : List Nat) (m : Nat) (fa : En → Out (List AR)) : Fe := fun env => (fa env).bnd fun as e => if as.length = m then dAft F mp n (pick π as) e else .stuck
theorem de_callK {π : List Nat} (Fo : FnOk X.prog X.w X.K X.mg X.base CX k f fd ps (spF X.K G F n mp)) (hr : Room k X.A) (hg : Gl X y) (hm : X.mg y = some (.ref f)) (hk : PySem.W.keepIn X.K (.ref f) = true)
    (hb : ∀ (s : Shared) (ws : List Value), X.K.In s.heap → ws.length = ks.length → BindsTo s fd ⟨[], ks.zip ws⟩ (ps.zip (pick π ws))) (hx : ∀ σ, PassesAt CX X σ (WE W σ)) (ha : DK X G W kws fa)
    (hall : (backToKw pos (keywordEach kws X.env)).all (·.1.isSome) = true := by rfl) (hks : (backToKw pos (keywordEach kws X.env)).filterMap (·.1) = ks := by rfl) (hdb : (y == ("__debug__" : Str)) = false := by decide)
    (hpl : ((backTo pos (starEach [] X.env)).any (·.1) || (backToKw pos (keywordEach kws X.env)).any (·.1.isNone)) = false := by rfl) :
    DE X G W (.Call (.Name y p) [] kws pos) (dCallK F mp n π ks.length fa) := ⟨fun x xt => ⟨fun pins s σ H Q I ⟨O, Z, env, S, q⟩ => by
  refine wpAny_Call_Name_kw (ld_glob I hg hm ?_ hdb)
  refine PySem.W.callWith_KW0 (h₀ := X.base) I.ok.mod.kin hk hall (thn ((ha.run x xt).run pos pins s σ H (fun vs H1 => vs.length = ks.length ∧ spF X.K G F n mp (pick π vs) H1 Q (WE W σ)) I ⟨O, Z, env, S, PO.bnd q fun as e1 vs H1 S1 m r k => ?_⟩) fun us s1 ⟨vs, H1, I1, r, l, q1⟩ => ⟨I1.kIn, ?_⟩) hpl
  · split at k
    · rename_i hl
      exact ⟨r.len.trans hl, call_val S1 (pick_args r) k⟩
    · exact k.elim
  · rw [hks]
    have r2 : Vals (pick π vs) (pick π us) := pick_vals r
    refine wpAny_call (codeAny_mono (Fo.run X.A X.stack s1 H1 ⟨[], ks.zip us⟩ (pick π us) (pick π vs) Q (WE W σ) hr I1.env0 (hb s1 us I1.kIn (r.length.symm.trans l)) r2 q1) fun r s' hq => ?_)
    cases r with
    | error e => exact hx σ pins H1 s1 e s' I1 hq
    | ok fl =>
      cases fl with
      | ret u => exact I1.after hq
      | next => exact False.elim hq
      | brk => exact False.elim hq
      | cont => exact False.elim hq⟩⟩
end
end MI
set_option Elab.async false
set_option linter.all false
set_option maxRecDepth 100000
set_option maxHeartbeats 4000000
/-! Mini13: raise, try, except suites -/
namespace MI
open PySem PySem.Spec PyProof.Rows L2
def tMkE (C : Addr) (fl : Str) (ta : TA) : L2.St → Hp → XK → Prop := fun σ H Q => ta σ H fun vs H1 => ∃ v, vs = [v] ∧ ∀ d, H1 d = none → Q (.ref C) (some d) (upd H1 d (.xd [(fl, v)]))
def sRaise (c : Str) (f : Fe) : Fs := fun env => (f env).bnS fun d e => .err c d e
section
variable {X : Cx} {G : Er} {W : WX} {mp : List Nat} {a e : Expr} {pos : Pos} {fe : Fe} {C : Addr} {fl c : Str}
theorem ds_raise (hc : X.calm = true) (tk : L2N.Takes X W) (hmk : ∀ ta, PA X [a] ta → L2N.PMk X e (tMkE C fl ta)) (hC : G.ca c = C) (hf : G.fld c = fl) (ha : DE X G W a fe) (hs : starEach [a] X.env = [(false, eval a X.env)] := by rfl) :
    DS X G W mp (.Raise (some e) none pos) (sRaise c fe) := ⟨fun x xt _ => psImp (L2N.ps_raise hc tk (hmk _ (pa_cons (ha.run x xt) pa_nil hs))) fun D σ H ⟨O, Z, env, S, q⟩ => ⟨O, Z, env, S, SO.bnd q fun d e1 v H1 S1 m r k => ⟨v, rfl, fun dd hd => by
  have := k O Z (upd H1 dd (.xd [(fl, v)])) σ dd v (S1.grow (same_upd hd)) (same_m (same_upd hd)) (trkN S1 dd hd) (by rw [hf]; exact upd_same) (dqM (same_m (same_upd hd)) r)
  rw [hC] at this
  exact this⟩⟩⟩
end
/-- a slot's name goes, or comes, unseen -/
theorem srel_hide {K : PySem.W.Frag} {x : Fx} {O Z : Zs} {H : Hp} {σ : L2.St} {env : En} (S : SRel K x O Z H σ env) {i : Nat} {v : Option V} (hp : i ∉ x.Pm.map (·.1)) : SRel K x O Z H (σ.set i v) (env.set i none) := by
  have ne : ∀ {j : Nat} {t : SV}, (env.set i none)[j]? = some (some t) → i ≠ j ∧ env[j]? = some (some t) := fun {j t} q => by
    by_cases e : i = j
    · subst e
      rw [List.getElem?_set_self'] at q
      cases hx : env[i]? with
      | none => rw [hx] at q; cases q
      | some y => rw [hx] at q; cases q
    · rw [List.getElem?_set_ne e] at q; exact ⟨e, q⟩
  refine ⟨?_, fun j t q => ?_, fun j t a q o r => ?_, fun j k sj sk a n q1 q2 o1 o2 r1 r2 => ?_, S.osub, S.zsub, S.trk, S.keep, S.oM, fun p hm => ?_, S.tb, S.tf⟩
  · rw [List.length_set, List.length_set, S.len]
  · obtain ⟨e, q'⟩ := ne q
    obtain ⟨u, h1, h2⟩ := S.slot j t q'
    exact ⟨u, by rw [List.getElem?_set_ne e]; exact h1, h2⟩
  · obtain ⟨e, q'⟩ := ne q
    rw [List.getElem?_set_ne e] at r
    exact S.ownO j t a q' o r
  · obtain ⟨e1, g1⟩ := ne q1
    obtain ⟨e2, g2⟩ := ne q2
    rw [List.getElem?_set_ne e1] at r1
    rw [List.getElem?_set_ne e2] at r2
    exact S.inj j k sj sk a n g1 g2 o1 o2 r1 r2
  · obtain ⟨h1, t, h2, h3⟩ := S.par p hm
    have e : i ≠ p.1 := fun z => hp (List.mem_map.mpr ⟨p, hm, z.symm⟩)
    exact ⟨by rw [List.getElem?_set_ne e]; exact h1, t, by rw [List.getElem?_set_ne e]; exact h2, h3⟩
def clr (i : Nat) : SOut → SOut
  | .nx e => .nx (e.set i none)
  | .bk e => .bk (e.set i none)
  | .ct e => .ct (e.set i none)
  | .rt r e => .rt r e
  | .err _ _ _ => .stuck
  | .stuck => .stuck
theorem so_clr {K : PySem.W.Frag} {G : Er} {W : WX} {x : Fx} {H : Hp} {Z : Zs} {D : Ends} {i : Nat} {o : SOut} (hp : i ∉ x.Pm.map (·.1)) (h : SO K G W x H Z D (clr i o)) :
    SO K G W0 x H Z { nx := fun σ' H' => D.nx (σ'.set i none) H', rt := D.rt, bk := fun σ' H' => D.bk (σ'.set i none) H', ct := fun σ' H' => D.ct (σ'.set i none) H' } o := by
  cases o with
  | nx e => exact fun O' Z' H' σ' S m => h O' Z' H' _ (srel_hide S hp) m
  | bk e => exact fun O' Z' H' σ' S m => h O' Z' H' _ (srel_hide S hp) m
  | ct e => exact fun O' Z' H' σ' S m => h O' Z' H' _ (srel_hide S hp) m
  | rt r e => exact h
  | err c p e => exact h.elim
  | stuck => exact h
/-- a suite's entry: the exception at a, of the class c, it bears p -/
def Ent (K : PySem.W.Frag) (G : Er) (x : Fx) (i : Nat) (a : Addr) (cls : Value) (d : Option Addr) (c : Str) (p : D) (O Z : Zs) (σ : L2.St) (H : Hp) (env : En) : Prop :=
  x.T = G.T ∧ cls = .ref (G.ca c) ∧ (∃ dd v, d = some dd ∧ H dd = some (.xd [(G.fld c, v)]) ∧ Dq K (mns H Z) v p) ∧ σ[i]? = some (some (.ref a)) ∧ SRel K x O Z H σ env
def tX (K : PySem.W.Frag) (G : Er) (mp : List Nat) (i : Nat) (f : Str → D → Fs) (a : Addr) (cls : Value) (d : Option Addr) : TS := fun D σ H =>
  ∃ x c p O Z env, x.Pm.map (·.1) = mp ∧ Ent K G x i a cls d c p O Z σ H env ∧ SO K G W0 x H Z D (f c p env)
def sTry (fb : Fs) (catch_ : Str → Option Bool) (i : Nat) (fs : Str → D → Fs) : Fs := fun env => match fb env with
  | .err c p e => match catch_ c with
    | some true => if i < e.length then clr i (fs c p (e.set i none)) else .stuck
    | some false => .err c p e
    | none => .stuck
  | o => o
section
variable {X : Cx} {G : Er} {W : WX} {mp : List Nat} {y n : Str} {cc : Value} {i : Nat} {body suite : List Stmt} {b₀ : Stmt} {np pos pos' : Pos} {fb : Fs} {fs : Str → D → Fs} {ct : Str → Option Bool}
theorem ds_try (hs : X.stack = X.env :: X.outer) (hf : X.env.frame = some X.env.locals) (hN : X.N.Nodup) (hi : X.N[i]? = some n) (hln : X.env.kindOf n = some .local) (hc : Names X y cc) (tk : L2N.Takes X W)
    (hm : ∀ c b, ct c = some b → PySem.W.exmOne X.K (.ref (G.ca c)) cc = some b) (hmp : i ∉ mp)
    (hb : ∀ (W' : WX) (pn : List (Addr × Obj)) (xe : Value → Shared → Prop), L2N.Takes (X.tr pn xe) W' → PassesOwn (model X.prog X.w) X.A X.env xe → DSs (X.tr pn xe) G W' mp body fb)
    (hsu : ∀ (a : Addr) (oe : Obj) (cls : Value) (d : Option Addr) (pn : List (Addr × Obj)), L2N.Zn cls d oe → (∃ vs, oe.data = .fields vs) → PSs (X.suite a ((a, oe) :: pn)) (b₀ :: suite) (tX X.K G mp i fs a cls d)) :
    DS X G W mp (.Try body [.ExceptHandler (some (.Name y np)) (some n) (b₀ :: suite) pos'] [] [] pos) (sTry fb ct i fs) := ⟨fun x xt hx => psImp
  (L2N.ps_try_as (i := i) (tb := fun W' => tS X.K G W' x fb) hs hf hN hi hln hc tk (fun W' pn xe tk' po => (hb W' pn xe tk' po).run x xt hx) hsu) fun D σ H ⟨O, Z, env, S, q⟩ => ⟨O, Z, env, S, by
  unfold sTry at q
  cases hf' : fb env with
  | nx e => rw [hf'] at q; exact q
  | bk e => rw [hf'] at q; exact q
  | ct e => rw [hf'] at q; exact q
  | rt r e => rw [hf'] at q; exact q
  | stuck => rw [hf'] at q; exact q
  | err c p e =>
    rw [hf'] at q
    intro O' Z' H' σ' dx v S' m n hd dq
    simp only at q
    cases hct : ct c with
    | none => rw [hct] at q; exact q.elim
    | some b =>
      rw [hct] at q
      refine ⟨b, hm c b hct, fun hb a ha => ?_, fun hb => ?_⟩
      · subst hb
        simp only at q
        split at q
        · rename_i hl
          have hp : i ∉ x.Pm.map (·.1) := by rw [hx]; exact hmp
          exact ⟨x, c, p, O', Z', e.set i none, hx, ⟨xt, rfl, ⟨dx, v, rfl, hd, dq⟩, List.getElem?_set_self (by rw [S'.len]; exact hl), srel_hide S' hp⟩, so_clr hp (SO.same m q)⟩
        · exact q.elim
      · subst hb
        exact q O' Z' H' σ' dx v S' m n hd dq⟩⟩
end
/-! ### what a suite does first -/
structure DE1 (X : Cx) (G : Er) (i : Nat) (a : Addr) (cls : Value) (d : Option Addr) (e : Expr) (f : Str → D → Fe) : Prop where
  run : PE X e fun σ H Q => ∃ x c p O Z env, Ent X.K G x i a cls d c p O Z σ H env ∧ PO X.K G W0 x O Z σ (Dq X.K) H (f c p env) Q
structure DM1 (X : Cx) (G : Er) (i : Nat) (a : Addr) (cls : Value) (d : Option Addr) (es : List Expr) (f : Str → D → En → Out (List AR)) : Prop where
  run : PA X es fun σ H Q => ∃ x c p O Z env, Ent X.K G x i a cls d c p O Z σ H env ∧ PO X.K G W0 x O Z σ (ArgsR X.K σ) H (f c p env) Q
/-- e.field -/
def tBy (C : Addr) (fl : Str) (a : Addr) (cls : Value) (d : Option Addr) (te : TE) : TE := fun σ H Q => te σ H fun x H1 => x = .ref a ∧ cls = .ref C ∧ ∃ (dd : Addr) (v : V), d = some dd ∧ H1 dd = some (.xd [(fl, v)]) ∧ Q v H1
section
variable {X : Cx} {G : Er} {mp : List Nat} {i : Nat} {a : Addr} {cls : Value} {d : Option Addr} {e : Expr} {es : List Expr} {pos : Pos} {fe : Str → D → Fe}
theorem dx_ret (h : DE1 X G i a cls d e fe) : PSs X [.Return (some e) pos] (tX X.K G mp i (fun c p => sRet (fe c p)) a cls d) := pssImp (pss_one (ps_ret h.run)) fun D σ H ⟨x, c, p, O, Z, env, hx, en, q⟩ => ⟨x, c, p, O, Z, env, en, SO.bnd q fun dd e1 v H1 S1 m r k => k O Z H1 σ v S1 (Sm.refl _) (dqM (mns_sub S1.zsub) r)⟩
def d1By (c0 : Str) : Str → D → Fe := fun c p env => if c = c0 then .ok p env else .stuck
theorem de1_by {n : Str} {np : Pos} {c0 : Str} {C : Addr} {fl : Str} (hby : ∀ te, PE X (.Name n np) te → PE X e (tBy C fl a cls d te)) (hn : PE X (.Name n np) (tVar i)) (hC : G.ca c0 = C) (hf : G.fld c0 = fl) : DE1 X G i a cls d e (d1By c0) := ⟨peImp (hby _ hn) fun σ H Q ⟨x, c, p, O, Z, env, en, q⟩ => by
  obtain ⟨xt, hcls, ⟨dd, v, hd, hx, dq⟩, hs, S⟩ := en
  unfold d1By at q
  split at q
  · rename_i ec
    subst ec
    exact ⟨.ref a, hs, rfl, by rw [hcls, hC], dd, v, hd, by rw [← hf]; exact hx, q v H S (Sm.refl _) dq⟩
  · exact q.elim⟩
def m1Val (f : Str → D → Fe) (g : En → Out (List AR)) : Str → D → En → Out (List AR) := fun c p => mVal (f c p) g
theorem dm1_cons {g : En → Out (List AR)} (ha : DE1 X G i a cls d e fe) (hr : DM X G W0 es g) (hs : starEach (e :: es) X.env = (false, eval e X.env) :: starEach es X.env := by rfl) : DM1 X G i a cls d (e :: es) (m1Val fe g) :=
  ⟨⟨fun pos pins s σ H Q I ⟨x, c, p, O, Z, env, en, h⟩ => (pa_cons ha.run (hr.run x en.1) hs).run pos pins s σ H Q I ⟨x, c, p, O, Z, env, en, PO.bnd h fun dd e1 v H1 S1 _ dp1 h1 => ⟨O, Z, e1, S1, PO.bnd h1 fun ds e2 vs H2 S2 m2 dp2 h2 => h2 (v :: vs) H2 S2 (Sm.refl _) (.val (dqM m2 dp1) dp2)⟩⟩⟩⟩
variable {CX : CXT} {k n : Nat} {f : Addr} {fd : FuncData} {ps : List Str} {F : Fn} {y : Str} {q : Pos} {fa : Str → D → En → Out (List AR)}
def d1Call (F : Fn) (mp : List Nat) (n : Nat) (fa : Str → D → En → Out (List AR)) : Str → D → Fe := fun c p env => (fa c p env).bnd (dAft F mp n)
theorem de1_callH (Fo : L2H.FnH X.prog X.w X.K X.mg X.base CX k f fd ps (spF X.K G F n mp)) (hr : L2H.RoomH k X.A) (hc : L2H.HotC X) (hg : Gl X y) (hm : X.mg y = some (.ref f)) (hk : PySem.W.keepIn X.K (.ref f) = true) (hb : Binds X.K fd ps []) (hx : ∀ σ, PassesAt CX X σ (WE W0 σ))
    (ha : DM1 X G i a cls d (e :: es) fa) (hdb : (y == ("__debug__" : Str)) = false := by decide) (he : starEach (e :: es) X.env = (false, eval e X.env) :: starEach es X.env := by rfl) (hpl : (backTo pos (starEach es X.env)).any (·.1) = false := by rfl) :
    DE1 X G i a cls d (.Call (.Name y q) (e :: es) [] pos) (d1Call F mp n fa) := ⟨peImp (L2H.pe_callH Fo hr hc hg hm hk hb hx ha.run hdb he hpl) fun σ H Q ⟨x, c, p, O, Z, env, en, q⟩ => ⟨x, c, p, O, Z, env, en, PO.bnd q fun as e1 vs H1 S1 m r k => call_val S1 r k⟩⟩
end
/-- a def that is called in a suite -/
theorem fn_okH {P : Program} {w : World} {K : PySem.W.Frag} {mg : Str → Option Value} {base : Heap} {CX : CXT} {x qual : Str} {params : Arguments} {body : List Stmt} {scope : Scope} {dvs : List V} {kws : List (Str × V)} {f : Addr} {fd : FuncData} {N ps : List Str} {k : Nat} {G : Er} {fs : Fs} {mp : List Nat}
    (F : FunD K x qual params body scope dvs kws f fd) (S : FnScope N ps scope) (hT : G.T = [])
    (hbody : ∀ (cdv : Value) (A : Around) (outer : List Env) (s : Shared) (H : Hp) (E : XK) (p : Addr × Obj), L2H.Hot1 A p → L2H.RoomH k (A.deeper (envOfC qual scope s.heap.objs.size f cdv)) → DSs (L2H.cxH CX P w K mg base N qual scope f cdv A outer s H E p) G (fun cls d _ H => E cls d H) mp body fs) :
    L2H.FnH P w K mg base CX (k + 1) f fd ps (spF K G (fnOf fs N.length mp) ps.length mp) := by
  obtain ⟨oc, od, dV, kV, doc, pm, an, cdv, ct, osl, rfl, lk, hcd, _, _⟩ := F.ex
  exact L2H.fn_ofH lk hcd S (fun vs H Q E h => by obtain ⟨_, _, _, h1, _⟩ := h; exact h1) fun A outer s H vs Q E p hot hr h => fn_body (X := L2H.cxH CX P w K mg base N qual scope f cdv A outer s H E p) (hbody cdv A outer s H E p hot hr) hT h
end MI
set_option Elab.async false
set_option linter.all false
set_option maxRecDepth 100000
set_option maxHeartbeats 4000000
/-! Mini14: a lambda handed to a def that calls it within a try -/
namespace MI
open PySem PySem.Spec PyProof.Rows L2 LamX
theorem srel_see0 {K : PySem.W.Frag} {x : Fx} {O Z : Zs} {H : Hp} {σ : L2.St} {env : En} (S : SRel K x O Z H σ env) : SRel K ⟨[], H, [], []⟩ [] [] H σ (seeE env) :=
  let S' := srel_see S
  ⟨S'.len, S'.slot, S'.ownO, S'.inj, S'.osub, S'.zsub, S'.trk, fun a o h _ => h, fun a ha => (nomatch ha), fun p hp => (nomatch hp), fun q hq => (nomatch hq), fun ht => absurd rfl ht⟩
/-- the lambda's context, what leaves it told as L2N tells -/
abbrev lamY (X : Cx) (A : Around) (outer : List Env) (s : Shared) (H : Hp) (E : XK) (scope : Scope) (f c' : Addr) : Cx :=
  (lamCx X A outer s H E scope f c').wish fun e s' => wpAny (model X.prog X.w) (A.deeper (lamEnv X scope s.heap.objs.size f c')) (leaving (lamEnv X scope s.heap.objs.size f c') e) (fun _ s'' => L2N.CX X.prog X.w outer H s E e s'') (fun e' s'' => L2N.CX X.prog X.w outer H s E e' s'') s'
theorem takesY {X : Cx} {A : Around} {outer : List Env} {s : Shared} {H : Hp} {E : XK} {scope : Scope} {f c' : Addr} : L2N.Takes (lamY X A outer s H E scope f c') (fun cls d _ H => E cls d H) := L2N.takes_of rfl rfl rfl rfl
section
variable {X : Cx} {pins : List (Addr × Obj)} {σ : L2.St} {H : Hp} {s : Shared}
/-- a() in the def that got it, its first deed -/
theorem ps_act {Eg : XK} {Ng : List Str} {qg : Str} {sg : Scope} {g f c' : Addr} {cdg pm ctv : Value} {params : Arguments} {body : Expr} {scope : Scope} {k : Nat} {a : Str} {pn : List (Addr × Obj)} {xe : Value → Shared → Prop} {W : WX} {tb : TE} {p1 p2 p3 : Pos} {σ0 : L2.St}
    (I : Inv X pins σ H s) (L : LamS X.env.scope scope) (hf : s.heap.get? f = some (PySem.W.kla_obj "<lambda>" (X.env.qual ++ "<lambda>") params body scope (cloFrom X.env.cells scope.names []) pm c' ctv)) (hfn : H f = none) (hfr : f ∉ frs X.stack)
    (hbind : bindArgs (PySem.W.kla_fn "<lambda>" (X.env.qual ++ "<lambda>") params body scope (cloFrom X.env.cells scope.names []) pm (.ref c') ctv) ⟨[], []⟩ = pure [])
    (tk : L2N.Takes ((cxOf (L2N.CX X.prog X.w) X.prog X.w X.K X.mg X.base Ng qg sg g cdg X.A X.stack s H Eg).tr pn xe) W) (hr : Room (k + 1) (X.A.deeper (envOfC qg sg s.heap.objs.size g cdg)))
    (hbody : ∀ (A : Around) (outer : List Env) (s : Shared) (H : Hp), Room k (A.deeper (lamEnv X scope s.heap.objs.size f c')) → PE (lamY X A outer s H (WE W σ0) scope f c') body tb)
    (hN : Ng[0]? = some a) (hv : Vis sg a) (h0 : σ0[0]? = some (some (.ref f))) (hco : H c' = some (CodeO c' (X.env.qual ++ "<lambda>"))) (hd : (a == ("__debug__" : Str)) = false := by decide) (hcd : (a == ("__classdict__" : Str)) = false := by decide)
    (hsw : swapsWith (.Call (.Name a p1) [] [] p2) none p3.line (envOfC qg sg s.heap.objs.size g cdg) = pure false := by rfl) :
    PSs ((cxOf (L2N.CX X.prog X.w) X.prog X.w X.K X.mg X.base Ng qg sg g cdg X.A X.stack s H Eg).tr pn xe) [.Expr (.Call (.Name a p1) [] [] p2) p3]
      (fun D σZ HZ => σZ = σ0 ∧ HZ = H ∧ tb σ H fun _ H' => D.nx σZ H') := by
  have hp : PE ((cxOf (L2N.CX X.prog X.w) X.prog X.w X.K X.mg X.base Ng qg sg g cdg X.A X.stack s H Eg).tr pn xe) (.Call (.Name a p1) [] [] p2) (fun σZ HZ Q => σZ = σ0 ∧ HZ = H ∧ tb σ H Q) := by
    refine ⟨fun pinsZ sZ σZ HZ Q IZ h => ?_⟩
    obtain ⟨e1, e2, ht⟩ := h
    subst e1 e2
    refine wpAny_Call_Name_kw (thn ((pe_var (pos := p1) (i := 0) hN hv hd hcd).run pinsZ sZ σZ HZ (fun v H1 => v = .ref f ∧ H1 = HZ) IZ ⟨.ref f, h0, rfl, rfl⟩) fun u s1 ⟨v, H1, I1, r1, q1⟩ => ?_)
    obtain ⟨ev, eH⟩ := q1
    subst ev
    rw [eH] at I1
    obtain rfl : u = Value.ref f := r1
    have of1 : s1.heap.get? f = some (PySem.W.kla_obj "<lambda>" (X.env.qual ++ "<lambda>") params body scope (cloFrom X.env.cells scope.names []) pm c' ctv) := I1.base.keep f _ hf hfn hfr (fun z => nomatch (show f ∈ ([] : List Addr) from z))
    refine PySem.W.callWith_F0 ⟨_, _, _, _, of1⟩ ?_
    have un : Un (frs X.stack) [] HZ HZ s.heap s1.heap := I1.base
    obtain ⟨⟨oc, vs, t, hoc, hdc, hvc⟩, _, _⟩ := I1.hok c' _ hco
    have rc : codeAny (model X.prog X.w) (X.A.deeper (envOfC qg sg s.heap.objs.size g cdg)) (.call (.ref f) ⟨[], []⟩) (CR (L2N.CX X.prog X.w) (envOfC qg sg s.heap.objs.size g cdg :: X.stack) X.prog X.w HZ s1 Q (WE W σZ)) s1 := by
      refine PySem.W.kla_callFunE hr.depth of1 rfl L.co L.gen rfl ⟨c', oc, vs, t, rfl, hoc, hdc, hvc⟩ ?_
      rw [hbind]
      refine wpAny_pure (wpAny_newFunctionEnv (fun y hy => (L.own y hy).2) (fun y hy => absurd hy (by simp)) (fun h₁ hns hsb => ⟨I1.nolimit.fresh _ hsb, ?_⟩) L.kind)
      show codeAny _ _ (.expr body (lamEnv X scope s1.heap.objs.size f c')) _ _
      have kp : ∀ b o, s1.heap.get? b = some o → h₁.get? b = some o := fun b o e => hsb.extBut b o (Nat.ne_of_lt (Heap.lt_size e)) (Heap.get?_push_of_some _ e)
      have J := lam_start2 (f := f) (c' := c') (E := WE W σZ) (tk := s1.toks + ([] : List (Str × Value)).length) I L I1.env0 hr.hd un hns kp
      have YY := J.wish (fun e s' => wpAny (model X.prog X.w) ((X.A.deeper (envOfC qg sg s.heap.objs.size g cdg)).deeper (lamEnv X scope s1.heap.objs.size f c')) (leaving (lamEnv X scope s1.heap.objs.size f c') e)
        (fun _ s'' => L2N.CX X.prog X.w (envOfC qg sg s.heap.objs.size g cdg :: X.stack) HZ s1 (WE W σZ) e s'') (fun e' s'' => L2N.CX X.prog X.w (envOfC qg sg s.heap.objs.size g cdg :: X.stack) HZ s1 (WE W σZ) e' s'') s')
      refine PySem.W.kla_codeExpr (wpAny_mono ((hbody _ _ s1 HZ (hr.deeper _)).run [] _ _ HZ Q YY ht) (fun v s' hq => ?_) fun e s' hq => hq)
      obtain ⟨w', H', J', rv, q⟩ := hq
      exact ⟨w', H', J'.os, J'.bare, J'.base, J'.hok, rv, q⟩
    have hx : PassesAt (L2N.CX X.prog X.w) ((cxOf (L2N.CX X.prog X.w) X.prog X.w X.K X.mg X.base Ng qg sg g cdg X.A X.stack s HZ Eg).tr pn xe) σZ (WE W σZ) := L2N.passAt tk σZ
    refine wpAny_call (codeAny_mono rc fun r s' hq => ?_)
    cases r with
    | error e => exact hx pinsZ HZ s1 e s' I1 hq
    | ok fl =>
      cases fl with
      | ret u => exact I1.after hq
      | next => exact False.elim hq
      | brk => exact False.elim hq
      | cont => exact False.elim hq
  exact pssImp (pss_one (ps_expr hp hsw)) fun D σZ HZ ⟨e1, e2, h⟩ => ⟨e1, e2, h⟩
end
/-- the try, by what the lambda comes to -/
def gTry (o : Out D) (ct : Str → Option Bool) (i : Nat) (fs : Str → D → Fs) : Fs := fun env => match o with
  | .ok _ _ => .nx env
  | .err c p _ => if scalD p = true then (match ct c with
    | some true => if i < env.length then clr i (fs c p (env.set i none)) else .stuck
    | _ => .stuck) else .stuck
  | .stuck => .stuck
def outR (o : SOut) (env : En) : Out D := match o with
  | .rt (.val d) _ => .ok d env
  | .nx _ => .ok .none env
  | _ => .stuck
def dLam2 (fe2 fbody : Fe) (ct : Str → Option Bool) (i : Nat) (fs : Str → D → Fs) (frest : Fs) (nL : Nat) : Fe := fun env => match fe2 (seeE env) with
  | .ok n _ => if scalD n = true then outR (sSq (gTry (fbody (seeE env)) ct i fs) frest (none :: some (.val n) :: List.replicate (nL - 2) none)) env else .stuck
  | _ => .stuck
theorem seeX_nT {x : Fx} {H : Hp} {a : Addr} {o : HO} (h : H a = some o) (n : nT o) : (seeX x H).H0 a = some o := seeX_of h (.inr n)
theorem codeO_nT {c : Addr} {q : Str} : nT (CodeO c q) := fun ps => codeO_ne ps
/-- the heap after a lambda is made -/
theorem srel_ext {K : PySem.W.Frag} {x : Fx} {O Z : Zs} {H H1 : Hp} {σ : L2.St} {env : En} (S : SRel K x O Z H σ env) (e : ExtN H H1) (t : Tabs x.T H1) (ht : x.T ≠ []) : SRel K x O Z H1 σ env ∧ Sm (mns H Z) (mns H1 Z) := by
  have k : ∀ a o, nT o → H a = some o → H1 a = some o := fun a o n h => e a o h n
  have m : Sm (mns H Z) (mns H1 Z) := fun a o n h => by
    obtain ⟨h1, h2⟩ := mns_some.mp h
    exact mns_some.mpr ⟨h1, k a o n h2⟩
  refine ⟨⟨S.len, fun i s h => ?_, S.ownO, S.inj, S.osub, S.zsub, fun a h => ?_, fun a o h n => ?_, S.oM, S.par, t, S.tf⟩, m⟩
  · obtain ⟨v, h1, h2⟩ := S.slot i s h
    refine ⟨v, h1, h2.mono m fun o a ev => ?_⟩
    obtain ⟨u, q, n⟩ := S.trk a (S.osub a (S.ownO i s a h o (by rw [h1, ev])))
    rw [q]; exact k a u n q
  · obtain ⟨u, q, n⟩ := S.trk a h
    exact ⟨u, k a u n q, n⟩
  · exact k a o (S.tf ht a o h) (S.keep a o h n)
theorem full_back {K : PySem.W.Frag} {H H' : Hp} {σ : L2.St} {e1 : En} {Zx : Zs} {O Z : Zs} (S1 : SRel K ⟨Zx, H, [], []⟩ O Z H' σ e1) : Same H H' := fun a o h => S1.keep a o h (fun z => by cases z)
theorem so_outR {K : PySem.W.Frag} {G G0 : Er} {W W' : WX} {xx : Fx} {O Z : Zs} {H H2 H'' : Hp} {σ : L2.St} {env : En} {o : SOut} {Q : VK} (S2 : SRel K xx O Z H2 σ env) (m : Sm (mns H Z) (mns H2 Z)) (q : MI.PO K G W xx O Z σ (Dq K) H (outR o env) Q) :
    SO K G0 W' ⟨Z, H2, [], []⟩ H'' Z { nx := fun _ H' => Q .non H', rt := Q } o := by
  cases o with
  | nx e => exact fun O' Z' H' σ' S' m' => q .non H' (S2.grow (full_back S')) (m.trans (same_m (full_back S'))) .non
  | rt r e =>
    cases r with
    | val d => exact fun O' Z' H' σ' v S' m' r => q v H' (S2.grow (full_back S')) (m.trans (same_m (full_back S'))) r
    | lst ds => exact q.elim
    | dct ds => exact q.elim
    | scr ds => exact q.elim
  | bk e => exact q.elim
  | ct e => exact q.elim
  | err c p e => exact q.elim
  | stuck => exact q.elim
theorem sSq_at {f g : Fs} {env : En} {o : SOut} (h : f env = o) : sSq f g env = sSq (fun _ => o) g env := by unfold sSq; rw [h]
theorem takesN0 {X : Cx} : L2N.Takes X (fun _ _ _ _ => False) := fun _ _ x => by
  obtain ⟨_, _, _, _, _, _, _, _, _, _, _, _, _, _, _, _, z⟩ := x
  exact z.elim
theorem srel_two {K : PySem.W.Frag} {xx : Fx} {O Z : Zs} {H : Hp} {σ : L2.St} {env : En} {f : Addr} {v : V} {d : D} {n : Nat} (S : SRel K xx O Z H σ env) (dv : Dq K (mns H Z) v d) :
    SRel K ⟨Z, H, [], []⟩ [] Z H (some (.ref f) :: some v :: List.replicate n none) (none :: some (.val d) :: List.replicate n none) := by
  refine ⟨by simp, fun i s h => ?_, fun i s a h o => ?_, fun i j si sj a _ h _ o => ?_, fun a ha => (nomatch ha), fun a ha => ha, S.trk, fun a o h _ => h, fun a ha => (nomatch ha), fun p hp => (nomatch hp), fun q hq => (nomatch hq), fun ht => absurd rfl ht⟩
  · match i, h with
    | 0, h => cases h
    | 1, h => cases h; exact ⟨v, rfl, dv⟩
    | i + 2, h =>
      have h' : (List.replicate n (none : Option SV))[i]? = some (some s) := by simpa using h
      rw [List.getElem?_replicate] at h'
      split at h' <;> cases h'
  · match i, h with
    | 0, h => cases h
    | 1, h => cases h; cases o
    | i + 2, h =>
      have h' : (List.replicate n (none : Option SV))[i]? = some (some s) := by simpa using h
      rw [List.getElem?_replicate] at h'
      split at h' <;> cases h'
  · match i, h with
    | 0, h => cases h
    | 1, h => cases h; cases o
    | i + 2, h =>
      have h' : (List.replicate n (none : Option SV))[i]? = some (some si) := by simpa using h
      rw [List.getElem?_replicate] at h'
      split at h' <;> cases h'
section
variable {X : Cx} {G G0 : Er} {W W2 : WX} {mp : List Nat} {y a b n : Str} {g P c : Addr} {k i : Nat} {fd : FuncData} {pg : Arguments} {sg : Scope} {Ng : List Str} {params : Arguments} {body e2 : Expr} {scope : Scope} {p lpos pos : Pos} {fe2 fbody : Fe}
  {ct : Str → Option Bool} {fs : Str → D → Fs} {frest : Fs} {cc : Value} {x : Str} {p1 p2 p3 np pos' pos'' : Pos} {b₀ : Stmt} {suite rest : List Stmt}
/-- y(lambda: body, e2); y's body: try: a() / except x as n: suite / rest -/
theorem de_lam2 (hc : X.calm = true) (hst : X.stack = X.env :: X.outer) (hff : X.env.frame = some X.env.locals) (TB : TabB X.base X.mg c P) (hcode : X.env.code = .ref c) (hmT : (P, X.env.qual ++ "<lambda>") ∈ G.T) (hu : ∀ p ∈ G.T, p.1 = P → p.2 = X.env.qual ++ "<lambda>")
    (L : LamS X.env.scope scope) (hdef : defaultsOf params X.env = ([], [])) (hbind : ∀ (q : Str) (cl : List (Str × Addr)) (pm cv ctv : Value), bindArgs (PySem.W.kla_fn "<lambda>" q params body scope cl pm cv ctv) ⟨[], []⟩ = pure [])
    (hr : Room (k + 2) X.A) (hG0 : G0 = { G with T := [] })
    (hg : Gl X y) (hm : X.mg y = some (.ref g))
    (F : FunD X.K y y pg (.Try [.Expr (.Call (.Name a p1) [] [] p2) p3] [.ExceptHandler (some (.Name x np)) (some n) (b₀ :: suite) pos'] [] [] pos'' :: rest) sg [] [] g fd) (hb : Binds X.K fd [a, b] []) (Sg : FnScope Ng [a, b] sg)
    (hbody : ∀ (A : Around) (outer : List Env) (s : Shared) (H : Hp) (E : XK) (f c' : Addr), Room k (A.deeper (lamEnv X scope s.heap.objs.size f c')) → DE (lamY X A outer s H E scope f c') G0 (fun cls d _ H => E cls d H) body fbody)
    (he2 : DE X G W2 e2 fe2)
    (hNx : Ng[i]? = some n) (hln : sg.names.lookup n = some .local) (hcx : sg.names.lookup x = some .globalImplicit) (hmx : X.mg x = some cc) (hdx : (x == ("__debug__" : Str)) = false) (hex : ∀ c b, ct c = some b → PySem.W.exmOne X.K (.ref (G0.ca c)) cc = some b)
    (hsu : ∀ (cdv : Value) (s : Shared) (H : Hp) (a' : Addr) (oe : Obj) (cls : Value) (d : Option Addr) (pn : List (Addr × Obj)), Room (k + 1) (X.A.deeper (envOfC y sg s.heap.objs.size g cdv)) → L2N.Zn cls d oe → (∃ vs, oe.data = .fields vs) →
      PSs ((cxOf (L2N.CX X.prog X.w) X.prog X.w X.K X.mg X.base Ng y sg g cdv X.A X.stack s H (fun _ _ _ => False)).suite a' ((a', oe) :: pn)) (b₀ :: suite) (tX X.K G0 [] i fs a' cls d))
    (hrest : ∀ (cdv : Value) (s : Shared) (H : Hp), Room (k + 1) (X.A.deeper (envOfC y sg s.heap.objs.size g cdv)) →
      DSs (cxOf (L2N.CX X.prog X.w) X.prog X.w X.K X.mg X.base Ng y sg g cdv X.A X.stack s H (fun _ _ _ => False)) G0 (fun _ _ _ _ => False) [] rest frest)
    (hva : Vis sg a) (hda : (a == ("__debug__" : Str)) = false := by decide) (hcd : (a == ("__classdict__" : Str)) = false := by decide) (hdb : (y == ("__debug__" : Str)) = false := by decide)
    (hs2 : starEach [e2] X.env = [(false, eval e2 X.env)] := by rfl)
    (hsw : ∀ (s : Shared) (cdv : Value), swapsWith (.Call (.Name a p1) [] [] p2) none p3.line (envOfC y sg s.heap.objs.size g cdv) = pure false := by intros; rfl) :
    DE X G W (.Call (.Name y p) [.Lambda params body scope lpos, e2] [] pos) (dLam2 fe2 fbody ct i fs frest Ng.length) := ⟨fun xx xt => ⟨fun pins s σ H Q I ⟨O, Z, env, S, q⟩ => by
  have hTn : xx.T ≠ [] := fun z => by rw [← xt, z] at hmT; cases hmT
  refine wpAny_Call_Name_kw (ld_glob I hg hm ?_ hdb)
  refine PySem.W.callWith_K (h₀ := X.base) I.ok.mod.kin F.kp ?_ (by rfl) (by show (backTo pos (starEach [e2] X.env)).any (·.1) = false; rw [hs2]; rfl)
  show wpAny _ _ (spliced ((false, eval (.Lambda params body scope lpos) X.env) :: backTo pos (starEach [e2] X.env))) _ _ s
  refine Calls.spliced_cons (lam_make2 (T := xx.T) I TB hcode (by rw [xt]; exact hmT) (by rw [xt]; exact hu) S.tb hdef (L.has I.ok) fun f c' pm' ctv H1 s1 I1 eN T1 hf hfn hfr hco => ?_)
  obtain ⟨S1, m1⟩ := srel_ext S eN T1 hTn
  -- the second argument, the function object pinned
  have nfs : f ∉ X.fs := fun z => hfr (by rw [hst]; exact (List.mem_filterMap.mpr (by
    obtain ⟨e, he, q⟩ := List.mem_filterMap.mp z
    exact ⟨e, List.mem_cons_of_mem _ he, q⟩)))
  have nL : f ≠ X.env.locals := fun z => hfr (by rw [hst]; exact List.mem_filterMap.mpr ⟨X.env, List.mem_cons_self, by rw [hff, z]⟩)
  have Ip : Inv X ((f, PySem.W.kla_obj "<lambda>" (X.env.qual ++ "<lambda>") params body scope (cloFrom X.env.cells scope.names []) pm' c' ctv) :: pins) σ H1 s1 := I1.pins_of fun r hr' => by
    rcases List.mem_cons.mp hr' with z | z
    · rw [z]; exact ⟨hf, hfn, nL, nfs, fun v e => by cases e⟩
    · exact I1.pin r (List.mem_append_right _ z)
  unfold dLam2 at q
  cases h2 : fe2 (seeE env) with
  | err c p e => rw [h2] at q; exact q.elim
  | stuck => rw [h2] at q; exact q.elim
  | ok nd e' =>
    rw [h2] at q
    simp only at q
    by_cases hsn : scalD nd = true
    case neg => rw [if_neg hsn] at q; exact q.elim
    rw [if_pos hsn] at q
    have h2r := ((paImp (pa_cons ((he2.run (seeX xx H1) xt)) pa_nil hs2) fun σ H Q h => h).run pos _ s1 σ H1
      (fun vs H2 => ∃ v, vs = [v] ∧ SRel X.K xx O Z H2 σ env ∧ Sm (mns H1 Z) (mns H2 Z) ∧ Dq X.K (mns H2 Z) v nd ∧ H2 c' = some (CodeO c' (X.env.qual ++ "<lambda>"))) Ip ⟨[], [], seeE env, srel_see S1, by
        rw [h2]
        exact fun v H2 S2 _ r2 => ⟨v, rfl, (see_back S1 S2).1, (see_back S1 S2).2, scal_dq r2 hsn, S2.keep c' _ (seeX_nT hco codeO_nT) (fun z => by cases z)⟩⟩)
    refine thn h2r fun us s2 ⟨vs, H2, I2, r2, v2, ev, S2, m2, d2, hco2⟩ => ?_
    subst ev
    obtain ⟨u2, rfl, ru2⟩ := Vals.one r2
    have pf := I2.pin (f, PySem.W.kla_obj "<lambda>" (X.env.qual ++ "<lambda>") params body scope (cloFrom X.env.cells scope.names []) pm' c' ctv) (List.mem_append_right _ List.mem_cons_self)
    have I3 : Inv X pins σ H2 s2 := I2.pins_of fun r hr' => I2.pin r (List.mem_append_right _ (List.mem_cons_of_mem _ hr'))
    refine ⟨I3.kIn, ?_⟩
    show wpAny _ _ (call (.ref g) [.ref f, u2]) _ _ _
    obtain ⟨oc, od, dV, kV, doc, pm, an, cdv, ctt, osl, rfl, lk, hcd', _, _⟩ := F.ex
    have hr1 : Room (k + 1 + 1) X.A := hr
    generalize hσ0 : L2.start Ng [.ref f, v2] = σ0
    have rc : codeAny (model X.prog X.w) X.A (.call (.ref g) ⟨[.ref f, u2], []⟩) (CR (L2N.CX X.prog X.w) X.stack X.prog X.w H2 s2 Q (fun _ _ _ => False)) s2 := by
      refine run_ofS (N := Ng) (ps := [a, b]) (us := [.ref f, u2]) (vs := [.ref f, v2]) lk hcd' Sg hr1 I3.env0 (hb s2 [.ref f, u2] I3.kIn rfl) (.cons rfl (.cons ru2 .nil)) rfl fun hr' => ?_
      have g0 : G0.T = [] := by rw [hG0]
      have hl : Ng.length = (Ng.length - 2) + 2 := by
        have := congrArg List.length Sg.pre
        rw [List.length_take] at this
        have e : min ([a, b] : List Str).length Ng.length = 2 := this
        have e2 : ([a, b] : List Str).length = 2 := rfl
        omega
      have eσ : L2.start Ng [.ref f, v2] = some (.ref f) :: some v2 :: List.replicate (Ng.length - 2) none := rfl
      have S0 : SRel X.K ⟨Z, H2, [], []⟩ [] Z H2 (L2.start Ng [.ref f, v2]) (none :: some (.val nd) :: List.replicate (Ng.length - 2) none) := by rw [eσ]; exact srel_two S2 d2
      have h00 : (L2.start Ng [.ref f, v2])[0]? = some (some (.ref f)) := rfl
      have hNg0 : Ng[0]? = some a := by
        have := congrArg (fun l : List Str => l[0]?) Sg.pre
        rw [show (Ng.take ([a, b] : List Str).length)[0]? = Ng[0]? from by rw [List.getElem?_take]; rfl] at this
        exact this
      rw [hσ0] at S0 h00 ⊢
      generalize henv0 : (none :: some (.val nd) :: List.replicate (Ng.length - 2) none : En) = env0 at q S0
      have gl : Gl (cxOf (L2N.CX X.prog X.w) X.prog X.w X.K X.mg X.base Ng y sg g cdv X.A X.stack s2 H2 (fun _ _ _ => False)) x := hcx
      refine ⟨_, pss_cons (L2N.ps_try_as (X := cxOf (L2N.CX X.prog X.w) X.prog X.w X.K X.mg X.base Ng y sg g cdv X.A X.stack s2 H2 (fun _ _ _ => False)) (i := i) (c := cc) (Wout := fun _ _ _ _ => False)
          (tb := fun W' D σZ HZ => σZ = σ0 ∧ HZ = H2 ∧ tD X.K G0 (fun cls d _ H => WE W' σ0 cls d H) ⟨[], H2, [], []⟩ fbody σ H2 fun _ H' => D.nx σZ H') (ts := tX X.K G0 [] i fs)
          rfl rfl Sg.nd hNx hln ⟨gl, hdx, .inl hmx⟩ takesN0
          (fun W' pn xe tk' _ => ps_act I3 L pf.1 pf.2.1 hfr (hbind _ _ _ _ _) tk' hr' (fun A outer s H hr2 => (hbody A outer s H _ f c' hr2).run ⟨[], H2, [], []⟩ g0.symm) hNg0 hva h00 hco2 hda hcd (hsw _ _))
          (fun a' oe cls d pn hz hv => hsu cdv s2 H2 a' oe cls d pn hr' hz hv))
        ((hrest cdv s2 H2 hr').run ⟨Z, H2, [], []⟩ g0.symm rfl), rfl, rfl, [], [], seeE env, srel_see0 S2, ?_⟩
      have sq : ∀ (o1 : SOut), MI.PO X.K G W xx O Z σ (Dq X.K) H (outR (sSq (fun _ => o1) frest env0) env) Q →
          ∀ H'', Same H2 H'' → SO X.K G0 (fun _ _ _ _ => False) ⟨Z, H2, [], []⟩ H'' Z { nx := tS X.K G0 (fun _ _ _ _ => False) ⟨Z, H2, [], []⟩ frest { nx := fun _ H' => Q .non H', rt := Q }, rt := Q } o1 := fun o1 h H'' _ =>
        so_sq (f := fun _ => o1) (env := env0) (so_outR S2 (m1.trans m2) h) fun O' Z' H' σ' e S' _ q' => ⟨O', Z', e, S', q'⟩
      cases hfb : fbody (seeE env) with
      | stuck => rw [hfb] at q; exact q.elim
      | ok d1 e1 =>
        rw [hfb] at q
        intro v H' S' m' r'
        have := sq (.nx env0) q H' (full_back S')
        exact this [] Z H' σ0 (S0.grow (full_back S')) (Sm.refl _)
      | err c1 p1 e1 =>
        rw [hfb] at q
        intro dx v H' S' m' nd' hd dq
        by_cases hp1 : scalD p1 = true
        case neg =>
          have e : gTry (.err c1 p1 e1) ct i fs env0 = .stuck := by simp [gTry, hp1]
          rw [sSq_at e] at q
          exact q.elim
        by_cases hct : ct c1 = some true
        case neg =>
          have e : gTry (.err c1 p1 e1) ct i fs env0 = .stuck := by
            unfold gTry
            simp only
            rw [if_pos hp1]
          rw [sSq_at e] at q
          exact q.elim
        by_cases hil : i < env0.length
        case neg =>
          have e : gTry (.err c1 p1 e1) ct i fs env0 = .stuck := by simp [gTry, hp1, hct, hil]
          rw [sSq_at e] at q
          exact q.elim
        have e : gTry (.err c1 p1 e1) ct i fs env0 = clr i (fs c1 p1 (env0.set i none)) := by simp [gTry, hp1, hct, hil]
        rw [sSq_at e] at q
        have sm := full_back S'
        have so := sq _ q H' sm
        have S0' := S0.grow sm
        exact ⟨true, hex c1 true hct, fun _ a0 _ => ⟨⟨Z, H2, [], []⟩, c1, p1, [], Z, env0.set i none, rfl, ⟨g0.symm, rfl, ⟨dx, v, rfl, hd, scal_dq dq hp1⟩, List.getElem?_set_self (by rw [S0'.len]; exact hil), srel_hide S0' (by simp)⟩, so_clr (by simp) so⟩, fun z => by cases z⟩
    refine wpAny_call (codeAny_mono rc fun r s3 hq => ?_)
    cases r with
    | error e =>
      obtain ⟨_, _, _, _, _, _, _, _, _, _, _, _, z⟩ := hq
      exact z.elim
    | ok fl =>
      cases fl with
      | ret u => exact I3.after hq
      | next => exact False.elim hq
      | brk => exact False.elim hq
      | cont => exact False.elim hq⟩⟩
end
end MI
set_option Elab.async false
set_option linter.all false
set_option maxRecDepth 100000
set_option maxHeartbeats 4000000
/-! Mini15: list(..), the script, min of data, dict displays, defs by name -/
namespace MI
open PySem PySem.Spec PyProof.Rows L2
/-! list(x) -/
def gListC : List D → Option D := g1 fun d => match d with
  | .list ds => some (.list ds)
  | .tuple ds => some (.list ds)
  | _ => none
abbrev rListC (K : PySem.W.Frag) : List V → Hp → VK → Prop := fun xs H Q => ∃ p ys, xs = [.ref p] ∧ (SqL K H p ys ∨ SqT K H p ys) ∧ ∀ l, H l = none → Q (.ref l) (upd H l (.lst ys))
theorem rc_list {K : PySem.W.Frag} : RC K (rListC K) gListC := fun H Z vs ds z Q n dvs hz k => by
  obtain ⟨d, rfl, hd⟩ := g1_some hz
  obtain ⟨v, rfl, dv⟩ := dqs1 dvs
  cases d with
  | list es =>
    cases hd
    obtain ⟨a, us, rfl, h1, h2⟩ := dq_llst dv
    exact ⟨a, us, rfl, .inl (SqL.of (lst_up h1)), fun l hl => k _ _ (same_upd hl) (new_l (n l hl) hl h2)⟩
  | tuple es =>
    cases hd
    obtain ⟨a, us, rfl, h1, h2⟩ := dq_ltup dv
    exact ⟨a, us, rfl, .inr (sqT_up h1), fun l hl => k _ _ (same_upd hl) (new_l (n l hl) hl h2)⟩
  | none => cases hd
  | bool _ => cases hd
  | int _ => cases hd
  | str _ => cases hd
  | dict _ => cases hd
/-! the script -/
def gScr (env : En) (i : Nat) : Option (List Int) := match env[i]? with
  | some (some (.scr ns)) => some ns
  | _ => none
theorem gScr_some {env : En} {i : Nat} {ns : List Int} (h : gScr env i = some ns) : env[i]? = some (some (.scr ns)) := by
  unfold gScr at h
  split at h
  · cases h; assumption
  · cases h
def dScrLen (i : Nat) : Fe := fun env => match gScr env i with
  | some ns => .ok (.int (ns.length : Nat)) env
  | none => .stuck
def dScrIx (i : Nat) (f : Fe) : Fe := fun env => match gScr env i with
  | some ns => (f env).bnd fun d e1 => match d with
    | .int j => if gScr e1 i = some ns then outO ((atI ns j).map .int) e1 else .stuck
    | _ => .stuck
  | none => .stuck
def dScrTo (i : Nat) (m : Int) : Fe := fun env => match gScr env i with
  | some ns => .ok (.list (cutD (ns.map .int) none (some m))) env
  | none => .stuck
section
variable {X : Cx} {G : Er} {W : WX} {n : Str} {np pos p p2 kp : Pos} {b : Expr} {fb : Fe} {j : Nat}
theorem scr_of {K : PySem.W.Frag} {x : Fx} {O Z : Zs} {H : Hp} {σ : L2.St} {env : En} {i : Nat} {ns : List Int} (S : SRel K x O Z H σ env) (h : gScr env i = some ns) : ∃ a, σ[i]? = some (some (.ref a)) ∧ SqL K (mns H Z) a (ns.map V.int) := by
  obtain ⟨v, h1, a, rfl, h2⟩ := S.slot i _ (gScr_some h)
  exact ⟨a, h1, h2⟩
theorem de_scrLen (i : Nat) (hn : PE X (.Name n np) (tVar i)) (hg : Gl X "len") (hm : X.mg "len" = none) (hs : starEach [.Name n np] X.env = [(false, eval (.Name n np) X.env)] := by rfl) : DE X G W (.Call (.Name "len" p) [.Name n np] [] pos) (dScrLen i) :=
  ⟨fun x xt => peImp (pe_callB call_len hg hm boot_len (pa_cons hn pa_nil hs)) fun σ H Q ⟨O, Z, env, S, q⟩ => by
    unfold dScrLen at q
    cases hs : gScr env i with
    | none => rw [hs] at q; exact q.elim
    | some ns =>
      rw [hs] at q
      obtain ⟨a, h1, h2⟩ := scr_of S hs
      exact ⟨.ref a, h1, .ref a, ns.length, rfl, .inl ⟨_, exL mns_le h2, by rw [List.length_map]⟩, q _ H S (Sm.refl _) (.int _)⟩⟩
theorem atI_map {α β : Type} (f : α → β) (l : List α) (i : Int) : atI (l.map f) i = (atI l i).map f := by
  unfold atI
  rw [List.length_map]
  cases ixN l.length i with
  | none => rfl
  | some k => show (l.map f)[k]? = (l[k]?).map f; rw [List.getElem?_map]
theorem de_scrIx (i : Nat) (hn : PE X (.Name n np) (tVar i)) (hb : DE X G W b fb) (hs : PlainIx b) : DE X G W (.Subscript (.Name n np) b pos) (dScrIx i fb) := ⟨fun x xt => peImp (pe_ix ix_seq hn (hb.run x xt) hs) fun σ H Q ⟨O, Z, env, S, q⟩ => by
  unfold dScrIx at q
  cases hs : gScr env i with
  | none => rw [hs] at q; exact q.elim
  | some ns =>
    rw [hs] at q
    obtain ⟨a, h1, h2⟩ := scr_of S hs
    refine ⟨.ref a, h1, O, Z, env, S, PO.bnd q fun d e1 v H1 S1 m r k => ?_⟩
    cases r with
    | int j =>
      have k' : PO X.K G W x O Z σ (Dq X.K) H1 (if gScr e1 i = some ns then outO ((atI ns j).map .int) e1 else .stuck) Q := k
      by_cases hg : gScr e1 i = some ns
      · rw [if_pos hg] at k'
        cases ha : atI ns j with
        | none => rw [ha] at k'; exact k'.elim
        | some z =>
          rw [ha] at k'
          have h3 := exL mns_le (exL m h2)
          exact .inl ⟨a, _, j, .int z, rfl, rfl, h3, by rw [atI_map, ha]; rfl, k' _ H1 S1 (Sm.refl _) (.int z)⟩
      · rw [if_neg hg] at k'; exact k'.elim
    | non => exact k.elim
    | bl _ => exact k.elim
    | str _ => exact k.elim
    | lst _ _ => exact k.elim
    | tup _ _ => exact k.elim⟩
theorem de_scrTo (i : Nat) {m : Int} (hn : PE X (.Name n np) (tVar i)) : DE X G W (.Subscript (.Name n np) (.Slice none (some (.Constant (.int m) j kp)) none p2) pos) (dScrTo i m) :=
  ⟨fun x xt => peImp (pe_slice sl_list hn po_none (po_some pe_int)) fun σ H Q ⟨O, Z, env, S, q⟩ => by
    unfold dScrTo at q
    cases hs : gScr env i with
    | none => rw [hs] at q; exact q.elim
    | some ns =>
      rw [hs] at q
      obtain ⟨a, h1, h2⟩ := scr_of S hs
      refine ⟨.ref a, h1, m, rfl, a, _, rfl, exL mns_le h2, fun l hl => ?_⟩
      have d : Dqs X.K (mns H Z) (ns.map V.int) (ns.map PyData.int) := dqsInts ns
      exact po_fin q S (same_upd hl) (new_l (trkN S l hl) hl (cut_dq d none (some m)))⟩
end
/-! min of data -/
def alikeB (ds : List D) : Bool := ds.all (fun x => ds.all fun y => PySem.W.alike x y) && ds.all fun x => !isNone x
theorem alikeB_ok {ds : List D} (h : alikeB ds = true) : PySem.W.AlikeAll ds := by
  unfold alikeB at h
  simp only [Bool.and_eq_true, List.all_eq_true] at h
  refine ⟨fun x hx y hy => h.1 x hx y hy, fun x hx e => ?_⟩
  have := h.2 x hx
  rw [e] at this
  exact absurd this (by decide)
def gMinL : List D → Option D := g1 fun d => match d with
  | .list (x :: xs) => if alikeB (x :: xs) = true ∧ PyData.depthAll (x :: xs) ≤ 60 then some (PySem.W.minD x xs) else none
  | _ => none
def rMinL (K : PySem.W.Frag) : List V → Hp → VK → Prop := fun vs H Q => ∃ p us x xs, vs = [.ref p] ∧ SqL K H p us ∧ DpAll K H us (x :: xs) ∧ PySem.W.AlikeAll (x :: xs) ∧ PyData.depthAll (x :: xs) ≤ 60 ∧ ∀ (i : Nat) u, us[i]? = some u → (x :: xs)[i]? = some (PySem.W.minD x xs) → Q u H
theorem dpAll_get {K : PySem.W.Frag} {H : Hp} : ∀ {us : List V} {ds : List D} {i : Nat} {u : V}, DpAll K H us ds → us[i]? = some u → ∃ d, ds[i]? = some d ∧ Dp K H u d
  | _, _, _, _, .nil, e => by simp at e
  | _, _, 0, _, .cons h _, e => by simp at e; subst e; exact ⟨_, rfl, h⟩
  | _, _, i + 1, v, .cons _ t, e => by
    obtain ⟨d, h1, h2⟩ := dpAll_get (i := i) t (by simpa using e)
    exact ⟨d, by simpa using h1, h2⟩
theorem call_minL {X : Cx} (hc : X.calm = true) (hu : X.A.units + 65 < cLine) : CallR X (.builtin "min") (rMinL X.K) := by
  intro pins s σ H vs us Q I r h
  obtain ⟨p, ws, x, xs, rfl, hs, hd, ha, hdep, q⟩ := h
  obtain ⟨u, rfl, ru⟩ := Vals.one r
  cases ru
  obtain ⟨its, rv, pl, hz⟩ := I.list hs
  obtain ⟨as, hr⟩ := Dp.readsAll I (x :: xs) ws its hd rv
  refine PySem.W.min_list_data (I.ok.hd hc) pl.isList (by simpa using hr) ha (by omega) fun i v h' tk bs hv hb hk => ?_
  have hv' : its[i]? = some v := by simpa using hv
  have hlt := (List.getElem?_eq_some_iff.mp hv').1
  have hlt2 : i < ws.length := by rw [rv.length]; exact hlt
  obtain ⟨u2, e1, e2⟩ := rv.get (i := i) (List.getElem?_eq_getElem hlt2)
  rw [hv'] at e1
  cases e1
  obtain ⟨d, hd1, hd2⟩ := dpAll_get hd (List.getElem?_eq_getElem hlt2)
  obtain ⟨cs, hr2⟩ := Dp.reads I d _ _ hd2 e2
  have e := (reads_det (fun b o e _ => hk b o e) hr2 hb).1
  exact ⟨ws[i], H, I.kept hk, e2, q i _ (List.getElem?_eq_getElem hlt2) (by rw [hd1, e])⟩
theorem rc_minL {K : PySem.W.Frag} : RC K (rMinL K) gMinL := fun H Z vs ds z Q n dvs hz k => by
  obtain ⟨d, rfl, hd⟩ := g1_some hz
  obtain ⟨v, rfl, dv⟩ := dqs1 dvs
  cases d with
  | list es =>
    cases es with
    | nil => cases hd
    | cons x xs =>
      have hd' : (if alikeB (x :: xs) = true ∧ PyData.depthAll (x :: xs) ≤ 60 then some (PySem.W.minD x xs) else none) = some z := hd
      split at hd'
      · rename_i hc
        cases hd'
        obtain ⟨a, us, rfl, h1, h2⟩ := dq_llst dv
        refine ⟨a, us, x, xs, rfl, SqL.of (lst_up h1), dpsM mns_le (Dqs.dp h2), alikeB_ok hc.1, hc.2, fun i u h3 h4 => k _ H (Same.refl H) ?_⟩
        obtain ⟨d2, e1, e2⟩ := dqsGetV h2 h3
        rw [h4] at e1
        cases e1
        exact e2
      · cases hd'
  | tuple es => cases hd
  | none => cases hd
  | bool _ => cases hd
  | int _ => cases hd
  | str _ => cases hd
  | dict _ => cases hd
/-! dict displays: keys that are texts -/
def dispGo : List (Str × Fe) → En → Out (List (Key × D))
  | [], env => .ok [] env
  | (k, f) :: r, env => (f env).bns fun d e1 => (dispGo r e1).bns fun kvs e2 => .ok ((.inr k, d) :: kvs) e2
def mergeD (kvs more : List (Key × D)) : List (Key × D) := more.foldl (fun acc kv => putD acc kv.1 kv.2) kvs
def fDisp (kfs : List (Str × Fe)) : En → Out SV := fun env => (dispGo kfs env).bns fun kvs e => if kvs.length ≤ 15 then .ok (.dct (mergeD [] kvs)) e else .stuck
theorem kd_merge {K : PySem.W.Frag} {H : Hp} : ∀ {more : List (Key × V)} {md : List (Key × D)} {kvs : List (Key × V)} {kd : List (Key × D)}, KD K H more md → KD K H kvs kd → KD K H (mergeK kvs more) (mergeD kd md) := by
  intro more md kvs kd h
  unfold KD at h
  induction h generalizing kvs kd with
  | nil => intro q; exact q
  | @cons p q ps qs hp _ ih =>
    intro r
    have e : KD K H (putK kvs p.1 p.2) (putD kd q.1 q.2) := by rw [← hp.1]; exact kd_put r hp.2
    exact ih e
section
variable {X : Cx} {G : Er} {W : WX} {pos : Pos}
structure DPs (X : Cx) (G : Er) (pos : Pos) (keys : List (Option Expr)) (values : List Expr) (kfs : List (Str × Fe)) : Prop where
  run : PPs X pos keys values (kfs.map fun kf => (tC (.str kf.1), fun σ H Q => ∃ x : Fx, x.T = G.T ∧ tD X.K G W0 x kf.2 σ H Q))
theorem dps_nil : DPs X G pos [] [] [] := ⟨pps_nil⟩
theorem dps_cons {k : Str} {j : Nat} {kp : Pos} {v : Expr} {f : Fe} {ks : List (Option Expr)} {vs : List Expr} {kfs : List (Str × Fe)} (hv : DE X G W0 v f) (hr : DPs X G pos ks vs kfs) : DPs X G pos (some (.Constant (.str k) j kp) :: ks) (v :: vs) ((k, f) :: kfs) := ⟨pps_cons pe_str hv.any hr.run⟩
theorem pairs_go {K : PySem.W.Frag} {x : Fx} (xt : x.T = G.T) {O Z : Zs} {σ : L2.St} {p : Addr} (pO : p ∉ O) (h0 : x.H0 p = none) : ∀ (kfs : List (Str × Fe)) (H : Hp) (env : En) (kvs : List (Key × D)) (e' : En) (Q : List (V × V) → Hp → Prop), SRel K x O Z H σ env → H p = some (.dK []) → dispGo kfs env = .ok kvs e' →
    (∀ us H', SRel K x O Z H' σ e' → Sm (mns H Z) (mns H' Z) → H' p = some (.dK []) → KD K (mns H' Z) us kvs → Q (us.map fun kv => (kV kv.1, kv.2)) H') →
    tPairs (kfs.map fun kf => (tC (.str kf.1), fun σ H Q => ∃ x : Fx, x.T = G.T ∧ tD K G W0 x kf.2 σ H Q)) σ H Q
  | [], H, env, kvs, e', Q, S, hp, hk, q => by
    cases hk
    exact q [] H S (Sm.refl _) hp .nil
  | (k, f) :: r, H, env, kvs, e', Q, S, hp, hk, q => by
    unfold dispGo at hk
    cases hf : f env with
    | err c p e => rw [hf] at hk; cases hk
    | stuck => rw [hf] at hk; cases hk
    | ok d e1 =>
      rw [hf] at hk
      have hk' : (dispGo r e1).bns (fun kvs e2 => .ok ((.inr k, d) :: kvs) e2) = Out.ok kvs e' := hk
      cases hr : dispGo r e1 with
      | err c p e => rw [hr] at hk'; cases hk'
      | stuck => rw [hr] at hk'; cases hk'
      | ok kvs2 e2 =>
        rw [hr] at hk'
        cases hk'
        refine ⟨x.put p (.dK []), xt, O, Z, env, srel_in S pO hp nT_dK, ?_⟩
        show PO K G W0 (x.put p (.dK [])) O Z σ (Dq K) H (f env) _
        rw [hf]
        intro v H1 S1 m1 r1
        obtain ⟨S1', hp1⟩ := srel_out S1 pO h0
        refine pairs_go xt pO h0 r H1 e1 kvs2 _ _ S1' hp1 hr fun us H2 S2 m2 hp2 kd => ?_
        exact q ((.inr k, v) :: us) H2 S2 (m1.trans m2) hp2 (.cons ⟨rfl, dqM m2 r1⟩ kd)
theorem df_disp {keys : List (Option Expr)} {values : List Expr} {kfs : List (Str × Fe)} (h : DPs X G pos keys values kfs) (hall : keys.all (·.isSome) = true) (hl : keys.length = values.length) (h0 : keys ≠ []) (h15 : keys.length ≤ 15) : DF X G W (.Dict keys values pos) (fDisp kfs) :=
  ⟨fun x xt => peImp (pe_disp h.run hall hl h0 h15) fun σ H Q ⟨O, Z, env, S, q⟩ => by
    intro p hp
    unfold fDisp at q
    cases hk : dispGo kfs env with
    | err c p e => rw [hk] at q; exact q.elim
    | stuck => rw [hk] at q; exact q.elim
    | ok kvs e' =>
      rw [hk] at q
      have q' : POF X.K G W x O Z σ H (if kvs.length ≤ 15 then .ok (.dct (mergeD [] kvs)) e' else .stuck) Q := q
      split at q'
      · rename_i hle
        have pZ := trkN S p hp
        have pO : p ∉ O := fun z => pZ (S.osub p z)
        refine pairs_go xt pO (h0_none S hp) kfs _ env kvs e' _ (S.lay (o := .dK []) hp nT_dK) upd_same hk fun us H' S' m hp' kd => ⟨hp', us, rfl, by rw [kd_len kd]; exact hle, ?_⟩
        have um : Sm (mns H' (p :: Z)) (mns (upd H' p (.dK (mergeK [] us))) (p :: Z)) := upd_same_m List.mem_cons_self
        have S2 : SRel X.K x O (p :: Z) (upd H' p (.dK (mergeK [] us))) σ e' := srel_updK S' List.mem_cons_self pO (h0_none S hp) hp' nT_dK
        exact q'.2 p _ (h0_none S hp) pZ S2 (((lay_same hp).trans m).trans um) ⟨p, _, rfl, upd_same, kd_merge (KD.mono um kd) .nil⟩
      · exact q'.elim⟩
end
/-! defs by name -/
structure HasF (P : Program) (w : World) (K : PySem.W.Frag) (mg : Str → Option Value) (base : Heap) (G : Er) (k : Nat) (x : Str) (ps : List Str) (mp : List Nat) (F : Fn) : Prop where
  ex : ∃ f fd, mg x = some (.ref f) ∧ PySem.W.keepIn K (.ref f) = true ∧ Binds K fd ps [] ∧ FnOk P w K mg base (L2N.CX P w) k f fd ps (spF K G F ps.length mp)
theorem HasF.up {P : Program} {w : World} {K : PySem.W.Frag} {mg : Str → Option Value} {base : Heap} {G : Er} {j k : Nat} {x : Str} {ps : List Str} {mp : List Nat} {F : Fn} (h : HasF P w K mg base G j x ps mp F) (hj : j ≤ k) : HasF P w K mg base G k x ps mp F := by
  obtain ⟨f, fd, h1, h2, h3, h4⟩ := h.ex
  exact ⟨f, fd, h1, h2, h3, h4.mono hj⟩
section
variable {X : Cx} {G G0 : Er} {W : WX} {k n : Nat} {ps : List Str} {F : Fn} {mp : List Nat} {y : Str} {p pos : Pos} {e : Expr} {es : List Expr} {fa : En → Out (List AR)}
theorem deF (h : HasF X.prog X.w X.K X.mg X.base G k y ps mp F) (hr : Room k X.A) (tk : L2N.Takes X W) (ha : DM X G W (e :: es) fa) (hg : Gl X y := by rfl) (hdb : (y == ("__debug__" : Str)) = false := by decide) (he : starEach (e :: es) X.env = (false, eval e X.env) :: starEach es X.env := by rfl) (hpl : (backTo pos (starEach es X.env)).any (·.1) = false := by rfl) (hn : ps.length = n := by rfl) :
    DE X G W (.Call (.Name y p) (e :: es) [] pos) (dCall F mp n fa) := by
  subst hn
  obtain ⟨f, fd, h1, h2, h3, h4⟩ := h.ex
  exact de_call h4 hr hg h1 h2 h3 (fun σ => L2N.passAt tk σ) ha hdb he hpl
theorem dfF (h : HasF X.prog X.w X.K X.mg X.base G k y ps mp F) (hr : Room k X.A) (tk : L2N.Takes X W) (ha : DM X G W (e :: es) fa) (hg : Gl X y := by rfl) (hdb : (y == ("__debug__" : Str)) = false := by decide) (he : starEach (e :: es) X.env = (false, eval e X.env) :: starEach es X.env := by rfl) (hpl : (backTo pos (starEach es X.env)).any (·.1) = false := by rfl) (hn : ps.length = n := by rfl) :
    DF X G W (.Call (.Name y p) (e :: es) [] pos) (fCall F mp n fa) := by
  subst hn
  obtain ⟨f, fd, h1, h2, h3, h4⟩ := h.ex
  exact df_call h4 hr hg h1 h2 h3 (fun σ => L2N.passAt tk σ) ha hdb he hpl
end
end MI
set_option Elab.async false
set_option linter.all false
set_option maxRecDepth 100000
set_option maxHeartbeats 4000000
/-! Mini16: [::-1]; keywords -/
namespace MI
open PySem PySem.Spec PyProof.Rows L2
open HT
theorem rev_adjust (n : Nat) : Builtin.Slice.sliceAdjust none none (-1) (n : Int) = ((n : Int) - 1, -1) := by
  unfold Builtin.Slice.sliceAdjust
  simp
theorem rev_places (n : Nat) : Builtin.Slice.slicePlaces ((n : Int) - 1) (-1) (-1) = n := by
  unfold Builtin.Slice.slicePlaces
  have h1 : ¬ ((-1 : Int) > 0) := by omega
  rw [if_neg h1]
  by_cases h : (n : Int) - 1 > -1
  · rw [if_pos h]
    have e : ((n : Int) - 1 - -1 - 1) / (- -1) + 1 = (n : Int) := by
      rw [show (- -1 : Int) = 1 by decide, Int.ediv_one]
      omega
    rw [e, Int.toNat_natCast]
  · rw [if_neg h]
    have : n = 0 := by omega
    subst this
    rfl
theorem rev_pick (xs : Array Value) : ((List.range xs.size).filterMap fun (k : Nat) => xs[(((xs.size : Int) - 1) + (k : Int) * (-1)).toNat]?).toArray = xs.toList.reverse.toArray := by
  congr 1
  have e : (fun (k : Nat) => xs[(((xs.size : Int) - 1) + (k : Int) * (-1)).toNat]?) = fun k => xs[xs.size - 1 - k]? := by
    funext k
    have : (((xs.size : Int) - 1) + (k : Int) * (-1)).toNat = xs.size - 1 - k := by omega
    rw [this]
  rw [e]
  have h := PySem.W.krv_all xs
  have h2 := PySem.W.krv_range xs.size
  have : (List.range xs.size).filterMap (fun k => xs[xs.size - 1 - k]?) = ((List.range xs.size).map fun k => xs.size - 1 - k).filterMap (xs[·]?) := by
    rw [List.filterMap_map]; rfl
  rw [this, h2, List.filterMap_reverse, h]
section
variable {prog : Program} {w : World} {A : Around} {E : Value → Shared → Prop} {s : Shared}
theorem getItem_tuple_rev {t sl : Addr} {items : Array Value} {vl vu vs : Value} {Q : Value → Shared → Prop} (ht : IsTup s.heap t items) (hs : s.heap.IsSliceOf sl vl vu vs) (pl : IsPart vl none) (pu : IsPart vu none) (ps : IsPart vs (some (-1)))
    (h : Q (.ref s.heap.objs.size) { s with heap := s.heap.push { cls := .type "tuple", data := .seq items.toList.reverse.toArray } }) (hsz : items.size ≤ sizeLine) : wpAny (model prog w) A (getItem (.ref t) (.ref sl)) Q E s := by
  have htake : sizeOk (.seq items.toList.reverse.toArray) := by
    show items.toList.reverse.toArray.size ≤ sizeLine
    rw [List.size_toArray, List.length_reverse, Array.length_toList]
    exact hsz
  obtain ⟨os, hos, hcs, hds⟩ := id hs
  have hTs : s.TypeIs (.ref sl) "slice" := ⟨os, hos, hcs⟩
  unfold getItem
  try with_reducible refine wpAny_holding ?_
  first | refine wpAny_bind (wpAny_pure ?_) | skip
  refine wpAny_bind (wpAny_sequenceKey ht.typeIs (by decide) ?_)
  refine wpAny_bind (wpAny_callSpecial?_slot (name := Str.ofString "__getitem__") ht.typeIs PyProof.Rows.slot_tuple_getitem
    (wpAny_call_entry PyProof.Rows.slot_tuple_getitem ht.typeIs entry_tuple_getitem ?_ (args_tuple_getitem _ _)))
  show wpAny _ _ (Builtin.Tuple.tupleItemsOf (.ref t) >>= _) _ _ s
  refine wpAny_bind (tupleItemsOf_ ht ?_)
  refine wpAny_bind (wpAny_typeOf hTs ?_)
  rw [if_pos (by decide)]
  have app : ∀ {Q' : Int × Int × Nat → Shared → Prop}, Q' ((items.size : Int) - 1, -1, items.size) s → wpAny (model prog w) A.in1 (Builtin.Slice.sliceApplied (.ref sl) (pure (items.size : Int))) Q' E s := fun {Q'} hq => by
    unfold Builtin.Slice.sliceApplied Builtin.Slice.sliceFields
    refine wpAny_bind (wpAny_bind (wpAny_field hos hds (x := vl) rfl (wpAny_bind (wpAny_field hos hds (x := vu) rfl (wpAny_bind (wpAny_field hos hds (x := vs) rfl (wpAny_pure ?_)))))))
    refine wpAny_bind (slicePart_ ps ?_)
    show wpAny _ _ (if ((-1 : Int) == 0) = true then _ else _) _ _ s
    rw [if_neg (by decide)]
    refine wpAny_bind (slicePart_ pl (wpAny_bind (slicePart_ pu (wpAny_bind (wpAny_pure ?_)))))
    show wpAny _ _ (match Builtin.Slice.sliceAdjust none none (-1) (items.size : Int) with | (lo, hi) => pure (lo, (-1 : Int), Builtin.Slice.slicePlaces lo hi (-1))) _ _ s
    rw [rev_adjust]
    show wpAny _ _ (pure ((items.size : Int) - 1, (-1 : Int), Builtin.Slice.slicePlaces ((items.size : Int) - 1) (-1) (-1))) _ _ s
    rw [rev_places]
    exact wpAny_pure hq
  refine wpAny_bind (app ?_)
  have hno : ¬ (((items.size : Int) - 1 == 0 && (-1 : Int) == 1 && items.size == items.size) = true) := by simp
  show wpAny _ _ (if ((items.size : Int) - 1 == 0 && (-1 : Int) == 1 && items.size == items.size) = true then _ else _) _ _ s
  rw [if_neg hno, rev_pick]
  first
    | exact wpAny_bind (m := Builtin.Tuple.tupleExact _) (wpAny_newObj_type (wpAny_pure ⟨_, rfl, wpAny_pure h⟩) htake)
    | exact wpAny_bind (m := Builtin.Tuple.tupleExact _) (wpAny_newObj_type (wpAny_bind (wpAny_pure (wpAny_pure ⟨_, rfl, wpAny_pure h⟩))) htake)
    | exact wpAny_bind (wpAny_bind (m := Builtin.Tuple.tupleExact _) (wpAny_newObj_type (wpAny_pure (wpAny_pure ⟨_, rfl, wpAny_pure h⟩)) htake))
    | exact wpAny_bind (wpAny_bind (m := Builtin.Tuple.tupleExact _) (wpAny_newObj_type (wpAny_pure ⟨_, rfl, wpAny_pure h⟩) htake))
end
def revStr (z : Str) : Str := ⟨z.cps.toList.reverse.toArray⟩
theorem str_rev (z : Str) : ((Builtin.Str.strSliceIndices none none (-1) z.length).filterMap (z.cps[·]?)).toArray = z.cps.toList.reverse.toArray := by
  congr 1
  have e : Builtin.Str.strSliceIndices none none (-1) z.length = (List.range z.cps.size).reverse := by
    unfold Builtin.Str.strSliceIndices
    have h1 : ¬ ((-1 : Int) > 0) := by omega
    simp only [if_neg h1]
    show sliceRange ((z.cps.size : Int) - 1) (-1) (-1) = _
    rw [PySem.W.krv_sliceRange, PySem.W.krv_range]
  rw [e, List.filterMap_reverse]
  congr 1
  apply List.ext_getElem?
  intro i
  have key : ∀ (xs : Array Nat), (List.range xs.size).filterMap (xs[·]?) = xs.toList := by
    intro xs
    have h2 : ∀ n, n ≤ xs.size → (List.range n).filterMap (xs[·]?) = xs.toList.take n := by
      intro n
      induction n with
      | zero => intro _; rfl
      | succ n ih =>
        intro hn
        have hlt : n < xs.size := hn
        rw [List.range_succ, List.filterMap_append, ih (Nat.le_of_lt hlt), List.take_succ]
        rw [Array.getElem?_toList, Array.getElem?_eq_getElem hlt]
        rw [List.filterMap_cons_some (Array.getElem?_eq_getElem hlt)]; rfl
    rw [h2 xs.size (Nat.le_refl _), ← Array.length_toList, List.take_length]
  rw [key]
def gRev : D → Option D
  | .str z => if small z.length = true then some (.str (revStr z)) else none
  | .list ds => some (.list ds.reverse)
  | .tuple ds => some (.tuple ds.reverse)
  | _ => none
def dRevS (f : Fe) : Fe := fun env => (f env).bnd fun d e1 => outO (gRev d) e1
section
variable {X : Cx} {G : Er} {W : WX} {e : Expr} {fe : Fe} {k : Nat} {p1 p2 p3 pos : Pos}
def tRevD (K : PySem.W.Frag) (te : TE) : TE := fun σ H Q => te σ H fun x H1 => (∃ z, x = .str z ∧ z.length ≤ sizeLine ∧ Q (.str (revStr z)) H1) ∨ (∃ a xs, x = .ref a ∧ SqL K H1 a xs ∧ ∀ p, H1 p = none → Q (.ref p) (upd H1 p (.lst xs.reverse))) ∨ ∃ a xs, x = .ref a ∧ SqT K H1 a xs ∧ ∀ p, H1 p = none → Q (.ref p) (upd H1 p (.tup xs.reverse))
theorem pe_revD {te : TE} (he : PE X e te) : PE X (.Subscript e (.Slice none none (some (.UnaryOp .USub (.Constant (.int 1) k p1) p2)) p3) pos) (tRevD X.K te) := by
  refine ⟨fun pins s σ H Q I h => ?_⟩
  refine Subscript_ (thn (he.run pins s σ H _ I h) fun v s1 ⟨x, H1, I1, r1, q1⟩ => ?_)
  have hst : L2.PO X (some (.UnaryOp .USub (.Constant (.int 1) k p1) p2)) (tPart (tUn (rU fun i => .int (-i)) (tC (.int 1)))) := po_some (pe_un un_neg pe_int)
  refine wpAny_Slice (thn (po_none.run pins s1 σ H1 (fun o H2 => o = none ∧ H2 = H1) I1 ⟨rfl, rfl⟩) fun vl s2 ⟨l, H2, I2, pl, el, e2⟩ => ?_)
  subst el e2
  refine thn (po_none.run pins s2 σ H2 (fun o H3 => o = none ∧ H3 = H2) I2 ⟨rfl, rfl⟩) fun vu s3 ⟨u, H3, I3, pu, eu, e3⟩ => ?_
  subst eu e3
  refine thn (hst.run pins s3 σ H3 (fun o H4 => o = some (-1) ∧ H4 = H3) I3 ⟨1, rfl, -1, rfl, rfl, rfl⟩) fun vs s4 ⟨o, H4, I4, ps, eo, e4⟩ => ?_
  subst eo e4
  have I5 : Inv X pins σ H4 { s4 with heap := s4.heap.push { cls := .type "slice", data := .fields #[vl, vu, vs] } } := I4.kept (t' := s4.toks) fun b ob q => Heap.get?_push_of_some _ q
  rcases q1 with ⟨z, rfl, hz, q⟩ | ⟨a, xs, rfl, hx, q⟩ | ⟨a, xs, rfl, hx, q⟩
  · obtain ⟨t, rfl⟩ := r1
    show wpAny (model X.prog X.w) X.A (subscriptTail e (.Slice none none (some (.UnaryOp .USub (.Constant (.int 1) k p1) p2)) p3) (.str z t) (.ref s4.heap.objs.size)) (EP X pins σ Q) X.xe { s4 with heap := s4.heap.push { cls := .type "slice", data := .fields #[vl, vu, vs] } }
    refine tail_any (ops := [.str z t, .ref s4.heap.objs.size]) (typeIs_str _ _ _) PySem.F.slot_str_getitem.lookup ?_ (by with_unfolding_all rfl)
    obtain ⟨l, rfl, el⟩ := IsPart.raw pl
    obtain ⟨u, rfl, eu⟩ := IsPart.raw pu
    obtain ⟨st, rfl, es⟩ := IsPart.raw ps
    refine wpAny_getItem_str_slice (l := l) (u := u) (st := st) ⟨_, Heap.get?_push_size _ rfl, rfl, rfl⟩ (by rw [es]; rfl) ?_
    show Made.post (if ((st.map (·.1)).getD 1 == 1 && (Builtin.Str.strSliceIndices (l.map (·.1)) (u.map (·.1)) ((st.map (·.1)).getD 1) z.length).length == z.length) = true then Made.val (.str z t)
      else Made.str ⟨((Builtin.Str.strSliceIndices (l.map (·.1)) (u.map (·.1)) ((st.map (·.1)).getD 1) z.length).filterMap (z.cps[·]?)).toArray⟩) (EP X pins σ Q) _
    rw [es, el, eu]
    show Made.post (if ((-1 : Int) == 1 && (Builtin.Str.strSliceIndices none none (-1) z.length).length == z.length) = true then Made.val (.str z t)
      else Made.str ⟨((Builtin.Str.strSliceIndices none none (-1) z.length).filterMap (z.cps[·]?)).toArray⟩) (EP X pins σ Q) _
    rw [if_neg (by simp), str_rev]
    refine ⟨?_, .str _, H4, I5.tok _, ⟨_, rfl⟩, q⟩
    show z.cps.toList.reverse.toArray.size ≤ sizeLine
    rw [List.size_toArray, List.length_reverse, Array.length_toList]
    exact hz
  · cases r1
    obtain ⟨its, r, ht, hz⟩ := I5.list hx
    have hlen := r.length
    show wpAny (model X.prog X.w) X.A (subscriptTail e (.Slice none none (some (.UnaryOp .USub (.Constant (.int 1) k p1) p2)) p3) (.ref a) (.ref s4.heap.objs.size)) (EP X pins σ Q) X.xe { s4 with heap := s4.heap.push { cls := .type "slice", data := .fields #[vl, vu, vs] } }
    refine tail_any (ops := [.ref a, .ref s4.heap.objs.size]) ht.isList.typeIs (PySem.slot_list_getitem.lookup) ?_ (by with_unfolding_all rfl)
    refine wpAny_getItem_list_slice ht.isList (Heap.IsSliceOf.new _ vl vu vs) pl pu ps (by decide) ?_ (by rw [List.size_toArray]; omega)
    rw [PySem.W.krv_pick]
    refine ⟨.ref _, _, I5.laid (t' := s4.toks) (o := .lst xs.reverse) (fun b ob q => Heap.get?_push_of_some _ q) (Nat.le_refl _) ?_, rfl, q _ (I5.hok.fresh (Nat.le_refl _))⟩
    exact ⟨by rw [List.length_reverse]; exact hz, _, 0, r.reverse, Heap.get?_push_size _ rfl⟩
  · cases r1
    obtain ⟨its, r, ht, hz⟩ := I5.tuple hx
    have hlen := r.length
    show wpAny (model X.prog X.w) X.A (subscriptTail e (.Slice none none (some (.UnaryOp .USub (.Constant (.int 1) k p1) p2)) p3) (.ref a) (.ref s4.heap.objs.size)) (EP X pins σ Q) X.xe { s4 with heap := s4.heap.push { cls := .type "slice", data := .fields #[vl, vu, vs] } }
    refine tail_any (ops := [.ref a, .ref s4.heap.objs.size]) ht.typeIs (PyProof.Rows.slot_tuple_getitem.lookup) ?_ (by with_unfolding_all rfl)
    refine getItem_tuple_rev ht (Heap.IsSliceOf.new _ vl vu vs) pl pu ps ?_ (by rw [List.size_toArray]; omega)
    refine ⟨.ref _, _, I5.laid (t' := s4.toks) (o := .tup xs.reverse) (fun b ob q => Heap.get?_push_of_some _ q) (Nat.le_refl _) ?_, rfl, q _ (I5.hok.fresh (Nat.le_refl _))⟩
    exact ⟨by rw [List.length_reverse]; exact hz, its.reverse, r.reverse, IsTup.new _ _⟩
theorem de_revS (h : DE X G W e fe) : DE X G W (.Subscript e (.Slice none none (some (.UnaryOp .USub (.Constant (.int 1) k p1) p2)) p3) pos) (dRevS fe) := ⟨fun x xt => peImp (pe_revD (h.run x xt)) fun σ H Q ⟨O, Z, env, S, q⟩ => ⟨O, Z, env, S, PO.bnd q fun d e1 v H1 S1 m r kk => by
  cases hd : gRev d with
  | none => rw [hd] at kk; exact kk.elim
  | some z =>
    rw [hd] at kk
    cases d with
    | str y =>
      unfold gRev at hd
      dsimp only at hd
      split at hd
      · rename_i hs
        cases hd
        exact .inl ⟨y, dq_str r, small_ok hs, po_fin kk S1 (Same.refl _) (.str _)⟩
      · cases hd
    | list ds =>
      cases hd
      obtain ⟨a, us, rfl, h1, h2⟩ := dq_llst r
      exact .inr (.inl ⟨a, us, rfl, SqL.of (lst_up h1), fun p hp => po_fin kk S1 (same_upd hp) (new_l (trkN S1 p hp) hp (dqsRev h2))⟩)
    | tuple ds =>
      cases hd
      obtain ⟨a, us, rfl, h1, h2⟩ := dq_ltup r
      exact .inr (.inr ⟨a, us, rfl, sqT_up h1, fun p hp => po_fin kk S1 (same_upd hp) (new_t (trkN S1 p hp) hp (dqsRev h2))⟩)
    | none => cases hd
    | bool _ => cases hd
    | int _ => cases hd
    | dict _ => cases hd⟩⟩
end
def dNone : En → Out (Option Int) := fun env => .ok none env
/-! defs called by keywords -/
structure HasK (P : Program) (w : World) (K : PySem.W.Frag) (mg : Str → Option Value) (base : Heap) (G : Er) (k : Nat) (x : Str) (ps : List Str) (mp : List Nat) (F : Fn) (ks : List Str) (π : List Nat) : Prop where
  ex : ∃ f fd, mg x = some (.ref f) ∧ PySem.W.keepIn K (.ref f) = true ∧ (∀ (s : Shared) (ws : List Value), K.In s.heap → ws.length = ks.length → BindsTo s fd ⟨[], ks.zip ws⟩ (ps.zip (pick π ws))) ∧ FnOk P w K mg base (L2N.CX P w) k f fd ps (spF K G F ps.length mp)
theorem HasK.up {P : Program} {w : World} {K : PySem.W.Frag} {mg : Str → Option Value} {base : Heap} {G : Er} {j k : Nat} {x : Str} {ps ks : List Str} {mp π : List Nat} {F : Fn} (h : HasK P w K mg base G j x ps mp F ks π) (hj : j ≤ k) : HasK P w K mg base G k x ps mp F ks π := by
  obtain ⟨f, fd, h1, h2, h3, h4⟩ := h.ex
  exact ⟨f, fd, h1, h2, h3, h4.mono hj⟩
section
variable {X : Cx} {G : Er} {W : WX} {k n : Nat} {ps ks : List Str} {F : Fn} {mp π : List Nat} {y : Str} {p pos : Pos} {kws : List Keyword} {fa : En → Out (List AR)}
theorem deFK (h : HasK X.prog X.w X.K X.mg X.base G k y ps mp F ks π) (hr : Room k X.A) (tk : L2N.Takes X W) (ha : DK X G W kws fa) (hg : Gl X y := by rfl)
    (hall : (backToKw pos (keywordEach kws X.env)).all (·.1.isSome) = true := by rfl) (hks : (backToKw pos (keywordEach kws X.env)).filterMap (·.1) = ks := by rfl) (hdb : (y == ("__debug__" : Str)) = false := by decide)
    (hpl : ((backTo pos (starEach [] X.env)).any (·.1) || (backToKw pos (keywordEach kws X.env)).any (·.1.isNone)) = false := by rfl) {m : Nat} (hn : ps.length = n := by rfl) (hmm : ks.length = m := by rfl) :
    DE X G W (.Call (.Name y p) [] kws pos) (dCallK F mp n π m fa) := by
  subst hn hmm
  obtain ⟨f, fd, h1, h2, h3, h4⟩ := h.ex
  exact de_callK h4 hr hg h1 h2 h3 (fun σ => L2N.passAt tk σ) ha hall hks hdb hpl
end
end MI
set_option Elab.async false
set_option linter.all false
set_option maxRecDepth 100000
set_option maxHeartbeats 4000000
/-! MiniS: a set of tuples whose parts are keys of one kind (texts), its size -/
namespace MI
open PySem PySem.Spec PyProof.Rows L2
section
variable {P : Program} {w : World} {κ : Type} [DecidableEq κ]
/-- what a search asks of the parts -/
structure Still (kk : KeyKind P w κ) : Prop where
  cs : ∀ (n : Nat) (k : κ) (v : Value), kk.is k v = true → ofAClassStatement n v = pure false
  hv : ∀ (n : Nat) (k : κ) (v : Value), kk.is k v = true → ∃ b : Bool, hashByValue n v = pure b
theorem still_str : Still (strKind P w) := ⟨fun n k v h => by obtain ⟨t, rfl⟩ := Value.isStrOf_shape h; cases n <;> rfl, fun n k v h => by obtain ⟨t, rfl⟩ := Value.isStrOf_shape h; exact ⟨false, by cases n <;> rfl⟩⟩
abbrev hT (kk : KeyKind P w κ) (k : List κ) : Int := tupleKeyHash kk k
variable {kk : KeyKind P w κ} {A : Around} {E : Value → Shared → Prop} {s : Shared}
theorem parts_is {k : List κ} {vs : List Value} (h : PySem.ItemsAre kk k vs) : ∀ v ∈ vs, ∃ x, kk.is x v = true := by
  induction h with
  | nil => intro v hv; cases hv
  | @cons x v ks vs h1 _ ih =>
    intro u hu
    rcases List.mem_cons.mp hu with e | hu
    · exact ⟨x, by rw [e]; exact h1⟩
    · exact ih u hu
theorem class_tup (c : Still kk) {k : List κ} {b : Addr} {Q : Bool → Shared → Prop} (hk : IsTupleKey kk s.heap k b) (q : Q false s) : wpAny (model P w) A (ofAClassStatement 8 (.ref b)) Q E s := by
  have ht := hk.typeIs
  obtain ⟨o, items, n, ho, _, hd, hi⟩ := hk
  unfold ofAClassStatement
  refine wpAny_bind (wpAny_typeOf ht ?_)
  dsimp only
  have e : (("tuple" : String) == "tuple") = true := by decide
  simp only [e, if_true]
  refine wpAny_bind (wpAny_pure ?_)
  simp only [Bool.not_true, Bool.false_eq_true, if_false]
  show wpAny _ _ (seqItems? (.ref b) >>= _) _ _ s
  refine wpAny_bind (wpAny_seqItems ho hd ?_)
  dsimp only
  refine wpAny_bind ?_
  show wpAny _ _ (forIn items _ _) _ _ s
  rw [← Array.forIn_toList]
  refine wpAny_forIn_list _ (fun l r s' => r.1 = none ∧ s' = s ∧ ∀ v ∈ l, ∃ x, kk.is x v = true) _ (fun v l r s' ⟨h1, h2, h3⟩ => ?_) (fun r s' ⟨h1, h2, _⟩ => ?_) _ _ ⟨rfl, rfl, parts_is hi⟩
  · subst h2
    obtain ⟨x, hx⟩ := h3 v List.mem_cons_self
    rw [c.cs 7 x v hx]
    refine wpAny_bind (wpAny_pure ?_)
    simp only [Bool.false_eq_true, if_false]
    exact wpAny_pure ⟨rfl, rfl, fun u hu => h3 u (List.mem_cons_of_mem _ hu)⟩
  · obtain ⟨r1, r2⟩ := r
    subst h2
    simp only at h1
    subst h1
    exact wpAny_pure q
theorem hv_tup (c : Still kk) {k : List κ} {b : Addr} {Q : Bool → Shared → Prop} (hk : IsTupleKey kk s.heap k b) (q : ∀ v, Q v s) : wpAny (model P w) A (hashByValue 8 (.ref b)) Q E s := by
  have ht := hk.typeIs
  obtain ⟨o, items, n, ho, _, hd, hi⟩ := hk
  unfold hashByValue
  refine wpAny_bind (wpAny_specialOf ht F.slot_tuple_hash.lookup ?_)
  show wpAny _ _ (seqItems? (.ref b) >>= _) _ _ s
  refine wpAny_bind (wpAny_seqItems ho hd ?_)
  refine wpAny_bind ?_
  show wpAny _ _ (forIn items _ _) _ _ s
  rw [← Array.forIn_toList]
  refine wpAny_forIn_list _ (fun l r s' => r.1 = none ∧ s' = s ∧ ∀ v ∈ l, ∃ x, kk.is x v = true) _ (fun v l r s' ⟨h1, h2, h3⟩ => ?_) (fun r s' ⟨h1, h2, _⟩ => ?_) _ _ ⟨rfl, rfl, parts_is hi⟩
  · subst h2
    obtain ⟨x, hx⟩ := h3 v List.mem_cons_self
    obtain ⟨y, hy⟩ := c.hv 7 x v hx
    rw [hy]
    refine wpAny_bind (wpAny_pure ?_)
    cases y with
    | true =>
      simp only [Bool.not_true, Bool.false_eq_true, if_false]
      exact wpAny_pure ⟨rfl, rfl, fun u hu => h3 u (List.mem_cons_of_mem _ hu)⟩
    | false =>
      simp only [Bool.not_false, if_true]
      exact wpAny_pure (wpAny_pure (q false))
  · obtain ⟨r1, r2⟩ := r
    subst h2
    simp only at h1
    subst h1
    exact wpAny_pure (q true)
/-- a search shows nothing -/
theorem unseen (c : Still kk) {k : List κ} {b : Addr} {Q : Bool → Shared → Prop} (hk : IsTupleKey kk s.heap k b) {ys : List Value} (hy : ∀ y ∈ ys, ∃ k' d, y = Value.ref d ∧ IsTupleKey kk s.heap k' d) (q : Q false s) :
    wpAny (model P w) A (searchCouldBeSeen (.ref b) ys) Q E s := by
  unfold searchCouldBeSeen
  refine wpAny_bind (wpAny_forIn_list _ (fun l r s' => r.1 = none ∧ s' = s ∧ ∀ y ∈ l, ∃ k' d, y = Value.ref d ∧ IsTupleKey kk s.heap k' d) _ (fun v l r s' ⟨h1, h2, h3⟩ => ?_) (fun r s' ⟨h1, h2, _⟩ => ?_) _ _ ⟨rfl, rfl, hy⟩)
  · subst h2
    obtain ⟨k', d, rfl, hd⟩ := h3 v List.mem_cons_self
    have more : ∀ y ∈ l, ∃ k' d, y = Value.ref d ∧ IsTupleKey kk s'.heap k' d := fun u hu => h3 u (List.mem_cons_of_mem _ hu)
    dsimp only
    by_cases e : (b == d || (carriedByValue (.ref b) && carriedByValue (.ref d))) = true
    · exact wp_if_pos e (wpAny_pure ⟨rfl, rfl, more⟩)
    · refine wp_if_neg e ?_
      refine wpAny_bind (wpAny_eqIsQuiet_tuple hk ?_)
      simp only [Bool.not_true, Bool.false_eq_true, if_false]
      refine wpAny_bind (wpAny_eqIsQuiet_tuple hd ?_)
      simp only [Bool.not_true, Bool.false_eq_true, if_false]
      refine wpAny_bind (class_tup c hk ?_)
      simp only [Bool.false_eq_true, if_false]
      refine wpAny_bind (class_tup c hd ?_)
      simp only [Bool.false_eq_true, if_false]
      exact wpAny_pure ⟨rfl, rfl, more⟩
  · obtain ⟨r1, r2⟩ := r
    subst h2
    simp only at h1
    subst h1
    exact wpAny_pure q
/-- the entries, the hashes -/
def entsQ (kk : KeyKind P w κ) (L : List (Addr × List κ)) : List (Int × Value) := L.map fun p => (hT kk p.2, Value.ref p.1)
def hsQ (kk : KeyKind P w κ) (L : List (Addr × List κ)) : List Int := L.map fun p => hT kk p.2
theorem hsQ_len {L : List (Addr × List κ)} : (hsQ kk L).length = L.length := by unfold hsQ; rw [List.length_map]
theorem entsQ_len {L : List (Addr × List κ)} : (entsQ kk L).length = L.length := by unfold entsQ; rw [List.length_map]
structure SetQ (kk : KeyKind P w κ) (h : Heap) (a : Addr) (L : List (Addr × List κ)) (es : Array (Int × Value)) (ep : Nat) (t : SetTable) : Prop where
  ob : ∃ o, h.get? a = some o ∧ o.ExactSet ∧ o.data = .set es ep t
  ents : es.toList = entsQ kk L
  tab : TabOk t (hsQ kk L)
  nd : (L.map (·.2)).Nodup
  tup : ∀ p ∈ L, IsTupleKey kk h p.2 p.1
  room : L.length * 5 < t.mask * 3
  few : L.length < 64
variable {a : Addr} {L : List (Addr × List κ)} {es : Array (Int × Value)} {ep : Nat} {t : SetTable}
theorem ents_size (h : es.toList = entsQ kk L) : es.size = L.length := by rw [← Array.length_toList, h, entsQ_len]
theorem ents_at (h : es.toList = entsQ kk L) {i : Nat} {p : Addr × List κ} (hp : L[i]? = some p) : es[i]? = some (hT kk p.2, Value.ref p.1) := by
  rw [← Array.getElem?_toList, h]
  unfold entsQ
  rw [List.getElem?_map, hp]; rfl
theorem fits_of (h1 : t.place.size = es.size) (h2 : t.dummies = #[]) (h3 : es.size ≤ t.mask) : t.fits es.size = true := by
  unfold SetTable.fits SetTable.fill
  rw [h2, Bool.and_eq_true, beq_iff_eq, decide_eq_true_eq]
  exact ⟨h1, by show t.place.size + 0 ≤ t.mask; omega⟩
theorem SetQ.psz (R : SetQ kk s.heap a L es ep t) : t.place.size = L.length := by rw [R.tab.sz, hsQ_len]
theorem SetQ.fits (R : SetQ kk s.heap a L es ep t) : t.fits es.size = true := by
  have h1 := R.psz
  have h2 := ents_size R.ents
  have h3 := R.room
  exact fits_of (by omega) R.tab.dm (by omega)
theorem not_gave (h : MaskOk t.mask) : ¬ t.gaveWay = true := by
  unfold SetTable.gaveWay
  rw [mask_odd h]
  decide
theorem nth_nodummy (m : Nat) : ∀ (n : Nat) (p : SetTable.Probe), p.dummy = none → (nth m p n).dummy = none
  | 0, p, h => h
  | n + 1, p, h => nth_nodummy m n (adv m p) (by unfold adv; split <;> exact h)
/-- the c-th stop of the way of a hash -/
abbrev stop (m : Nat) (h : Int) (c : Nat) : SetTable.Probe := nth m (runAt m (SetTable.bits h % (m + 1)) (SetTable.bits h)) c
theorem stop_add (m : Nat) (h : Int) (c q : Nat) : nth m (stop m h c) q = stop m h (c + q) := (nth_add m c _ q).symm
theorem seek (c : Still kk) (R : SetQ kk s.heap a L es ep t) {x : Addr} {k : List κ} (hx : IsTupleKey kk s.heap k x) (hu : A.units < cLine) {K : Nat} (hKf : K < 10 * SetTable.turns t.mask)
    (hK : way t.mask (hT kk k) K ∉ t.place.toList) (hKb : ∀ j, j < K → way t.mask (hT kk k) j ∈ t.place.toList) {Q : SetFound → Shared → Prop}
    (qin : k ∈ L.map (·.2) → Q (.there none) s) (qout : k ∉ L.map (·.2) → Q (.free (way t.mask (hT kk k) K) false) s) :
    ∀ (f j : Nat) (stand : Option SetTable.Probe), stand.getD (t.probeStart (hT kk k)) = stop t.mask (hT kk k) j → j ≤ K → K - j < f →
      (∀ (i : Nat) p, L[i]? = some p → p.2 = k → ∃ j', j ≤ j' ∧ j' < K ∧ t.place.toList[i]? = some (way t.mask (hT kk k) j')) →
      wpAny (model P w) A (setSearchFrom a (.ref x) (hT kk k) true f stand) Q E s
  | 0, j, stand, _, _, hf, _ => absurd hf (Nat.not_lt_zero _)
  | f + 1, j, stand, hst, hj, hf, ahead => by
    obtain ⟨o, ho, hex, hd⟩ := R.ob
    rw [setSearchFrom_succ]
    refine wpAny_bind (wpAny_setState_of ho hd R.fits ?_)
    dsimp only
    refine wp_if_neg (not_gave R.tab.mok) ?_
    try refine wpAny_bind (wpAny_pure ?_)
    have ej : ∀ q, (nth t.mask (stop t.mask (hT kk k) j) q).j = way t.mask (hT kk k) (j + q) := fun q => congrArg SetTable.Probe.j (stop_add _ _ _ _)
    have hat : ∀ (i : Nat) p, L[i]? = some p → (es[i]?.map (·.1)).getD 0 = hT kk p.2 := fun i p hp => by rw [ents_at R.ents hp]; rfl
    rcases go_spec t R.tab.ris R.tab.dm (fun i => (es[i]?.map (·.1)).getD 0) (hT kk k) (10 * SetTable.turns t.mask) (K - j) (stop t.mask (hT kk k) j) (nth_nodummy _ _ _ rfl) (by omega)
      (fun q hq => by rw [ej]; exact hKb (j + q) (by omega)) (by rw [ej, show j + (K - j) = K by omega]; exact hK) with ⟨q, i, hq, hi, hh, hno, hpr⟩ | ⟨hno, hpr⟩
    · rw [stop_add, stop_add] at hpr
      rw [ej] at hi
      have hpr' : t.probe (fun i => (es[i]?.map (·.1)).getD 0) (hT kk k) (stand.getD (t.probeStart (hT kk k))) = some (.candidate (way t.mask (hT kk k) (j + q)) i (stop t.mask (hT kk k) (j + (q + 1)))) := by
        rw [hst]
        exact hpr
      rw [hpr']
      dsimp only
      have il : i < L.length := by
        have h1 : i < t.place.toList.length := (List.getElem?_eq_some_iff.mp hi).1
        rw [Array.length_toList, R.psz] at h1
        exact h1
      obtain ⟨p, hp⟩ : ∃ p, L[i]? = some p := ⟨L[i], List.getElem?_eq_getElem il⟩
      have pm : p ∈ L := List.mem_of_getElem? hp
      have body : wpAny (model P w) A (searchRest a (.ref x) (hT kk k) true f es t (way t.mask (hT kk k) (j + q)) i (stop t.mask (hT kk k) (j + (q + 1)))) Q E s := by
        unfold searchRest
        rw [ents_at R.ents hp]
        dsimp only
        refine wpAny_bind (wpAny_holding (wpAny_eqBool_tuple hu (R.tup p pm) hx ?_))
        refine wpAny_bind (wpAny_setState_of ho hd R.fits ?_)
        dsimp only
        by_cases e : p.2 = k
        · exact wp_if_pos (by simp [e]) (wpAny_pure (qin (List.mem_map.mpr ⟨p, pm, e⟩)))
        · refine wp_if_neg (by simp [e]) ?_
          try refine wpAny_bind (wpAny_pure ?_)
          rw [sameMem]
          dsimp only
          have sl : t.slot (way t.mask (hT kk k) (j + q)) = .live i := slot_live R.tab.ris hi
          simp only [if_true, sl, ents_at R.ents hp]
          refine wpAny_bind (wpAny_isSame_ref_self (wpAny_bind (wpAny_pure ?_)))
          simp only [if_true]
          refine wp_if_neg (by simp [e]) ?_
          refine seek c R hx hu hKf hK hKb qin qout f (j + (q + 1)) _ rfl (by omega) (by omega) fun i0 p0 h0 hk0 => ?_
          obtain ⟨j', a1, a2, a3⟩ := ahead i0 p0 h0 hk0
          refine ⟨j', ?_, a2, a3⟩
          rcases Nat.lt_trichotomy j' (j + q) with z | z | z
          · exact absurd ((hat i0 p0 h0).trans (congrArg (hT kk) hk0)) (hno (j' - j) i0 (by omega) (by rw [ej, show j + (j' - j) = j' by omega]; exact a3))
          · rw [z] at a3
            have s0 := slot_live R.tab.ris a3
            rw [sl] at s0
            injection s0 with s0
            rw [← s0, hp] at h0
            exact absurd ((congrArg Prod.snd (Option.some.inj h0)).trans hk0) e
          · omega
      by_cases hl : t.led = true
      · refine wp_if_neg (by simp [hl]) ?_
        try refine wpAny_bind (wpAny_pure ?_)
        exact body
      · refine wp_if_pos (by simp [hl]) ?_
        refine wpAny_bind (unseen c hx (fun y hy => ?_) ?_)
        · obtain ⟨e, he, ee⟩ := List.mem_map.mp hy
          have he1 : e ∈ es ∧ e.1 = hT kk k := by simpa using he
          have he2 : e ∈ es.toList := by simpa using he1.1
          rw [R.ents] at he2
          obtain ⟨p2, hp2, e2⟩ := List.mem_map.mp he2
          exact ⟨p2.2, p2.1, by rw [← ee, ← e2], R.tup p2 hp2⟩
        · refine wp_if_neg (by decide) ?_
          try refine wpAny_bind (wpAny_pure ?_)
          exact body
    · have hpr' : t.probe (fun i => (es[i]?.map (·.1)).getD 0) (hT kk k) (stand.getD (t.probeStart (hT kk k))) = some (.empty (way t.mask (hT kk k) K) none) := by
        have e2 : way t.mask (hT kk k) K = (nth t.mask (stop t.mask (hT kk k) j) (K - j)).j := by rw [ej, show j + (K - j) = K by omega]
        rw [hst, e2]
        exact hpr
      rw [hpr']
      dsimp only
      refine wpAny_pure (qout fun hm => ?_)
      obtain ⟨p0, h0, hk0⟩ := List.mem_map.mp hm
      obtain ⟨i0, h1, e0⟩ := List.getElem_of_mem h0
      have h00 : L[i0]? = some p0 := by rw [List.getElem?_eq_getElem h1, e0]
      obtain ⟨j', a1, a2, a3⟩ := ahead i0 p0 h00 hk0
      exact hno (j' - j) i0 (by omega) (by rw [ej, show j + (j' - j) = j' by omega]; exact a3) ((hat i0 p0 h00).trans (congrArg (hT kk) hk0))
theorem seek0 (c : Still kk) (R : SetQ kk s.heap a L es ep t) {x : Addr} {k : List κ} (hx : IsTupleKey kk s.heap k x) (hu : A.units < cLine) {Q : SetFound → Shared → Prop} (qin : k ∈ L.map (·.2) → Q (.there none) s)
    (qout : ∀ K, k ∉ L.map (·.2) → way t.mask (hT kk k) K ∉ t.place.toList → (∀ j, j < K → way t.mask (hT kk k) j ∈ t.place.toList) → Q (.free (way t.mask (hT kk k) K) false) s) :
    wpAny (model P w) A (setSearch a (.ref x) (hT kk k) true) Q E s := by
  have hr := R.room
  obtain ⟨K, hKf, hK, hKb⟩ := R.tab.first (by rw [hsQ_len]; omega) (hT kk k)
  have hbig : K < 100000 := by
    have : 10 * SetTable.turns t.mask ≤ 1420 := by
      unfold SetTable.turns
      rcases R.tab.mok with e | e | e <;> omega
    omega
  unfold setSearch
  refine seek c R hx hu hKf hK hKb qin (fun hn => qout K hn hK hKb) 100000 0 none rfl (Nat.zero_le _) (by omega) fun i p hp hk => ?_
  have hi : (hsQ kk L)[i]? = some (hT kk k) := by
    unfold hsQ
    rw [List.getElem?_map, hp, ← hk]; rfl
  have il : i < t.place.toList.length := by
    have h1 : i < L.length := (List.getElem?_eq_some_iff.mp hp).1
    rw [Array.length_toList, R.psz]
    exact h1
  have hj := List.getElem?_eq_getElem il
  obtain ⟨j, hjK, e⟩ := R.tab.before hK hi hj
  exact ⟨j, Nat.zero_le _, hjK, by rw [hj, e]⟩
end
end MI
set_option Elab.async false
set_option linter.all false
set_option maxRecDepth 100000
set_option maxHeartbeats 4000000
/-! MiniT: adding to such a set, set(list), len(set(list)) -/
namespace MI
open PySem PySem.Spec PyProof.Rows L2
/-! each once -/
def dd {α : Type} [DecidableEq α] : List α → List α → List α
  | acc, [] => acc
  | acc, x :: xs => if x ∈ acc then dd acc xs else dd (acc ++ [x]) xs
theorem dd_mem {α : Type} [DecidableEq α] {y : α} : ∀ {xs acc : List α}, y ∈ dd acc xs ↔ y ∈ acc ∨ y ∈ xs
  | [], acc => by rw [dd]; simp
  | x :: xs, acc => by
    rw [dd]
    split
    · rename_i h
      rw [dd_mem, List.mem_cons]
      constructor
      · rintro (c | c)
        · exact .inl c
        · exact .inr (.inr c)
      · rintro (c | c | c)
        · exact .inl c
        · rw [c]; exact .inl h
        · exact .inr c
    · rw [dd_mem, List.mem_append, List.mem_singleton, List.mem_cons, or_assoc]
theorem dd_nodup {α : Type} [DecidableEq α] : ∀ {xs acc : List α}, acc.Nodup → (dd acc xs).Nodup
  | [], acc, h => by rw [dd]; exact h
  | x :: xs, acc, h => by
    rw [dd]
    split
    · exact dd_nodup h
    · rename_i n
      refine dd_nodup (List.nodup_append.mpr ⟨h, by simp, fun a ha b hb e => ?_⟩)
      rw [List.mem_singleton.mp hb] at e
      exact n (e ▸ ha)
theorem dd_map {α β : Type} [DecidableEq α] [DecidableEq β] {f : α → β} (inj : ∀ a b, f a = f b → a = b) : ∀ {xs acc : List α}, dd (acc.map f) (xs.map f) = (dd acc xs).map f
  | [], acc => by rw [List.map_nil, dd, dd]
  | x :: xs, acc => by
    have e : (f x ∈ acc.map f) ↔ x ∈ acc := by
      rw [List.mem_map]
      exact ⟨fun ⟨a, ha, e⟩ => inj a x e ▸ ha, fun h => ⟨x, h, rfl⟩⟩
    rw [List.map_cons, dd, dd]
    by_cases h : x ∈ acc
    · rw [if_pos (e.mpr h), if_pos h, dd_map inj]
    · rw [if_neg (fun z => h (e.mp z)), if_neg h, ← dd_map inj, List.map_append]; rfl
theorem nodup_le {α : Type} [DecidableEq α] : ∀ {l D : List α}, l.Nodup → (∀ x ∈ l, x ∈ D) → l.length ≤ D.length
  | [], D, _, _ => Nat.zero_le _
  | x :: l, D, n, h => by
    obtain ⟨n1, n2⟩ := List.nodup_cons.mp n
    have hx := h x List.mem_cons_self
    have := nodup_le (l := l) (D := D.erase x) n2 fun y hy => (List.mem_erase_of_ne (fun e => n1 (by rw [← e]; exact hy))).mpr (h y (List.mem_cons_of_mem _ hy))
    rw [List.length_erase_of_mem hx] at this
    have := List.length_pos_of_mem hx
    rw [List.length_cons]
    omega
section
variable {P : Program} {w : World} {κ : Type} [DecidableEq κ] {kk : KeyKind P w κ} {A : Around} {E : Value → Shared → Prop} {s : Shared}
theorem tup_other {h h' : Heap} {k : List κ} {a b : Addr} {o : Obj} {es : Array (Int × Value)} {ep : Nat} {t : SetTable} (hb : IsTupleKey kk h k b) (ho : h.get? a = some o) (hd : o.data = .set es ep t) (hs : Heap.SameBut a h h') : IsTupleKey kk h' k b := by
  obtain ⟨u, its, n, h1, h2, h3, h4⟩ := hb
  refine ⟨u, its, n, (hs.2 b fun e => ?_).trans h1, h2, h3, h4⟩
  rw [e, ho] at h1
  cases h1
  rw [hd] at h3
  cases h3
theorem tup_keep {h h' : Heap} {k : List κ} {b : Addr} (x : IsTupleKey kk h k b) (hk : ∀ c o, h.get? c = some o → h'.get? c = some o) : IsTupleKey kk h' k b := by
  obtain ⟨u, its, n, h1, r⟩ := x
  exact ⟨u, its, n, hk b u h1, r⟩
theorem range_pick {α : Type} (l : List α) : (List.range l.length).filterMap (fun i => l[i]?) = l := by
  have : ∀ n, n ≤ l.length → (List.range n).filterMap (fun i => l[i]?) = l.take n := by
    intro n
    induction n with
    | zero => exact fun _ => rfl
    | succ n ih =>
      intro hn
      rw [List.range_succ, List.filterMap_append, ih (Nat.le_of_lt hn), List.take_succ, List.getElem?_eq_getElem hn, List.filterMap_cons_some (List.getElem?_eq_getElem hn)]; rfl
  rw [this _ (Nat.le_refl _), List.take_length]
theorem picked (L : List (Addr × List κ)) (es : Array (Int × Value)) (he : es.toList = entsQ kk L) : ∀ l : List Nat, (∀ i ∈ l, i < L.length) →
    l.filterMap (fun i => es[i]?) = entsQ kk (l.filterMap fun i => L[i]?) ∧ hsQ kk (l.filterMap fun i => L[i]?) = l.map fun i => (es.map (·.1)).getD i 0
  | [], _ => ⟨rfl, rfl⟩
  | i :: l, h => by
    have hi := h i List.mem_cons_self
    obtain ⟨e1, e2⟩ := picked L es he l fun j hj => h j (List.mem_cons_of_mem _ hj)
    have ea := ents_at he (List.getElem?_eq_getElem hi)
    have eg : (es.map (·.1)).getD i 0 = hT kk (L[i]).2 := by
      have : (es.map (·.1))[i]? = some (hT kk (L[i]).2) := by rw [Array.getElem?_map, ea]; rfl
      simp [Array.getD_eq_getD_getElem?, this]
    rw [List.filterMap_cons_some ea, List.filterMap_cons_some (List.getElem?_eq_getElem hi), e1, List.map_cons, eg, ← e2]
    exact ⟨rfl, rfl⟩
variable {a : Addr} {L : List (Addr × List κ)} {es : Array (Int × Value)} {ep : Nat} {t : SetTable}
/-- the table laid anew -/
theorem relay1 {o : Obj} (ho : s.heap.get? a = some o) (hex : o.ExactSet) (hd : o.data = .set es ep t) (he : es.toList = entsQ kk L) (hp : t.place.size = es.size) (hdm : t.dummies = #[]) (hfl : es.size ≤ t.mask) (nd : (L.map (·.2)).Nodup) (tup : ∀ p ∈ L, IsTupleKey kk s.heap p.2 p.1) (few : L.length < 64)
    {wanted M : Nat} (hw : SetTable.sizeAbove wanted - 1 = M) (hM : MaskOk M) (hw2 : SetTable.sizeAbove wanted ≤ 128) (hn : L.length * 5 < M * 3) {Q : Unit → Shared → Prop}
    (hQ : ∀ h' L' es' ep' t', Heap.SameBut a s.heap h' → SetQ kk h' a L' es' ep' t' → L'.Perm L → Q () { s with heap := h' }) : wpAny (model P w) A (setRelay a wanted) Q E s := by
  have hz := ents_size he
  obtain ⟨t', order, e, pm, T, em, _, _, _⟩ := relaid_ok t (hs := es.map (·.1)) (wanted := wanted) hw hM (by rw [Array.size_map, hz]; omega)
  rw [Array.size_map, hz] at pm
  obtain ⟨e1, e2⟩ := picked L es he order.toList fun i hi => List.mem_range.mp (pm.mem_iff.mp hi)
  have pL : (order.toList.filterMap fun i => L[i]?).Perm L := by
    have := pm.filterMap fun i => L[i]?
    rwa [range_pick] at this
  have eo : (order.filterMap (es[·]?)).toList = entsQ kk (order.toList.filterMap fun i => L[i]?) := by rw [← e1]; simp
  generalize order.toList.filterMap (fun i => L[i]?) = L2 at e1 e2 pL eo
  rw [← e2] at T
  have hs2 : (order.filterMap (es[·]?)).size = es.size := by rw [ents_size eo, hz, pL.length_eq]
  rw [setRelay_eq]
  refine wpAny_bind (wpAny_setState_of ho hd (fits_of hp hdm hfl) ?_)
  dsimp only
  refine wp_if_neg (by rw [sizeLine_eq]; omega) ?_
  try refine wpAny_bind (wpAny_pure ?_)
  rw [e]
  dsimp only
  refine wpAny_bind ?_
  refine wp_if_neg (by rw [hs2]; simp) ?_
  try refine wpAny_bind (wpAny_pure ?_)
  refine wpAny_pure ?_
  dsimp only
  refine wpAny_storeSet_of ho hd ?_ (by rw [hs2, hz, sizeLine_eq]; omega)
  have sb := Heap.SameBut.update s.heap a (Obj.putSet (order.filterMap (es[·]?)) t')
  refine hQ _ L2 _ (ep + 1) t' sb ⟨⟨_, store_at ho hd, ⟨hex.1, hex.2.1, hex.2.2⟩, rfl⟩, eo, T, (pL.map (·.2)).nodup_iff.mpr nd, fun p hpm => tup_other (tup p (pL.mem_iff.mp hpm)) ho hd sb, by rw [pL.length_eq, em]; exact hn, by rw [pL.length_eq]; exact few⟩ pL
/-- adding -/
theorem add1 (c : Still kk) (R : SetQ kk s.heap a L es ep t) {x : Addr} {k : List κ} (hx : IsTupleKey kk s.heap k x) (hu : A.units < cLine) (hf : k ∉ L.map (·.2) → L.length + 1 < 64) {Q : Bool → Shared → Prop}
    (hQ : ∀ b h' L' es' ep' t', Heap.SameBut a s.heap h' → SetQ kk h' a L' es' ep' t' → (k ∈ L.map (·.2) → L' = L) → (k ∉ L.map (·.2) → L'.Perm ((x, k) :: L)) → Q b { s with heap := h' }) :
    wpAny (model P w) A (setAddHashed a (.ref x) (hT kk k)) Q E s := by
  obtain ⟨o, ho, hex, hd⟩ := R.ob
  have hz := ents_size R.ents
  have hr := R.room
  unfold setAddHashed
  refine wpAny_holding ?_
  rw [show (100000 : Nat) = 99999 + 1 from rfl, setAddHashedIn_succ]
  refine wpAny_bind (wpAny_setState_of ho hd R.fits ?_)
  dsimp only
  refine wp_if_neg (by simp [byScan, Value.scannable]) ?_
  try refine wpAny_bind (wpAny_pure ?_)
  refine wpAny_bind (seek0 c R hx hu (fun hm => ?_) fun K hm hK hb => ?_)
  · dsimp only
    exact wpAny_pure (hQ false s.heap L es ep t (Heap.SameBut.refl a s.heap) R (fun _ => rfl) fun z => absurd hm z)
  · have hfew := hf hm
    dsimp only
    refine wpAny_bind (wpAny_setState_of ho hd R.fits ?_)
    dsimp only
    obtain ⟨q1, q2, q3, q4, q5, q6, q7, q8, q9⟩ := R.tab.put hK hb
    generalize hpt : t.put (way t.mask (hT kk k) K) = pt at q1 q3 q4 q5 q6 q7 q8 q9 ⊢
    obtain ⟨t1, p⟩ := pt
    dsimp only at q1 q3 q4 q5 q6 q7 q8 q9 ⊢
    subst q1
    have rest : ∀ t2 : SetTable, t2.place = t1.place → t2.dummies = t1.dummies → t2.mask = t1.mask → t2.tooFull = t1.tooFull →
        wpAny (model P w) A (do
          storeSet a (SetTable.insertAt es (SetTable.below t.place (way t.mask (hT kk k) K)) (hT kk k, Value.ref x)) t2
          if (!false && t2.tooFull) = true then setRelay a (SetTable.grown (es.size + 1))
          pure true) Q E s := fun t2 w1 w2 w3 w4 => by
      have hin : (SetTable.insertAt es (SetTable.below t.place (way t.mask (hT kk k) K)) (hT kk k, Value.ref x)).toList = entsQ kk (L.take (SetTable.below t.place (way t.mask (hT kk k) K)) ++ (x, k) :: L.drop (SetTable.below t.place (way t.mask (hT kk k) K))) := by
        rw [SetTable.toList_insertAt, R.ents]
        unfold entsQ
        rw [List.map_append, List.map_cons, List.map_take, List.map_drop]
      generalize SetTable.below t.place (way t.mask (hT kk k) K) = p at q2 q3 hin ⊢
      have pm := put_perm L p (x, k)
      have hl : (L.take p ++ (x, k) :: L.drop p).length = L.length + 1 := pm.length_eq
      have hhs : hsQ kk (L.take p ++ (x, k) :: L.drop p) = (hsQ kk L).take p ++ hT kk k :: (hsQ kk L).drop p := by
        unfold hsQ
        rw [List.map_append, List.map_cons, List.map_take, List.map_drop]
      rw [← hhs] at q3
      have T2 : TabOk t2 (hsQ kk (L.take p ++ (x, k) :: L.drop p)) := ⟨by rw [w1]; exact q3.ris, by rw [w2]; exact q3.dm, by rw [w1]; exact q3.sz, by rw [w3]; exact q3.mok, by rw [w1, w3]; exact q3.bd, by rw [w1, w3]; exact q3.reach⟩
      have nd1 : ((L.take p ++ (x, k) :: L.drop p).map (·.2)).Nodup := by
        refine (pm.map (·.2)).nodup_iff.mpr ?_
        rw [List.map_cons]
        exact List.nodup_cons.mpr ⟨hm, R.nd⟩
      have hes := ents_size hin
      rw [hl] at hes
      generalize SetTable.insertAt es p (hT kk k, Value.ref x) = es1 at hin hes ⊢
      generalize L.take p ++ (x, k) :: L.drop p = L1 at pm hl T2 nd1 hin
      refine wpAny_bind (wpAny_storeSet_of ho hd ?_ (by rw [hes, sizeLine_eq]; omega))
      have sb := Heap.SameBut.update s.heap a (Obj.putSet es1 t2)
      have ho1 := store_at (es' := es1) (t' := t2) ho hd
      generalize s.heap.update a (Obj.putSet es1 t2) = h1 at sb ho1 ⊢
      have tup1 : ∀ p ∈ L1, IsTupleKey kk h1 p.2 p.1 := fun p hp => by
        rcases List.mem_cons.mp (pm.mem_iff.mp hp) with e | hp
        · rw [e]; exact tup_other hx ho hd sb
        · exact tup_other (R.tup p hp) ho hd sb
      have tf : t1.tooFull = decide ((L.length + 1) * 5 ≥ t1.mask * 3) := by
        unfold SetTable.tooFull
        rw [q9, hsQ_len]
      by_cases hfu : t2.tooFull = true
      · have hfull : (L.length + 1) * 5 ≥ t1.mask * 3 := by
          rw [w4, tf] at hfu
          exact of_decide_eq_true hfu
        first
          | (refine wpAny_bind ?_; refine wp_if_pos (by simp [hfu]) ?_)
          | (refine wp_if_pos (by simp [hfu]) ?_; refine wpAny_bind ?_)
        rw [hz]
        have hsz1 : t2.place.size = es1.size := by
          have h := T2.sz
          rw [hsQ_len, hl] at h
          rw [h, hes]
        have c2 : (t.mask = 7 ∧ L.length = 4) ∨ (t.mask = 31 ∧ L.length = 18) := by
          rcases R.tab.mok with e | e | e <;> rw [q4, e] at hfull <;> rw [e] at hr
          · exact .inl ⟨e, by omega⟩
          · exact .inr ⟨e, by omega⟩
          · exfalso; omega
        have go : ∀ M, SetTable.sizeAbove (SetTable.grown (L.length + 1)) - 1 = M → MaskOk M → SetTable.sizeAbove (SetTable.grown (L.length + 1)) ≤ 128 → (L.length + 1) * 5 < M * 3 →
            wpAny (model P w) A (setRelay a (SetTable.grown (L.length + 1))) (fun _ s' => wpAny (model P w) A (pure true) Q E s') E { s with heap := h1 } := fun M g1 g2 g3 g4 =>
          relay1 (s := { s with heap := h1 }) ho1 ⟨hex.1, hex.2.1, hex.2.2⟩ rfl hin hsz1 T2.dm (by rw [hes, w3, q4]; rcases c2 with ⟨e, e2⟩ | ⟨e, e2⟩ <;> omega) nd1 tup1 (by rw [hl]; exact hfew) g1 g2 g3 (by rw [hl]; exact g4) fun h2 L2 es2 ep2 t2 sb2 R2 pm2 =>
            wpAny_pure (hQ true h2 L2 es2 ep2 t2 (sb.trans sb2) R2 (fun z => absurd z hm) fun _ => pm2.trans pm)
        rcases c2 with ⟨_, e2⟩ | ⟨_, e2⟩
        · exact go 31 (by rw [e2, size_20]) (.inr (.inl rfl)) (by rw [e2, size_20]; decide) (by omega)
        · exact go 127 (by rw [e2, size_76]) (.inr (.inr rfl)) (by rw [e2, size_76]; decide) (by omega)
      · have hfull : ¬ (L.length + 1) * 5 ≥ t1.mask * 3 := by
          rw [w4, tf] at hfu
          exact fun z => hfu (decide_eq_true z)
        first
          | refine wp_if_neg (by simp [hfu]) ?_
          | (refine wpAny_bind ?_; refine wp_if_neg (by simp [hfu]) ?_; refine wpAny_pure ?_)
        refine wpAny_pure (hQ true h1 L1 es1 (ep + 1) t2 sb ⟨⟨_, ho1, ⟨hex.1, hex.2.1, hex.2.2⟩, rfl⟩, hin, T2, nd1, tup1, by rw [hl, w3]; omega, by rw [hl]; exact hfew⟩ (fun z => absurd z hm) fun _ => pm)
    by_cases hpl : t1.plain = true
    · first
        | (refine wpAny_bind ?_; refine wp_if_pos hpl ?_; refine hv_tup c hx fun v => ?_)
        | refine wp_if_pos hpl (wpAny_bind (hv_tup c hx fun v => ?_))
      cases v with
      | true => simp only [if_true]; exact rest t1 rfl rfl rfl rfl
      | false => simp only [Bool.false_eq_true, if_false]; exact rest { t1 with plain := false } rfl rfl rfl rfl
    · first
        | (refine wpAny_bind ?_; refine wp_if_neg hpl ?_; refine wpAny_pure ?_)
        | refine wp_if_neg hpl (wpAny_bind (wpAny_pure ?_))
      simp only [if_true]
      exact rest t1 rfl rfl rfl rfl
end
end MI
set_option Elab.async false
set_option linter.all false
set_option maxRecDepth 100000
set_option maxHeartbeats 4000000
/-! MiniU: set(list of tuples), len(set(..)) -/
namespace MI
open PySem PySem.Spec PyProof.Rows L2
section
variable {P : Program} {w : World} {κ : Type} [DecidableEq κ] {kk : KeyKind P w κ} {A : Around} {E : Value → Shared → Prop} {s : Shared}
/-- what the set has behind the first i items -/
structure Has (ks L : List (Addr × List κ)) (i : Nat) : Prop where
  sub : ∀ p ∈ L, p ∈ ks
  all : ∀ p ∈ ks.take i, p.2 ∈ L.map (·.2)
theorem Has.len {ks L : List (Addr × List κ)} {i : Nat} (h : Has ks L i) (nd : (L.map (·.2)).Nodup) : L.length ≤ (dd [] (ks.map (·.2))).length := by
  have := nodup_le nd (D := dd [] (ks.map (·.2))) fun x hx => by
    obtain ⟨p, hp, e⟩ := List.mem_map.mp hx
    rw [dd_mem]
    exact .inr (List.mem_map.mpr ⟨p, h.sub p hp, e⟩)
  rwa [List.length_map] at this
theorem Has.size {ks L : List (Addr × List κ)} (h : Has ks L ks.length) (nd : (L.map (·.2)).Nodup) : L.length = (dd [] (ks.map (·.2))).length := by
  refine Nat.le_antisymm (h.len nd) ?_
  have := nodup_le (l := dd [] (ks.map (·.2))) (D := L.map (·.2)) (dd_nodup List.nodup_nil) fun x hx => by
    rw [dd_mem] at hx
    rcases hx with z | z
    · cases z
    · obtain ⟨p, hp, e⟩ := List.mem_map.mp z
      rw [← e]
      exact h.all p (by rw [List.take_length]; exact hp)
  rwa [List.length_map] at this
theorem take_more {α : Type} {l : List α} {i : Nat} {x : α} (h : l[i]? = some x) : l.take (i + 1) = l.take i ++ [x] := by rw [List.take_succ, h]; rfl
theorem Has.stay {ks L : List (Addr × List κ)} {i : Nat} {x : Addr × List κ} (h : Has ks L i) (hx : ks[i]? = some x) (hm : x.2 ∈ L.map (·.2)) : Has ks L (i + 1) := ⟨h.sub, fun p hp => by
  rw [take_more hx] at hp
  rcases List.mem_append.mp hp with z | z
  · exact h.all p z
  · rw [List.mem_singleton.mp z]; exact hm⟩
theorem Has.grow {ks L L' : List (Addr × List κ)} {i : Nat} {x : Addr × List κ} (h : Has ks L i) (hx : ks[i]? = some x) (pm : L'.Perm (x :: L)) : Has ks L' (i + 1) := ⟨fun p hp => by
  rcases List.mem_cons.mp (pm.mem_iff.mp hp) with e | z
  · rw [e]; exact List.mem_of_getElem? hx
  · exact h.sub p z, fun p hp => by
  rw [(pm.map (·.2)).mem_iff, List.map_cons]
  rw [take_more hx] at hp
  rcases List.mem_append.mp hp with z | z
  · exact List.mem_cons_of_mem _ (h.all p z)
  · rw [List.mem_singleton.mp z]; exact List.mem_cons_self⟩
theorem SetQ.move {h h' : Heap} {a : Addr} {L : List (Addr × List κ)} {es : Array (Int × Value)} {ep : Nat} {t : SetTable} (R : SetQ kk h a L es ep t) (ha : ∀ o, h.get? a = some o → h'.get? a = some o) (ht : ∀ p ∈ L, IsTupleKey kk h' p.2 p.1) : SetQ kk h' a L es ep t := by
  obtain ⟨o, ho, r⟩ := R.ob
  exact ⟨⟨o, ha o ho, r⟩, R.ents, R.tab, R.nd, ht, R.room, R.few⟩
abbrev newSet (w : World) : Obj := { cls := .type "set", dict := none, data := .set #[] 0 (.fresh 0 0 (!w.params.followText "set-order")) }
theorem setQ_new {h : Heap} {a : Addr} (ho : h.get? a = some (newSet w)) : SetQ kk h a [] #[] 0 (.fresh 0 0 (!w.params.followText "set-order")) where
  ob := ⟨_, ho, ⟨rfl, rfl, rfl⟩, rfl⟩
  ents := rfl
  tab := ⟨List.Pairwise.nil, rfl, rfl, .inl rfl, fun x hx => (by cases hx), fun i h j hi => (by simp [hsQ] at hi)⟩
  nd := List.nodup_nil
  tup := fun p hp => (by cases hp)
  room := by show 0 * 5 < 7 * 3; decide
  few := by show 0 < 64; decide
theorem update_loop (c : Still kk) {I : Addr} {fp wr : List Addr} {G : Array GenState → Array GenState → Prop} {n : Nat} {Pv : Nat → Value → Prop} {St : Nat → Shared → Prop} {R : Result → Shared → Prop} (W : WalksS P w A.in1 I fp wr G n Pv St) (S : Addr) (hSf : S ∉ fp) (ks : List (Addr × List κ)) (hn : n = ks.length)
    (hfew : (dd [] (ks.map (·.2))).length < 60) (hval : ∀ i v, Pv i v → ∃ p, ks[i]? = some p ∧ v = .ref p.1) (h0 : Heap) (hk : ∀ p ∈ ks, IsTupleKey kk h0 p.2 p.1) (hS0 : h0.get? S = none) (hw0 : ∀ b ∈ wr, h0.get? b = none) (hu : A.in1.units < cLine) :
    ∀ (m i : Nat) (s : Shared), n - i = m → i ≤ n → St i s → (∀ b o, h0.get? b = some o → s.heap.get? b = some o) → (∃ L es ep t, SetQ kk s.heap S L es ep t ∧ Has ks L i) →
      (∀ s' L es ep t, Moved (S :: wr) G s s' → SetQ kk s'.heap S L es ep t → Has ks L n → (∀ b o, h0.get? b = some o → s'.heap.get? b = some o) → R (.ok (.ret .none)) s') →
      codeAny (model P w) A (.builtin "set.update.loop" ⟨[.ref S, .ref I], []⟩) R s := by
  have hSw : S ∉ wr := fun h => hSf (W.sub _ h)
  have sub : ∀ b ∈ wr, b ∈ S :: wr := fun b hb => List.mem_cons_of_mem _ hb
  have keep : ∀ {s s' : Shared}, Moved wr G s s' → (∀ b o, h0.get? b = some o → s.heap.get? b = some o) → ∀ b o, h0.get? b = some o → s'.heap.get? b = some o := fun hm hkp b o e => hm.heap b o (fun hb => by rw [hw0 b hb] at e; cases e) (hkp b o e)
  intro m
  induction m with
  | zero =>
    intro i s hm hi hst hkp ⟨L, es, ep, t, hS, g⟩ hR
    obtain rfl : i = n := by omega
    refine codeAny_builtin F.entry_set_update_loop ?_
    rw [Around.under_plainId F.plain_set_update_loop _]
    show wpAny _ A.in1 (pyNext (.ref I) >>= _) _ _ s
    refine wpAny_bind (W.done s _ _ hst fun s' mv => ?_)
    show wpAny _ A.in1 (ret Value.none) _ _ s'
    have hkp' := keep mv hkp
    exact wpAny_pure (hR s' L es ep t (mv.mono sub) (hS.move (fun o e => mv.heap S o hSw e) fun p hp => tup_keep (hk p (g.sub p hp)) hkp') g hkp')
  | succ m ih =>
    intro i s hm hi hst hkp ⟨L, es, ep, t, hS, g⟩ hR
    refine codeAny_builtin F.entry_set_update_loop ?_
    rw [Around.under_plainId F.plain_set_update_loop _]
    show wpAny _ A.in1 (pyNext (.ref I) >>= _) _ _ s
    refine wpAny_bind (W.item i s _ _ (by omega) hst fun v s' hP hst' mv => ?_)
    obtain ⟨p, hp, rfl⟩ := hval i v hP
    have hkp' := keep mv hkp
    have hS' : SetQ kk s'.heap S L es ep t := hS.move (fun o e => mv.heap S o hSw e) fun q hq => tup_keep (hk q (g.sub q hq)) hkp'
    have hx : IsTupleKey kk s'.heap p.2 p.1 := tup_keep (hk p (List.mem_of_getElem? hp)) hkp'
    have hl := g.len hS.nd
    show wpAny _ A.in1 (holding [Value.ref p.1] (setAdd S (.ref p.1)) >>= _) _ _ s'
    refine wpAny_bind (wpAny_holding ?_)
    unfold setAdd
    refine wpAny_holding ?_
    refine wpAny_bind (wpAny_pyHash_tuple hu hx ?_)
    refine add1 (s := { s' with toks := s'.toks + (p.2.length + 1) }) c hS' hx hu (fun _ => by omega) fun b h' L' es' ep' t' sb hS2 c1 c2 => ?_
    have g' : Has ks L' (i + 1) := by
      rcases Classical.em (p.2 ∈ L.map (·.2)) with q | q
      · rw [c1 q]; exact g.stay hp q
      · exact g.grow hp (c2 q)
    have hkp2 : ∀ b o, h0.get? b = some o → h'.get? b = some o := fun b o e => (sb.2 b (fun z => by rw [z, hS0] at e; cases e)).trans (hkp' b o e)
    refine wpAny_pure ⟨plainId_quiet F.plain_set_update_loop _, ih (i + 1) _ (by omega) (by omega) (W.frame _ s' _ _ hst' (Nat.le_add_right _ _) fun b hb o e => ?_) hkp2 ⟨L', es', ep', t', hS2, g'⟩ fun s'' L2 es2 ep2 t2 mv2 hS3 g3 hkp3 => ?_⟩
    · rw [sb.2 b (fun h : b = S => hSf (by rw [← h]; exact hb))]; exact e
    · refine hR s'' L2 es2 ep2 t2 (Moved.trans W.gtrans ((mv.mono sub).then_heap (Nat.le_add_right _ _) fun b o hb e => ?_) mv2) hS3 g3 hkp3
      rw [sb.2 b (fun h : b = S => hb (by rw [h]; exact List.mem_cons_self))]; exact e
/-- set(list) -/
theorem set_of_list (c : Still kk) {l : Addr} {items : Array Value} (ks : List (Addr × List κ)) {Q : Value → Shared → Prop} (hh : A.handled = none) (hl : s.heap.IsList l items) (hit : items.toList = ks.map fun p => Value.ref p.1) (hk : ∀ p ∈ ks, IsTupleKey kk s.heap p.2 p.1) (hfew : (dd [] (ks.map (·.2))).length < 60) (hu : A.units + 3 < cLine)
    (h : ∀ (h' : Heap) (tk : Nat) L es ep t, SetQ kk h' s.heap.objs.size L es ep t → Has ks L ks.length → (∀ b o, s.heap.get? b = some o → h'.get? b = some o) → Q (.ref s.heap.objs.size) { s with heap := h', toks := tk }) :
    wpAny (model P w) A (call (.type "set") [.ref l]) Q E s := by
  have hz : items.size = ks.length := by
    have q := congrArg List.length hit
    rwa [Array.length_toList, List.length_map] at q
  obtain ⟨c', tl, hmro⟩ := F.called_set.mro
  have hmade := F.called_set.made
  have hsub := F.called_set.sub
  refine wpAny_call (codeAny_of_tree ?_)
  show wpAny _ _ (callAny (.type "set") _) _ _ _
  refine wpAny_pure ⟨Code.quiet_builtin _ (by decide +kernel), codeAny_builtin F.entry_type_call ?_⟩
  rw [Around.under_plain (weight_type_call_type "set" [.ref l] []) rfl]
  have h1 := F.called_set.notType
  have h2 := F.called_set.canCreate
  have hct := F.typeCall_set_1 (.ref l)
  repeat (any_goals (first | assumption | wp_step))
  refine codeAny_mono (code_set_led1 (.ref l) (E := E) (Q₁ := fun obj s₁ => obj = .ref s.heap.objs.size ∧ s₁ = { s with heap := s.heap.push (newSet w) }) ⟨rfl, rfl⟩) fun r s₁ hr => ?_
  cases r with
  | error e => exact hr
  | ok fl =>
    cases fl with
    | ret obj =>
      obtain ⟨rfl, rfl⟩ := hr
      have hS : (s.heap.push (newSet w)).get? s.heap.objs.size = some (newSet w) := Heap.get?_push_size _ rfl
      have hT : Shared.TypeIs { s with heap := s.heap.push (newSet w) } (.ref s.heap.objs.size) "set" := ⟨_, hS, rfl⟩
      have hli := F.called_set.init.lookup
      have hbi := F.called_set.init.bind (.ref s.heap.objs.size)
      repeat (any_goals (first | assumption | wp_step))
      refine codeAny_mono (codeAny_call_builtin (R := wants (fun r s₂ => r = .none ∧ ∃ h' tk L es ep t, s₂ = { s with heap := h', toks := tk } ∧ SetQ kk h' s.heap.objs.size L es ep t ∧ Has ks L ks.length ∧ (∀ b o, s.heap.get? b = some o → h'.get? b = some o)) E) F.called_set.init.plain F.entry_set_init (check_set_init_1 hT ?_)) fun r₂ s₂ hr₂ => ?_
      · obtain ⟨ol, hol, hcl, nl, hdl⟩ := hl
        obtain ⟨ocls, odict, odata, oslots⟩ := ol
        simp only at hcl hdl
        subst hcl
        subst hdl
        have hol' : (s.heap.push (newSet w)).get? l = some { cls := .type "list", dict := odict, data := .seq items nl, slots := oslots } := Heap.get?_push_of_some _ hol
        have hsls := F.sub_list_set
        have hslf := F.sub_list_frozenset
        have hne : (Value.type "list" == Value.type "dict") = false := by decide
        have hl1 : (s.heap.push (newSet w)).IsList l items := ⟨_, hol', rfl, nl, rfl⟩
        unfold Builtin.«set.__init__» noKeywords Builtin.Frozenset.updateFrom
        generalize hPI : pyIter = PI
        wp_walk
        subst hPI
        refine wpAny_pyIter_list hl1 ?_
        refine wpAny_bind (wpAny_runValue ?_)
        have lS : l < s.heap.objs.size := Heap.lt_size hol
        have hh3 : A.in1.in1.in1.handled = none := by simp [hh]
        have lI : l ≠ (s.heap.push (newSet w)).objs.size := by rw [Heap.size_push]; exact Nat.ne_of_lt (Nat.lt_succ_of_lt lS)
        have hSf : s.heap.objs.size ∉ [(s.heap.push (newSet w)).objs.size, l] := by
          rw [Heap.size_push]
          simp only [List.mem_cons, List.not_mem_nil, or_false, not_or]
          exact ⟨Nat.ne_of_lt (Nat.lt_succ_self _), Nat.ne_of_gt lS⟩
        have hval : ∀ (i : Nat) (v : Value), items[i]? = some v → ∃ p, ks[i]? = some p ∧ v = .ref p.1 := fun i v hv => by
          have q : items.toList[i]? = some v := by rw [Array.getElem?_toList]; exact hv
          rw [hit, List.getElem?_map] at q
          cases hq : ks[i]? with
          | none => rw [hq] at q; cases q
          | some p => rw [hq] at q; exact ⟨p, rfl, (Option.some.inj q).symm⟩
        have none_of : ∀ b, s.heap.objs.size ≤ b → s.heap.get? b = none := fun b hb => by
          cases q : s.heap.get? b with
          | none => rfl
          | some o => exact absurd (Nat.lt_of_lt_of_le (Heap.lt_size q) hb) (Nat.lt_irrefl _)
        refine update_loop c ((Walks.list hh3 _ l lI items).toS) s.heap.objs.size hSf ks hz hfew hval s.heap hk (none_of _ (Nat.le_refl _)) (fun b hb => none_of b (by rw [List.mem_singleton.mp hb, Heap.size_push]; omega)) hu (items.size - 0) 0 _ (by omega) (Nat.zero_le _)
          ⟨⟨_, Heap.get?_push_size _ rfl, rfl, rfl⟩, (hl1.push _)⟩ (fun b o e => Heap.get?_push_of_some _ (Heap.get?_push_of_some _ e)) ?hS0 ?hR
        case hS0 => exact ⟨[], #[], 0, _, setQ_new (Heap.get?_push_of_some _ hS), fun p hp => (by cases hp), fun p hp => (by simp at hp)⟩
        case hR =>
          intro s' L es ep t hm hS' g' hkp
          obtain ⟨h', g2, d', tk', os'⟩ := s'
          have eg : g2 = s.gens := hm.gens
          have ed : d' = s.drawn := hm.drawn
          have eo : os' = s.os := hm.os
          subst eg
          subst ed
          subst eo
          show wpAny _ _ _ _ _ _
          refine wpAny_pure ?_
          show wpAny _ _ (ret Value.none) _ _ _
          rw [hz] at g'
          exact wpAny_pure ⟨rfl, h', tk', L, es, ep, t, rfl, hS', g', hkp⟩
      · cases r₂ with
        | error e => exact hr₂
        | ok fl₂ =>
          cases fl₂ with
          | ret r =>
            obtain ⟨rfl, h', tk, L, es, ep, t, rfl, hS', g', hk'⟩ := hr₂
            repeat (any_goals (first | assumption | wp_step))
            exact h _ _ _ _ _ _ hS' g' hk'
          | _ => exact hr₂.elim
    | _ => exact hr.elim
end
/-! the data -/
def strTup : D → Option (List Str)
  | .tuple ds => strsO ds
  | _ => none
def gLenSet : D → Option D
  | .list ds => match ds.mapM strTup with
    | some ks => if (dd [] ks).length < 60 ∧ ds.length ≤ 1000 then some (.int ((dd [] ks).length : Nat)) else none
    | none => none
  | _ => none
def dLenSet (f : Fe) : Fe := fun env => (f env).bnd fun d e1 => outO (gLenSet d) e1
theorem strs_of {K : PySem.W.Frag} {H : Hp} : ∀ {vs : List V} {ds : List D} {k : List Str}, Dqs K H vs ds → strsO ds = some k → vs = k.map V.str
  | _, _, k, .nil, h => by cases h; rfl
  | _, _, k, .cons (d := d) r t, h => by
    cases r with
    | str x =>
      have h' : (strsO _).map (x :: ·) = some k := h
      cases hs : strsO _ with
      | none => rw [hs] at h'; cases h'
      | some k' =>
        rw [hs] at h'
        cases h'
        rw [strs_of t hs]; rfl
    | non => cases h
    | bl _ => cases h
    | int _ => cases h
    | lst _ _ => cases h
    | tup _ _ => cases h
theorem keys_of {K : PySem.W.Frag} {H : Hp} : ∀ {vs : List V} {ds : List D} {ks : List (List Str)}, Dqs K H vs ds → ds.mapM strTup = some ks → ∃ ps : List (Addr × List Str), vs = ps.map (fun p => V.ref p.1) ∧ ps.map (·.2) = ks ∧ ∀ p ∈ ps, SqT K H p.1 (p.2.map V.str)
  | _, _, ks, .nil, h => by
    have : ks = [] := by simpa using h.symm
    subst this
    exact ⟨[], rfl, rfl, fun p hp => (by cases hp)⟩
  | _, _, ks, .cons (d := d) (ds := ds) r t, h => by
    rw [List.mapM_cons] at h
    cases hd : strTup d with
    | none => rw [hd] at h; cases h
    | some k =>
      rw [hd] at h
      cases hm : ds.mapM strTup with
      | none => rw [hm] at h; cases h
      | some ks' =>
        rw [hm] at h
        cases h
        obtain ⟨ps, h1, h2, h3⟩ := keys_of t hm
        cases r with
        | tup hq hs =>
          rename_i a xs es
          have e := strs_of hs hd
          subst e
          exact ⟨(a, k) :: ps, by rw [h1]; rfl, by rw [List.map_cons, h2], fun p hp => by
            rcases List.mem_cons.mp hp with z | z
            · rw [z]; exact hq
            · exact h3 p z⟩
        | non => cases hd
        | bl _ => cases hd
        | int _ => cases hd
        | str _ => cases hd
        | lst _ _ => cases hd
theorem vals_strs {P : Program} {w : World} : ∀ {k : List Str} {us : List Value}, Vals (k.map V.str) us → PySem.ItemsAre (strKind P w) k us
  | [], _, .nil => .nil
  | x :: k, _, .cons r t => by
    obtain ⟨tk, rfl⟩ := r
    exact .cons (by show Value.isStrOf x (.str x tk) = true; simp [Value.isStrOf]) (vals_strs t)
theorem vals_refs : ∀ {ks : List (Addr × List Str)} {us : List Value}, Vals (ks.map fun p => V.ref p.1) us → us = ks.map fun p => Value.ref p.1
  | [], _, .nil => rfl
  | p :: ks, _, .cons r t => by
    cases r
    rw [vals_refs t]; rfl
theorem inv_tup {X : Cx} {pins : List (Addr × Obj)} {σ : L2.St} {H : Hp} {s : Shared} {b : Addr} {k : List Str} (I : Inv X pins σ H s) (h : SqT X.K H b (k.map V.str)) : IsTupleKey (strKind X.prog X.w) s.heap k b := by
  obtain ⟨its, r, ⟨o, ho, hc, n, hd⟩, _⟩ := I.tuple h
  exact ⟨o, its.toArray, n, ho, hc, hd, by simpa using vals_strs r⟩
theorem de_lenSet {X : Cx} {G : Er} {W : WX} {a : Expr} {fa : Fe} {p p2 q pos : Pos} (hc : X.calm = true) (hu : X.A.units + 200 < cLine) (hg : Gl X "len") (hm : X.mg "len" = none) (hg2 : Gl X "set") (hm2 : X.mg "set" = none) (ha : DE X G W a fa)
    (na : starEach [a] X.env = (false, eval a X.env) :: starEach [] X.env := by rfl) : DE X G W (.Call (.Name "len" p) [.Call (.Name "set" p2) [a] [] q] [] pos) (dLenSet fa) := ⟨fun x xt => ⟨fun pins s σ H Q I ⟨O, Z, env, S, qq⟩ => by
  refine Call_ (ld_blt I hg hm PySem.boot_len ?_)
  refine PyProof.Rows.callWith_builtin1 (PyProof.Rows.args_cons ?_ rfl) rfl rfl
  refine Call_ (ld_blt I hg2 hm2 PyProof.Rows.boot_set ?_)
  refine PyProof.Rows.callWith_type1 (PyProof.Rows.args_cons (thn ((ha.run x xt).run pins s σ H (fun v H1 => ∃ e1 d, SRel X.K x O Z H1 σ e1 ∧ Dq X.K (mns H1 Z) v d ∧ PO X.K G W x O Z σ (Dq X.K) H1 (outO (gLenSet d) e1) Q) I ⟨O, Z, env, S, PO.bnd qq fun d e1 v H1 S1 _ dp1 h1 => ⟨e1, d, S1, dp1, h1⟩⟩) fun v s1 hv => PyProof.Rows.args_nil ?_) na) na rfl
  obtain ⟨v', H1, I1, r1, e1, d, S1, dq, k⟩ := hv
  cases hgl : gLenSet d with
  | none => rw [hgl] at k; exact k.elim
  | some z =>
    rw [hgl] at k
    unfold gLenSet at hgl
    split at hgl
    · rename_i ds
      split at hgl
      · rename_i ks hks
        split at hgl
        · rename_i hb
          cases hgl
          obtain ⟨l, vs, rfl, hl, hvs⟩ := dq_llst dq
          obtain ⟨ps, e1', e2, e3⟩ := keys_of hvs hks
          cases r1
          obtain ⟨its, r, pl, hz⟩ := I1.list (SqL.of (lst_up hl))
          rw [e1'] at r
          refine set_of_list (P := X.prog) (w := X.w) (kk := strKind X.prog X.w) still_str ps (I1.ok.hd hc) pl.isList (by simpa using vals_refs r) (fun p hp => inv_tup I1 (sqT_up (e3 p hp))) (by rw [e2]; exact hb.1) (by omega) fun h' tk L es ep t R g hkp => ?_
          have hsz := g.size R.nd
          rw [e2] at hsz
          refine PyProof.Rows.args_nil ?_
          obtain ⟨o, ho, hex, hd⟩ := R.ob
          have hes := ents_size R.ents
          have I2 : Inv X pins σ H1 { s1 with heap := h', toks := tk } := I1.kept hkp
          refine call_len_set ho hex hd (SetQ.fits (s := { s1 with heap := h', toks := tk }) R) (by rw [hes]; omega) ⟨.int ((dd [] ks).length : Nat), H1, I2.tok _, ⟨_, by rw [hes, hsz]⟩, k _ H1 S1 (Sm.refl _) (.int _)⟩
        · cases hgl
      · cases hgl
    · cases hgl⟩⟩
end MI
set_option Elab.async false
set_option linter.all false
set_option maxRecDepth 100000
set_option maxHeartbeats 4000000
namespace PySem
namespace ErrInvalidNumber
open PySem.W PySem.Calls PyProof.Rows PySem.HandSPX
def iA (p1 p2 : Pos) : Arguments := { posonlyargs := [], args := [{ arg := "self", annotation := none, pos := p1 }, { arg := "given", annotation := none, pos := p2 }], vararg := none, kwonlyargs := [], kw_defaults := [], kwarg := none, defaults := [] }
def iB (q1 q2 q3 q4 : Pos) : List Stmt := [.Assign [.Attribute (.Name "self" q1) "given" q2] (.Name "given" q3) q4]
def iS : Scope := { kind := .function, names := [(PySem.Str.ofString "self", .local), (PySem.Str.ofString "given", .local)], isGenerator := false, isCoroutine := false, more := [] }
structure ErrTxt (K : Frag) (mg : Str → Option Value) (C fI : Addr) : Prop where
  gC : mg "InvalidNumber" = some (.ref C)
  cls : ∃ nm q N bs bm sn sub ab col dd k0 k1 k2 k3 k5, K.lookup C = some (excClassObj nm q C N bs bm true sn sub ab col dd k0 k1 k2 k3 k5 "ValueError.__new__") ∧ refsVE bm = true
  sa : findIn K (.ref C) "__setattr__" = some (some (.builtin "object.__setattr__"))
  ga : findIn K (.ref C) "__getattribute__" = some (some (.builtin "BaseException.__getattribute__"))
  gg : findIn K (.ref C) "__getattr__" = some none
  noN : findIn K (.ref C) "given" = some none
  iC : findIn K (.ref C) "__init__" = some (some (.ref fI))
  tC : typeIn K (.ref fI) = some (.type "function")
  kC : keepIn K (.ref C) = true
  exC : subIn K (.ref C) (.type "BaseException") = some true
  tyC : typeIn K (.ref C) = some (.type "type")
  hdC : hasDictIn K C = true
  fn : ∃ (oc : Value) (od : Option Addr) (kV doc pm : Value) (an : Option Addr) (cdv ct : Value) (osl : Array (Option Value)) (p1 p2 q1 q2 q3 q4 : Pos),
    K.lookup fI = some ⟨oc, od, .func (fnOf "__init__" "InvalidNumber.__init__" (iA p1 p2) (iB q1 q2 q3 q4) iS .none kV doc pm an cdv ct), osl⟩ ∧ codeIn K cdv "InvalidNumber.__init__" = true
theorem one_size (v : Value) : [v].length ≤ sizeLine := by
  rw [sizeLine_eq]
  exact (by decide : 1 ≤ 16777216)
theorem ldC {M : Model} {s : Shared} {name : Str} {scope : Scope} {L a : Addr} {cd : Value} {m : Str → Option Value} {x : Str} {pos : Pos} {v : Value} {Q : Value → Shared → Prop} {A : Around} {E : Value → Shared → Prop} (hn : s.heap.Ns L m) (hv : m x = some v) (h : Q v s)
    (hk : scope.kind = .function := by rfl) (hl : (envOfC name scope L a cd).kindOf x = some .local := by rfl) (hd : (x == ("__debug__" : Str)) = false := by decide) :
    wpAny M A (eval (.Name x pos) (envOfC name scope L a cd)) Q E s := wpAny_Name (wpAny_loadName_local hk hl hn hv h) hd
structure InitEnd (h h' : Heap) (x C dx t1 : Addr) (v : Value) : Prop where
  keep : ∀ b o, b ≠ x → h.get? b = some o → h'.get? b = some o
  obj : h'.get? x = some { cls := .ref C, dict := some dx, data := .fields #[.ref t1, .none, .none, .none, .bool false, .none] }
  dbig : h.objs.size ≤ dx
  dne : dx ≠ x
  ns : h'.Ns1 dx (fun y => if y = "given" then some v else none)
structure OwnMade (h h' : Heap) (e C d : Addr) (v : Value) : Prop where
  keep : ∀ b o, h.get? b = some o → h'.get? b = some o
  new : h.objs.size ≤ e
  obj : ∃ oe vs, h'.get? e = some oe ∧ oe.cls = .ref C ∧ oe.dict = some d ∧ oe.data = .fields vs ∧ vs[1]? = some .none ∧ vs[2]? = some .none
  dbig : h.objs.size ≤ d
  dne : d ≠ e
  ns : h'.Ns1 d (fun y => if y = "given" then some v else none)
section
variable {prog : Program} {w : World} {A : Around} {E : Value → Shared → Prop} {R : Result → Shared → Prop} {s : Shared} {K : Frag} {mg : Str → Option Value} {C fI : Addr}
theorem low_init (T : ErrTxt K mg C fI) {x t0 : Addr} {v : Value} (X : K.In s.heap) (hlim : s.heap.NoLimit) (hx : s.heap.get? x = some (excO C t0)) (hnx : K.lookup x = none) (hroom : A.depth < recursionLimit)
    (hq : ∀ h' tk dx, InitEnd s.heap h' x C dx t0 v → R (.ok (.ret .none)) { s with heap := h', toks := tk }) :
    codeAny (model prog w) A (.call (.ref fI) ⟨[.ref x, v], []⟩) R s := by
  obtain ⟨oc, od, kV, doc, pm, an, cdv, ct, osl, p1, p2, q1, q2, q3, q4, ho, hcd⟩ := T.fn
  obtain ⟨nm, q, N, bs, bm, sn, sub, ab, col, dd, k0, k1, k2, k3, k5, hC, hbm⟩ := T.cls
  have hcl : clsIn K C = some { name := nm, bases := bs, mro := .ref C :: bm, ns := N, qualname := q, hasDict := true, slotNames := sn, subclasses := sub, abstract := ab, collection := col, hasDel := false } := by unfold clsIn; rw [hC] <;> rfl
  refine Att.call_fn (binds := [("self", .ref x), ("given", v)]) X hlim ho hcd hroom (BindsTo.of_eq (by first | rfl | with_unfolding_all rfl)) (by first | rfl | decide | with_unfolding_all rfl) (fun s₁ IC => ?_) rfl rfl rfl
  obtain ⟨h₁, tk₁, rfl⟩ := IC.toInCall.same
  have k : ∀ b o, s.heap.get? b = some o → h₁.get? b = some o := IC.toInCall.keep
  have hn := IC.toInCall.ns
  have hxL : s.heap.objs.size ≠ x := Nat.ne_of_gt (Heap.lt_size hx)
  have X₁ : K.In h₁ := X.keeps k
  have hx₁ := k _ _ hx
  show wpAny _ _ (execs _ _) _ _ _
  refine wpAny_execs_cons (plainObj_wpAny_Assign_Attribute ?_)
  refine ldC (v := v) hn (by first | rfl | with_unfolding_all rfl | kernel_rfl) (ldC (v := .ref x) hn (by first | rfl | with_unfolding_all rfl | kernel_rfl) ?_)
  refine set_plain X₁ (ox := excO C t0) (od := none) ⟨hx₁, rfl, rfl, trivial⟩ T.sa ?_
  refine exc_osa X₁ hx₁ hcl (show refsVE (.ref C :: bm) = true from hbm) rfl T.noN (fun h₃ tk₃ dx k₃ dn dne hx₃ hn₃ => ?_)
  show wpAny _ _ (execs _ _) _ _ _
  have z : s.heap.objs.size < h₁.objs.size := hn.lt
  exact wpAny_execs_nil (hq h₃ tk₃ dx ⟨fun b o hb e => k₃ b o hb (k b o e), hx₃, Nat.le_of_lt (Nat.lt_of_lt_of_le z dn), dne, hn₃⟩)
theorem low_made (T : ErrTxt K mg C fI) {v : Value} (X : K.In s.heap) (hlim : s.heap.NoLimit) (hroom : A.depth + 1 < recursionLimit)
    (hq : ∀ h' tk e d, OwnMade s.heap h' e C d v → R (.ok (.ret (.ref e))) { s with heap := h', toks := tk }) :
    codeAny (model prog w) A (.call (.ref C) ⟨[v], []⟩) R s := by
  obtain ⟨nm, q, N, bs, bm, sn, sub, ab, col, dd, k0, k1, k2, k3, k5, hC, hbm⟩ := T.cls
  obtain ⟨hp, g, dr, tk, os⟩ := s
  have k : ∀ b o, hp.get? b = some o → ((hp.push (kdv_tup [v])).push (excO C hp.objs.size)).get? b = some o := fun b o e => Heap.get?_push_of_some _ (Heap.get?_push_of_some _ e)
  have hget : ((hp.push (kdv_tup [v])).push (excO C hp.objs.size)).get? (hp.objs.size + 1) = some (excO C hp.objs.size) := by heap_get
  have hnx : K.lookup (hp.objs.size + 1) = none := by
    cases e : K.lookup (hp.objs.size + 1) with
    | none => rfl
    | some o =>
      have z : hp.get? (hp.objs.size + 1) = some o := X _ _ e
      exact absurd (Nat.lt_of_succ_lt (Heap.lt_size z)) (Nat.lt_irrefl _)
  refine call_own F.excBase_ValueError (fun X => refsVE_contains X bm hbm) (X _ _ hC) (looks_findIn X T.iC) (fun self => bind_fn X self T.tC) (one_size v) ?_
  refine low_init (s := ⟨(hp.push (kdv_tup [v])).push (excO C hp.objs.size), g, dr, tk, os⟩) T (X.keeps k) (hlim.keeps k) hget hnx ?_ fun h' tk' dx ⟨k', hx, dn, dne, hns⟩ => ?_
  · show A.depth + 1 < recursionLimit
    exact hroom
  · have old : ∀ b o, hp.get? b = some o → h'.get? b = some o := fun b o e => k' b o (Nat.ne_of_lt (Nat.lt_succ_of_lt (Heap.lt_size e))) (k b o e)
    have z : hp.objs.size + 1 + 1 ≤ dx := by
      first
        | (simpa only [Heap.size_push] using dn)
        | exact dn
        | (have q := dn; rw [Heap.size_push, Heap.size_push] at q; exact q)
    exact ⟨rfl, hq h' tk' (hp.objs.size + 1) dx ⟨old, Nat.le_succ _, ⟨_, _, hx, rfl, rfl, rfl, rfl, rfl⟩, Nat.le_trans (Nat.le_trans (Nat.le_succ _) (Nat.le_succ _)) z, dne, hns⟩⟩
end
end ErrInvalidNumber
end PySem
namespace MI
open PySem PySem.Spec PyProof.Rows L2
theorem relO_InvalidNumber {v : V} {v' : Value} (r : RelV v v') (f : Str) : RelO (List.lookup f [(("given" : Str), v)]) (if f = "given" then some v' else none) := by
  by_cases hw : f = "given"
  · subst hw
    rw [if_pos rfl]
    have q : List.lookup ("given" : Str) [(("given" : Str), v)] = some v := by simp [List.lookup]
    rw [q]
    exact r
  · rw [if_neg hw]
    have qw : (f == ("given" : Str)) = false := by simpa using hw
    have q2 : List.lookup f [(("given" : Str), v)] = none := by simp [List.lookup, qw]
    rw [q2]
    trivial
section
variable {X : Cx} {C fI : Addr}
theorem pmk_InvalidNumber {a : Expr} {ta : TA} {p pos : Pos} {k : Nat} (T : PySem.ErrInvalidNumber.ErrTxt X.K X.mg C fI) (hr : Room k X.A) (ha : PA X [a] ta) (hg : Gl X "InvalidNumber" := by rfl)
    (he : starEach (a :: []) X.env = (false, eval a X.env) :: starEach [] X.env := by rfl) (hpl : (backTo pos (starEach [] X.env)).any (·.1) = false := by rfl) :
    L2N.PMk X (.Call (.Name "InvalidNumber" p) [a] [] pos) (tMkE C "given" ta) := by
  intro pins s σ H Q I h
  refine wpAny_Call_Name_kw (ld_glob I hg T.gC ?_)
  refine PySem.W.callWith_K (h₀ := X.base) I.ok.mod.kin T.kC (thn (ha.run pos pins s σ H _ I h) fun us s1 hh => ?_) he hpl
  obtain ⟨vs, H1, I1, r1, v, ev, q1⟩ := hh
  subst ev
  refine ⟨I1.kIn, ?_⟩
  cases r1 with
  | cons rv rn =>
    rename_i v' us'
    cases rn
    show wpAny _ _ (call (.ref C) [v']) _ _ _
    have hlim := I1.nolimit
    obtain ⟨hp, g, dr, tk, os⟩ := s1
    refine wpAny_call (PySem.ErrInvalidNumber.low_made T I1.kIn hlim (by have := hr.dp; omega) fun h' tk' e d M => ?_)
    show L2N.MkP X pins σ Q (.ref e) ⟨h', g, dr, tk', os⟩
    obtain ⟨oe, fv, hoe, hc, hd, hdat, h1, h2⟩ := M.obj
    have hns := M.ns
    obtain ⟨G', g1, g2⟩ := restrict h' fun b => decide (b ≠ e)
    have gk : ∀ b, b ≠ e → G'.get? b = h'.get? b := fun b hb => g1 b (decide_eq_true hb)
    have ge : G'.get? e = none := g2 e (by simp)
    have old : ∀ b o, hp.get? b = some o → G'.get? b = some o := fun b o q => (gk b (Nat.ne_of_lt (Nat.lt_of_lt_of_le (Heap.lt_size q) M.new))).trans (M.keep b o q)
    have ob : ObjOk X.prog X.w (upd H1 d (.xd [(("given" : Str), v)])) G' d (.xd [(("given" : Str), v)]) :=
      ⟨_, hns.at (fun o q => (gk d M.dne).trans q), fun f => relO_InvalidNumber rv f⟩
    have J : Inv X pins σ (upd H1 d (.xd [(("given" : Str), v)])) ⟨G', g, dr, tk', os⟩ := I1.laid (t' := tk') old M.dbig ob
    refine ⟨e, oe, fv, ⟨G', g, dr, tk', os⟩, _, .ref C, some d, rfl, J, fun b o q => ?_, ge, hoe, ⟨hc, hd, fun vs e => by rw [hdat] at e; cases e; exact h2⟩, hdat, h1, ?_, rfl, I1.bare, raises_own T.exC T.tyC, q1 d (I1.hok.fresh M.dbig)⟩
    · by_cases hb : b = e
      · have q' : G'.get? b = some o := q
        rw [hb, ge] at q'; cases q'
      · exact (gk b hb).symm.trans q
    · rw [upd_ne (Ne.symm M.dne)]
      exact I1.hok.fresh M.new
theorem pe_by_InvalidNumber {a : Addr} {oe : Obj} {cls : Value} {d : Option Addr} {pn : List (Addr × Obj)} {e : Expr} {te : TE} {pos : Pos} (T : PySem.ErrInvalidNumber.ErrTxt X.K X.mg C fI) (hz : L2N.Zn cls d oe) (hf : ∃ vs, oe.data = .fields vs) (he : PE (X.suite a ((a, oe) :: pn)) e te)
    (hb : attributeBase e "given" X.env (eval e X.env) = eval e X.env := by rfl) :
    PE (X.suite a ((a, oe) :: pn)) (.Attribute e "given" pos) (tBy C "given" a cls d te) := by
  refine ⟨fun pins s σ H Q I h => ?_⟩
  refine attr_of hb (thn (he.run pins s σ H _ I h) fun u s1 hh => ?_)
  obtain ⟨x, H1, I1, rx, ex, ec, dd, v, ed, ea, q⟩ := hh
  subst ex
  obtain rfl : u = Value.ref a := rx
  subst ec
  subst ed
  obtain ⟨ha, _⟩ := I1.pin (a, oe) (List.mem_append_left _ List.mem_cons_self)
  obtain ⟨vs, hd⟩ := hf
  have hx : ObjOk X.prog X.w H1 s1.heap dd (.xd [(("given" : Str), v)]) := I1.hok dd _ ea
  obtain ⟨mA, hns, hr⟩ := hx
  obtain ⟨od, ho, hl⟩ := lookIn_ns hns
  have l : List.lookup ("given" : Str) [(("given" : Str), v)] = some v := by simp [List.lookup]
  obtain ⟨u, hu, ru⟩ := RelO.some_of (v := v) (o := mA "given") (by rw [← l]; exact hr "given")
  have J : PySem.W.InstAt s1.heap a oe C (some od) := ⟨ha, hz.1, by unfold PySem.W.notCls; rw [hd] <;> rfl, by rw [hz.2.1]; exact ho⟩
  exact HandSPX.exc_get I1.kIn J T.ga T.gg T.exC (PySem.W.findObj_own T.hdC T.noN rfl (by rw [hl, hu])) (handed_of ru) ⟨v, H1, I1.tok _, ru, q⟩
end
end MI
set_option Elab.async false
set_option linter.all false
set_option maxRecDepth 100000
set_option maxHeartbeats 4000000
/-! Ev: how the readings are computed -/
namespace MI
open PySem PySem.Spec PyProof.Rows L2
section
variable {α β : Type} {a : α} {e env : En} {c : Str} {p d d1 d2 : D} {i n : Nat} {o : Option SV} {s : SV}
@[simp] theorem bnd_ok {k : α → En → Out β} : (Out.ok a e).bnd k = k a e := rfl
@[simp] theorem bnd_err {k : α → En → Out β} : (Out.err c p e : Out α).bnd k = .err c p e := rfl
@[simp] theorem bnd_stuck {k : α → En → Out β} : (Out.stuck : Out α).bnd k = .stuck := rfl
@[simp] theorem bns_ok {k : α → En → Out β} : (Out.ok a e).bns k = k a e := rfl
@[simp] theorem bnS_ok {k : α → En → SOut} : (Out.ok a e).bnS k = k a e := rfl
@[simp] theorem bnS_err {k : α → En → SOut} : (Out.err c p e : Out α).bnS k = .err c p e := rfl
@[simp] theorem outO_some : outO (some a) e = .ok a e := rfl
@[simp] theorem outO_none : outO (none : Option α) e = .stuck := rfl
@[simp] theorem gv_zero : gv (some (.val d) :: e) 0 = some d := rfl
@[simp] theorem gv_succ : gv (o :: e) (n + 1) = gv e n := rfl
@[simp] theorem gOwn_lst {ds : List D} : gOwn (some (.lst ds) :: e) 0 = some (.lst ds) := rfl
@[simp] theorem gOwn_dct {kv : List (Key × D)} : gOwn (some (.dct kv) :: e) 0 = some (.dct kv) := rfl
@[simp] theorem gOwn_val : gOwn (some (.val d) :: e) 0 = none := rfl
@[simp] theorem gOwn_none : gOwn ((none : Option SV) :: e) 0 = none := rfl
@[simp] theorem gOwn_scr {ns : List Int} : gOwn (some (.scr ns) :: e) 0 = none := rfl
@[simp] theorem gOwn_succ : gOwn (o :: e) (n + 1) = gOwn e n := rfl
@[simp] theorem gScr_zero {ns : List Int} : gScr (some (.scr ns) :: e) 0 = some ns := rfl
@[simp] theorem own_lst {ds : List D} : (SV.lst ds).own = true := rfl
@[simp] theorem own_dct {ds : List (Key × D)} : (SV.dct ds).own = true := rfl
@[simp] theorem own_val : (SV.val d).own = false := rfl
@[simp] theorem own_scr {ns : List Int} : (SV.scr ns).own = false := rfl
@[simp] theorem e_dV : dV i env = outO (gv env i) env := rfl
theorem e_dK : dK d env = .ok d env := rfl
@[simp] theorem e_dKb {b : Bool} : dK (.bool b) env = .ok (.bool b) env := rfl
@[simp] theorem e_dKn : dK .none env = .ok .none env := rfl
@[simp] theorem e_dKs {z : Str} : dK (.str z) env = .ok (.str z) env := rfl
theorem e_dKi {z : Int} : dK (.int z) env = .ok (.int z) env := rfl
variable {f g fa fb fc : Fe} {fs : En → Out (List D)} {pb qb : En → Out Bool} {gg gg' : D → D → Option D}
@[simp] theorem e_d2 : MI.d2 gg fa fb env = (fa env).bnd fun d e1 => (fb e1).bnd fun e e2 => outO (gg d e) e2 := rfl
@[simp] theorem e_dNil : dNil env = .ok [] env := rfl
@[simp] theorem e_dCons : dCons f fs env = (f env).bnd fun d e1 => (fs e1).bnd fun ds e2 => .ok (d :: ds) e2 := rfl
@[simp] theorem e_dC {h : List D → Option D} : dC h fs env = (fs env).bnd fun ds e1 => outO (h ds) e1 := rfl
@[simp] theorem e_dTup : dTup fs env = (fs env).bnd fun ds e1 => if ds.length ≤ 1000000 then .ok (.tuple ds) e1 else .stuck := rfl
@[simp] theorem e_dLst : dLst fs env = (fs env).bnd fun ds e1 => .ok (.list ds) e1 := rfl
@[simp] theorem e_dList : dList fs env = (fs env).bnd fun ds e1 => if ds.length ≤ 1000000 then .ok ds e1 else .stuck := rfl
@[simp] theorem e_fLst : fLst fs env = (fs env).bnd fun ds e1 => .ok (.lst ds) e1 := rfl
@[simp] theorem e_dNotB : dNotB pb env = (pb env).bnd fun b e1 => .ok (!b) e1 := rfl
@[simp] theorem e_dAndB : dAndB pb qb env = (pb env).bnd fun b e1 => if b = true then qb e1 else .ok false e1 := rfl
@[simp] theorem e_dOrB : dOrB pb qb env = (pb env).bnd fun b e1 => if b = true then .ok true e1 else qb e1 := rfl
@[simp] theorem e_dIf : dIf pb f g env = (pb env).bnd fun b e1 => if b = true then f e1 else g e1 := rfl
def bOf (d : D) (e : En) : Out Bool := match d with
  | .bool b => .ok b e
  | _ => .stuck
@[simp] theorem bOf_bool {b : Bool} : bOf (.bool b) e = .ok b e := rfl
@[simp] theorem e_dB : dB f env = (f env).bnd bOf := rfl
@[simp] theorem e_dIsN : dIsN f env = (f env).bnd fun d e1 => .ok (.bool (isNone d)) e1 := rfl
@[simp] theorem e_dNotN : dNotN f env = (f env).bnd fun d e1 => .ok (.bool (!isNone d)) e1 := rfl
@[simp] theorem isNone_int {z : Int} : isNone (.int z) = false := rfl
@[simp] theorem isNone_none : isNone (.none) = true := rfl
@[simp] theorem isNone_bool {b : Bool} : isNone (.bool b) = false := rfl
@[simp] theorem isNone_str {z : Str} : isNone (.str z) = false := rfl
@[simp] theorem isNone_list {z : List D} : isNone (.list z) = false := rfl
@[simp] theorem isNone_tuple {z : List D} : isNone (.tuple z) = false := rfl
def andK (g : Fe) (d : D) (e1 : En) : Out D := match d with
  | .bool b => if b = true then g e1 else .ok (.bool false) e1
  | _ => .stuck
def orK (g : Fe) (d : D) (e1 : En) : Out D := match d with
  | .bool b => if b = true then .ok (.bool true) e1 else g e1
  | _ => .stuck
def notK (d : D) (e1 : En) : Out D := match d with
  | .bool b => .ok (.bool (!b)) e1
  | _ => .stuck
@[simp] theorem andK_b {b : Bool} : andK g (.bool b) e = if b = true then g e else .ok (.bool false) e := rfl
@[simp] theorem orK_b {b : Bool} : orK g (.bool b) e = if b = true then .ok (.bool true) e else g e := rfl
@[simp] theorem notK_b {b : Bool} : notK (.bool b) e = .ok (.bool (!b)) e := rfl
@[simp] theorem e_dAnd : dAnd f g env = (f env).bnd (andK g) := by
  unfold dAnd; congr 1; funext d e1; cases d <;> try rfl
  rename_i b; cases b <;> rfl
@[simp] theorem e_dOr : dOr f g env = (f env).bnd (orK g) := by
  unfold dOr; congr 1; funext d e1; cases d <;> try rfl
  rename_i b; cases b <;> rfl
@[simp] theorem e_dNot : dNot f env = (f env).bnd notK := by
  unfold dNot; congr 1
def chK (g' : D → D → Option D) (fc : Fe) (e : D) (o : Option D) (e2 : En) : Out D := match o with
  | some (.bool b) => if b = true then (fc e2).bnd fun z e3 => outO (g' e z) e3 else .ok (.bool false) e2
  | _ => .stuck
@[simp] theorem chK_b {b : Bool} : chK gg' fc d (some (.bool b)) e = if b = true then (fc e).bnd fun z e3 => outO (gg' d z) e3 else .ok (.bool false) e := rfl
@[simp] theorem e_dChain : dChain gg gg' fa fb fc env = (fa env).bnd fun d e1 => (fb e1).bnd fun e e2 => chK gg' fc e (gg d e) e2 := by
  unfold dChain; congr 1; funext d e1; congr 1; funext e e2
  cases gg d e with
  | none => rfl
  | some x =>
    cases x <;> try rfl
    rename_i b; cases b <;> rfl
def isiK (T : String) (d : D) (e1 : En) : Out D := match kitB (tyD d) T with
  | some b => .ok (.bool b) e1
  | none => .stuck
@[simp] theorem e_dIsi {T : String} : dIsi T f env = (f env).bnd (isiK T) := rfl
@[simp] theorem isi_int_none  : isiK "int" (.none) e = .ok (.bool false) e := by first | rfl | (unfold isiK; rw [show kitB (tyD (.none)) "int" = some false from by first | rfl | decide +kernel])
@[simp] theorem isi_int_bool {b : Bool} : isiK "int" (.bool b) e = .ok (.bool true) e := by first | rfl | (unfold isiK; rw [show kitB (tyD (.bool b)) "int" = some true from by first | rfl | decide +kernel])
@[simp] theorem isi_int_int {z : Int} : isiK "int" (.int z) e = .ok (.bool true) e := by first | rfl | (unfold isiK; rw [show kitB (tyD (.int z)) "int" = some true from by first | rfl | decide +kernel])
@[simp] theorem isi_int_str {z : Str} : isiK "int" (.str z) e = .ok (.bool false) e := by first | rfl | (unfold isiK; rw [show kitB (tyD (.str z)) "int" = some false from by first | rfl | decide +kernel])
@[simp] theorem isi_int_list {z : List D} : isiK "int" (.list z) e = .ok (.bool false) e := by first | rfl | (unfold isiK; rw [show kitB (tyD (.list z)) "int" = some false from by first | rfl | decide +kernel])
@[simp] theorem isi_int_tuple {z : List D} : isiK "int" (.tuple z) e = .ok (.bool false) e := by first | rfl | (unfold isiK; rw [show kitB (tyD (.tuple z)) "int" = some false from by first | rfl | decide +kernel])
@[simp] theorem isi_bool_none  : isiK "bool" (.none) e = .ok (.bool false) e := by first | rfl | (unfold isiK; rw [show kitB (tyD (.none)) "bool" = some false from by first | rfl | decide +kernel])
@[simp] theorem isi_bool_bool {b : Bool} : isiK "bool" (.bool b) e = .ok (.bool true) e := by first | rfl | (unfold isiK; rw [show kitB (tyD (.bool b)) "bool" = some true from by first | rfl | decide +kernel])
@[simp] theorem isi_bool_int {z : Int} : isiK "bool" (.int z) e = .ok (.bool false) e := by first | rfl | (unfold isiK; rw [show kitB (tyD (.int z)) "bool" = some false from by first | rfl | decide +kernel])
@[simp] theorem isi_bool_str {z : Str} : isiK "bool" (.str z) e = .ok (.bool false) e := by first | rfl | (unfold isiK; rw [show kitB (tyD (.str z)) "bool" = some false from by first | rfl | decide +kernel])
@[simp] theorem isi_bool_list {z : List D} : isiK "bool" (.list z) e = .ok (.bool false) e := by first | rfl | (unfold isiK; rw [show kitB (tyD (.list z)) "bool" = some false from by first | rfl | decide +kernel])
@[simp] theorem isi_bool_tuple {z : List D} : isiK "bool" (.tuple z) e = .ok (.bool false) e := by first | rfl | (unfold isiK; rw [show kitB (tyD (.tuple z)) "bool" = some false from by first | rfl | decide +kernel])
@[simp] theorem isi_str_none  : isiK "str" (.none) e = .ok (.bool false) e := by first | rfl | (unfold isiK; rw [show kitB (tyD (.none)) "str" = some false from by first | rfl | decide +kernel])
@[simp] theorem isi_str_bool {b : Bool} : isiK "str" (.bool b) e = .ok (.bool false) e := by first | rfl | (unfold isiK; rw [show kitB (tyD (.bool b)) "str" = some false from by first | rfl | decide +kernel])
@[simp] theorem isi_str_int {z : Int} : isiK "str" (.int z) e = .ok (.bool false) e := by first | rfl | (unfold isiK; rw [show kitB (tyD (.int z)) "str" = some false from by first | rfl | decide +kernel])
@[simp] theorem isi_str_str {z : Str} : isiK "str" (.str z) e = .ok (.bool true) e := by first | rfl | (unfold isiK; rw [show kitB (tyD (.str z)) "str" = some true from by first | rfl | decide +kernel])
@[simp] theorem isi_str_list {z : List D} : isiK "str" (.list z) e = .ok (.bool false) e := by first | rfl | (unfold isiK; rw [show kitB (tyD (.list z)) "str" = some false from by first | rfl | decide +kernel])
@[simp] theorem isi_str_tuple {z : List D} : isiK "str" (.tuple z) e = .ok (.bool false) e := by first | rfl | (unfold isiK; rw [show kitB (tyD (.tuple z)) "str" = some false from by first | rfl | decide +kernel])
@[simp] theorem isi_tuple_none  : isiK "tuple" (.none) e = .ok (.bool false) e := by first | rfl | (unfold isiK; rw [show kitB (tyD (.none)) "tuple" = some false from by first | rfl | decide +kernel])
@[simp] theorem isi_tuple_bool {b : Bool} : isiK "tuple" (.bool b) e = .ok (.bool false) e := by first | rfl | (unfold isiK; rw [show kitB (tyD (.bool b)) "tuple" = some false from by first | rfl | decide +kernel])
@[simp] theorem isi_tuple_int {z : Int} : isiK "tuple" (.int z) e = .ok (.bool false) e := by first | rfl | (unfold isiK; rw [show kitB (tyD (.int z)) "tuple" = some false from by first | rfl | decide +kernel])
@[simp] theorem isi_tuple_str {z : Str} : isiK "tuple" (.str z) e = .ok (.bool false) e := by first | rfl | (unfold isiK; rw [show kitB (tyD (.str z)) "tuple" = some false from by first | rfl | decide +kernel])
@[simp] theorem isi_tuple_list {z : List D} : isiK "tuple" (.list z) e = .ok (.bool false) e := by first | rfl | (unfold isiK; rw [show kitB (tyD (.list z)) "tuple" = some false from by first | rfl | decide +kernel])
@[simp] theorem isi_tuple_tuple {z : List D} : isiK "tuple" (.tuple z) e = .ok (.bool true) e := by first | rfl | (unfold isiK; rw [show kitB (tyD (.tuple z)) "tuple" = some true from by first | rfl | decide +kernel])
@[simp] theorem isi_list_none  : isiK "list" (.none) e = .ok (.bool false) e := by first | rfl | (unfold isiK; rw [show kitB (tyD (.none)) "list" = some false from by first | rfl | decide +kernel])
@[simp] theorem isi_list_bool {b : Bool} : isiK "list" (.bool b) e = .ok (.bool false) e := by first | rfl | (unfold isiK; rw [show kitB (tyD (.bool b)) "list" = some false from by first | rfl | decide +kernel])
@[simp] theorem isi_list_int {z : Int} : isiK "list" (.int z) e = .ok (.bool false) e := by first | rfl | (unfold isiK; rw [show kitB (tyD (.int z)) "list" = some false from by first | rfl | decide +kernel])
@[simp] theorem isi_list_str {z : Str} : isiK "list" (.str z) e = .ok (.bool false) e := by first | rfl | (unfold isiK; rw [show kitB (tyD (.str z)) "list" = some false from by first | rfl | decide +kernel])
@[simp] theorem isi_list_list {z : List D} : isiK "list" (.list z) e = .ok (.bool true) e := by first | rfl | (unfold isiK; rw [show kitB (tyD (.list z)) "list" = some true from by first | rfl | decide +kernel])
@[simp] theorem isi_list_tuple {z : List D} : isiK "list" (.tuple z) e = .ok (.bool false) e := by first | rfl | (unfold isiK; rw [show kitB (tyD (.tuple z)) "list" = some false from by first | rfl | decide +kernel])
def partK (d : D) (e1 : En) : Out (Option Int) := match d with
  | .int i => .ok (some i) e1
  | _ => .stuck
@[simp] theorem partK_i {i : Int} : partK (.int i) e = .ok (some i) e := rfl
@[simp] theorem e_dPart : dPart f env = (f env).bnd partK := rfl
@[simp] theorem e_dNone : dNone env = .ok none env := rfl
@[simp] theorem e_dSl {l h : En → Out (Option Int)} : dSl f l h env = (f env).bnd fun d e1 => (l e1).bnd fun lo e2 => (h e2).bnd fun hi e3 => outO (gSl d lo hi) e3 := rfl
def joinK (g : Fe) (d : D) (e1 : En) : Out D := match d with
  | .str z => (g e1).bnd fun e e2 => outO (gJoin z e) e2
  | _ => .stuck
@[simp] theorem joinK_s {z : Str} : joinK g (.str z) e = (g e).bnd fun x e2 => outO (gJoin z x) e2 := rfl
@[simp] theorem e_dJoin : dJoin f g env = (f env).bnd (joinK g) := rfl
@[simp] theorem e_dRevS : dRevS f env = (f env).bnd fun d e1 => outO (gRev d) e1 := rfl
@[simp] theorem e_dLenSet : dLenSet f env = (f env).bnd fun d e1 => outO (gLenSet d) e1 := rfl
/-! statements -/
variable {F1 F2 : Fs} {b : D → En → Option En}
def sqK (g : Fs) (o : SOut) : SOut := match o with
  | .nx e => g e
  | o => o
@[simp] theorem sqK_nx : sqK F1 (.nx e) = F1 e := rfl
@[simp] theorem sqK_rt {r : SV} : sqK F1 (.rt r e) = .rt r e := rfl
@[simp] theorem sqK_err : sqK F1 (.err c p e) = .err c p e := rfl
@[simp] theorem sqK_bk : sqK F1 (.bk e) = .bk e := rfl
@[simp] theorem sqK_ct : sqK F1 (.ct e) = .ct e := rfl
@[simp] theorem sqK_if {q : Prop} [Decidable q] {x y : SOut} : sqK F1 (if q then x else y) = if q then sqK F1 x else sqK F1 y := by split <;> rfl
@[simp] theorem e_sSq : sSq F1 F2 env = sqK F2 (F1 env) := by unfold sSq sqK; rfl
@[simp] theorem e_sNx : sNx env = .nx env := rfl
@[simp] theorem e_sNo : sNo env = .stuck := rfl
@[simp] theorem e_sRet : sRet f env = (f env).bnS fun d e => .rt (.val d) e := rfl
@[simp] theorem e_sDrp : sDrp f env = (f env).bnS fun _ e => .nx e := rfl
@[simp] theorem e_sRaise : sRaise c f env = (f env).bnS fun d e => .err c d e := rfl
@[simp] theorem e_sIf : sIf pb F1 F2 env = (pb env).bnS fun b e => if b = true then F1 e else F2 e := rfl
def asgK (o : Option En) : SOut := match o with
  | some e => .nx e
  | none => .stuck
@[simp] theorem asgK_s : asgK (some e) = .nx e := rfl
@[simp] theorem e_sAsg : sAsg f b env = (f env).bnS fun d e => asgK (b d e) := by
  unfold sAsg; congr 1
@[simp] theorem e_sAsgF {h : En → Out SV} : sAsgF h i env = (h env).bnS fun s e => if s.own = true then .nx (e.set i (some s)) else .stuck := rfl
@[simp] theorem e_sRetF {h : En → Out SV} : sRetF h env = (h env).bnS fun s e => if s.own = true then .rt s e else .stuck := rfl
@[simp] theorem e_bName : bName i d env = some (env.set i (some (.val d))) := rfl
@[simp] theorem e_sFor {src : En → Out (List D)} : sFor src b F1 env = (src env).bnS fun items e1 => fGo b F1 items e1 := rfl
@[simp] theorem e_sSeq : sSeq f env = (f env).bnd fun d e1 => outO (itemsO d) e1 := rfl
@[simp] theorem items_list {ds : List D} : itemsO (.list ds) = some ds := rfl
@[simp] theorem items_tuple {ds : List D} : itemsO (.tuple ds) = some ds := rfl
def rngL1 (ds : List D) (e : En) : Out (List D) := match ds with
  | [.int j] => if smallI j = true then .ok (rgD 0 j) e else .stuck
  | _ => .stuck
def rngL2 (ds : List D) (e : En) : Out (List D) := match ds with
  | [.int i, .int j] => if smallI i = true ∧ smallI j = true then .ok (rgD i j) e else .stuck
  | _ => .stuck
def rng1K (o : Out (List D)) : Out (List D) := o.bnd rngL1
def rng2K (o : Out (List D)) : Out (List D) := o.bnd rngL2
@[simp] theorem e_sRng1 : sRng1 fs env = rng1K (fs env) := Eq.trans rfl rfl
@[simp] theorem e_sRng2 : sRng2 fs env = rng2K (fs env) := Eq.trans rfl rfl
@[simp] theorem e_sEnum : sEnum fs env = (fs env).bnd fun ds e1 => match ds with
  | [d] => outO ((itemsO d).map enumD) e1
  | _ => .stuck := rfl
@[simp] theorem e_sZip : sZip fs env = (fs env).bnd fun ds e1 => match ds with
  | [d, e] => outO (zipItems d e) e1
  | _ => .stuck := rfl
variable {bs : List D → En → Option En}
@[simp] theorem e_bNil : bNil [] env = some env := rfl
@[simp] theorem e_bCons {ds : List D} : bCons b bs (d :: ds) env = (b d env).bind fun e1 => bs ds e1 := rfl
@[simp] theorem e_bTup {ds : List D} : bTup n bs (.tuple ds) env = if ds.length = n then bs ds env else none := by unfold bTup; first | rfl | (split <;> simp_all)
/-! numbers -/
@[simp] theorem gI_ii {h : Int → Int → Option D} {i j : Int} : gI h (.int i) (.int j) = h i j := rfl
@[simp] theorem gSub_ii {i j : Int} : gSub (.int i) (.int j) = some (.int (i - j)) := rfl
@[simp] theorem gAdd_ii {i j : Int} : gAdd (.int i) (.int j) = some (.int (i + j)) := rfl
@[simp] theorem gMul_ii {i j : Int} : gMul (.int i) (.int j) = if cMul i j = true then some (.int (i * j)) else none := rfl
@[simp] theorem gFdiv_ii {i j : Int} : gFdiv (.int i) (.int j) = if cDiv i j = true then some (.int (i / j)) else none := rfl
@[simp] theorem gMod_ii {i j : Int} : gMod (.int i) (.int j) = if decide (0 < j) = true then some (.int (i % j)) else none := rfl
@[simp] theorem gLt_ii {i j : Int} : gLt (.int i) (.int j) = some (.bool (decide (i < j))) := rfl
@[simp] theorem gLe_ii {i j : Int} : gLe (.int i) (.int j) = some (.bool (decide (i ≤ j))) := rfl
@[simp] theorem gGt_ii {i j : Int} : gGt (.int i) (.int j) = some (.bool (decide (j < i))) := rfl
@[simp] theorem gGe_ii {i j : Int} : gGe (.int i) (.int j) = some (.bool (decide (j ≤ i))) := rfl
@[simp] theorem gEq_ii {i j : Int} : gEq (.int i) (.int j) = some (.bool (i == j)) := rfl
@[simp] theorem gNe_ii {i j : Int} : gNe (.int i) (.int j) = some (.bool (!(i == j))) := rfl
@[simp] theorem gEq_bb {i j : Bool} : gEq (.bool i) (.bool j) = some (.bool (i == j)) := rfl
@[simp] theorem gNe_bb {i j : Bool} : gNe (.bool i) (.bool j) = some (.bool (!(i == j))) := rfl
@[simp] theorem gInt_i {i : Int} : gInt [.int i] = some (.int i) := rfl
@[simp] theorem gInt_b {b : Bool} : gInt [.bool b] = some (.int (if b then 1 else 0)) := rfl
@[simp] theorem gAbs_i {i : Int} : gAbs [.int i] = some (.int (if i < 0 then -i else i)) := rfl
@[simp] theorem gMin2_ii {i j : Int} : gMin2 [.int i, .int j] = some (.int (if j < i then j else i)) := rfl
@[simp] theorem gTuple_l {ds : List D} : gTuple [.list ds] = some (.tuple ds) := rfl
@[simp] theorem gTuple_t {ds : List D} : gTuple [.tuple ds] = some (.tuple ds) := rfl
@[simp] theorem gListC_l {ds : List D} : gListC [.list ds] = some (.list ds) := rfl
theorem gLen_l {ds : List D} : gLen [.list ds] = some (.int (ds.length : Nat)) := rfl
theorem gLen_t {ds : List D} : gLen [.tuple ds] = some (.int (ds.length : Nat)) := rfl
/-! calls -/
variable {Fu : Fn} {ms : List SV}
/-- a def of values only -/
theorem call1 {a : D} {r : D} (h : Fu [.val a] = .rt (.val r) []) : dAft Fu [] 1 [.inl a] e = .ok r e := by
  unfold dAft aft
  simp [List.mapM_cons, argSV, ownP, h, setJs, asV]
theorem call2 {a1 a2 : D} {r : D} (h : Fu [.val a1, .val a2] = .rt (.val r) []) : dAft Fu [] 2 [.inl a1, .inl a2] e = .ok r e := by
  unfold dAft aft
  simp [List.mapM_cons, argSV, ownP, h, setJs, asV]
theorem call3 {a1 a2 a3 : D} {r : D} (h : Fu [.val a1, .val a2, .val a3] = .rt (.val r) []) : dAft Fu [] 3 [.inl a1, .inl a2, .inl a3] e = .ok r e := by
  unfold dAft aft
  simp [List.mapM_cons, argSV, ownP, h, setJs, asV]
theorem call1L {a : D} {r : List D} (h : Fu [.val a] = .rt (.lst r) []) : dAft Fu [] 1 [.inl a] e = .ok (.list r) e := by
  unfold dAft aft
  simp [List.mapM_cons, argSV, ownP, h, setJs, asV]
theorem cerr1 {a : D} (h : Fu [.val a] = .err c p []) : dAft Fu [] 1 [.inl a] e = .err c p e := by
  unfold dAft aft
  simp [List.mapM_cons, argSV, ownP, h, setJs]
theorem cerr2 {a1 a2 : D} (h : Fu [.val a1, .val a2] = .err c p []) : dAft Fu [] 2 [.inl a1, .inl a2] e = .err c p e := by
  unfold dAft aft
  simp [List.mapM_cons, argSV, ownP, h, setJs]
theorem cerr3 {a1 a2 a3 : D} (h : Fu [.val a1, .val a2, .val a3] = .err c p []) : dAft Fu [] 3 [.inl a1, .inl a2, .inl a3] e = .err c p e := by
  unfold dAft aft
  simp [List.mapM_cons, argSV, ownP, h, setJs]
/-- the first argument is an own thing, changed -/
theorem callS0 {j : Nat} {s : SV} {m : SV} {r : D} (hs : e[j]? = some (some s)) (ho : s.own = true) (h : Fu [s] = .rt (.val r) [m]) : dAft Fu [0] 1 [.inr j] e = .ok r (e.set j (some m)) := by
  unfold dAft aft
  simp [List.mapM_cons, argSV, ownP, h, setJs, asV, hs, gOwn, ho]
theorem callS1 {j : Nat} {s : SV} {m : SV} {a1 r : D} (hs : e[j]? = some (some s)) (ho : s.own = true) (h : Fu [s, .val a1] = .rt (.val r) [m]) : dAft Fu [0] 2 [.inr j, .inl a1] e = .ok r (e.set j (some m)) := by
  unfold dAft aft
  simp [List.mapM_cons, argSV, ownP, h, setJs, asV, hs, gOwn, ho]
theorem callS2 {j : Nat} {s : SV} {m : SV} {a1 a2 r : D} (hs : e[j]? = some (some s)) (ho : s.own = true) (h : Fu [s, .val a1, .val a2] = .rt (.val r) [m]) : dAft Fu [0] 3 [.inr j, .inl a1, .inl a2] e = .ok r (e.set j (some m)) := by
  unfold dAft aft
  simp [List.mapM_cons, argSV, ownP, h, setJs, asV, hs, gOwn, ho]
theorem callS3 {j : Nat} {s : SV} {m : SV} {a1 a2 a3 r : D} (hs : e[j]? = some (some s)) (ho : s.own = true) (h : Fu [s, .val a1, .val a2, .val a3] = .rt (.val r) [m]) : dAft Fu [0] 4 [.inr j, .inl a1, .inl a2, .inl a3] e = .ok r (e.set j (some m)) := by
  unfold dAft aft
  simp [List.mapM_cons, argSV, ownP, h, setJs, asV, hs, gOwn, ho]
variable {fr : En → Out (List AR)} {mp : List Nat}
@[simp] theorem e_mNil : mNil env = .ok [] env := rfl
@[simp] theorem e_mVal : mVal f fr env = (f env).bnd fun d e1 => (fr e1).bnd fun as e2 => .ok (.inl d :: as) e2 := rfl
@[simp] theorem e_dCall : dCall Fu mp n fr env = (fr env).bnd (dAft Fu mp n) := rfl
@[simp] theorem e_fCall : fCall Fu mp n fr env = (fr env).bnd (fAft Fu mp n) := rfl
theorem e_mSlot {j : Nat} (hs : env[j]? = some (some s)) : mSlot j fr env = (fr env).bnd fun as e2 => .ok (.inr j :: as) e2 := by unfold mSlot; rw [hs]
/-! loops -/
/-- a loop that looks for the first bad item -/
theorem fGo_find {items : List D} {S : En → Prop} {P : D → Bool} {r : D → D} (step : ∀ d ∈ items, ∀ env, S env → ∃ e1, b d env = some e1 ∧ ((P d = true ∧ ∃ e2, F1 e1 = .nx e2 ∧ S e2) ∨ (P d = false ∧ ∃ e2, F1 e1 = .rt (.val (r d)) e2))) :
    ∀ env, S env → (items.all P = true ∧ ∃ e, fGo b F1 items env = .nx e ∧ S e) ∨ (∃ d, items.find? (fun d => !P d) = some d ∧ ∃ e, fGo b F1 items env = .rt (.val (r d)) e) := by
  induction items with
  | nil => exact fun env h => .inl ⟨rfl, env, rfl, h⟩
  | cons x xs ih =>
    intro env h
    obtain ⟨e1, h1, h2⟩ := step x List.mem_cons_self env h
    rcases h2 with ⟨p, e2, h3, h4⟩ | ⟨p, e2, h3⟩
    · rcases ih (fun d hd => step d (List.mem_cons_of_mem _ hd)) e2 h4 with ⟨a, e, h5, h6⟩ | ⟨d, a, e, h5⟩
      · exact .inl ⟨by simp [p, a], e, by rw [fGo, h1]; simp only [h3]; exact h5, h6⟩
      · exact .inr ⟨d, by simp [p, a], e, by rw [fGo, h1]; simp only [h3]; exact h5⟩
    · exact .inr ⟨x, by simp [p], e2, by rw [fGo, h1]; simp only [h3]⟩
/-- a loop that counts on: s is what it has -/
theorem fGo_fold {σ : Type} {items : List D} {S : σ → En → Prop} {st : σ → D → σ} (step : ∀ d ∈ items, ∀ s env, S s env → ∃ e1 e2, b d env = some e1 ∧ F1 e1 = .nx e2 ∧ S (st s d) e2) : ∀ s env, S s env → ∃ e, fGo b F1 items env = .nx e ∧ S (items.foldl st s) e := by
  induction items with
  | nil => exact fun s env h => ⟨env, rfl, h⟩
  | cons x xs ih =>
    intro s env h
    obtain ⟨e1, e2, h1, h3, h4⟩ := step x List.mem_cons_self s env h
    obtain ⟨e, h5, h6⟩ := ih (fun d hd => step d (List.mem_cons_of_mem _ hd)) _ e2 h4
    exact ⟨e, by rw [fGo, h1]; simp only [h3]; exact h5, h6⟩
/-- a comprehension: s is what its parts change -/
theorem lcGo_fold {σ : Type} {vs : List Nat} {items : List D} {S : σ → En → Prop} {st : σ → D → σ} {P : σ → D → Bool} {r : σ → D → D} (hw : ∀ s env, S s env → S s (wipeE env vs)) (hf : ∀ s env, S s env → freeV vs env = true)
    (step : ∀ d ∈ items, ∀ s env, S s env → ∃ e1 e2, b d env = some e1 ∧ pb e1 = .ok (P s d) e2 ∧ ((P s d = true ∧ ∃ e3, f e2 = .ok (r s d) e3 ∧ S (st s d) e3) ∨ (P s d = false ∧ S (st s d) e2))) :
    ∀ s env acc, S s env → ∃ e, lcGo b vs pb f items env acc = .ok (items.foldl (fun (p : σ × List D) d => (st p.1 d, if P p.1 d = true then p.2 ++ [r p.1 d] else p.2)) (s, acc)).2 e ∧ S (items.foldl (fun (p : σ × List D) d => (st p.1 d, if P p.1 d = true then p.2 ++ [r p.1 d] else p.2)) (s, acc)).1 e := by
  induction items with
  | nil => exact fun s env acc h => ⟨env, rfl, h⟩
  | cons x xs ih =>
    intro s env acc h
    obtain ⟨e1, e2, h1, h2, h3⟩ := step x List.mem_cons_self s env h
    rcases h3 with ⟨p, e3, h4, h5⟩ | ⟨p, h5⟩
    · obtain ⟨e, h6, h7⟩ := ih (fun d hd => step d (List.mem_cons_of_mem _ hd)) _ (wipeE e3 vs) (acc ++ [r s x]) (hw _ _ h5)
      refine ⟨e, ?_, ?_⟩
      · rw [lcGo, h1]; simp only [h2, bns_ok, p, if_true, h4, hf _ _ h5]; simp only [List.foldl_cons, p, if_true]; exact h6
      · simp only [List.foldl_cons, p, if_true]; exact h7
    · obtain ⟨e, h6, h7⟩ := ih (fun d hd => step d (List.mem_cons_of_mem _ hd)) _ (wipeE e2 vs) acc (hw _ _ h5)
      refine ⟨e, ?_, ?_⟩
      · rw [lcGo, h1]; simp only [h2, bns_ok, p, hf _ _ h5]; simp only [List.foldl_cons, p, if_true, Bool.false_eq_true, if_false]; exact h6
      · simp only [List.foldl_cons, p, if_true, Bool.false_eq_true, if_false]; exact h7
end
end MI
set_option Elab.async false
set_option linter.all false
set_option maxRecDepth 100000
set_option maxHeartbeats 4000000
/-! EvB: loops by place, texts as lists of numbers -/
namespace MI
open PySem PySem.Spec PyProof.Rows L2
/-- a whole number from 0 up -/
def nI (n : Nat) : D := .int (n : Int)
theorem k0 {env : En} : dK (.int 0) env = .ok (nI 0) env := rfl
theorem k1 {env : En} : dK (.int 1) env = .ok (nI 1) env := rfl
theorem k2 {env : En} : dK (.int 2) env = .ok (nI 2) env := rfl
theorem k3 {env : En} : dK (.int 3) env = .ok (nI 3) env := rfl
theorem k4 {env : En} : dK (.int 4) env = .ok (nI 4) env := rfl
theorem k5 {env : En} : dK (.int 5) env = .ok (nI 5) env := rfl
theorem k10 {env : En} : dK (.int 10) env = .ok (nI 10) env := rfl
theorem k16 {env : En} : dK (.int 16) env = .ok (nI 16) env := rfl
section
variable {a b : Nat} {e : En}
@[simp] theorem isi_n_int : isiK "int" (nI a) e = .ok (.bool true) e := isi_int_int
@[simp] theorem isi_n_bool : isiK "bool" (nI a) e = .ok (.bool false) e := isi_bool_int
@[simp] theorem isi_n_str : isiK "str" (nI a) e = .ok (.bool false) e := isi_str_int
@[simp] theorem isi_n_tuple : isiK "tuple" (nI a) e = .ok (.bool false) e := isi_tuple_int
@[simp] theorem isi_n_list : isiK "list" (nI a) e = .ok (.bool false) e := isi_list_int
@[simp] theorem isNone_n : isNone (nI a) = false := rfl
@[simp] theorem partK_n : partK (nI a) e = .ok (some (a : Int)) e := rfl
@[simp] theorem add_n : gAdd (nI a) (nI b) = some (nI (a + b)) := rfl
theorem sub_n (h : b ≤ a) : gSub (nI a) (nI b) = some (nI (a - b)) := by
  show some (PyData.int ((a : Int) - (b : Int))) = some (PyData.int ((a - b : Nat) : Int))
  rw [Int.ofNat_sub h]
theorem mul_n (h : a < 10000000000000000000) : gMul (nI a) (nI b) = some (nI (a * b)) := by
  show (if cMul (a : Int) (b : Int) = true then some (PyData.int ((a : Int) * (b : Int))) else none) = _
  rw [if_pos (by simp [cMul]; omega)]; rfl
theorem div_n (h : 0 < b) (h' : b < 1073741824) : gFdiv (nI a) (nI b) = some (nI (a / b)) := by
  show (if cDiv (a : Int) (b : Int) = true then some (PyData.int ((a : Int) / (b : Int))) else none) = _
  rw [if_pos (by simp [cDiv]; omega)]; rfl
theorem mod_n (h : 0 < b) : gMod (nI a) (nI b) = some (nI (a % b)) := by
  show (if decide ((0 : Int) < (b : Int)) = true then some (PyData.int ((a : Int) % (b : Int))) else none) = _
  rw [if_pos (by simp; omega)]; rfl
@[simp] theorem lt_n : gLt (nI a) (nI b) = some (.bool (decide (a < b))) := by
  show some (PyData.bool (decide ((a : Int) < (b : Int)))) = _
  rw [decide_eq_decide.mpr Int.ofNat_lt]
@[simp] theorem le_n : gLe (nI a) (nI b) = some (.bool (decide (a ≤ b))) := by
  show some (PyData.bool (decide ((a : Int) ≤ (b : Int)))) = _
  rw [decide_eq_decide.mpr Int.ofNat_le]
@[simp] theorem gt_n : gGt (nI a) (nI b) = some (.bool (decide (b < a))) := by
  show some (PyData.bool (decide ((b : Int) < (a : Int)))) = _
  rw [decide_eq_decide.mpr Int.ofNat_lt]
@[simp] theorem ge_n : gGe (nI a) (nI b) = some (.bool (decide (b ≤ a))) := by
  show some (PyData.bool (decide ((b : Int) ≤ (a : Int)))) = _
  rw [decide_eq_decide.mpr Int.ofNat_le]
@[simp] theorem eq_n : gEq (nI a) (nI b) = some (.bool (decide (a = b))) := by
  show some (PyData.bool ((a : Int) == (b : Int))) = _
  by_cases h : a = b
  · subst h; simp
  · rw [decide_eq_false h, beq_eq_false_iff_ne.mpr (fun z => h (Int.ofNat_inj.mp z))]
@[simp] theorem ne_n : gNe (nI a) (nI b) = some (.bool (!decide (a = b))) := by
  show some (PyData.bool (!((a : Int) == (b : Int)))) = _
  by_cases h : a = b
  · subst h; simp
  · rw [decide_eq_false h, beq_eq_false_iff_ne.mpr (fun z => h (Int.ofNat_inj.mp z))]
@[simp] theorem int_n : gInt [nI a] = some (nI a) := rfl
@[simp] theorem min_n : gMin2 [nI a, nI b] = some (nI (min a b)) := by
  show some (PyData.int (if (b : Int) < (a : Int) then (b : Int) else (a : Int))) = some (PyData.int ((min a b : Nat) : Int))
  congr 2
  rw [Nat.min_def]
  by_cases h : a ≤ b
  · rw [if_pos h, if_neg (by omega)]
  · rw [if_neg h, if_pos (by omega)]
theorem rngL1_n (h : a < 1000000) : rngL1 [nI a] e = .ok ((List.range a).map nI) e := by
  show (if smallI (a : Int) = true then Out.ok (rgD 0 (a : Int)) e else .stuck) = _
  rw [if_pos (by simp [smallI]; omega)]
  unfold rgD
  congr 1
  have : ((a : Int) - 0).toNat = a := by omega
  rw [this]
  exact List.map_congr_left fun i _ => by rw [Int.zero_add]; rfl
theorem rngL2_n (h : a < 1000000) (h' : b < 1000000) : rngL2 [nI a, nI b] e = .ok ((List.range (b - a)).map fun i => nI (a + i)) e := by
  show (if smallI (a : Int) = true ∧ smallI (b : Int) = true then Out.ok (rgD (a : Int) (b : Int)) e else .stuck) = _
  rw [if_pos (by simp [smallI]; omega)]
  unfold rgD
  congr 1
  have : ((b : Int) - (a : Int)).toNat = b - a := by omega
  rw [this]
  exact List.map_congr_left fun i _ => rfl
theorem rng1_n (h : a < 1000000) : rng1K (.ok [nI a] e) = .ok ((List.range a).map nI) e := by
  unfold rng1K; rw [bnd_ok]; exact rngL1_n h
theorem rng2_n (h : a < 1000000) (h' : b < 1000000) : rng2K (.ok [nI a, nI b] e) = .ok ((List.range (b - a)).map fun i => nI (a + i)) e := by
  unfold rng2K; rw [bnd_ok]; exact rngL2_n h h'
@[simp] theorem len_l {ds : List D} : gLen [.list ds] = some (nI ds.length) := rfl
@[simp] theorem len_t {ds : List D} : gLen [.tuple ds] = some (nI ds.length) := rfl
theorem nI_inj : nI a = nI b ↔ a = b := by
  constructor
  · intro h; unfold nI at h; injection h with h; omega
  · rintro rfl; rfl
end
theorem rgn_get {α : Type} {n i : Nat} {f : Nat → α} {d : α} (h : ((List.range n).map f)[i]? = some d) : i < n ∧ d = f i := by
  rw [List.getElem?_map] at h
  cases hx : (List.range n)[i]? with
  | none => rw [hx] at h; cases h
  | some x =>
    rw [hx] at h
    cases h
    obtain ⟨h1, h2⟩ := List.getElem?_eq_some_iff.mp hx
    rw [List.length_range] at h1
    rw [List.getElem_range] at h2
    exact ⟨h1, by rw [h2]⟩
section
variable {env : En} {b : D → En → Option En} {F1 : Fs} {items : List D}
theorem range_all_succ {n : Nat} {P : Nat → Bool} : (List.range (n + 1)).all P = (P 0 && (List.range n).all fun i => P (i + 1)) := by
  rw [List.range_succ_eq_map, List.all_cons, List.all_map]; rfl
theorem fGo_all {S : En → Prop} {rv : SV} : ∀ {items : List D} {P : Nat → Bool} (step : ∀ i d, items[i]? = some d → ∀ env, S env → ∃ e1, b d env = some e1 ∧ ((P i = true ∧ ∃ e2, F1 e1 = .nx e2 ∧ S e2) ∨ (P i = false ∧ ∃ e2, F1 e1 = .rt rv e2))),
    ∀ env, S env → ((List.range items.length).all P = true ∧ ∃ e, fGo b F1 items env = .nx e ∧ S e) ∨ ((List.range items.length).all P = false ∧ ∃ e, fGo b F1 items env = .rt rv e)
  | [], P, step, env, h => .inl ⟨rfl, env, rfl, h⟩
  | x :: xs, P, step, env, h => by
    obtain ⟨e1, h1, h2⟩ := step 0 x rfl env h
    rw [List.length_cons, range_all_succ]
    rcases h2 with ⟨p, e2, h3, h4⟩ | ⟨p, e2, h3⟩
    · rcases fGo_all (items := xs) (P := fun i => P (i + 1)) (fun i d hd => step (i + 1) d (by simpa using hd)) e2 h4 with ⟨a, e, h5, h6⟩ | ⟨a, e, h5⟩
      · exact .inl ⟨by simp [p, a], e, by rw [fGo, h1]; simp only [h3]; exact h5, h6⟩
      · exact .inr ⟨by simp [p, a], e, by rw [fGo, h1]; simp only [h3]; exact h5⟩
    · exact .inr ⟨by simp [p], e2, by rw [fGo, h1]; simp only [h3]⟩
theorem fGo_foldI {σ : Type} {S : σ → En → Prop} : ∀ {items : List D} {st : Nat → σ → σ} (step : ∀ i d, items[i]? = some d → ∀ s env, S s env → ∃ e1 e2, b d env = some e1 ∧ F1 e1 = .nx e2 ∧ S (st i s) e2), ∀ s env, S s env → ∃ e, fGo b F1 items env = .nx e ∧ S ((List.range items.length).foldl (fun s i => st i s) s) e
  | [], st, step, s, env, h => ⟨env, rfl, h⟩
  | x :: xs, st, step, s, env, h => by
    obtain ⟨e1, e2, h1, h3, h4⟩ := step 0 x rfl s env h
    obtain ⟨e, h5, h6⟩ := fGo_foldI (items := xs) (st := fun i => st (i + 1)) (fun i d hd => step (i + 1) d (by simpa using hd)) _ e2 h4
    refine ⟨e, by rw [fGo, h1]; simp only [h3]; exact h5, ?_⟩
    rw [List.length_cons, List.range_succ_eq_map, List.foldl_cons, List.foldl_map]
    exact h6
/-- a comprehension by place that keeps its state -/
theorem lcGo_map {vs : List Nat} {tt : En → Out Bool} {te : Fe} {S : En → Prop} (hw : ∀ env, S env → S (wipeE env vs)) (hf : ∀ env, S env → freeV vs env = true) : ∀ {items : List D} {P : Nat → Bool} {r : Nat → D}
    (step : ∀ i d, items[i]? = some d → ∀ env, S env → ∃ e1 e2, b d env = some e1 ∧ tt e1 = .ok (P i) e2 ∧ ((P i = true ∧ ∃ e3, te e2 = .ok (r i) e3 ∧ S e3) ∨ (P i = false ∧ S e2))),
    ∀ env acc, S env → ∃ e, lcGo b vs tt te items env acc = .ok (acc ++ ((List.range items.length).filter P).map r) e ∧ S e
  | [], P, r, step, env, acc, h => ⟨env, by rw [lcGo]; simp, h⟩
  | x :: xs, P, r, step, env, acc, h => by
    obtain ⟨e1, e2, h1, h2, h3⟩ := step 0 x rfl env h
    have rc := fun env' acc' h' => lcGo_map hw hf (items := xs) (P := fun i => P (i + 1)) (r := fun i => r (i + 1)) (fun i d hd => step (i + 1) d (by simpa using hd)) env' acc' h'
    have sh : ((List.range (xs.length + 1)).filter P).map r = (if P 0 = true then [r 0] else []) ++ ((List.range xs.length).filter fun i => P (i + 1)).map fun i => r (i + 1) := by
      rw [List.range_succ_eq_map, List.filter_cons, List.filter_map, apply_ite (List.map r)]
      by_cases p : P 0 = true <;> simp [p, Function.comp_def]
    rcases h3 with ⟨p, e3, h4, h5⟩ | ⟨p, h5⟩
    · obtain ⟨e, h6, h7⟩ := rc (wipeE e3 vs) (acc ++ [r 0]) (hw _ h5)
      refine ⟨e, ?_, h7⟩
      rw [lcGo, h1, List.length_cons, sh, p]
      simp only [h2, bns_ok, p, if_true, h4, hf _ h5]
      rw [h6, List.append_assoc]
    · obtain ⟨e, h6, h7⟩ := rc (wipeE e2 vs) acc (hw _ h5)
      refine ⟨e, ?_, h7⟩
      rw [lcGo, h1, List.length_cons, sh, p]
      simp only [h2, bns_ok, p, hf _ h5, Bool.false_eq_true, if_false]
      rw [h6]; rfl
theorem enum_get {ds : List D} {i : Nat} {d : D} (h : (enumD ds)[i]? = some d) : ∃ x, ds[i]? = some x ∧ d = .tuple [nI i, x] := by
  unfold enumD at h
  rw [List.getElem?_mapIdx] at h
  cases hx : ds[i]? with
  | none => rw [hx] at h; cases h
  | some x => rw [hx] at h; cases h; exact ⟨x, rfl, rfl⟩
@[simp] theorem enum_len {ds : List D} : (enumD ds).length = ds.length := by unfold enumD; rw [List.length_mapIdx]
theorem rg_get {lo hi : Int} {i : Nat} {d : D} (h : (rgD lo hi)[i]? = some d) : i < (hi - lo).toNat ∧ d = .int (lo + (i : Int)) := by
  unfold rgD at h
  rw [List.getElem?_map] at h
  cases hx : (List.range (hi - lo).toNat)[i]? with
  | none => rw [hx] at h; cases h
  | some x =>
    rw [hx] at h
    cases h
    have := List.getElem?_eq_some_iff.mp hx
    obtain ⟨h1, h2⟩ := this
    rw [List.length_range] at h1
    rw [List.getElem_range] at h2
    exact ⟨h1, by rw [h2]⟩
@[simp] theorem rg_len {lo hi : Int} : (rgD lo hi).length = (hi - lo).toNat := by unfold rgD; simp
end
/-! ### texts -/
def row (R : List (List Nat)) (i : Nat) : List Nat := R.getD i []
def chr (r : List Nat) (j : Nat) : Nat := r.getD j 0
def sD (r : List Nat) : D := .str ⟨r.toArray⟩
def rD (R : List (List Nat)) : D := .tuple (R.map sD)
theorem sm_nat {n : Nat} (h : n ≤ 1000000) : small n = true := decide_eq_true h
section
variable {r q : List Nat} {R Q : List (List Nat)} {i : Nat} {e : En}
@[simp] theorem isi_sD_str : isiK "str" (sD r) e = .ok (.bool true) e := isi_str_str
@[simp] theorem isi_sD_tuple : isiK "tuple" (sD r) e = .ok (.bool false) e := isi_tuple_str
@[simp] theorem isi_sD_list : isiK "list" (sD r) e = .ok (.bool false) e := isi_list_str
@[simp] theorem isi_sD_int : isiK "int" (sD r) e = .ok (.bool false) e := isi_int_str
@[simp] theorem isi_sD_bool : isiK "bool" (sD r) e = .ok (.bool false) e := isi_bool_str
@[simp] theorem isi_rD_str : isiK "str" (rD R) e = .ok (.bool false) e := isi_str_tuple
@[simp] theorem isi_rD_tuple : isiK "tuple" (rD R) e = .ok (.bool true) e := isi_tuple_tuple
@[simp] theorem isi_rD_list : isiK "list" (rD R) e = .ok (.bool false) e := isi_list_tuple
@[simp] theorem isNone_sD : isNone (sD r) = false := rfl
@[simp] theorem isNone_rD : isNone (rD R) = false := rfl
theorem len_sD (h : r.length ≤ 1000000) : gLen [sD r] = some (nI r.length) := by
  show (if small r.toArray.size = true then some r.toArray.size else none).map _ = _
  rw [List.size_toArray, if_pos (sm_nat h)]; rfl
@[simp] theorem len_rD : gLen [rD R] = some (nI R.length) := by
  show some (nI (R.map sD).length) = _
  rw [List.length_map]
theorem atI_nat {α : Type} {l : List α} {i : Nat} (h : i < l.length) : atI l (i : Int) = l[i]? := by
  unfold atI
  have : ixN l.length (i : Int) = some i := by
    unfold ixN
    simp
    omega
  rw [this]; rfl
theorem ix_rD (h : i < R.length) : gIx (rD R) (nI i) = some (sD (row R i)) := by
  show atI (R.map sD) (i : Int) = _
  rw [atI_nat (by rw [List.length_map]; exact h), List.getElem?_map, List.getElem?_eq_getElem h]; unfold row; rw [List.getD_eq_getElem?_getD, List.getElem?_eq_getElem h]; rfl
theorem ix_sD (h : i < r.length) (hs : r.length ≤ 1000000) : gIx (sD r) (nI i) = some (sD [chr r i]) := by
  show (if small r.toArray.size = true then (atI r.toArray.toList (i : Int)).map fun c => PyData.str ⟨#[c]⟩ else none) = _
  rw [List.size_toArray, if_pos (sm_nat hs)]
  show (atI r (i : Int)).map _ = _
  rw [atI_nat h, List.getElem?_eq_getElem h]; unfold chr; rw [List.getD_eq_getElem?_getD, List.getElem?_eq_getElem h]; rfl
@[simp] theorem items_sD : itemsO (sD r) = some (r.map fun c => sD [c]) := rfl
@[simp] theorem items_rD : itemsO (rD R) = some (R.map sD) := rfl
theorem sD_inj : sD r = sD q ↔ r = q := by
  constructor
  · intro h
    unfold sD at h
    injection h with h
    injection h with h
    simpa using h
  · rintro rfl; rfl
abbrev okT (r : List Nat) : Prop := ∀ c ∈ r, c < 1114112
theorem lay_sD (h : okT r) : PyData.canLay0 (sD r) = true := by
  have e : PyData.canLay0 (sD r) = PyData.strOk ⟨r.toArray⟩ := by unfold sD; rw [PyData.canLay0]
  rw [e]
  unfold PyData.strOk
  rw [List.all_toArray]
  rw [List.all_eq_true]
  exact fun c hc => decide_eq_true (h c hc)
theorem dep_sD : PyData.depth (sD r) = 0 := by unfold sD; rw [PyData.depth]
theorem shaped_sD (h : okT r) : SeqAt.shaped (sD r) = true := by
  unfold SeqAt.shaped
  rw [lay_sD h, dep_sD]; rfl
theorem eqv_sD : PyData.eqv (sD r) (sD q) = decide (r = q) := by
  unfold sD
  rw [PyData.eqv]
  by_cases h : r = q
  · subst h; simp
  · rw [decide_eq_false h]
    simp only [beq_eq_false_iff_ne, ne_eq]
    intro z
    injection z with z
    exact h (by simpa using z)
theorem eq_sD (h1 : okT r) (h2 : okT q) : gEq (sD r) (sD q) = some (.bool (decide (r = q))) := by
  unfold gEq; rw [if_pos ⟨shaped_sD h1, shaped_sD h2⟩, eqv_sD]
theorem ne_sD (h1 : okT r) (h2 : okT q) : gNe (sD r) (sD q) = some (.bool (!decide (r = q))) := by
  unfold gNe; rw [if_pos ⟨shaped_sD h1, shaped_sD h2⟩, eqv_sD]
abbrev okR (R : List (List Nat)) : Prop := ∀ r ∈ R, okT r
theorem lay_rows : ∀ {R : List (List Nat)}, okR R → PyData.canLayAll0 (R.map sD) = true
  | [], _ => by rw [List.map_nil, PyData.canLayAll0]
  | r :: R, h => by rw [List.map_cons, PyData.canLayAll0, lay_sD (h r List.mem_cons_self), lay_rows fun x hx => h x (List.mem_cons_of_mem _ hx)]; rfl
theorem dep_rows : ∀ {R : List (List Nat)}, PyData.depthAll (R.map sD) = 0
  | [] => by rw [List.map_nil, PyData.depthAll]
  | r :: R => by rw [List.map_cons, PyData.depthAll, dep_sD, dep_rows]; rfl
theorem eqv_rows : ∀ {R Q : List (List Nat)}, PyData.eqvAll (R.map sD) (Q.map sD) = decide (R = Q)
  | [], [] => by rw [List.map_nil, PyData.eqvAll]; rfl
  | [], _ :: _ => by rw [List.map_nil, List.map_cons, PyData.eqvAll]; rfl
  | _ :: _, [] => by rw [List.map_nil, List.map_cons, PyData.eqvAll]; rfl
  | r :: R, q :: Q => by
    rw [List.map_cons, List.map_cons, PyData.eqvAll, eqv_sD, eqv_rows]
    by_cases h1 : r = q <;> by_cases h2 : R = Q <;> simp [h1, h2]
theorem lay_rD (h : okR R) : PyData.canLay0 (rD R) = true := by unfold rD; rw [PyData.canLay0, lay_rows h]
theorem dep_rD : PyData.depth (rD R) = 1 := by unfold rD; rw [PyData.depth, dep_rows]
theorem shaped_rD (h : okR R) : SeqAt.shaped (rD R) = true := by
  unfold SeqAt.shaped
  rw [lay_rD h, dep_rD]; rfl
theorem eqv_rD : PyData.eqv (rD R) (rD Q) = decide (R = Q) := by unfold rD; rw [PyData.eqv, eqv_rows]
theorem eq_rD (h1 : okR R) (h2 : okR Q) : gEq (rD R) (rD Q) = some (.bool (decide (R = Q))) := by
  unfold gEq; rw [if_pos ⟨shaped_rD h1, shaped_rD h2⟩, eqv_rD]
theorem ne_rD (h1 : okR R) (h2 : okR Q) : gNe (rD R) (rD Q) = some (.bool (!decide (R = Q))) := by
  unfold gNe; rw [if_pos ⟨shaped_rD h1, shaped_rD h2⟩, eqv_rD]
end
end MI
set_option Elab.async false
set_option linter.all false
set_option maxRecDepth 100000
set_option maxHeartbeats 4000000
/-! EvC: loops that append -/
namespace MI
open PySem PySem.Spec PyProof.Rows L2
section
variable {b : D → En → Option En} {F1 : Fs}
theorem fGo_app {α : Type} {S : List α → En → Prop} {B : Nat} : ∀ {items : List D} {f : Nat → List α} (hB : ∀ i, i < items.length → (f i).length ≤ B) (s0 : List α) (m : Nat), s0.length + items.length * B ≤ m →
    (∀ i d, items[i]? = some d → ∀ s env, S s env → s.length + B ≤ m → ∃ e1 e2, b d env = some e1 ∧ F1 e1 = .nx e2 ∧ S (s ++ f i) e2) → ∀ env, S s0 env → ∃ e, fGo b F1 items env = .nx e ∧ S (s0 ++ (List.range items.length).flatMap f) e
  | [], f, hB, s0, m, hm, step, env, h => ⟨env, rfl, by simpa using h⟩
  | x :: xs, f, hB, s0, m, hm, step, env, h => by
    have h0 := hB 0 (by simp)
    have hm' : s0.length + (xs.length * B + B) ≤ m := by rw [List.length_cons, Nat.succ_mul] at hm; exact hm
    obtain ⟨e1, e2, h1, h2, h3⟩ := step 0 x rfl s0 env h (by omega)
    obtain ⟨e, h5, h6⟩ := fGo_app (items := xs) (f := fun i => f (i + 1)) (fun i hi => hB (i + 1) (by simpa using hi)) (s0 ++ f 0) m (by rw [List.length_append]; omega) (fun i d hd => step (i + 1) d (by simpa using hd)) e2 h3
    refine ⟨e, by rw [fGo, h1]; simp only [h2]; exact h5, ?_⟩
    rw [List.length_cons, List.range_succ_eq_map, List.flatMap_cons, List.flatMap_map, ← List.append_assoc]
    exact h6
end
end MI
set_option Elab.async false
set_option linter.all false
set_option maxRecDepth 100000
set_option maxHeartbeats 4000000
/-! EvD: loops and comprehensions by an invariant -/
namespace MI
open PySem PySem.Spec PyProof.Rows L2
section
variable {b : D → En → Option En} {F1 : Fs}
/-- a loop, by what holds behind its first i items -/
theorem fGo_inv : ∀ {items : List D} {S : Nat → En → Prop} (step : ∀ i d, items[i]? = some d → ∀ env, S i env → ∃ e1 e2, b d env = some e1 ∧ F1 e1 = .nx e2 ∧ S (i + 1) e2), ∀ env, S 0 env → ∃ e, fGo b F1 items env = .nx e ∧ S items.length e
  | [], S, step, env, h => ⟨env, rfl, h⟩
  | x :: xs, S, step, env, h => by
    obtain ⟨e1, e2, h1, h2, h3⟩ := step 0 x rfl env h
    obtain ⟨e, h5, h6⟩ := fGo_inv (items := xs) (S := fun i => S (i + 1)) (fun i d hd => step (i + 1) d (by simpa using hd)) e2 h3
    exact ⟨e, by rw [fGo, h1]; simp only [h2]; exact h5, h6⟩
/-- a comprehension over one plain slot v; what is around it changes -/
theorem lc_inv {src : En → Out (List D)} {te : Fe} {v : Nat} {env e1 : En} {items : List D} {J : Nat → List D → En → Prop} (hs : src env = .ok items e1) (hl : items.length ≤ 1000000) (h0 : J 0 [] e1) (hJ : ∀ n acc e, J n acc e → e[v]? = some none)
    (step : ∀ i d, items[i]? = some d → ∀ acc e, J i acc e → ∃ r e3, te (e.set v (some (.val d))) = .ok r (e3.set v (some (.val d))) ∧ J (i + 1) (acc ++ [r]) e3) :
    ∃ acc e, dLc src (bName v) [v] tY te env = .ok acc e ∧ J items.length acc e := by
  have hvl : ∀ {n acc e}, J n acc e → v < e.length := fun h => (List.getElem?_eq_some_iff.mp (hJ _ _ _ h)).1
  have hfree : ∀ {n acc e}, J n acc e → ∀ x : Option SV, (x = none ∨ ∃ d, x = some (.val d)) → freeV [v] (e.set v x) = true := fun h x hx => by
    unfold freeV
    rw [List.all_cons, List.all_nil, Bool.and_true, List.getElem?_set_self (hvl h)]
    rcases hx with rfl | ⟨d, rfl⟩ <;> rfl
  have hset : ∀ {n acc e}, J n acc e → e.set v none = e := fun {n acc e} h => by
    apply List.ext_getElem?
    intro j
    by_cases q : v = j
    · subst q; rw [List.getElem?_set_self (hvl h), hJ _ _ _ h]
    · rw [List.getElem?_set_ne q]
  have go : ∀ (its : List D) (k : Nat) (acc : List D) (e : En), (∀ i d, its[i]? = some d → items[k + i]? = some d) → J k acc e → ∃ acc' e', lcGo (bName v) [v] tY te its e acc = .ok acc' e' ∧ J (k + its.length) acc' e' := by
    intro its
    induction its with
    | nil => exact fun k acc e _ h => ⟨acc, e, rfl, h⟩
    | cons d its ih =>
      intro k acc e hi h
      obtain ⟨r, e3, h1, h2⟩ := step k d (hi 0 d rfl) acc e h
      have hw : wipeE (e3.set v (some (.val d))) [v] = e3 := by
        show (e3.set v _).set v none = e3
        rw [List.set_set]; exact hset h2
      obtain ⟨acc', e', h3, h4⟩ := ih (k + 1) (acc ++ [r]) e3 (fun i d' hd => by have := hi (i + 1) d' (by simpa using hd); rwa [show k + (i + 1) = k + 1 + i by omega] at this) h2
      refine ⟨acc', e', ?_, by rw [List.length_cons, show k + (its.length + 1) = k + 1 + its.length by omega]; exact h4⟩
      rw [lcGo, e_bName]
      show (tY _).bns _ = _
      unfold tY
      rw [bns_ok, if_pos rfl, h1, bns_ok, if_pos (hfree h2 _ (.inr ⟨d, rfl⟩)), hw]
      exact h3
  obtain ⟨acc, e, h1, h2⟩ := go items 0 [] e1 (fun i d h => by rwa [Nat.zero_add]) h0
  rw [Nat.zero_add] at h2
  refine ⟨acc, e, ?_, h2⟩
  unfold dLc
  have hw1 : wipeE e1 [v] = e1 := by show e1.set v none = e1; exact hset h0
  rw [hs, bnd_ok, if_pos ⟨by have := hfree h0 none (.inl rfl); rwa [hset h0] at this, hl⟩, hw1, h1, bns_ok]
  congr 1
  show e.set v ((e1[v]?).getD none) = e
  rw [hJ _ _ _ h0]
  exact hset h2
end
/-- a comprehension over plain slots: the state around it stays -/
theorem lcG {b : D → En → Option En} {src : En → Out (List D)} {tt : En → Out Bool} {te : Fe} {vs : List Nat} {env e1 : En} {items : List D} {P : Nat → Bool} {r : Nat → D} (hs : src env = .ok items e1) (hl : items.length ≤ 1000000) (hf : freeV vs e1 = true) (hw : wipeE e1 vs = e1) (hm : mergeE e1 e1 vs = e1)
    (step : ∀ i d, items[i]? = some d → ∃ e2, b d e1 = some e2 ∧ tt e2 = .ok (P i) e2 ∧ (P i = true → te e2 = .ok (r i) e2) ∧ freeV vs e2 = true ∧ wipeE e2 vs = e1) :
    dLc src b vs tt te env = .ok (((List.range items.length).filter P).map r) e1 := by
  have go : ∀ (its : List D) (P : Nat → Bool) (r : Nat → D) (acc : List D), (∀ i d, its[i]? = some d → ∃ e2, b d e1 = some e2 ∧ tt e2 = .ok (P i) e2 ∧ (P i = true → te e2 = .ok (r i) e2) ∧ freeV vs e2 = true ∧ wipeE e2 vs = e1) →
      lcGo b vs tt te its e1 acc = .ok (acc ++ ((List.range its.length).filter P).map r) e1 := by
    intro its
    induction its with
    | nil => intro P r acc _; simp [lcGo]
    | cons d its ih =>
      intro P r acc h
      obtain ⟨e2, h1, h2, h3, h4, h5⟩ := h 0 d rfl
      have rc := fun acc' => ih (fun i => P (i + 1)) (fun i => r (i + 1)) acc' (fun i d' hd => h (i + 1) d' (by simpa using hd))
      have sh : ((List.range (its.length + 1)).filter P).map r = (if P 0 = true then [r 0] else []) ++ ((List.range its.length).filter fun i => P (i + 1)).map fun i => r (i + 1) := by
        rw [List.range_succ_eq_map, List.filter_cons, List.filter_map, apply_ite (List.map r)]
        by_cases p : P 0 = true <;> simp [p, Function.comp_def]
      rw [lcGo, h1, List.length_cons, sh]
      cases p : P 0 with
      | true => simp only [h2, p, bns_ok, if_true, h3 p, h4, h5, rc, List.append_assoc]
      | false => simp only [h2, p, bns_ok, Bool.false_eq_true, if_false, h4, h5, if_true, rc, List.nil_append]
  unfold dLc
  rw [hs, bnd_ok, if_pos ⟨hf, hl⟩, hw, go items P r [] step, bns_ok, List.nil_append, hm]
theorem filter_true {n : Nat} {r : Nat → D} : ((List.range n).filter fun _ => true).map r = (List.range n).map r := by rw [List.filter_eq_self.mpr (fun _ _ => rfl)]
theorem e_bSee {f : En → Out Bool} {env : En} {d : Bool} {e : En} (h : f (seeE env) = .ok d e) : bSee f env = .ok d env := by unfold bSee; rw [h]
section
variable {env e e1 : En} {i : Nat} {z : Str} {kvs : List (Key × D)} {s : SV} {f fv : Fe} {d : D}
theorem e_dGet (h : gOwn env i = some (.dct kvs)) : dGet i (dK (.str z)) env = outO (valD kvs (.inr z)) env := by
  unfold dGet; simp only [e_dKs, bnd_ok, h, keyD]
theorem e_dSlot (h : gOwn env i = some s) : dSlot i f env = f env := by unfold dSlot; simp only [h]
theorem e_sPut (hv : fv env = .ok d e1) (h : gOwn e1 i = some (.dct kvs)) (hl : kvs.length < 1000000) : sPut i (dK (.str z)) fv env = .nx (e1.set i (some (.dct (putD kvs (.inr z) d)))) := by
  unfold sPut; simp only [hv, bnS_ok, h, e_dKs, keyD, hl, if_true]
theorem e_app' {l ds : List D} (h1 : gOwn env i = some (.lst l)) (h2 : f env = .ok d e) (h3 : gOwn e i = some (.lst ds)) (h : ds.length < 1000000) : sApp i f env = .nx (e.set i (some (.lst (ds ++ [d])))) := by
  unfold sApp; rw [h1]; simp only [h2, bnS_ok, h3, if_pos h]
end
end MI
set_option Elab.async false
set_option linter.all false
set_option maxRecDepth 100000
set_option maxHeartbeats 4000000
namespace H86
open PySem PySem.Spec PyProof.Rows L2 MI
def topS (i : Nat) : Stmt := PySem.Challenge.pw_loopracks_k86_whole_tiles_and_shifts.main.body.getD i (.Pass ⟨0, 0, 0, 0⟩)
abbrev s_is_whole : Stmt := topS 1
abbrev s_is_between : Stmt := topS 2
abbrev s_yarn_ok : Stmt := topS 5
abbrev s_check_number : Stmt := topS 11
abbrev s_row_ok : Stmt := topS 15
abbrev s_first_wrong : Stmt := topS 16
abbrev s_colouring_ok : Stmt := topS 17
abbrev s_check_rows : Stmt := topS 18
abbrev s_divides : Stmt := topS 20
abbrev s_wrapped : Stmt := topS 21
abbrev s_tiled_by : Stmt := topS 22
abbrev s_least_width : Stmt := topS 23
abbrev s_least_height : Stmt := topS 24
abbrev s_tile_by : Stmt := topS 25
abbrev s_turned_on : Stmt := topS 26
abbrev s_shifts_by : Stmt := topS 27
abbrev s_least_by : Stmt := topS 28
abbrev s_check_divisor : Stmt := topS 30
abbrev s_tile_of : Stmt := topS 31
abbrev s_is_tiled : Stmt := topS 32
abbrev s_shifted_rows : Stmt := topS 33
abbrev s_least_shift : Stmt := topS 34
abbrev s_are_shifts : Stmt := topS 35
abbrev s_is_colouring : Stmt := topS 37
abbrev s_turned_rows : Stmt := topS 38
abbrev s__law_churn : Stmt := topS 40
abbrev s__law_dip : Stmt := topS 41
abbrev s__law_any : Stmt := topS 42
abbrev s__law_match : Stmt := topS 43
abbrev s__law_colours : Stmt := topS 44
abbrev s__law_shift : Stmt := topS 45
abbrev s__law_all_shifts : Stmt := topS 46
abbrev s__law_is_laid : Stmt := topS 47
abbrev s__law_parts : Stmt := topS 48
abbrev s__law_tile_of : Stmt := topS 49
abbrev s__law_no_number : Stmt := topS 50
abbrev s__law_drawn : Stmt := topS 51
abbrev s__law_rows_right : Stmt := topS 52
abbrev s_law : Stmt := topS 53
abbrev s_InvalidNumber_init : Stmt := inClass (topS 8) 0
abbrev s_InvalidRows_init : Stmt := inClass (topS 9) 0
abbrev N_is_whole : List Str := [("value" : Str)]
abbrev N_is_between : List Str := [("value" : Str), ("low" : Str), ("high" : Str)]
abbrev N_yarn_ok : List Str := [("value" : Str)]
abbrev N_check_number : List Str := [("value" : Str), ("low" : Str), ("high" : Str)]
abbrev N_row_ok : List Str := [("value" : Str), ("sign" : Str)]
abbrev N_first_wrong : List Str := [("rows" : Str), ("index" : Str), ("row" : Str)]
abbrev N_colouring_ok : List Str := [("value" : Str)]
abbrev N_check_rows : List Str := [("rows" : Str), ("index" : Str)]
abbrev N_divides : List Str := [("number" : Str), ("many" : Str)]
abbrev N_wrapped : List Str := [("number" : Str), ("many" : Str)]
abbrev N_tiled_by : List Str := [("rows" : Str), ("wide" : Str), ("high" : Str), ("index" : Str), ("row" : Str), ("own" : Str), ("column" : Str), ("sign" : Str)]
abbrev N_least_width : List Str := [("rows" : Str), ("whole" : Str), ("fitting" : Str), ("wide" : Str)]
abbrev N_least_height : List Str := [("rows" : Str), ("whole" : Str), ("fitting" : Str), ("high" : Str)]
abbrev N_tile_by : List Str := [("rows" : Str), ("wide" : Str), ("row" : Str)]
abbrev N_turned_on : List Str := [("rows" : Str), ("aside" : Str), ("down" : Str), ("moved" : Str), ("row" : Str)]
abbrev N_shifts_by : List Str := [("rows" : Str), ("told" : Str), ("down" : Str), ("aside" : Str)]
abbrev N_least_by : List Str := [("rows" : Str)]
abbrev N_check_divisor : List Str := [("number" : Str), ("many" : Str)]
abbrev N_tile_of : List Str := [("rows" : Str)]
abbrev N_is_tiled : List Str := [("rows" : Str), ("wide" : Str), ("high" : Str)]
abbrev N_shifted_rows : List Str := [("rows" : Str), ("aside" : Str), ("down" : Str)]
abbrev N_least_shift : List Str := [("rows" : Str)]
abbrev N_are_shifts : List Str := [("rows" : Str), ("other_rows" : Str)]
abbrev N_is_colouring : List Str := [("value" : Str)]
abbrev N_turned_rows : List Str := [("rows" : Str), ("row" : Str)]
abbrev N__law_churn : List Str := [("script" : Str), ("lap" : Str), ("mass" : Str), ("cell" : Str), ("far" : Str)]
abbrev N__law_dip : List Str := [("churn" : Str), ("many" : Str), ("own" : Str)]
abbrev N__law_any : List Str := [("churn" : Str), ("things" : Str)]
abbrev N__law_match : List Str := [("told" : Str), ("due" : Str), ("one" : Str), ("two" : Str)]
abbrev N__law_colours : List Str := [("churn" : Str), ("yarns" : Str), ("most" : Str), ("high" : Str), ("wide" : Str), ("rows" : Str), ("turn" : Str), ("way" : Str), ("row" : Str), ("place" : Str)]
abbrev N__law_shift : List Str := [("rows" : Str), ("aside" : Str), ("down" : Str), ("high" : Str), ("wide" : Str), ("found" : Str), ("row" : Str), ("line" : Str), ("at" : Str)]
abbrev N__law_all_shifts : List Str := [("rows" : Str), ("found" : Str), ("aside" : Str), ("down" : Str)]
abbrev N__law_is_laid : List Str := [("rows" : Str), ("wide" : Str), ("high" : Str), ("row" : Str), ("at" : Str)]
abbrev N__law_parts : List Str := [("number" : Str), ("own" : Str)]
abbrev N__law_tile_of : List Str := [("rows" : Str), ("wide" : Str), ("high" : Str), ("own" : Str), ("row" : Str)]
abbrev N__law_no_number : List Str := [("act" : Str), ("number" : Str), ("e" : Str)]
abbrev N__law_drawn : List Str := [("churn" : Str), ("part" : Str), ("aside" : Str), ("down" : Str), ("row" : Str)]
abbrev N__law_rows_right : List Str := [("churn" : Str), ("part" : Str), ("rows" : Str), ("tile" : Str), ("told" : Str), ("wide" : Str), ("high" : Str), ("every" : Str), ("aside" : Str), ("down" : Str), ("there" : Str), ("row" : Str), ("at" : Str), ("line" : Str), ("other" : Str)]
abbrev N_law : List Str := [("script" : Str), ("lap" : Str), ("churn" : Str), ("turn" : Str), ("part" : Str), ("rows" : Str), ("wide" : Str), ("high" : Str), ("told" : Str)]
/-- what the top has written -/
structure Tx (K : PySem.W.Frag) (mg : Str → Option Value) : Prop where
  m_is_whole : mg "is_whole" = some (.ref (He.ga K "is_whole"))
  d_is_whole : ∃ fd, FunD K "is_whole" "is_whole" (defArgs s_is_whole) (defBody s_is_whole) (defScope s_is_whole) [] [] (He.ga K "is_whole") fd
  m_is_between : mg "is_between" = some (.ref (He.ga K "is_between"))
  d_is_between : ∃ fd, FunD K "is_between" "is_between" (defArgs s_is_between) (defBody s_is_between) (defScope s_is_between) [] [] (He.ga K "is_between") fd
  m_yarn_ok : mg "yarn_ok" = some (.ref (He.ga K "yarn_ok"))
  d_yarn_ok : ∃ fd, FunD K "yarn_ok" "yarn_ok" (defArgs s_yarn_ok) (defBody s_yarn_ok) (defScope s_yarn_ok) [] [] (He.ga K "yarn_ok") fd
  m_check_number : mg "check_number" = some (.ref (He.ga K "check_number"))
  d_check_number : ∃ fd, FunD K "check_number" "check_number" (defArgs s_check_number) (defBody s_check_number) (defScope s_check_number) [] [] (He.ga K "check_number") fd
  m_row_ok : mg "row_ok" = some (.ref (He.ga K "row_ok"))
  d_row_ok : ∃ fd, FunD K "row_ok" "row_ok" (defArgs s_row_ok) (defBody s_row_ok) (defScope s_row_ok) [] [] (He.ga K "row_ok") fd
  m_first_wrong : mg "first_wrong" = some (.ref (He.ga K "first_wrong"))
  d_first_wrong : ∃ fd, FunD K "first_wrong" "first_wrong" (defArgs s_first_wrong) (defBody s_first_wrong) (defScope s_first_wrong) [] [] (He.ga K "first_wrong") fd
  m_colouring_ok : mg "colouring_ok" = some (.ref (He.ga K "colouring_ok"))
  d_colouring_ok : ∃ fd, FunD K "colouring_ok" "colouring_ok" (defArgs s_colouring_ok) (defBody s_colouring_ok) (defScope s_colouring_ok) [] [] (He.ga K "colouring_ok") fd
  m_check_rows : mg "check_rows" = some (.ref (He.ga K "check_rows"))
  d_check_rows : ∃ fd, FunD K "check_rows" "check_rows" (defArgs s_check_rows) (defBody s_check_rows) (defScope s_check_rows) [] [] (He.ga K "check_rows") fd
  m_divides : mg "divides" = some (.ref (He.ga K "divides"))
  d_divides : ∃ fd, FunD K "divides" "divides" (defArgs s_divides) (defBody s_divides) (defScope s_divides) [] [] (He.ga K "divides") fd
  m_wrapped : mg "wrapped" = some (.ref (He.ga K "wrapped"))
  d_wrapped : ∃ fd, FunD K "wrapped" "wrapped" (defArgs s_wrapped) (defBody s_wrapped) (defScope s_wrapped) [] [] (He.ga K "wrapped") fd
  m_tiled_by : mg "tiled_by" = some (.ref (He.ga K "tiled_by"))
  d_tiled_by : ∃ fd, FunD K "tiled_by" "tiled_by" (defArgs s_tiled_by) (defBody s_tiled_by) (defScope s_tiled_by) [] [] (He.ga K "tiled_by") fd
  m_least_width : mg "least_width" = some (.ref (He.ga K "least_width"))
  d_least_width : ∃ fd, FunD K "least_width" "least_width" (defArgs s_least_width) (defBody s_least_width) (defScope s_least_width) [] [] (He.ga K "least_width") fd
  m_least_height : mg "least_height" = some (.ref (He.ga K "least_height"))
  d_least_height : ∃ fd, FunD K "least_height" "least_height" (defArgs s_least_height) (defBody s_least_height) (defScope s_least_height) [] [] (He.ga K "least_height") fd
  m_tile_by : mg "tile_by" = some (.ref (He.ga K "tile_by"))
  d_tile_by : ∃ fd, FunD K "tile_by" "tile_by" (defArgs s_tile_by) (defBody s_tile_by) (defScope s_tile_by) [] [] (He.ga K "tile_by") fd
  m_turned_on : mg "turned_on" = some (.ref (He.ga K "turned_on"))
  d_turned_on : ∃ fd, FunD K "turned_on" "turned_on" (defArgs s_turned_on) (defBody s_turned_on) (defScope s_turned_on) [] [] (He.ga K "turned_on") fd
  m_shifts_by : mg "shifts_by" = some (.ref (He.ga K "shifts_by"))
  d_shifts_by : ∃ fd, FunD K "shifts_by" "shifts_by" (defArgs s_shifts_by) (defBody s_shifts_by) (defScope s_shifts_by) [] [] (He.ga K "shifts_by") fd
  m_least_by : mg "least_by" = some (.ref (He.ga K "least_by"))
  d_least_by : ∃ fd, FunD K "least_by" "least_by" (defArgs s_least_by) (defBody s_least_by) (defScope s_least_by) [] [] (He.ga K "least_by") fd
  m_check_divisor : mg "check_divisor" = some (.ref (He.ga K "check_divisor"))
  d_check_divisor : ∃ fd, FunD K "check_divisor" "check_divisor" (defArgs s_check_divisor) (defBody s_check_divisor) (defScope s_check_divisor) [] [] (He.ga K "check_divisor") fd
  m_tile_of : mg "tile_of" = some (.ref (He.ga K "tile_of"))
  d_tile_of : ∃ fd, FunD K "tile_of" "tile_of" (defArgs s_tile_of) (defBody s_tile_of) (defScope s_tile_of) [] [] (He.ga K "tile_of") fd
  m_is_tiled : mg "is_tiled" = some (.ref (He.ga K "is_tiled"))
  d_is_tiled : ∃ fd, FunD K "is_tiled" "is_tiled" (defArgs s_is_tiled) (defBody s_is_tiled) (defScope s_is_tiled) [] [] (He.ga K "is_tiled") fd
  m_shifted_rows : mg "shifted_rows" = some (.ref (He.ga K "shifted_rows"))
  d_shifted_rows : ∃ fd, FunD K "shifted_rows" "shifted_rows" (defArgs s_shifted_rows) (defBody s_shifted_rows) (defScope s_shifted_rows) [] [] (He.ga K "shifted_rows") fd
  m_least_shift : mg "least_shift" = some (.ref (He.ga K "least_shift"))
  d_least_shift : ∃ fd, FunD K "least_shift" "least_shift" (defArgs s_least_shift) (defBody s_least_shift) (defScope s_least_shift) [] [] (He.ga K "least_shift") fd
  m_are_shifts : mg "are_shifts" = some (.ref (He.ga K "are_shifts"))
  d_are_shifts : ∃ fd, FunD K "are_shifts" "are_shifts" (defArgs s_are_shifts) (defBody s_are_shifts) (defScope s_are_shifts) [] [] (He.ga K "are_shifts") fd
  m_is_colouring : mg "is_colouring" = some (.ref (He.ga K "is_colouring"))
  d_is_colouring : ∃ fd, FunD K "is_colouring" "is_colouring" (defArgs s_is_colouring) (defBody s_is_colouring) (defScope s_is_colouring) [] [] (He.ga K "is_colouring") fd
  m_turned_rows : mg "turned_rows" = some (.ref (He.ga K "turned_rows"))
  d_turned_rows : ∃ fd, FunD K "turned_rows" "turned_rows" (defArgs s_turned_rows) (defBody s_turned_rows) (defScope s_turned_rows) [] [] (He.ga K "turned_rows") fd
  m__law_churn : mg "_law_churn" = some (.ref (He.ga K "_law_churn"))
  d__law_churn : ∃ fd, FunD K "_law_churn" "_law_churn" (defArgs s__law_churn) (defBody s__law_churn) (defScope s__law_churn) [] [] (He.ga K "_law_churn") fd
  m__law_dip : mg "_law_dip" = some (.ref (He.ga K "_law_dip"))
  d__law_dip : ∃ fd, FunD K "_law_dip" "_law_dip" (defArgs s__law_dip) (defBody s__law_dip) (defScope s__law_dip) [] [] (He.ga K "_law_dip") fd
  m__law_any : mg "_law_any" = some (.ref (He.ga K "_law_any"))
  d__law_any : ∃ fd, FunD K "_law_any" "_law_any" (defArgs s__law_any) (defBody s__law_any) (defScope s__law_any) [] [] (He.ga K "_law_any") fd
  m__law_match : mg "_law_match" = some (.ref (He.ga K "_law_match"))
  d__law_match : ∃ fd, FunD K "_law_match" "_law_match" (defArgs s__law_match) (defBody s__law_match) (defScope s__law_match) [] [] (He.ga K "_law_match") fd
  m__law_colours : mg "_law_colours" = some (.ref (He.ga K "_law_colours"))
  d__law_colours : ∃ fd, FunD K "_law_colours" "_law_colours" (defArgs s__law_colours) (defBody s__law_colours) (defScope s__law_colours) [] [] (He.ga K "_law_colours") fd
  m__law_shift : mg "_law_shift" = some (.ref (He.ga K "_law_shift"))
  d__law_shift : ∃ fd, FunD K "_law_shift" "_law_shift" (defArgs s__law_shift) (defBody s__law_shift) (defScope s__law_shift) [] [] (He.ga K "_law_shift") fd
  m__law_all_shifts : mg "_law_all_shifts" = some (.ref (He.ga K "_law_all_shifts"))
  d__law_all_shifts : ∃ fd, FunD K "_law_all_shifts" "_law_all_shifts" (defArgs s__law_all_shifts) (defBody s__law_all_shifts) (defScope s__law_all_shifts) [] [] (He.ga K "_law_all_shifts") fd
  m__law_is_laid : mg "_law_is_laid" = some (.ref (He.ga K "_law_is_laid"))
  d__law_is_laid : ∃ fd, FunD K "_law_is_laid" "_law_is_laid" (defArgs s__law_is_laid) (defBody s__law_is_laid) (defScope s__law_is_laid) [] [] (He.ga K "_law_is_laid") fd
  m__law_parts : mg "_law_parts" = some (.ref (He.ga K "_law_parts"))
  d__law_parts : ∃ fd, FunD K "_law_parts" "_law_parts" (defArgs s__law_parts) (defBody s__law_parts) (defScope s__law_parts) [] [] (He.ga K "_law_parts") fd
  m__law_tile_of : mg "_law_tile_of" = some (.ref (He.ga K "_law_tile_of"))
  d__law_tile_of : ∃ fd, FunD K "_law_tile_of" "_law_tile_of" (defArgs s__law_tile_of) (defBody s__law_tile_of) (defScope s__law_tile_of) [] [] (He.ga K "_law_tile_of") fd
  m__law_no_number : mg "_law_no_number" = some (.ref (He.ga K "_law_no_number"))
  d__law_no_number : ∃ fd, FunD K "_law_no_number" "_law_no_number" (defArgs s__law_no_number) (defBody s__law_no_number) (defScope s__law_no_number) [] [] (He.ga K "_law_no_number") fd
  m__law_drawn : mg "_law_drawn" = some (.ref (He.ga K "_law_drawn"))
  d__law_drawn : ∃ fd, FunD K "_law_drawn" "_law_drawn" (defArgs s__law_drawn) (defBody s__law_drawn) (defScope s__law_drawn) [] [] (He.ga K "_law_drawn") fd
  m__law_rows_right : mg "_law_rows_right" = some (.ref (He.ga K "_law_rows_right"))
  d__law_rows_right : ∃ fd, FunD K "_law_rows_right" "_law_rows_right" (defArgs s__law_rows_right) (defBody s__law_rows_right) (defScope s__law_rows_right) [] [] (He.ga K "_law_rows_right") fd
  m_law : mg "law" = some (.ref (He.ga K "law"))
  d_law : ∃ fd, FunD K "law" "law" (defArgs s_law) (defBody s_law) (defScope s_law) [] [] (He.ga K "law") fd
  b_isinstance : mg "isinstance" = none
  b_int : mg "int" = none
  b_bool : mg "bool" = none
  b_str : mg "str" = none
  b_tuple : mg "tuple" = none
  b_list : mg "list" = none
  b_set : mg "set" = none
  b_len : mg "len" = none
  b_all : mg "all" = none
  b_enumerate : mg "enumerate" = none
  b_range : mg "range" = none
  b_min : mg "min" = none
  b_abs : mg "abs" = none
  b_zip : mg "zip" = none
  b_ValueError : mg "ValueError" = none
  g_YARNS : mg "YARNS" = some (.ref (He.ga K "YARNS")) ∧ ∀ H, SqT K H (He.ga K "YARNS") [V.str ("a" : Str), V.str ("b" : Str), V.str ("c" : Str), V.str ("d" : Str), V.str ("e" : Str)]
  g_MOST_WIDE : ∃ t, mg "MOST_WIDE" = some (.int 16 t)
  g_MOST_ROWS : ∃ t, mg "MOST_ROWS" = some (.int 10 t)
  e_InvalidNumber : PySem.ErrInvalidNumber.ErrTxt K mg (He.ga K "InvalidNumber") (He.fAd K ("InvalidNumber", some "__init__"))
  x_InvalidNumber_InvalidNumber : PySem.W.exmOne K (.ref (He.ga K "InvalidNumber")) (.ref (He.ga K "InvalidNumber")) = some true
abbrev c_YARNS : Fe := dK (.tuple [.str ("a" : Str), .str ("b" : Str), .str ("c" : Str), .str ("d" : Str), .str ("e" : Str)])
abbrev c_MOST_WIDE : Fe := dK (.int 16)
abbrev c_MOST_ROWS : Fe := dK (.int 10)
section
variable {X : Cx} {G : Er} {W : WX} {pos : Pos}
theorem Tx.k_YARNS (T : Tx X.K X.mg) (hg : Gl X "YARNS") : DE X G W (.Name "YARNS" pos) c_YARNS := de_glob (v := .ref (He.ga X.K "YARNS")) hg T.g_YARNS.1 rfl fun H => .tup (T.g_YARNS.2 H) (.cons (.str _) (.cons (.str _) (.cons (.str _) (.cons (.str _) (.cons (.str _) (.nil))))))
theorem Tx.k_MOST_WIDE (T : Tx X.K X.mg) (hg : Gl X "MOST_WIDE") : DE X G W (.Name "MOST_WIDE" pos) c_MOST_WIDE := de_glob (v := (V.int 16)) hg T.g_MOST_WIDE.choose_spec ⟨_, rfl⟩ fun _ => .int _
theorem Tx.k_MOST_ROWS (T : Tx X.K X.mg) (hg : Gl X "MOST_ROWS") : DE X G W (.Name "MOST_ROWS" pos) c_MOST_ROWS := de_glob (v := (V.int 10)) hg T.g_MOST_ROWS.choose_spec ⟨_, rfl⟩ fun _ => .int _
end
abbrev Gr (K : PySem.W.Frag) : Er := ⟨[], fun c => if c = ("InvalidNumber" : Str) then He.ga K "InvalidNumber" else 0, fun c => if c = ("InvalidNumber" : Str) then ("given" : Str) else ""⟩
/-! is_whole -/
def fs_is_whole : Fs := (sRet (dAnd (dIsi "int" (dV 0)) (dNot (dIsi "bool" (dV 0)))))
def F_is_whole : Fn := fnOf fs_is_whole N_is_whole.length []
theorem sc_is_whole : FnScope N_is_whole [("value" : Str)] (defScope s_is_whole) := ⟨rfl, rfl, rfl, by decide +kernel, rfl, by decide +kernel, by decide +kernel⟩
abbrev Xc_is_whole (P : Program) (w : World) (K : PySem.W.Frag) (mg : Str → Option Value) (base : Heap) (cdv : Value) (A : Around) (outer : List Env) (s : Shared) (H : Hp) (E : XK) : Cx := cxOf (L2N.CX P w) P w K mg base N_is_whole "is_whole" (defScope s_is_whole) (He.ga K "is_whole") cdv A outer s H E
section
variable {P : Program} {w : World} {K : PySem.W.Frag} {mg : Str → Option Value} {base : Heap}
theorem okf_is_whole (T : Tx K mg) {fd : FuncData} (F : FunD K "is_whole" "is_whole" (defArgs s_is_whole) (defBody s_is_whole) (defScope s_is_whole) [] [] (He.ga K "is_whole") fd) : FnOk P w K mg base (L2N.CX P w) 1 (He.ga K "is_whole") fd [("value" : Str)] (spF K (Gr K) F_is_whole 1 []) := by
  exact fn_ok F sc_is_whole rfl fun cdv A outer s H E hr => by
    have nd := sc_is_whole.nd
    have hu64 := hr.units
    have hu65 : (A.deeper (envOfC "is_whole" (defScope s_is_whole) s.heap.objs.size (He.ga K "is_whole") cdv)).units + 65 < cLine := by have := hr.un; omega
    have hu1 : (A.deeper (envOfC "is_whole" (defScope s_is_whole) s.heap.objs.size (He.ga K "is_whole") cdv)).units + 1 < cLine := by omega
    have hu200 : (A.deeper (envOfC "is_whole" (defScope s_is_whole) s.heap.objs.size (He.ga K "is_whole") cdv)).units + 200 < cLine := by have := hr.un; omega
    have tk : L2N.Takes (cxOf (L2N.CX P w) P w K mg base N_is_whole "is_whole" (defScope s_is_whole) (He.ga K "is_whole") cdv A outer s H E) (fun cls d _ H => E cls d H) := L2N.takes_of rfl rfl rfl rfl
    exact (dss_one (ds_ret (de_and (de_isi "int" (de_var 0 (pv 0)) rfl T.b_isinstance rfl T.b_int boot_int) (de_one (de_not (de_isi "bool" (de_var 0 (pv 0)) rfl T.b_isinstance rfl T.b_bool boot_bool))))))
theorem ok_is_whole (T : Tx K mg) : HasF P w K mg base (Gr K) 1 "is_whole" [("value" : Str)] [] F_is_whole := by
  obtain ⟨fd, F⟩ := T.d_is_whole
  exact ⟨_, fd, T.m_is_whole, F.kp, (F.bindsN fun _ _ _ _ _ _ us hl => match us, hl with | [_], _ => rfl), okf_is_whole T F⟩
end
/-! is_between -/
def fs_is_between : Fs := (sRet (dAnd (dCall F_is_whole [] 1 (mVal (dV 0) mNil)) (dChain gLe gLe (dV 1) (dV 0) (dV 2))))
def F_is_between : Fn := fnOf fs_is_between N_is_between.length []
theorem sc_is_between : FnScope N_is_between [("value" : Str), ("low" : Str), ("high" : Str)] (defScope s_is_between) := ⟨rfl, rfl, rfl, by decide +kernel, rfl, by decide +kernel, by decide +kernel⟩
abbrev Xc_is_between (P : Program) (w : World) (K : PySem.W.Frag) (mg : Str → Option Value) (base : Heap) (cdv : Value) (A : Around) (outer : List Env) (s : Shared) (H : Hp) (E : XK) : Cx := cxOf (L2N.CX P w) P w K mg base N_is_between "is_between" (defScope s_is_between) (He.ga K "is_between") cdv A outer s H E
section
variable {P : Program} {w : World} {K : PySem.W.Frag} {mg : Str → Option Value} {base : Heap}
theorem okf_is_between (T : Tx K mg) {fd : FuncData} (F : FunD K "is_between" "is_between" (defArgs s_is_between) (defBody s_is_between) (defScope s_is_between) [] [] (He.ga K "is_between") fd) : FnOk P w K mg base (L2N.CX P w) 2 (He.ga K "is_between") fd [("value" : Str), ("low" : Str), ("high" : Str)] (spF K (Gr K) F_is_between 3 []) := by
  have h_is_whole := ok_is_whole (P := P) (w := w) (base := base) T
  exact fn_ok F sc_is_between rfl fun cdv A outer s H E hr => by
    have nd := sc_is_between.nd
    have hu64 := hr.units
    have hu65 : (A.deeper (envOfC "is_between" (defScope s_is_between) s.heap.objs.size (He.ga K "is_between") cdv)).units + 65 < cLine := by have := hr.un; omega
    have hu1 : (A.deeper (envOfC "is_between" (defScope s_is_between) s.heap.objs.size (He.ga K "is_between") cdv)).units + 1 < cLine := by omega
    have hu200 : (A.deeper (envOfC "is_between" (defScope s_is_between) s.heap.objs.size (He.ga K "is_between") cdv)).units + 200 < cLine := by have := hr.un; omega
    have tk : L2N.Takes (cxOf (L2N.CX P w) P w K mg base N_is_between "is_between" (defScope s_is_between) (He.ga K "is_between") cdv A outer s H E) (fun cls d _ H => E cls d H) := L2N.takes_of rfl rfl rfl rfl
    exact (dss_one (ds_ret (de_and (deF (h_is_whole.up (by decide)) hr tk (dm_val (de_var 0 (pv 0)) dm_nil)) (de_one (de_chain op_le op_le rd_le rd_le (de_var 1 (pv 1)) (de_var 0 (pv 0)) (de_var 2 (pv 2)))))))
theorem ok_is_between (T : Tx K mg) : HasF P w K mg base (Gr K) 2 "is_between" [("value" : Str), ("low" : Str), ("high" : Str)] [] F_is_between := by
  obtain ⟨fd, F⟩ := T.d_is_between
  exact ⟨_, fd, T.m_is_between, F.kp, (F.bindsN fun _ _ _ _ _ _ us hl => match us, hl with | [_, _, _], _ => rfl), okf_is_between T F⟩
end
/-! yarn_ok -/
def fs_yarn_ok : Fs := (sRet (dAnd (dIsi "str" (dV 0)) (d2 gIn (dV 0) c_YARNS)))
def F_yarn_ok : Fn := fnOf fs_yarn_ok N_yarn_ok.length []
theorem sc_yarn_ok : FnScope N_yarn_ok [("value" : Str)] (defScope s_yarn_ok) := ⟨rfl, rfl, rfl, by decide +kernel, rfl, by decide +kernel, by decide +kernel⟩
abbrev Xc_yarn_ok (P : Program) (w : World) (K : PySem.W.Frag) (mg : Str → Option Value) (base : Heap) (cdv : Value) (A : Around) (outer : List Env) (s : Shared) (H : Hp) (E : XK) : Cx := cxOf (L2N.CX P w) P w K mg base N_yarn_ok "yarn_ok" (defScope s_yarn_ok) (He.ga K "yarn_ok") cdv A outer s H E
section
variable {P : Program} {w : World} {K : PySem.W.Frag} {mg : Str → Option Value} {base : Heap}
theorem okf_yarn_ok (T : Tx K mg) {fd : FuncData} (F : FunD K "yarn_ok" "yarn_ok" (defArgs s_yarn_ok) (defBody s_yarn_ok) (defScope s_yarn_ok) [] [] (He.ga K "yarn_ok") fd) : FnOk P w K mg base (L2N.CX P w) 1 (He.ga K "yarn_ok") fd [("value" : Str)] (spF K (Gr K) F_yarn_ok 1 []) := by
  exact fn_ok F sc_yarn_ok rfl fun cdv A outer s H E hr => by
    have nd := sc_yarn_ok.nd
    have hu64 := hr.units
    have hu65 : (A.deeper (envOfC "yarn_ok" (defScope s_yarn_ok) s.heap.objs.size (He.ga K "yarn_ok") cdv)).units + 65 < cLine := by have := hr.un; omega
    have hu1 : (A.deeper (envOfC "yarn_ok" (defScope s_yarn_ok) s.heap.objs.size (He.ga K "yarn_ok") cdv)).units + 1 < cLine := by omega
    have hu200 : (A.deeper (envOfC "yarn_ok" (defScope s_yarn_ok) s.heap.objs.size (He.ga K "yarn_ok") cdv)).units + 200 < cLine := by have := hr.un; omega
    have tk : L2N.Takes (cxOf (L2N.CX P w) P w K mg base N_yarn_ok "yarn_ok" (defScope s_yarn_ok) (He.ga K "yarn_ok") cdv A outer s H E) (fun cls d _ H => E cls d H) := L2N.takes_of rfl rfl rfl rfl
    exact (dss_one (ds_ret (de_and (de_isi "str" (de_var 0 (pv 0)) rfl T.b_isinstance rfl T.b_str boot_str) (de_one (de_cmp (op_inA hu65) rd_in (de_var 0 (pv 0)) (T.k_YARNS rfl) (by with_unfolding_all rfl))))))
theorem ok_yarn_ok (T : Tx K mg) : HasF P w K mg base (Gr K) 1 "yarn_ok" [("value" : Str)] [] F_yarn_ok := by
  obtain ⟨fd, F⟩ := T.d_yarn_ok
  exact ⟨_, fd, T.m_yarn_ok, F.kp, (F.bindsN fun _ _ _ _ _ _ us hl => match us, hl with | [_], _ => rfl), okf_yarn_ok T F⟩
end
/-! check_number -/
def fs_check_number : Fs := (sIf (dNotB (dB (dCall F_is_between [] 3 (mVal (dV 0) (mVal (dV 1) (mVal (dV 2) mNil)))))) (sRaise ("InvalidNumber" : Str) (dV 0)) sNx)
def F_check_number : Fn := fnOf fs_check_number N_check_number.length []
theorem sc_check_number : FnScope N_check_number [("value" : Str), ("low" : Str), ("high" : Str)] (defScope s_check_number) := ⟨rfl, rfl, rfl, by decide +kernel, rfl, by decide +kernel, by decide +kernel⟩
abbrev Xc_check_number (P : Program) (w : World) (K : PySem.W.Frag) (mg : Str → Option Value) (base : Heap) (cdv : Value) (A : Around) (outer : List Env) (s : Shared) (H : Hp) (E : XK) : Cx := cxOf (L2N.CX P w) P w K mg base N_check_number "check_number" (defScope s_check_number) (He.ga K "check_number") cdv A outer s H E
section
variable {P : Program} {w : World} {K : PySem.W.Frag} {mg : Str → Option Value} {base : Heap}
theorem okf_check_number (T : Tx K mg) {fd : FuncData} (F : FunD K "check_number" "check_number" (defArgs s_check_number) (defBody s_check_number) (defScope s_check_number) [] [] (He.ga K "check_number") fd) : FnOk P w K mg base (L2N.CX P w) 3 (He.ga K "check_number") fd [("value" : Str), ("low" : Str), ("high" : Str)] (spF K (Gr K) F_check_number 3 []) := by
  have h_is_between := ok_is_between (P := P) (w := w) (base := base) T
  exact fn_ok F sc_check_number rfl fun cdv A outer s H E hr => by
    have nd := sc_check_number.nd
    have hu64 := hr.units
    have hu65 : (A.deeper (envOfC "check_number" (defScope s_check_number) s.heap.objs.size (He.ga K "check_number") cdv)).units + 65 < cLine := by have := hr.un; omega
    have hu1 : (A.deeper (envOfC "check_number" (defScope s_check_number) s.heap.objs.size (He.ga K "check_number") cdv)).units + 1 < cLine := by omega
    have hu200 : (A.deeper (envOfC "check_number" (defScope s_check_number) s.heap.objs.size (He.ga K "check_number") cdv)).units + 200 < cLine := by have := hr.un; omega
    have tk : L2N.Takes (cxOf (L2N.CX P w) P w K mg base N_check_number "check_number" (defScope s_check_number) (He.ga K "check_number") cdv A outer s H E) (fun cls d _ H => E cls d H) := L2N.takes_of rfl rfl rfl rfl
    exact (dss_one (ds_if (dt_not (dt_val (deF (h_is_between.up (by decide)) hr tk (dm_val (de_var 0 (pv 0)) (dm_val (de_var 1 (pv 1)) (dm_val (de_var 2 (pv 2)) dm_nil)))))) (dss_one (ds_raise rfl tk (fun ta ha => pmk_InvalidNumber (k := 0) T.e_InvalidNumber (hr.mono (by decide)) ha) rfl rfl (de_var 0 (pv 0)))) dss_nil))
theorem ok_check_number (T : Tx K mg) : HasF P w K mg base (Gr K) 3 "check_number" [("value" : Str), ("low" : Str), ("high" : Str)] [] F_check_number := by
  obtain ⟨fd, F⟩ := T.d_check_number
  exact ⟨_, fd, T.m_check_number, F.kp, (F.bindsN fun _ _ _ _ _ _ us hl => match us, hl with | [_, _, _], _ => rfl), okf_check_number T F⟩
end
/-! row_ok -/
def fs_row_ok : Fs := (sSq (sIf (dOrB (dNotB (dB (dIsi "str" (dV 0)))) (dNotB (dB (dChain gLe gLe (dK (.int 1)) (dC gLen (dCons (dV 0) dNil)) c_MOST_WIDE)))) (sRet (dK (.bool false))) sNx) (sRet (dC gAll (dCons (dLst (dLc (sSeq (dV 0)) (bName 1) [1] tY (dCall F_yarn_ok [] 1 (mVal (dV 1) mNil)))) dNil))))
def F_row_ok : Fn := fnOf fs_row_ok N_row_ok.length []
theorem sc_row_ok : FnScope N_row_ok [("value" : Str)] (defScope s_row_ok) := ⟨rfl, rfl, rfl, by decide +kernel, rfl, by decide +kernel, by decide +kernel⟩
abbrev Xc_row_ok (P : Program) (w : World) (K : PySem.W.Frag) (mg : Str → Option Value) (base : Heap) (cdv : Value) (A : Around) (outer : List Env) (s : Shared) (H : Hp) (E : XK) : Cx := cxOf (L2N.CX P w) P w K mg base N_row_ok "row_ok" (defScope s_row_ok) (He.ga K "row_ok") cdv A outer s H E
section
variable {P : Program} {w : World} {K : PySem.W.Frag} {mg : Str → Option Value} {base : Heap}
theorem okf_row_ok (T : Tx K mg) {fd : FuncData} (F : FunD K "row_ok" "row_ok" (defArgs s_row_ok) (defBody s_row_ok) (defScope s_row_ok) [] [] (He.ga K "row_ok") fd) : FnOk P w K mg base (L2N.CX P w) 2 (He.ga K "row_ok") fd [("value" : Str)] (spF K (Gr K) F_row_ok 1 []) := by
  have h_yarn_ok := ok_yarn_ok (P := P) (w := w) (base := base) T
  exact fn_ok F sc_row_ok rfl fun cdv A outer s H E hr => by
    have nd := sc_row_ok.nd
    have hu64 := hr.units
    have hu65 : (A.deeper (envOfC "row_ok" (defScope s_row_ok) s.heap.objs.size (He.ga K "row_ok") cdv)).units + 65 < cLine := by have := hr.un; omega
    have hu1 : (A.deeper (envOfC "row_ok" (defScope s_row_ok) s.heap.objs.size (He.ga K "row_ok") cdv)).units + 1 < cLine := by omega
    have hu200 : (A.deeper (envOfC "row_ok" (defScope s_row_ok) s.heap.objs.size (He.ga K "row_ok") cdv)).units + 200 < cLine := by have := hr.un; omega
    have tk : L2N.Takes (cxOf (L2N.CX P w) P w K mg base N_row_ok "row_ok" (defScope s_row_ok) (He.ga K "row_ok") cdv A outer s H E) (fun cls d _ H => E cls d H) := L2N.takes_of rfl rfl rfl rfl
    exact (dss_cons (ds_if (DW.pt (dw_or (dt_not (dt_val (de_isi "str" (de_var 0 (pv 0)) rfl T.b_isinstance rfl T.b_str boot_str))) (dw_or1 (dt_not (dt_chain op_le op_le rd_le rd_le de_int (de_callB call_len rc_len rfl T.b_len boot_len (da_cons (de_var 0 (pv 0)) da_nil)) (T.k_MOST_WIDE rfl)))))) (dss_one (ds_ret de_bl)) dss_nil) (dss_one (ds_ret (de_callB (cr_all rfl) rc_all rfl T.b_all boot_all (da_cons (DN.de (dn_lc (X := Xc_row_ok P w K mg base cdv A outer s H E) (own := [(("sign" : Str), 1)]) rfl nd (di_seq (de_var 0 (pv 0))) (blkOk_by (N := N_row_ok) (sc := defScope s_row_ok) (by decide +kernel)) (fun _ _ _ _ _ => by exact (pg_name (i := 1) nd rfl (by first | exact Or.inl rfl | exact Or.inr rfl))) (dg_name 1) (fun _ _ _ _ _ => by exact dts_nil) (fun _ _ _ _ _ => by exact (deF (h_yarn_ok.up (by decide)) hr takesN0 (dm_val (de_var 1 (pv 1)) dm_nil))) (by decide))) da_nil)))))
theorem ok_row_ok (T : Tx K mg) : HasF P w K mg base (Gr K) 2 "row_ok" [("value" : Str)] [] F_row_ok := by
  obtain ⟨fd, F⟩ := T.d_row_ok
  exact ⟨_, fd, T.m_row_ok, F.kp, (F.bindsN fun _ _ _ _ _ _ us hl => match us, hl with | [_], _ => rfl), okf_row_ok T F⟩
end
/-! first_wrong -/
def fs_first_wrong : Fs := (sSq (sIf (dB (d2 gEq (dC gLen (dCons (dV 0) dNil)) (dK (.int 0)))) (sRet (dK (.int 0))) sNx) (sSq (sFor (sEnum (dCons (dV 0) dNil)) (bTup 2 (bCons (bName 1) (bCons (bName 2) bNil))) (sIf (dOrB (dB (d2 gGe (dV 1) c_MOST_ROWS)) (dOrB (dNotB (dB (dCall F_row_ok [] 1 (mVal (dV 2) mNil)))) (dB (d2 gNe (dC gLen (dCons (dV 2) dNil)) (dC gLen (dCons (d2 gIx (dV 0) (dK (.int 0))) dNil)))))) (sRet (dV 1)) sNx)) (sRet (dK .none))))
def F_first_wrong : Fn := fnOf fs_first_wrong N_first_wrong.length []
theorem sc_first_wrong : FnScope N_first_wrong [("rows" : Str)] (defScope s_first_wrong) := ⟨rfl, rfl, rfl, by decide +kernel, rfl, by decide +kernel, by decide +kernel⟩
abbrev Xc_first_wrong (P : Program) (w : World) (K : PySem.W.Frag) (mg : Str → Option Value) (base : Heap) (cdv : Value) (A : Around) (outer : List Env) (s : Shared) (H : Hp) (E : XK) : Cx := cxOf (L2N.CX P w) P w K mg base N_first_wrong "first_wrong" (defScope s_first_wrong) (He.ga K "first_wrong") cdv A outer s H E
section
variable {P : Program} {w : World} {K : PySem.W.Frag} {mg : Str → Option Value} {base : Heap}
theorem okf_first_wrong (T : Tx K mg) {fd : FuncData} (F : FunD K "first_wrong" "first_wrong" (defArgs s_first_wrong) (defBody s_first_wrong) (defScope s_first_wrong) [] [] (He.ga K "first_wrong") fd) : FnOk P w K mg base (L2N.CX P w) 3 (He.ga K "first_wrong") fd [("rows" : Str)] (spF K (Gr K) F_first_wrong 1 []) := by
  have h_row_ok := ok_row_ok (P := P) (w := w) (base := base) T
  exact fn_ok F sc_first_wrong rfl fun cdv A outer s H E hr => by
    have nd := sc_first_wrong.nd
    have hu64 := hr.units
    have hu65 : (A.deeper (envOfC "first_wrong" (defScope s_first_wrong) s.heap.objs.size (He.ga K "first_wrong") cdv)).units + 65 < cLine := by have := hr.un; omega
    have hu1 : (A.deeper (envOfC "first_wrong" (defScope s_first_wrong) s.heap.objs.size (He.ga K "first_wrong") cdv)).units + 1 < cLine := by omega
    have hu200 : (A.deeper (envOfC "first_wrong" (defScope s_first_wrong) s.heap.objs.size (He.ga K "first_wrong") cdv)).units + 200 < cLine := by have := hr.un; omega
    have tk : L2N.Takes (cxOf (L2N.CX P w) P w K mg base N_first_wrong "first_wrong" (defScope s_first_wrong) (He.ga K "first_wrong") cdv A outer s H E) (fun cls d _ H => E cls d H) := L2N.takes_of rfl rfl rfl rfl
    exact (dss_cons (ds_if (dt_cmp (op_eqD hu64) rd_eq (de_callB call_len rc_len rfl T.b_len boot_len (da_cons (de_var 0 (pv 0)) da_nil)) de_int (nomark _)) (dss_one (ds_ret de_int)) dss_nil) (dss_cons (ds_for (passes_of rfl) rfl (di_enum rfl T.b_enumerate (da_cons (de_var 0 (pv 0)) da_nil)) (pg_tup rfl (pgs_cons (pg_name (i := 1) nd rfl (by first | exact Or.inl rfl | exact Or.inr rfl)) (pgs_cons (pg_name (i := 2) nd rfl (by first | exact Or.inl rfl | exact Or.inr rfl)) pgs_nil))) (dg_tup (dgs_cons (dg_name 1) (dgs_cons (dg_name 2) dgs_nil))) (dss_one (ds_if (DW.pt (dw_or (dt_cmp op_ge rd_ge (de_var 1 (pv 1)) (T.k_MOST_ROWS rfl) (nomark _)) (dw_or (dt_not (dt_val (deF (h_row_ok.up (by decide)) hr tk (dm_val (de_var 2 (pv 2)) dm_nil)))) (dw_or1 (dt_cmp (op_neD hu64) rd_ne (de_callB call_len rc_len rfl T.b_len boot_len (da_cons (de_var 2 (pv 2)) da_nil)) (de_callB call_len rc_len rfl T.b_len boot_len (da_cons (de_ix (de_var 0 (pv 0)) de_int (fun _ _ => rfl)) da_nil)) (nomark _)))))) (dss_one (ds_ret (de_var 1 (pv 1)))) dss_nil)) (by decide)) (dss_one (ds_ret de_non))))
theorem ok_first_wrong (T : Tx K mg) : HasF P w K mg base (Gr K) 3 "first_wrong" [("rows" : Str)] [] F_first_wrong := by
  obtain ⟨fd, F⟩ := T.d_first_wrong
  exact ⟨_, fd, T.m_first_wrong, F.kp, (F.bindsN fun _ _ _ _ _ _ us hl => match us, hl with | [_], _ => rfl), okf_first_wrong T F⟩
end
/-! colouring_ok -/
def fs_colouring_ok : Fs := (sRet (dAnd (dIsi "tuple" (dV 0)) (dIsN (dCall F_first_wrong [] 1 (mVal (dV 0) mNil)))))
def F_colouring_ok : Fn := fnOf fs_colouring_ok N_colouring_ok.length []
theorem sc_colouring_ok : FnScope N_colouring_ok [("value" : Str)] (defScope s_colouring_ok) := ⟨rfl, rfl, rfl, by decide +kernel, rfl, by decide +kernel, by decide +kernel⟩
abbrev Xc_colouring_ok (P : Program) (w : World) (K : PySem.W.Frag) (mg : Str → Option Value) (base : Heap) (cdv : Value) (A : Around) (outer : List Env) (s : Shared) (H : Hp) (E : XK) : Cx := cxOf (L2N.CX P w) P w K mg base N_colouring_ok "colouring_ok" (defScope s_colouring_ok) (He.ga K "colouring_ok") cdv A outer s H E
section
variable {P : Program} {w : World} {K : PySem.W.Frag} {mg : Str → Option Value} {base : Heap}
theorem okf_colouring_ok (T : Tx K mg) {fd : FuncData} (F : FunD K "colouring_ok" "colouring_ok" (defArgs s_colouring_ok) (defBody s_colouring_ok) (defScope s_colouring_ok) [] [] (He.ga K "colouring_ok") fd) : FnOk P w K mg base (L2N.CX P w) 4 (He.ga K "colouring_ok") fd [("value" : Str)] (spF K (Gr K) F_colouring_ok 1 []) := by
  have h_first_wrong := ok_first_wrong (P := P) (w := w) (base := base) T
  exact fn_ok F sc_colouring_ok rfl fun cdv A outer s H E hr => by
    have nd := sc_colouring_ok.nd
    have hu64 := hr.units
    have hu65 : (A.deeper (envOfC "colouring_ok" (defScope s_colouring_ok) s.heap.objs.size (He.ga K "colouring_ok") cdv)).units + 65 < cLine := by have := hr.un; omega
    have hu1 : (A.deeper (envOfC "colouring_ok" (defScope s_colouring_ok) s.heap.objs.size (He.ga K "colouring_ok") cdv)).units + 1 < cLine := by omega
    have hu200 : (A.deeper (envOfC "colouring_ok" (defScope s_colouring_ok) s.heap.objs.size (He.ga K "colouring_ok") cdv)).units + 200 < cLine := by have := hr.un; omega
    have tk : L2N.Takes (cxOf (L2N.CX P w) P w K mg base N_colouring_ok "colouring_ok" (defScope s_colouring_ok) (He.ga K "colouring_ok") cdv A outer s H E) (fun cls d _ H => E cls d H) := L2N.takes_of rfl rfl rfl rfl
    exact (dss_one (ds_ret (de_and (de_isi "tuple" (de_var 0 (pv 0)) rfl T.b_isinstance rfl T.b_tuple boot_tuple) (de_one (de_isN (deF (h_first_wrong.up (by decide)) hr tk (dm_val (de_var 0 (pv 0)) dm_nil)))))))
theorem ok_colouring_ok (T : Tx K mg) : HasF P w K mg base (Gr K) 4 "colouring_ok" [("value" : Str)] [] F_colouring_ok := by
  obtain ⟨fd, F⟩ := T.d_colouring_ok
  exact ⟨_, fd, T.m_colouring_ok, F.kp, (F.bindsN fun _ _ _ _ _ _ us hl => match us, hl with | [_], _ => rfl), okf_colouring_ok T F⟩
end
/-! check_rows -/
def fs_check_rows : Fs := (sSq (sIf (dNotB (dB (dIsi "tuple" (dV 0)))) sNo sNx) (sSq (sAsg (dCall F_first_wrong [] 1 (mVal (dV 0) mNil)) (bName 1)) (sIf (dB (dNotN (dV 1))) sNo sNx)))
def F_check_rows : Fn := fnOf fs_check_rows N_check_rows.length []
theorem sc_check_rows : FnScope N_check_rows [("rows" : Str)] (defScope s_check_rows) := ⟨rfl, rfl, rfl, by decide +kernel, rfl, by decide +kernel, by decide +kernel⟩
abbrev Xc_check_rows (P : Program) (w : World) (K : PySem.W.Frag) (mg : Str → Option Value) (base : Heap) (cdv : Value) (A : Around) (outer : List Env) (s : Shared) (H : Hp) (E : XK) : Cx := cxOf (L2N.CX P w) P w K mg base N_check_rows "check_rows" (defScope s_check_rows) (He.ga K "check_rows") cdv A outer s H E
section
variable {P : Program} {w : World} {K : PySem.W.Frag} {mg : Str → Option Value} {base : Heap}
theorem okf_check_rows (T : Tx K mg) {fd : FuncData} (F : FunD K "check_rows" "check_rows" (defArgs s_check_rows) (defBody s_check_rows) (defScope s_check_rows) [] [] (He.ga K "check_rows") fd) : FnOk P w K mg base (L2N.CX P w) 4 (He.ga K "check_rows") fd [("rows" : Str)] (spF K (Gr K) F_check_rows 1 []) := by
  have h_first_wrong := ok_first_wrong (P := P) (w := w) (base := base) T
  exact fn_ok F sc_check_rows rfl fun cdv A outer s H E hr => by
    have nd := sc_check_rows.nd
    have hu64 := hr.units
    have hu65 : (A.deeper (envOfC "check_rows" (defScope s_check_rows) s.heap.objs.size (He.ga K "check_rows") cdv)).units + 65 < cLine := by have := hr.un; omega
    have hu1 : (A.deeper (envOfC "check_rows" (defScope s_check_rows) s.heap.objs.size (He.ga K "check_rows") cdv)).units + 1 < cLine := by omega
    have hu200 : (A.deeper (envOfC "check_rows" (defScope s_check_rows) s.heap.objs.size (He.ga K "check_rows") cdv)).units + 200 < cLine := by have := hr.un; omega
    have tk : L2N.Takes (cxOf (L2N.CX P w) P w K mg base N_check_rows "check_rows" (defScope s_check_rows) (He.ga K "check_rows") cdv A outer s H E) (fun cls d _ H => E cls d H) := L2N.takes_of rfl rfl rfl rfl
    exact (dss_cons (ds_if (dt_not (dt_val (de_isi "tuple" (de_var 0 (pv 0)) rfl T.b_isinstance rfl T.b_tuple boot_tuple))) (dss_one ds_no) dss_nil) (dss_cons (ds_asg (deF (h_first_wrong.up (by decide)) hr tk (dm_val (de_var 0 (pv 0)) dm_nil)) (pg_name (i := 1) nd rfl (by first | exact Or.inl rfl | exact Or.inr rfl)) (dg_name 1) (by decide)) (dss_one (ds_if (dt_notN (de_var 1 (pv 1))) (dss_one ds_no) dss_nil))))
theorem ok_check_rows (T : Tx K mg) : HasF P w K mg base (Gr K) 4 "check_rows" [("rows" : Str)] [] F_check_rows := by
  obtain ⟨fd, F⟩ := T.d_check_rows
  exact ⟨_, fd, T.m_check_rows, F.kp, (F.bindsN fun _ _ _ _ _ _ us hl => match us, hl with | [_], _ => rfl), okf_check_rows T F⟩
end
/-! divides -/
def fs_divides : Fs := (sRet (d2 gEq (d2 gMul (d2 gFdiv (dV 1) (dV 0)) (dV 0)) (dV 1)))
def F_divides : Fn := fnOf fs_divides N_divides.length []
theorem sc_divides : FnScope N_divides [("number" : Str), ("many" : Str)] (defScope s_divides) := ⟨rfl, rfl, rfl, by decide +kernel, rfl, by decide +kernel, by decide +kernel⟩
abbrev Xc_divides (P : Program) (w : World) (K : PySem.W.Frag) (mg : Str → Option Value) (base : Heap) (cdv : Value) (A : Around) (outer : List Env) (s : Shared) (H : Hp) (E : XK) : Cx := cxOf (L2N.CX P w) P w K mg base N_divides "divides" (defScope s_divides) (He.ga K "divides") cdv A outer s H E
section
variable {P : Program} {w : World} {K : PySem.W.Frag} {mg : Str → Option Value} {base : Heap}
theorem okf_divides (T : Tx K mg) {fd : FuncData} (F : FunD K "divides" "divides" (defArgs s_divides) (defBody s_divides) (defScope s_divides) [] [] (He.ga K "divides") fd) : FnOk P w K mg base (L2N.CX P w) 1 (He.ga K "divides") fd [("number" : Str), ("many" : Str)] (spF K (Gr K) F_divides 2 []) := by
  exact fn_ok F sc_divides rfl fun cdv A outer s H E hr => by
    have nd := sc_divides.nd
    have hu64 := hr.units
    have hu65 : (A.deeper (envOfC "divides" (defScope s_divides) s.heap.objs.size (He.ga K "divides") cdv)).units + 65 < cLine := by have := hr.un; omega
    have hu1 : (A.deeper (envOfC "divides" (defScope s_divides) s.heap.objs.size (He.ga K "divides") cdv)).units + 1 < cLine := by omega
    have hu200 : (A.deeper (envOfC "divides" (defScope s_divides) s.heap.objs.size (He.ga K "divides") cdv)).units + 200 < cLine := by have := hr.un; omega
    have tk : L2N.Takes (cxOf (L2N.CX P w) P w K mg base N_divides "divides" (defScope s_divides) (He.ga K "divides") cdv A outer s H E) (fun cls d _ H => E cls d H) := L2N.takes_of rfl rfl rfl rfl
    exact (dss_one (ds_ret (de_cmp (op_eqD hu64) rd_eq (de_op op_mulD rd_mul (de_op op_fdiv rd_fdiv (de_var 1 (pv 1)) (de_var 0 (pv 0))) (de_var 0 (pv 0))) (de_var 1 (pv 1)) (nomark _))))
theorem ok_divides (T : Tx K mg) : HasF P w K mg base (Gr K) 1 "divides" [("number" : Str), ("many" : Str)] [] F_divides := by
  obtain ⟨fd, F⟩ := T.d_divides
  exact ⟨_, fd, T.m_divides, F.kp, (F.bindsN fun _ _ _ _ _ _ us hl => match us, hl with | [_, _], _ => rfl), okf_divides T F⟩
end
/-! wrapped -/
def fs_wrapped : Fs := (sRet (d2 gSub (dV 0) (d2 gMul (d2 gFdiv (dV 0) (dV 1)) (dV 1))))
def F_wrapped : Fn := fnOf fs_wrapped N_wrapped.length []
theorem sc_wrapped : FnScope N_wrapped [("number" : Str), ("many" : Str)] (defScope s_wrapped) := ⟨rfl, rfl, rfl, by decide +kernel, rfl, by decide +kernel, by decide +kernel⟩
abbrev Xc_wrapped (P : Program) (w : World) (K : PySem.W.Frag) (mg : Str → Option Value) (base : Heap) (cdv : Value) (A : Around) (outer : List Env) (s : Shared) (H : Hp) (E : XK) : Cx := cxOf (L2N.CX P w) P w K mg base N_wrapped "wrapped" (defScope s_wrapped) (He.ga K "wrapped") cdv A outer s H E
section
variable {P : Program} {w : World} {K : PySem.W.Frag} {mg : Str → Option Value} {base : Heap}
theorem okf_wrapped (T : Tx K mg) {fd : FuncData} (F : FunD K "wrapped" "wrapped" (defArgs s_wrapped) (defBody s_wrapped) (defScope s_wrapped) [] [] (He.ga K "wrapped") fd) : FnOk P w K mg base (L2N.CX P w) 1 (He.ga K "wrapped") fd [("number" : Str), ("many" : Str)] (spF K (Gr K) F_wrapped 2 []) := by
  exact fn_ok F sc_wrapped rfl fun cdv A outer s H E hr => by
    have nd := sc_wrapped.nd
    have hu64 := hr.units
    have hu65 : (A.deeper (envOfC "wrapped" (defScope s_wrapped) s.heap.objs.size (He.ga K "wrapped") cdv)).units + 65 < cLine := by have := hr.un; omega
    have hu1 : (A.deeper (envOfC "wrapped" (defScope s_wrapped) s.heap.objs.size (He.ga K "wrapped") cdv)).units + 1 < cLine := by omega
    have hu200 : (A.deeper (envOfC "wrapped" (defScope s_wrapped) s.heap.objs.size (He.ga K "wrapped") cdv)).units + 200 < cLine := by have := hr.un; omega
    have tk : L2N.Takes (cxOf (L2N.CX P w) P w K mg base N_wrapped "wrapped" (defScope s_wrapped) (He.ga K "wrapped") cdv A outer s H E) (fun cls d _ H => E cls d H) := L2N.takes_of rfl rfl rfl rfl
    exact (dss_one (ds_ret (de_op op_sub rd_sub (de_var 0 (pv 0)) (de_op op_mulD rd_mul (de_op op_fdiv rd_fdiv (de_var 0 (pv 0)) (de_var 1 (pv 1))) (de_var 1 (pv 1))))))
theorem ok_wrapped (T : Tx K mg) : HasF P w K mg base (Gr K) 1 "wrapped" [("number" : Str), ("many" : Str)] [] F_wrapped := by
  obtain ⟨fd, F⟩ := T.d_wrapped
  exact ⟨_, fd, T.m_wrapped, F.kp, (F.bindsN fun _ _ _ _ _ _ us hl => match us, hl with | [_, _], _ => rfl), okf_wrapped T F⟩
end
/-! tiled_by -/
def fs_tiled_by : Fs := (sSq (sFor (sEnum (dCons (dV 0) dNil)) (bTup 2 (bCons (bName 3) (bCons (bName 4) bNil))) (sSq (sAsg (d2 gIx (dV 0) (dCall F_wrapped [] 2 (mVal (dV 3) (mVal (dV 2) mNil)))) (bName 5)) (sFor (sEnum (dCons (dV 4) dNil)) (bTup 2 (bCons (bName 6) (bCons (bName 7) bNil))) (sIf (dB (d2 gNe (dV 7) (d2 gIx (dV 5) (dCall F_wrapped [] 2 (mVal (dV 6) (mVal (dV 1) mNil)))))) (sRet (dK (.bool false))) sNx)))) (sRet (dK (.bool true))))
def F_tiled_by : Fn := fnOf fs_tiled_by N_tiled_by.length []
theorem sc_tiled_by : FnScope N_tiled_by [("rows" : Str), ("wide" : Str), ("high" : Str)] (defScope s_tiled_by) := ⟨rfl, rfl, rfl, by decide +kernel, rfl, by decide +kernel, by decide +kernel⟩
abbrev Xc_tiled_by (P : Program) (w : World) (K : PySem.W.Frag) (mg : Str → Option Value) (base : Heap) (cdv : Value) (A : Around) (outer : List Env) (s : Shared) (H : Hp) (E : XK) : Cx := cxOf (L2N.CX P w) P w K mg base N_tiled_by "tiled_by" (defScope s_tiled_by) (He.ga K "tiled_by") cdv A outer s H E
section
variable {P : Program} {w : World} {K : PySem.W.Frag} {mg : Str → Option Value} {base : Heap}
theorem okf_tiled_by (T : Tx K mg) {fd : FuncData} (F : FunD K "tiled_by" "tiled_by" (defArgs s_tiled_by) (defBody s_tiled_by) (defScope s_tiled_by) [] [] (He.ga K "tiled_by") fd) : FnOk P w K mg base (L2N.CX P w) 2 (He.ga K "tiled_by") fd [("rows" : Str), ("wide" : Str), ("high" : Str)] (spF K (Gr K) F_tiled_by 3 []) := by
  have h_wrapped := ok_wrapped (P := P) (w := w) (base := base) T
  exact fn_ok F sc_tiled_by rfl fun cdv A outer s H E hr => by
    have nd := sc_tiled_by.nd
    have hu64 := hr.units
    have hu65 : (A.deeper (envOfC "tiled_by" (defScope s_tiled_by) s.heap.objs.size (He.ga K "tiled_by") cdv)).units + 65 < cLine := by have := hr.un; omega
    have hu1 : (A.deeper (envOfC "tiled_by" (defScope s_tiled_by) s.heap.objs.size (He.ga K "tiled_by") cdv)).units + 1 < cLine := by omega
    have hu200 : (A.deeper (envOfC "tiled_by" (defScope s_tiled_by) s.heap.objs.size (He.ga K "tiled_by") cdv)).units + 200 < cLine := by have := hr.un; omega
    have tk : L2N.Takes (cxOf (L2N.CX P w) P w K mg base N_tiled_by "tiled_by" (defScope s_tiled_by) (He.ga K "tiled_by") cdv A outer s H E) (fun cls d _ H => E cls d H) := L2N.takes_of rfl rfl rfl rfl
    exact (dss_cons (ds_for (passes_of rfl) rfl (di_enum rfl T.b_enumerate (da_cons (de_var 0 (pv 0)) da_nil)) (pg_tup rfl (pgs_cons (pg_name (i := 3) nd rfl (by first | exact Or.inl rfl | exact Or.inr rfl)) (pgs_cons (pg_name (i := 4) nd rfl (by first | exact Or.inl rfl | exact Or.inr rfl)) pgs_nil))) (dg_tup (dgs_cons (dg_name 3) (dgs_cons (dg_name 4) dgs_nil))) (dss_cons (ds_asg (de_ix (de_var 0 (pv 0)) (deF (h_wrapped.up (by decide)) hr tk (dm_val (de_var 3 (pv 3)) (dm_val (de_var 2 (pv 2)) dm_nil))) (fun _ _ => rfl)) (pg_name (i := 5) nd rfl (by first | exact Or.inl rfl | exact Or.inr rfl)) (dg_name 5) (by decide)) (dss_one (ds_for (passes_of rfl) rfl (di_enum rfl T.b_enumerate (da_cons (de_var 4 (pv 4)) da_nil)) (pg_tup rfl (pgs_cons (pg_name (i := 6) nd rfl (by first | exact Or.inl rfl | exact Or.inr rfl)) (pgs_cons (pg_name (i := 7) nd rfl (by first | exact Or.inl rfl | exact Or.inr rfl)) pgs_nil))) (dg_tup (dgs_cons (dg_name 6) (dgs_cons (dg_name 7) dgs_nil))) (dss_one (ds_if (dt_cmp (op_neD hu64) rd_ne (de_var 7 (pv 7)) (de_ix (de_var 5 (pv 5)) (deF (h_wrapped.up (by decide)) hr tk (dm_val (de_var 6 (pv 6)) (dm_val (de_var 1 (pv 1)) dm_nil))) (fun _ _ => rfl)) (nomark _)) (dss_one (ds_ret de_bl)) dss_nil)) (by decide)))) (by decide)) (dss_one (ds_ret de_bl)))
theorem ok_tiled_by (T : Tx K mg) : HasF P w K mg base (Gr K) 2 "tiled_by" [("rows" : Str), ("wide" : Str), ("high" : Str)] [] F_tiled_by := by
  obtain ⟨fd, F⟩ := T.d_tiled_by
  exact ⟨_, fd, T.m_tiled_by, F.kp, (F.bindsN fun _ _ _ _ _ _ us hl => match us, hl with | [_, _, _], _ => rfl), okf_tiled_by T F⟩
end
/-! least_width -/
def fs_least_width : Fs := (sSq (sAsg (dC gLen (dCons (d2 gIx (dV 0) (dK (.int 0))) dNil)) (bName 1)) (sSq (sAsgF (fLst (dLc (sRng2 (dCons (dK (.int 1)) (dCons (d2 gAdd (dV 1) (dK (.int 1))) dNil))) (bName 3) [3] (dAndB (dB (dCall F_divides [] 2 (mVal (dV 3) (mVal (dV 1) mNil)))) (dB (dCall F_tiled_by [] 3 (mVal (dV 0) (mVal (dV 3) (mVal (dC gLen (dCons (dV 0) dNil)) mNil)))))) (dV 3))) 2) (sRet (dSee (d2 gIx (dV 2) (dK (.int 0)))))))
def F_least_width : Fn := fnOf fs_least_width N_least_width.length []
theorem sc_least_width : FnScope N_least_width [("rows" : Str)] (defScope s_least_width) := ⟨rfl, rfl, rfl, by decide +kernel, rfl, by decide +kernel, by decide +kernel⟩
abbrev Xc_least_width (P : Program) (w : World) (K : PySem.W.Frag) (mg : Str → Option Value) (base : Heap) (cdv : Value) (A : Around) (outer : List Env) (s : Shared) (H : Hp) (E : XK) : Cx := cxOf (L2N.CX P w) P w K mg base N_least_width "least_width" (defScope s_least_width) (He.ga K "least_width") cdv A outer s H E
section
variable {P : Program} {w : World} {K : PySem.W.Frag} {mg : Str → Option Value} {base : Heap}
theorem okf_least_width (T : Tx K mg) {fd : FuncData} (F : FunD K "least_width" "least_width" (defArgs s_least_width) (defBody s_least_width) (defScope s_least_width) [] [] (He.ga K "least_width") fd) : FnOk P w K mg base (L2N.CX P w) 3 (He.ga K "least_width") fd [("rows" : Str)] (spF K (Gr K) F_least_width 1 []) := by
  have h_divides := ok_divides (P := P) (w := w) (base := base) T
  have h_tiled_by := ok_tiled_by (P := P) (w := w) (base := base) T
  exact fn_ok F sc_least_width rfl fun cdv A outer s H E hr => by
    have nd := sc_least_width.nd
    have hu64 := hr.units
    have hu65 : (A.deeper (envOfC "least_width" (defScope s_least_width) s.heap.objs.size (He.ga K "least_width") cdv)).units + 65 < cLine := by have := hr.un; omega
    have hu1 : (A.deeper (envOfC "least_width" (defScope s_least_width) s.heap.objs.size (He.ga K "least_width") cdv)).units + 1 < cLine := by omega
    have hu200 : (A.deeper (envOfC "least_width" (defScope s_least_width) s.heap.objs.size (He.ga K "least_width") cdv)).units + 200 < cLine := by have := hr.un; omega
    have tk : L2N.Takes (cxOf (L2N.CX P w) P w K mg base N_least_width "least_width" (defScope s_least_width) (He.ga K "least_width") cdv A outer s H E) (fun cls d _ H => E cls d H) := L2N.takes_of rfl rfl rfl rfl
    exact (dss_cons (ds_asg (de_callB call_len rc_len rfl T.b_len boot_len (da_cons (de_ix (de_var 0 (pv 0)) de_int (fun _ _ => rfl)) da_nil)) (pg_name (i := 1) nd rfl (by first | exact Or.inl rfl | exact Or.inr rfl)) (dg_name 1) (by decide)) (dss_cons (ds_setLc (X := Xc_least_width P w K mg base cdv A outer s H E) (i := 2) (own := [(("wide" : Str), 3)]) rfl nd rfl rfl (sw_true rfl rfl rfl rfl) (di_range2 rfl T.b_range (da_cons de_int (da_cons (de_op op_addD rd_add (de_var 1 (pv 1)) de_int) da_nil))) (blkOk_by (N := N_least_width) (sc := defScope s_least_width) (by decide +kernel)) (fun _ _ _ _ _ => by exact (pg_name (i := 3) nd rfl (by first | exact Or.inl rfl | exact Or.inr rfl))) (dg_name 3) (fun _ _ _ _ _ => by exact (dts_one (DW.pt (dw_and (dt_val (deF (h_divides.up (by decide)) hr takesN0 (dm_val (de_var 3 (pv 3)) (dm_val (de_var 1 (pv 1)) dm_nil)))) (dw_and1 (dt_val (deF (h_tiled_by.up (by decide)) hr takesN0 (dm_val (de_var 0 (pv 0)) (dm_val (de_var 3 (pv 3)) (dm_val (de_callB call_len rc_len rfl T.b_len boot_len (da_cons (de_var 0 (pv 0)) da_nil)) dm_nil)))))))))) (fun _ _ _ _ _ => by exact (de_var 3 (pv 3))) (by decide) (by decide)) (dss_one (ds_ret (de_see (de_ix (de_var 2 (pv 2)) de_int (fun _ _ => rfl)))))))
theorem ok_least_width (T : Tx K mg) : HasF P w K mg base (Gr K) 3 "least_width" [("rows" : Str)] [] F_least_width := by
  obtain ⟨fd, F⟩ := T.d_least_width
  exact ⟨_, fd, T.m_least_width, F.kp, (F.bindsN fun _ _ _ _ _ _ us hl => match us, hl with | [_], _ => rfl), okf_least_width T F⟩
end
/-! least_height -/
def fs_least_height : Fs := (sSq (sAsg (dC gLen (dCons (dV 0) dNil)) (bName 1)) (sSq (sAsgF (fLst (dLc (sRng2 (dCons (dK (.int 1)) (dCons (d2 gAdd (dV 1) (dK (.int 1))) dNil))) (bName 3) [3] (dAndB (dB (dCall F_divides [] 2 (mVal (dV 3) (mVal (dV 1) mNil)))) (dB (dCall F_tiled_by [] 3 (mVal (dV 0) (mVal (dC gLen (dCons (d2 gIx (dV 0) (dK (.int 0))) dNil)) (mVal (dV 3) mNil)))))) (dV 3))) 2) (sRet (dSee (d2 gIx (dV 2) (dK (.int 0)))))))
def F_least_height : Fn := fnOf fs_least_height N_least_height.length []
theorem sc_least_height : FnScope N_least_height [("rows" : Str)] (defScope s_least_height) := ⟨rfl, rfl, rfl, by decide +kernel, rfl, by decide +kernel, by decide +kernel⟩
abbrev Xc_least_height (P : Program) (w : World) (K : PySem.W.Frag) (mg : Str → Option Value) (base : Heap) (cdv : Value) (A : Around) (outer : List Env) (s : Shared) (H : Hp) (E : XK) : Cx := cxOf (L2N.CX P w) P w K mg base N_least_height "least_height" (defScope s_least_height) (He.ga K "least_height") cdv A outer s H E
section
variable {P : Program} {w : World} {K : PySem.W.Frag} {mg : Str → Option Value} {base : Heap}
theorem okf_least_height (T : Tx K mg) {fd : FuncData} (F : FunD K "least_height" "least_height" (defArgs s_least_height) (defBody s_least_height) (defScope s_least_height) [] [] (He.ga K "least_height") fd) : FnOk P w K mg base (L2N.CX P w) 3 (He.ga K "least_height") fd [("rows" : Str)] (spF K (Gr K) F_least_height 1 []) := by
  have h_divides := ok_divides (P := P) (w := w) (base := base) T
  have h_tiled_by := ok_tiled_by (P := P) (w := w) (base := base) T
  exact fn_ok F sc_least_height rfl fun cdv A outer s H E hr => by
    have nd := sc_least_height.nd
    have hu64 := hr.units
    have hu65 : (A.deeper (envOfC "least_height" (defScope s_least_height) s.heap.objs.size (He.ga K "least_height") cdv)).units + 65 < cLine := by have := hr.un; omega
    have hu1 : (A.deeper (envOfC "least_height" (defScope s_least_height) s.heap.objs.size (He.ga K "least_height") cdv)).units + 1 < cLine := by omega
    have hu200 : (A.deeper (envOfC "least_height" (defScope s_least_height) s.heap.objs.size (He.ga K "least_height") cdv)).units + 200 < cLine := by have := hr.un; omega
    have tk : L2N.Takes (cxOf (L2N.CX P w) P w K mg base N_least_height "least_height" (defScope s_least_height) (He.ga K "least_height") cdv A outer s H E) (fun cls d _ H => E cls d H) := L2N.takes_of rfl rfl rfl rfl
    exact (dss_cons (ds_asg (de_callB call_len rc_len rfl T.b_len boot_len (da_cons (de_var 0 (pv 0)) da_nil)) (pg_name (i := 1) nd rfl (by first | exact Or.inl rfl | exact Or.inr rfl)) (dg_name 1) (by decide)) (dss_cons (ds_setLc (X := Xc_least_height P w K mg base cdv A outer s H E) (i := 2) (own := [(("high" : Str), 3)]) rfl nd rfl rfl (sw_true rfl rfl rfl rfl) (di_range2 rfl T.b_range (da_cons de_int (da_cons (de_op op_addD rd_add (de_var 1 (pv 1)) de_int) da_nil))) (blkOk_by (N := N_least_height) (sc := defScope s_least_height) (by decide +kernel)) (fun _ _ _ _ _ => by exact (pg_name (i := 3) nd rfl (by first | exact Or.inl rfl | exact Or.inr rfl))) (dg_name 3) (fun _ _ _ _ _ => by exact (dts_one (DW.pt (dw_and (dt_val (deF (h_divides.up (by decide)) hr takesN0 (dm_val (de_var 3 (pv 3)) (dm_val (de_var 1 (pv 1)) dm_nil)))) (dw_and1 (dt_val (deF (h_tiled_by.up (by decide)) hr takesN0 (dm_val (de_var 0 (pv 0)) (dm_val (de_callB call_len rc_len rfl T.b_len boot_len (da_cons (de_ix (de_var 0 (pv 0)) de_int (fun _ _ => rfl)) da_nil)) (dm_val (de_var 3 (pv 3)) dm_nil)))))))))) (fun _ _ _ _ _ => by exact (de_var 3 (pv 3))) (by decide) (by decide)) (dss_one (ds_ret (de_see (de_ix (de_var 2 (pv 2)) de_int (fun _ _ => rfl)))))))
theorem ok_least_height (T : Tx K mg) : HasF P w K mg base (Gr K) 3 "least_height" [("rows" : Str)] [] F_least_height := by
  obtain ⟨fd, F⟩ := T.d_least_height
  exact ⟨_, fd, T.m_least_height, F.kp, (F.bindsN fun _ _ _ _ _ _ us hl => match us, hl with | [_], _ => rfl), okf_least_height T F⟩
end
/-! tile_by -/
def fs_tile_by : Fs := (sSq (sAsg (dCall F_least_width [] 1 (mVal (dV 0) mNil)) (bName 1)) (sRet (dC gTuple (dCons (dLst (dLc (sSeq (dSl (dV 0) dNone (dPart (dCall F_least_height [] 1 (mVal (dV 0) mNil))))) (bName 2) [2] tY (dSl (dV 2) dNone (dPart (dV 1))))) dNil))))
def F_tile_by : Fn := fnOf fs_tile_by N_tile_by.length []
theorem sc_tile_by : FnScope N_tile_by [("rows" : Str)] (defScope s_tile_by) := ⟨rfl, rfl, rfl, by decide +kernel, rfl, by decide +kernel, by decide +kernel⟩
abbrev Xc_tile_by (P : Program) (w : World) (K : PySem.W.Frag) (mg : Str → Option Value) (base : Heap) (cdv : Value) (A : Around) (outer : List Env) (s : Shared) (H : Hp) (E : XK) : Cx := cxOf (L2N.CX P w) P w K mg base N_tile_by "tile_by" (defScope s_tile_by) (He.ga K "tile_by") cdv A outer s H E
section
variable {P : Program} {w : World} {K : PySem.W.Frag} {mg : Str → Option Value} {base : Heap}
theorem okf_tile_by (T : Tx K mg) {fd : FuncData} (F : FunD K "tile_by" "tile_by" (defArgs s_tile_by) (defBody s_tile_by) (defScope s_tile_by) [] [] (He.ga K "tile_by") fd) : FnOk P w K mg base (L2N.CX P w) 4 (He.ga K "tile_by") fd [("rows" : Str)] (spF K (Gr K) F_tile_by 1 []) := by
  have h_least_height := ok_least_height (P := P) (w := w) (base := base) T
  have h_least_width := ok_least_width (P := P) (w := w) (base := base) T
  exact fn_ok F sc_tile_by rfl fun cdv A outer s H E hr => by
    have nd := sc_tile_by.nd
    have hu64 := hr.units
    have hu65 : (A.deeper (envOfC "tile_by" (defScope s_tile_by) s.heap.objs.size (He.ga K "tile_by") cdv)).units + 65 < cLine := by have := hr.un; omega
    have hu1 : (A.deeper (envOfC "tile_by" (defScope s_tile_by) s.heap.objs.size (He.ga K "tile_by") cdv)).units + 1 < cLine := by omega
    have hu200 : (A.deeper (envOfC "tile_by" (defScope s_tile_by) s.heap.objs.size (He.ga K "tile_by") cdv)).units + 200 < cLine := by have := hr.un; omega
    have tk : L2N.Takes (cxOf (L2N.CX P w) P w K mg base N_tile_by "tile_by" (defScope s_tile_by) (He.ga K "tile_by") cdv A outer s H E) (fun cls d _ H => E cls d H) := L2N.takes_of rfl rfl rfl rfl
    exact (dss_cons (ds_asg (deF (h_least_width.up (by decide)) hr tk (dm_val (de_var 0 (pv 0)) dm_nil)) (pg_name (i := 1) nd rfl (by first | exact Or.inl rfl | exact Or.inr rfl)) (dg_name 1) (by decide)) (dss_one (ds_ret (de_callTy call_tuple_of rc_tuple rfl T.b_tuple boot_tuple (da_cons (DN.de (dn_lc (X := Xc_tile_by P w K mg base cdv A outer s H E) (own := [(("row" : Str), 2)]) rfl nd (di_seq (de_slice (de_var 0 (pv 0)) dp_none (dp_some (deF (h_least_height.up (by decide)) hr tk (dm_val (de_var 0 (pv 0)) dm_nil))))) (blkOk_by (N := N_tile_by) (sc := defScope s_tile_by) (by decide +kernel)) (fun _ _ _ _ _ => by exact (pg_name (i := 2) nd rfl (by first | exact Or.inl rfl | exact Or.inr rfl))) (dg_name 2) (fun _ _ _ _ _ => by exact dts_nil) (fun _ _ _ _ _ => by exact (de_slice (de_var 2 (pv 2)) dp_none (dp_some (de_var 1 (pv 1))))) (by decide))) da_nil)))))
theorem ok_tile_by (T : Tx K mg) : HasF P w K mg base (Gr K) 4 "tile_by" [("rows" : Str)] [] F_tile_by := by
  obtain ⟨fd, F⟩ := T.d_tile_by
  exact ⟨_, fd, T.m_tile_by, F.kp, (F.bindsN fun _ _ _ _ _ _ us hl => match us, hl with | [_], _ => rfl), okf_tile_by T F⟩
end
/-! turned_on -/
def fs_turned_on : Fs := (sSq (sAsgF (fLst (dLc (sSeq (dV 0)) (bName 4) [4] tY (d2 gAdd (dSl (dV 4) (dPart (dV 1)) dNone) (dSl (dV 4) dNone (dPart (dV 1)))))) 3) (fun env => (sRet (dC gTuple (dCons (d2 gAdd (dSl (dV 3) (dPart (dV 2)) dNone) (dSl (dV 3) dNone (dPart (dV 2)))) dNil))) (frz 3 env)))
def F_turned_on : Fn := fnOf fs_turned_on N_turned_on.length []
theorem sc_turned_on : FnScope N_turned_on [("rows" : Str), ("aside" : Str), ("down" : Str)] (defScope s_turned_on) := ⟨rfl, rfl, rfl, by decide +kernel, rfl, by decide +kernel, by decide +kernel⟩
abbrev Xc_turned_on (P : Program) (w : World) (K : PySem.W.Frag) (mg : Str → Option Value) (base : Heap) (cdv : Value) (A : Around) (outer : List Env) (s : Shared) (H : Hp) (E : XK) : Cx := cxOf (L2N.CX P w) P w K mg base N_turned_on "turned_on" (defScope s_turned_on) (He.ga K "turned_on") cdv A outer s H E
section
variable {P : Program} {w : World} {K : PySem.W.Frag} {mg : Str → Option Value} {base : Heap}
theorem okf_turned_on (T : Tx K mg) {fd : FuncData} (F : FunD K "turned_on" "turned_on" (defArgs s_turned_on) (defBody s_turned_on) (defScope s_turned_on) [] [] (He.ga K "turned_on") fd) : FnOk P w K mg base (L2N.CX P w) 1 (He.ga K "turned_on") fd [("rows" : Str), ("aside" : Str), ("down" : Str)] (spF K (Gr K) F_turned_on 3 []) := by
  exact fn_ok F sc_turned_on rfl fun cdv A outer s H E hr => by
    have nd := sc_turned_on.nd
    have hu64 := hr.units
    have hu65 : (A.deeper (envOfC "turned_on" (defScope s_turned_on) s.heap.objs.size (He.ga K "turned_on") cdv)).units + 65 < cLine := by have := hr.un; omega
    have hu1 : (A.deeper (envOfC "turned_on" (defScope s_turned_on) s.heap.objs.size (He.ga K "turned_on") cdv)).units + 1 < cLine := by omega
    have hu200 : (A.deeper (envOfC "turned_on" (defScope s_turned_on) s.heap.objs.size (He.ga K "turned_on") cdv)).units + 200 < cLine := by have := hr.un; omega
    have tk : L2N.Takes (cxOf (L2N.CX P w) P w K mg base N_turned_on "turned_on" (defScope s_turned_on) (He.ga K "turned_on") cdv A outer s H E) (fun cls d _ H => E cls d H) := L2N.takes_of rfl rfl rfl rfl
    exact (dss_cons (ds_setLc (X := Xc_turned_on P w K mg base cdv A outer s H E) (i := 3) (own := [(("row" : Str), 4)]) rfl nd rfl rfl (sw_true rfl rfl rfl rfl) (di_seq (de_var 0 (pv 0))) (blkOk_by (N := N_turned_on) (sc := defScope s_turned_on) (by decide +kernel)) (fun _ _ _ _ _ => by exact (pg_name (i := 4) nd rfl (by first | exact Or.inl rfl | exact Or.inr rfl))) (dg_name 4) (fun _ _ _ _ _ => by exact dts_nil) (fun _ _ _ _ _ => by exact (de_op op_addD rd_add (de_slice (de_var 4 (pv 4)) (dp_some (de_var 1 (pv 1))) dp_none) (de_slice (de_var 4 (pv 4)) dp_none (dp_some (de_var 1 (pv 1)))))) (by decide) (by decide)) (dss_frz 3 (dss_one (ds_ret (de_callTy call_tuple_of rc_tuple rfl T.b_tuple boot_tuple (da_cons (de_op op_addD rd_add (de_slice (de_var 3 (pv 3)) (dp_some (de_var 2 (pv 2))) dp_none) (de_slice (de_var 3 (pv 3)) dp_none (dp_some (de_var 2 (pv 2))))) da_nil)))) (by decide)))
theorem ok_turned_on (T : Tx K mg) : HasF P w K mg base (Gr K) 1 "turned_on" [("rows" : Str), ("aside" : Str), ("down" : Str)] [] F_turned_on := by
  obtain ⟨fd, F⟩ := T.d_turned_on
  exact ⟨_, fd, T.m_turned_on, F.kp, (F.bindsN fun _ _ _ _ _ _ us hl => match us, hl with | [_, _, _], _ => rfl), okf_turned_on T F⟩
end
/-! shifts_by -/
def fs_shifts_by : Fs := (sSq (sAsgF (fLst (dList dNil)) 1) (sSq (sFor (sRng1 (dCons (dC gLen (dCons (dV 0) dNil)) dNil)) (bName 2) (sFor (sRng1 (dCons (dC gLen (dCons (d2 gIx (dV 0) (dK (.int 0))) dNil)) dNil)) (bName 3) (sApp 1 (dCall F_turned_on [] 3 (mVal (dV 0) (mVal (dV 3) (mVal (dV 2) mNil))))))) (sRetO 1)))
def F_shifts_by : Fn := fnOf fs_shifts_by N_shifts_by.length []
theorem sc_shifts_by : FnScope N_shifts_by [("rows" : Str)] (defScope s_shifts_by) := ⟨rfl, rfl, rfl, by decide +kernel, rfl, by decide +kernel, by decide +kernel⟩
abbrev Xc_shifts_by (P : Program) (w : World) (K : PySem.W.Frag) (mg : Str → Option Value) (base : Heap) (cdv : Value) (A : Around) (outer : List Env) (s : Shared) (H : Hp) (E : XK) : Cx := cxOf (L2N.CX P w) P w K mg base N_shifts_by "shifts_by" (defScope s_shifts_by) (He.ga K "shifts_by") cdv A outer s H E
section
variable {P : Program} {w : World} {K : PySem.W.Frag} {mg : Str → Option Value} {base : Heap}
theorem okf_shifts_by (T : Tx K mg) {fd : FuncData} (F : FunD K "shifts_by" "shifts_by" (defArgs s_shifts_by) (defBody s_shifts_by) (defScope s_shifts_by) [] [] (He.ga K "shifts_by") fd) : FnOk P w K mg base (L2N.CX P w) 2 (He.ga K "shifts_by") fd [("rows" : Str)] (spF K (Gr K) F_shifts_by 1 []) := by
  have h_turned_on := ok_turned_on (P := P) (w := w) (base := base) T
  exact fn_ok F sc_shifts_by rfl fun cdv A outer s H E hr => by
    have nd := sc_shifts_by.nd
    have hu64 := hr.units
    have hu65 : (A.deeper (envOfC "shifts_by" (defScope s_shifts_by) s.heap.objs.size (He.ga K "shifts_by") cdv)).units + 65 < cLine := by have := hr.un; omega
    have hu1 : (A.deeper (envOfC "shifts_by" (defScope s_shifts_by) s.heap.objs.size (He.ga K "shifts_by") cdv)).units + 1 < cLine := by omega
    have hu200 : (A.deeper (envOfC "shifts_by" (defScope s_shifts_by) s.heap.objs.size (He.ga K "shifts_by") cdv)).units + 200 < cLine := by have := hr.un; omega
    have tk : L2N.Takes (cxOf (L2N.CX P w) P w K mg base N_shifts_by "shifts_by" (defScope s_shifts_by) (He.ga K "shifts_by") cdv A outer s H E) (fun cls d _ H => E cls d H) := L2N.takes_of rfl rfl rfl rfl
    exact (dss_cons (ds_asgF (DN.df (dn_lst da_nil)) (pg_name (i := 1) nd rfl (by first | exact Or.inl rfl | exact Or.inr rfl)) (by decide)) (dss_cons (ds_for (passes_of rfl) rfl (di_range1 rfl T.b_range (da_cons (de_callB call_len rc_len rfl T.b_len boot_len (da_cons (de_var 0 (pv 0)) da_nil)) da_nil)) (pg_name (i := 2) nd rfl (by first | exact Or.inl rfl | exact Or.inr rfl)) (dg_name 2) (dss_one (ds_for (passes_of rfl) rfl (di_range1 rfl T.b_range (da_cons (de_callB call_len rc_len rfl T.b_len boot_len (da_cons (de_ix (de_var 0 (pv 0)) de_int (fun _ _ => rfl)) da_nil)) da_nil)) (pg_name (i := 3) nd rfl (by first | exact Or.inl rfl | exact Or.inr rfl)) (dg_name 3) (dss_one (ds_app 1 (pv 1) (deF (h_turned_on.up (by decide)) hr tk (dm_val (de_var 0 (pv 0)) (dm_val (de_var 3 (pv 3)) (dm_val (de_var 2 (pv 2)) dm_nil)))))) (by decide))) (by decide)) (dss_one (ds_retO 1 (pv 1) (by decide)))))
theorem ok_shifts_by (T : Tx K mg) : HasF P w K mg base (Gr K) 2 "shifts_by" [("rows" : Str)] [] F_shifts_by := by
  obtain ⟨fd, F⟩ := T.d_shifts_by
  exact ⟨_, fd, T.m_shifts_by, F.kp, (F.bindsN fun _ _ _ _ _ _ us hl => match us, hl with | [_], _ => rfl), okf_shifts_by T F⟩
end
/-! least_by -/
def fs_least_by : Fs := (sRet (dC gMinL (dCons (dCall F_shifts_by [] 1 (mVal (dV 0) mNil)) dNil)))
def F_least_by : Fn := fnOf fs_least_by N_least_by.length []
theorem sc_least_by : FnScope N_least_by [("rows" : Str)] (defScope s_least_by) := ⟨rfl, rfl, rfl, by decide +kernel, rfl, by decide +kernel, by decide +kernel⟩
abbrev Xc_least_by (P : Program) (w : World) (K : PySem.W.Frag) (mg : Str → Option Value) (base : Heap) (cdv : Value) (A : Around) (outer : List Env) (s : Shared) (H : Hp) (E : XK) : Cx := cxOf (L2N.CX P w) P w K mg base N_least_by "least_by" (defScope s_least_by) (He.ga K "least_by") cdv A outer s H E
section
variable {P : Program} {w : World} {K : PySem.W.Frag} {mg : Str → Option Value} {base : Heap}
theorem okf_least_by (T : Tx K mg) {fd : FuncData} (F : FunD K "least_by" "least_by" (defArgs s_least_by) (defBody s_least_by) (defScope s_least_by) [] [] (He.ga K "least_by") fd) : FnOk P w K mg base (L2N.CX P w) 3 (He.ga K "least_by") fd [("rows" : Str)] (spF K (Gr K) F_least_by 1 []) := by
  have h_shifts_by := ok_shifts_by (P := P) (w := w) (base := base) T
  exact fn_ok F sc_least_by rfl fun cdv A outer s H E hr => by
    have nd := sc_least_by.nd
    have hu64 := hr.units
    have hu65 : (A.deeper (envOfC "least_by" (defScope s_least_by) s.heap.objs.size (He.ga K "least_by") cdv)).units + 65 < cLine := by have := hr.un; omega
    have hu1 : (A.deeper (envOfC "least_by" (defScope s_least_by) s.heap.objs.size (He.ga K "least_by") cdv)).units + 1 < cLine := by omega
    have hu200 : (A.deeper (envOfC "least_by" (defScope s_least_by) s.heap.objs.size (He.ga K "least_by") cdv)).units + 200 < cLine := by have := hr.un; omega
    have tk : L2N.Takes (cxOf (L2N.CX P w) P w K mg base N_least_by "least_by" (defScope s_least_by) (He.ga K "least_by") cdv A outer s H E) (fun cls d _ H => E cls d H) := L2N.takes_of rfl rfl rfl rfl
    exact (dss_one (ds_ret (de_callB (call_minL rfl hu65) rc_minL rfl T.b_min boot_min (da_cons (deF (h_shifts_by.up (by decide)) hr tk (dm_val (de_var 0 (pv 0)) dm_nil)) da_nil))))
theorem ok_least_by (T : Tx K mg) : HasF P w K mg base (Gr K) 3 "least_by" [("rows" : Str)] [] F_least_by := by
  obtain ⟨fd, F⟩ := T.d_least_by
  exact ⟨_, fd, T.m_least_by, F.kp, (F.bindsN fun _ _ _ _ _ _ us hl => match us, hl with | [_], _ => rfl), okf_least_by T F⟩
end
/-! check_divisor -/
def fs_check_divisor : Fs := (sIf (dOrB (dNotB (dB (dCall F_is_between [] 3 (mVal (dV 0) (mVal (dK (.int 1)) (mVal (dV 1) mNil)))))) (dNotB (dB (dCall F_divides [] 2 (mVal (dV 0) (mVal (dV 1) mNil)))))) (sRaise ("InvalidNumber" : Str) (dV 0)) sNx)
def F_check_divisor : Fn := fnOf fs_check_divisor N_check_divisor.length []
theorem sc_check_divisor : FnScope N_check_divisor [("number" : Str), ("many" : Str)] (defScope s_check_divisor) := ⟨rfl, rfl, rfl, by decide +kernel, rfl, by decide +kernel, by decide +kernel⟩
abbrev Xc_check_divisor (P : Program) (w : World) (K : PySem.W.Frag) (mg : Str → Option Value) (base : Heap) (cdv : Value) (A : Around) (outer : List Env) (s : Shared) (H : Hp) (E : XK) : Cx := cxOf (L2N.CX P w) P w K mg base N_check_divisor "check_divisor" (defScope s_check_divisor) (He.ga K "check_divisor") cdv A outer s H E
section
variable {P : Program} {w : World} {K : PySem.W.Frag} {mg : Str → Option Value} {base : Heap}
theorem okf_check_divisor (T : Tx K mg) {fd : FuncData} (F : FunD K "check_divisor" "check_divisor" (defArgs s_check_divisor) (defBody s_check_divisor) (defScope s_check_divisor) [] [] (He.ga K "check_divisor") fd) : FnOk P w K mg base (L2N.CX P w) 3 (He.ga K "check_divisor") fd [("number" : Str), ("many" : Str)] (spF K (Gr K) F_check_divisor 2 []) := by
  have h_divides := ok_divides (P := P) (w := w) (base := base) T
  have h_is_between := ok_is_between (P := P) (w := w) (base := base) T
  exact fn_ok F sc_check_divisor rfl fun cdv A outer s H E hr => by
    have nd := sc_check_divisor.nd
    have hu64 := hr.units
    have hu65 : (A.deeper (envOfC "check_divisor" (defScope s_check_divisor) s.heap.objs.size (He.ga K "check_divisor") cdv)).units + 65 < cLine := by have := hr.un; omega
    have hu1 : (A.deeper (envOfC "check_divisor" (defScope s_check_divisor) s.heap.objs.size (He.ga K "check_divisor") cdv)).units + 1 < cLine := by omega
    have hu200 : (A.deeper (envOfC "check_divisor" (defScope s_check_divisor) s.heap.objs.size (He.ga K "check_divisor") cdv)).units + 200 < cLine := by have := hr.un; omega
    have tk : L2N.Takes (cxOf (L2N.CX P w) P w K mg base N_check_divisor "check_divisor" (defScope s_check_divisor) (He.ga K "check_divisor") cdv A outer s H E) (fun cls d _ H => E cls d H) := L2N.takes_of rfl rfl rfl rfl
    exact (dss_one (ds_if (DW.pt (dw_or (dt_not (dt_val (deF (h_is_between.up (by decide)) hr tk (dm_val (de_var 0 (pv 0)) (dm_val de_int (dm_val (de_var 1 (pv 1)) dm_nil)))))) (dw_or1 (dt_not (dt_val (deF (h_divides.up (by decide)) hr tk (dm_val (de_var 0 (pv 0)) (dm_val (de_var 1 (pv 1)) dm_nil)))))))) (dss_one (ds_raise rfl tk (fun ta ha => pmk_InvalidNumber (k := 0) T.e_InvalidNumber (hr.mono (by decide)) ha) rfl rfl (de_var 0 (pv 0)))) dss_nil))
theorem ok_check_divisor (T : Tx K mg) : HasF P w K mg base (Gr K) 3 "check_divisor" [("number" : Str), ("many" : Str)] [] F_check_divisor := by
  obtain ⟨fd, F⟩ := T.d_check_divisor
  exact ⟨_, fd, T.m_check_divisor, F.kp, (F.bindsN fun _ _ _ _ _ _ us hl => match us, hl with | [_, _], _ => rfl), okf_check_divisor T F⟩
end
/-! tile_of -/
def fs_tile_of : Fs := (sSq (sDrp (dCall F_check_rows [] 1 (mVal (dV 0) mNil))) (sRet (dCall F_tile_by [] 1 (mVal (dV 0) mNil))))
def F_tile_of : Fn := fnOf fs_tile_of N_tile_of.length []
theorem sc_tile_of : FnScope N_tile_of [("rows" : Str)] (defScope s_tile_of) := ⟨rfl, rfl, rfl, by decide +kernel, rfl, by decide +kernel, by decide +kernel⟩
abbrev Xc_tile_of (P : Program) (w : World) (K : PySem.W.Frag) (mg : Str → Option Value) (base : Heap) (cdv : Value) (A : Around) (outer : List Env) (s : Shared) (H : Hp) (E : XK) : Cx := cxOf (L2N.CX P w) P w K mg base N_tile_of "tile_of" (defScope s_tile_of) (He.ga K "tile_of") cdv A outer s H E
section
variable {P : Program} {w : World} {K : PySem.W.Frag} {mg : Str → Option Value} {base : Heap}
theorem okf_tile_of (T : Tx K mg) {fd : FuncData} (F : FunD K "tile_of" "tile_of" (defArgs s_tile_of) (defBody s_tile_of) (defScope s_tile_of) [] [] (He.ga K "tile_of") fd) : FnOk P w K mg base (L2N.CX P w) 5 (He.ga K "tile_of") fd [("rows" : Str)] (spF K (Gr K) F_tile_of 1 []) := by
  have h_check_rows := ok_check_rows (P := P) (w := w) (base := base) T
  have h_tile_by := ok_tile_by (P := P) (w := w) (base := base) T
  exact fn_ok F sc_tile_of rfl fun cdv A outer s H E hr => by
    have nd := sc_tile_of.nd
    have hu64 := hr.units
    have hu65 : (A.deeper (envOfC "tile_of" (defScope s_tile_of) s.heap.objs.size (He.ga K "tile_of") cdv)).units + 65 < cLine := by have := hr.un; omega
    have hu1 : (A.deeper (envOfC "tile_of" (defScope s_tile_of) s.heap.objs.size (He.ga K "tile_of") cdv)).units + 1 < cLine := by omega
    have hu200 : (A.deeper (envOfC "tile_of" (defScope s_tile_of) s.heap.objs.size (He.ga K "tile_of") cdv)).units + 200 < cLine := by have := hr.un; omega
    have tk : L2N.Takes (cxOf (L2N.CX P w) P w K mg base N_tile_of "tile_of" (defScope s_tile_of) (He.ga K "tile_of") cdv A outer s H E) (fun cls d _ H => E cls d H) := L2N.takes_of rfl rfl rfl rfl
    exact (dss_cons (ds_expr (deF (h_check_rows.up (by decide)) hr tk (dm_val (de_var 0 (pv 0)) dm_nil))) (dss_one (ds_ret (deF (h_tile_by.up (by decide)) hr tk (dm_val (de_var 0 (pv 0)) dm_nil)))))
theorem ok_tile_of (T : Tx K mg) : HasF P w K mg base (Gr K) 5 "tile_of" [("rows" : Str)] [] F_tile_of := by
  obtain ⟨fd, F⟩ := T.d_tile_of
  exact ⟨_, fd, T.m_tile_of, F.kp, (F.bindsN fun _ _ _ _ _ _ us hl => match us, hl with | [_], _ => rfl), okf_tile_of T F⟩
end
/-! is_tiled -/
def fs_is_tiled : Fs := (sSq (sDrp (dCall F_check_rows [] 1 (mVal (dV 0) mNil))) (sSq (sDrp (dCall F_check_divisor [] 2 (mVal (dV 1) (mVal (dC gLen (dCons (d2 gIx (dV 0) (dK (.int 0))) dNil)) mNil)))) (sSq (sDrp (dCall F_check_divisor [] 2 (mVal (dV 2) (mVal (dC gLen (dCons (dV 0) dNil)) mNil)))) (sRet (dCall F_tiled_by [] 3 (mVal (dV 0) (mVal (dV 1) (mVal (dV 2) mNil))))))))
def F_is_tiled : Fn := fnOf fs_is_tiled N_is_tiled.length []
theorem sc_is_tiled : FnScope N_is_tiled [("rows" : Str), ("wide" : Str), ("high" : Str)] (defScope s_is_tiled) := ⟨rfl, rfl, rfl, by decide +kernel, rfl, by decide +kernel, by decide +kernel⟩
abbrev Xc_is_tiled (P : Program) (w : World) (K : PySem.W.Frag) (mg : Str → Option Value) (base : Heap) (cdv : Value) (A : Around) (outer : List Env) (s : Shared) (H : Hp) (E : XK) : Cx := cxOf (L2N.CX P w) P w K mg base N_is_tiled "is_tiled" (defScope s_is_tiled) (He.ga K "is_tiled") cdv A outer s H E
section
variable {P : Program} {w : World} {K : PySem.W.Frag} {mg : Str → Option Value} {base : Heap}
theorem okf_is_tiled (T : Tx K mg) {fd : FuncData} (F : FunD K "is_tiled" "is_tiled" (defArgs s_is_tiled) (defBody s_is_tiled) (defScope s_is_tiled) [] [] (He.ga K "is_tiled") fd) : FnOk P w K mg base (L2N.CX P w) 5 (He.ga K "is_tiled") fd [("rows" : Str), ("wide" : Str), ("high" : Str)] (spF K (Gr K) F_is_tiled 3 []) := by
  have h_check_divisor := ok_check_divisor (P := P) (w := w) (base := base) T
  have h_check_rows := ok_check_rows (P := P) (w := w) (base := base) T
  have h_tiled_by := ok_tiled_by (P := P) (w := w) (base := base) T
  exact fn_ok F sc_is_tiled rfl fun cdv A outer s H E hr => by
    have nd := sc_is_tiled.nd
    have hu64 := hr.units
    have hu65 : (A.deeper (envOfC "is_tiled" (defScope s_is_tiled) s.heap.objs.size (He.ga K "is_tiled") cdv)).units + 65 < cLine := by have := hr.un; omega
    have hu1 : (A.deeper (envOfC "is_tiled" (defScope s_is_tiled) s.heap.objs.size (He.ga K "is_tiled") cdv)).units + 1 < cLine := by omega
    have hu200 : (A.deeper (envOfC "is_tiled" (defScope s_is_tiled) s.heap.objs.size (He.ga K "is_tiled") cdv)).units + 200 < cLine := by have := hr.un; omega
    have tk : L2N.Takes (cxOf (L2N.CX P w) P w K mg base N_is_tiled "is_tiled" (defScope s_is_tiled) (He.ga K "is_tiled") cdv A outer s H E) (fun cls d _ H => E cls d H) := L2N.takes_of rfl rfl rfl rfl
    exact (dss_cons (ds_expr (deF (h_check_rows.up (by decide)) hr tk (dm_val (de_var 0 (pv 0)) dm_nil))) (dss_cons (ds_expr (deF (h_check_divisor.up (by decide)) hr tk (dm_val (de_var 1 (pv 1)) (dm_val (de_callB call_len rc_len rfl T.b_len boot_len (da_cons (de_ix (de_var 0 (pv 0)) de_int (fun _ _ => rfl)) da_nil)) dm_nil)))) (dss_cons (ds_expr (deF (h_check_divisor.up (by decide)) hr tk (dm_val (de_var 2 (pv 2)) (dm_val (de_callB call_len rc_len rfl T.b_len boot_len (da_cons (de_var 0 (pv 0)) da_nil)) dm_nil)))) (dss_one (ds_ret (deF (h_tiled_by.up (by decide)) hr tk (dm_val (de_var 0 (pv 0)) (dm_val (de_var 1 (pv 1)) (dm_val (de_var 2 (pv 2)) dm_nil)))))))))
theorem ok_is_tiled (T : Tx K mg) : HasF P w K mg base (Gr K) 5 "is_tiled" [("rows" : Str), ("wide" : Str), ("high" : Str)] [] F_is_tiled := by
  obtain ⟨fd, F⟩ := T.d_is_tiled
  exact ⟨_, fd, T.m_is_tiled, F.kp, (F.bindsN fun _ _ _ _ _ _ us hl => match us, hl with | [_, _, _], _ => rfl), okf_is_tiled T F⟩
theorem okk_is_tiled_0 (T : Tx K mg) : HasK P w K mg base (Gr K) 5 "is_tiled" [("rows" : Str), ("wide" : Str), ("high" : Str)] [] F_is_tiled [("high" : Str), ("wide" : Str), ("rows" : Str)] [2, 1, 0] := by
  obtain ⟨fd, F⟩ := T.d_is_tiled
  refine ⟨_, fd, T.m_is_tiled, F.kp, fun s ws _ hl => ?_, okf_is_tiled T F⟩
  obtain ⟨oc, od, dV, kV, doc, pm, an, cdv, ct, osl, rfl, lk, hcd, hD, hK⟩ := F.ex
  rcases hD with ⟨_, rfl⟩ | ⟨e, _⟩
  · exact match ws, hl with | [_, _, _], _ => .of_eq rfl
  · exact absurd rfl e
end
/-! shifted_rows -/
def fs_shifted_rows : Fs := (sSq (sDrp (dCall F_check_rows [] 1 (mVal (dV 0) mNil))) (sSq (sDrp (dCall F_check_number [] 3 (mVal (dV 1) (mVal (dK (.int 0)) (mVal (d2 gSub (dC gLen (dCons (d2 gIx (dV 0) (dK (.int 0))) dNil)) (dK (.int 1))) mNil))))) (sSq (sDrp (dCall F_check_number [] 3 (mVal (dV 2) (mVal (dK (.int 0)) (mVal (d2 gSub (dC gLen (dCons (dV 0) dNil)) (dK (.int 1))) mNil))))) (sRet (dCall F_turned_on [] 3 (mVal (dV 0) (mVal (dV 1) (mVal (dV 2) mNil))))))))
def F_shifted_rows : Fn := fnOf fs_shifted_rows N_shifted_rows.length []
theorem sc_shifted_rows : FnScope N_shifted_rows [("rows" : Str), ("aside" : Str), ("down" : Str)] (defScope s_shifted_rows) := ⟨rfl, rfl, rfl, by decide +kernel, rfl, by decide +kernel, by decide +kernel⟩
abbrev Xc_shifted_rows (P : Program) (w : World) (K : PySem.W.Frag) (mg : Str → Option Value) (base : Heap) (cdv : Value) (A : Around) (outer : List Env) (s : Shared) (H : Hp) (E : XK) : Cx := cxOf (L2N.CX P w) P w K mg base N_shifted_rows "shifted_rows" (defScope s_shifted_rows) (He.ga K "shifted_rows") cdv A outer s H E
section
variable {P : Program} {w : World} {K : PySem.W.Frag} {mg : Str → Option Value} {base : Heap}
theorem okf_shifted_rows (T : Tx K mg) {fd : FuncData} (F : FunD K "shifted_rows" "shifted_rows" (defArgs s_shifted_rows) (defBody s_shifted_rows) (defScope s_shifted_rows) [] [] (He.ga K "shifted_rows") fd) : FnOk P w K mg base (L2N.CX P w) 5 (He.ga K "shifted_rows") fd [("rows" : Str), ("aside" : Str), ("down" : Str)] (spF K (Gr K) F_shifted_rows 3 []) := by
  have h_check_number := ok_check_number (P := P) (w := w) (base := base) T
  have h_check_rows := ok_check_rows (P := P) (w := w) (base := base) T
  have h_turned_on := ok_turned_on (P := P) (w := w) (base := base) T
  exact fn_ok F sc_shifted_rows rfl fun cdv A outer s H E hr => by
    have nd := sc_shifted_rows.nd
    have hu64 := hr.units
    have hu65 : (A.deeper (envOfC "shifted_rows" (defScope s_shifted_rows) s.heap.objs.size (He.ga K "shifted_rows") cdv)).units + 65 < cLine := by have := hr.un; omega
    have hu1 : (A.deeper (envOfC "shifted_rows" (defScope s_shifted_rows) s.heap.objs.size (He.ga K "shifted_rows") cdv)).units + 1 < cLine := by omega
    have hu200 : (A.deeper (envOfC "shifted_rows" (defScope s_shifted_rows) s.heap.objs.size (He.ga K "shifted_rows") cdv)).units + 200 < cLine := by have := hr.un; omega
    have tk : L2N.Takes (cxOf (L2N.CX P w) P w K mg base N_shifted_rows "shifted_rows" (defScope s_shifted_rows) (He.ga K "shifted_rows") cdv A outer s H E) (fun cls d _ H => E cls d H) := L2N.takes_of rfl rfl rfl rfl
    exact (dss_cons (ds_expr (deF (h_check_rows.up (by decide)) hr tk (dm_val (de_var 0 (pv 0)) dm_nil))) (dss_cons (ds_expr (deF (h_check_number.up (by decide)) hr tk (dm_val (de_var 1 (pv 1)) (dm_val de_int (dm_val (de_op op_sub rd_sub (de_callB call_len rc_len rfl T.b_len boot_len (da_cons (de_ix (de_var 0 (pv 0)) de_int (fun _ _ => rfl)) da_nil)) de_int) dm_nil))))) (dss_cons (ds_expr (deF (h_check_number.up (by decide)) hr tk (dm_val (de_var 2 (pv 2)) (dm_val de_int (dm_val (de_op op_sub rd_sub (de_callB call_len rc_len rfl T.b_len boot_len (da_cons (de_var 0 (pv 0)) da_nil)) de_int) dm_nil))))) (dss_one (ds_ret (deF (h_turned_on.up (by decide)) hr tk (dm_val (de_var 0 (pv 0)) (dm_val (de_var 1 (pv 1)) (dm_val (de_var 2 (pv 2)) dm_nil)))))))))
theorem ok_shifted_rows (T : Tx K mg) : HasF P w K mg base (Gr K) 5 "shifted_rows" [("rows" : Str), ("aside" : Str), ("down" : Str)] [] F_shifted_rows := by
  obtain ⟨fd, F⟩ := T.d_shifted_rows
  exact ⟨_, fd, T.m_shifted_rows, F.kp, (F.bindsN fun _ _ _ _ _ _ us hl => match us, hl with | [_, _, _], _ => rfl), okf_shifted_rows T F⟩
end
/-! least_shift -/
def fs_least_shift : Fs := (sSq (sDrp (dCall F_check_rows [] 1 (mVal (dV 0) mNil))) (sRet (dCall F_least_by [] 1 (mVal (dV 0) mNil))))
def F_least_shift : Fn := fnOf fs_least_shift N_least_shift.length []
theorem sc_least_shift : FnScope N_least_shift [("rows" : Str)] (defScope s_least_shift) := ⟨rfl, rfl, rfl, by decide +kernel, rfl, by decide +kernel, by decide +kernel⟩
abbrev Xc_least_shift (P : Program) (w : World) (K : PySem.W.Frag) (mg : Str → Option Value) (base : Heap) (cdv : Value) (A : Around) (outer : List Env) (s : Shared) (H : Hp) (E : XK) : Cx := cxOf (L2N.CX P w) P w K mg base N_least_shift "least_shift" (defScope s_least_shift) (He.ga K "least_shift") cdv A outer s H E
section
variable {P : Program} {w : World} {K : PySem.W.Frag} {mg : Str → Option Value} {base : Heap}
theorem okf_least_shift (T : Tx K mg) {fd : FuncData} (F : FunD K "least_shift" "least_shift" (defArgs s_least_shift) (defBody s_least_shift) (defScope s_least_shift) [] [] (He.ga K "least_shift") fd) : FnOk P w K mg base (L2N.CX P w) 5 (He.ga K "least_shift") fd [("rows" : Str)] (spF K (Gr K) F_least_shift 1 []) := by
  have h_check_rows := ok_check_rows (P := P) (w := w) (base := base) T
  have h_least_by := ok_least_by (P := P) (w := w) (base := base) T
  exact fn_ok F sc_least_shift rfl fun cdv A outer s H E hr => by
    have nd := sc_least_shift.nd
    have hu64 := hr.units
    have hu65 : (A.deeper (envOfC "least_shift" (defScope s_least_shift) s.heap.objs.size (He.ga K "least_shift") cdv)).units + 65 < cLine := by have := hr.un; omega
    have hu1 : (A.deeper (envOfC "least_shift" (defScope s_least_shift) s.heap.objs.size (He.ga K "least_shift") cdv)).units + 1 < cLine := by omega
    have hu200 : (A.deeper (envOfC "least_shift" (defScope s_least_shift) s.heap.objs.size (He.ga K "least_shift") cdv)).units + 200 < cLine := by have := hr.un; omega
    have tk : L2N.Takes (cxOf (L2N.CX P w) P w K mg base N_least_shift "least_shift" (defScope s_least_shift) (He.ga K "least_shift") cdv A outer s H E) (fun cls d _ H => E cls d H) := L2N.takes_of rfl rfl rfl rfl
    exact (dss_cons (ds_expr (deF (h_check_rows.up (by decide)) hr tk (dm_val (de_var 0 (pv 0)) dm_nil))) (dss_one (ds_ret (deF (h_least_by.up (by decide)) hr tk (dm_val (de_var 0 (pv 0)) dm_nil)))))
theorem ok_least_shift (T : Tx K mg) : HasF P w K mg base (Gr K) 5 "least_shift" [("rows" : Str)] [] F_least_shift := by
  obtain ⟨fd, F⟩ := T.d_least_shift
  exact ⟨_, fd, T.m_least_shift, F.kp, (F.bindsN fun _ _ _ _ _ _ us hl => match us, hl with | [_], _ => rfl), okf_least_shift T F⟩
theorem okk_least_shift_0 (T : Tx K mg) : HasK P w K mg base (Gr K) 5 "least_shift" [("rows" : Str)] [] F_least_shift [("rows" : Str)] [0] := by
  obtain ⟨fd, F⟩ := T.d_least_shift
  refine ⟨_, fd, T.m_least_shift, F.kp, fun s ws _ hl => ?_, okf_least_shift T F⟩
  obtain ⟨oc, od, dV, kV, doc, pm, an, cdv, ct, osl, rfl, lk, hcd, hD, hK⟩ := F.ex
  rcases hD with ⟨_, rfl⟩ | ⟨e, _⟩
  · exact match ws, hl with | [_], _ => .of_eq rfl
  · exact absurd rfl e
end
/-! are_shifts -/
def fs_are_shifts : Fs := (sSq (sDrp (dCall F_check_rows [] 1 (mVal (dV 0) mNil))) (sSq (sDrp (dCall F_check_rows [] 1 (mVal (dV 1) mNil))) (sSq (sIf (dOrB (dB (d2 gNe (dC gLen (dCons (dV 0) dNil)) (dC gLen (dCons (dV 1) dNil)))) (dB (d2 gNe (dC gLen (dCons (d2 gIx (dV 0) (dK (.int 0))) dNil)) (dC gLen (dCons (d2 gIx (dV 1) (dK (.int 0))) dNil))))) (sRet (dK (.bool false))) sNx) (sRet (d2 gEq (dCall F_least_by [] 1 (mVal (dV 0) mNil)) (dCall F_least_by [] 1 (mVal (dV 1) mNil)))))))
def F_are_shifts : Fn := fnOf fs_are_shifts N_are_shifts.length []
theorem sc_are_shifts : FnScope N_are_shifts [("rows" : Str), ("other_rows" : Str)] (defScope s_are_shifts) := ⟨rfl, rfl, rfl, by decide +kernel, rfl, by decide +kernel, by decide +kernel⟩
abbrev Xc_are_shifts (P : Program) (w : World) (K : PySem.W.Frag) (mg : Str → Option Value) (base : Heap) (cdv : Value) (A : Around) (outer : List Env) (s : Shared) (H : Hp) (E : XK) : Cx := cxOf (L2N.CX P w) P w K mg base N_are_shifts "are_shifts" (defScope s_are_shifts) (He.ga K "are_shifts") cdv A outer s H E
section
variable {P : Program} {w : World} {K : PySem.W.Frag} {mg : Str → Option Value} {base : Heap}
theorem okf_are_shifts (T : Tx K mg) {fd : FuncData} (F : FunD K "are_shifts" "are_shifts" (defArgs s_are_shifts) (defBody s_are_shifts) (defScope s_are_shifts) [] [] (He.ga K "are_shifts") fd) : FnOk P w K mg base (L2N.CX P w) 5 (He.ga K "are_shifts") fd [("rows" : Str), ("other_rows" : Str)] (spF K (Gr K) F_are_shifts 2 []) := by
  have h_check_rows := ok_check_rows (P := P) (w := w) (base := base) T
  have h_least_by := ok_least_by (P := P) (w := w) (base := base) T
  exact fn_ok F sc_are_shifts rfl fun cdv A outer s H E hr => by
    have nd := sc_are_shifts.nd
    have hu64 := hr.units
    have hu65 : (A.deeper (envOfC "are_shifts" (defScope s_are_shifts) s.heap.objs.size (He.ga K "are_shifts") cdv)).units + 65 < cLine := by have := hr.un; omega
    have hu1 : (A.deeper (envOfC "are_shifts" (defScope s_are_shifts) s.heap.objs.size (He.ga K "are_shifts") cdv)).units + 1 < cLine := by omega
    have hu200 : (A.deeper (envOfC "are_shifts" (defScope s_are_shifts) s.heap.objs.size (He.ga K "are_shifts") cdv)).units + 200 < cLine := by have := hr.un; omega
    have tk : L2N.Takes (cxOf (L2N.CX P w) P w K mg base N_are_shifts "are_shifts" (defScope s_are_shifts) (He.ga K "are_shifts") cdv A outer s H E) (fun cls d _ H => E cls d H) := L2N.takes_of rfl rfl rfl rfl
    exact (dss_cons (ds_expr (deF (h_check_rows.up (by decide)) hr tk (dm_val (de_var 0 (pv 0)) dm_nil))) (dss_cons (ds_expr (deF (h_check_rows.up (by decide)) hr tk (dm_val (de_var 1 (pv 1)) dm_nil))) (dss_cons (ds_if (DW.pt (dw_or (dt_cmp (op_neD hu64) rd_ne (de_callB call_len rc_len rfl T.b_len boot_len (da_cons (de_var 0 (pv 0)) da_nil)) (de_callB call_len rc_len rfl T.b_len boot_len (da_cons (de_var 1 (pv 1)) da_nil)) (nomark _)) (dw_or1 (dt_cmp (op_neD hu64) rd_ne (de_callB call_len rc_len rfl T.b_len boot_len (da_cons (de_ix (de_var 0 (pv 0)) de_int (fun _ _ => rfl)) da_nil)) (de_callB call_len rc_len rfl T.b_len boot_len (da_cons (de_ix (de_var 1 (pv 1)) de_int (fun _ _ => rfl)) da_nil)) (nomark _))))) (dss_one (ds_ret de_bl)) dss_nil) (dss_one (ds_ret (de_cmp (op_eqD hu64) rd_eq (deF (h_least_by.up (by decide)) hr tk (dm_val (de_var 0 (pv 0)) dm_nil)) (deF (h_least_by.up (by decide)) hr tk (dm_val (de_var 1 (pv 1)) dm_nil)) (nomark _)))))))
theorem ok_are_shifts (T : Tx K mg) : HasF P w K mg base (Gr K) 5 "are_shifts" [("rows" : Str), ("other_rows" : Str)] [] F_are_shifts := by
  obtain ⟨fd, F⟩ := T.d_are_shifts
  exact ⟨_, fd, T.m_are_shifts, F.kp, (F.bindsN fun _ _ _ _ _ _ us hl => match us, hl with | [_, _], _ => rfl), okf_are_shifts T F⟩
theorem okk_are_shifts_0 (T : Tx K mg) : HasK P w K mg base (Gr K) 5 "are_shifts" [("rows" : Str), ("other_rows" : Str)] [] F_are_shifts [("other_rows" : Str), ("rows" : Str)] [1, 0] := by
  obtain ⟨fd, F⟩ := T.d_are_shifts
  refine ⟨_, fd, T.m_are_shifts, F.kp, fun s ws _ hl => ?_, okf_are_shifts T F⟩
  obtain ⟨oc, od, dV, kV, doc, pm, an, cdv, ct, osl, rfl, lk, hcd, hD, hK⟩ := F.ex
  rcases hD with ⟨_, rfl⟩ | ⟨e, _⟩
  · exact match ws, hl with | [_, _], _ => .of_eq rfl
  · exact absurd rfl e
end
/-! is_colouring -/
def fs_is_colouring : Fs := (sRet (dCall F_colouring_ok [] 1 (mVal (dV 0) mNil)))
def F_is_colouring : Fn := fnOf fs_is_colouring N_is_colouring.length []
theorem sc_is_colouring : FnScope N_is_colouring [("value" : Str)] (defScope s_is_colouring) := ⟨rfl, rfl, rfl, by decide +kernel, rfl, by decide +kernel, by decide +kernel⟩
abbrev Xc_is_colouring (P : Program) (w : World) (K : PySem.W.Frag) (mg : Str → Option Value) (base : Heap) (cdv : Value) (A : Around) (outer : List Env) (s : Shared) (H : Hp) (E : XK) : Cx := cxOf (L2N.CX P w) P w K mg base N_is_colouring "is_colouring" (defScope s_is_colouring) (He.ga K "is_colouring") cdv A outer s H E
section
variable {P : Program} {w : World} {K : PySem.W.Frag} {mg : Str → Option Value} {base : Heap}
theorem okf_is_colouring (T : Tx K mg) {fd : FuncData} (F : FunD K "is_colouring" "is_colouring" (defArgs s_is_colouring) (defBody s_is_colouring) (defScope s_is_colouring) [] [] (He.ga K "is_colouring") fd) : FnOk P w K mg base (L2N.CX P w) 5 (He.ga K "is_colouring") fd [("value" : Str)] (spF K (Gr K) F_is_colouring 1 []) := by
  have h_colouring_ok := ok_colouring_ok (P := P) (w := w) (base := base) T
  exact fn_ok F sc_is_colouring rfl fun cdv A outer s H E hr => by
    have nd := sc_is_colouring.nd
    have hu64 := hr.units
    have hu65 : (A.deeper (envOfC "is_colouring" (defScope s_is_colouring) s.heap.objs.size (He.ga K "is_colouring") cdv)).units + 65 < cLine := by have := hr.un; omega
    have hu1 : (A.deeper (envOfC "is_colouring" (defScope s_is_colouring) s.heap.objs.size (He.ga K "is_colouring") cdv)).units + 1 < cLine := by omega
    have hu200 : (A.deeper (envOfC "is_colouring" (defScope s_is_colouring) s.heap.objs.size (He.ga K "is_colouring") cdv)).units + 200 < cLine := by have := hr.un; omega
    have tk : L2N.Takes (cxOf (L2N.CX P w) P w K mg base N_is_colouring "is_colouring" (defScope s_is_colouring) (He.ga K "is_colouring") cdv A outer s H E) (fun cls d _ H => E cls d H) := L2N.takes_of rfl rfl rfl rfl
    exact (dss_one (ds_ret (deF (h_colouring_ok.up (by decide)) hr tk (dm_val (de_var 0 (pv 0)) dm_nil))))
theorem ok_is_colouring (T : Tx K mg) : HasF P w K mg base (Gr K) 5 "is_colouring" [("value" : Str)] [] F_is_colouring := by
  obtain ⟨fd, F⟩ := T.d_is_colouring
  exact ⟨_, fd, T.m_is_colouring, F.kp, (F.bindsN fun _ _ _ _ _ _ us hl => match us, hl with | [_], _ => rfl), okf_is_colouring T F⟩
end
/-! turned_rows -/
def fs_turned_rows : Fs := (sSq (sDrp (dCall F_check_rows [] 1 (mVal (dV 0) mNil))) (sRet (dC gTuple (dCons (dLst (dLc (sSeq (dV 0)) (bName 1) [1] tY (dRevS (dV 1)))) dNil))))
def F_turned_rows : Fn := fnOf fs_turned_rows N_turned_rows.length []
theorem sc_turned_rows : FnScope N_turned_rows [("rows" : Str)] (defScope s_turned_rows) := ⟨rfl, rfl, rfl, by decide +kernel, rfl, by decide +kernel, by decide +kernel⟩
abbrev Xc_turned_rows (P : Program) (w : World) (K : PySem.W.Frag) (mg : Str → Option Value) (base : Heap) (cdv : Value) (A : Around) (outer : List Env) (s : Shared) (H : Hp) (E : XK) : Cx := cxOf (L2N.CX P w) P w K mg base N_turned_rows "turned_rows" (defScope s_turned_rows) (He.ga K "turned_rows") cdv A outer s H E
section
variable {P : Program} {w : World} {K : PySem.W.Frag} {mg : Str → Option Value} {base : Heap}
theorem okf_turned_rows (T : Tx K mg) {fd : FuncData} (F : FunD K "turned_rows" "turned_rows" (defArgs s_turned_rows) (defBody s_turned_rows) (defScope s_turned_rows) [] [] (He.ga K "turned_rows") fd) : FnOk P w K mg base (L2N.CX P w) 5 (He.ga K "turned_rows") fd [("rows" : Str)] (spF K (Gr K) F_turned_rows 1 []) := by
  have h_check_rows := ok_check_rows (P := P) (w := w) (base := base) T
  exact fn_ok F sc_turned_rows rfl fun cdv A outer s H E hr => by
    have nd := sc_turned_rows.nd
    have hu64 := hr.units
    have hu65 : (A.deeper (envOfC "turned_rows" (defScope s_turned_rows) s.heap.objs.size (He.ga K "turned_rows") cdv)).units + 65 < cLine := by have := hr.un; omega
    have hu1 : (A.deeper (envOfC "turned_rows" (defScope s_turned_rows) s.heap.objs.size (He.ga K "turned_rows") cdv)).units + 1 < cLine := by omega
    have hu200 : (A.deeper (envOfC "turned_rows" (defScope s_turned_rows) s.heap.objs.size (He.ga K "turned_rows") cdv)).units + 200 < cLine := by have := hr.un; omega
    have tk : L2N.Takes (cxOf (L2N.CX P w) P w K mg base N_turned_rows "turned_rows" (defScope s_turned_rows) (He.ga K "turned_rows") cdv A outer s H E) (fun cls d _ H => E cls d H) := L2N.takes_of rfl rfl rfl rfl
    exact (dss_cons (ds_expr (deF (h_check_rows.up (by decide)) hr tk (dm_val (de_var 0 (pv 0)) dm_nil))) (dss_one (ds_ret (de_callTy call_tuple_of rc_tuple rfl T.b_tuple boot_tuple (da_cons (DN.de (dn_lc (X := Xc_turned_rows P w K mg base cdv A outer s H E) (own := [(("row" : Str), 1)]) rfl nd (di_seq (de_var 0 (pv 0))) (blkOk_by (N := N_turned_rows) (sc := defScope s_turned_rows) (by decide +kernel)) (fun _ _ _ _ _ => by exact (pg_name (i := 1) nd rfl (by first | exact Or.inl rfl | exact Or.inr rfl))) (dg_name 1) (fun _ _ _ _ _ => by exact dts_nil) (fun _ _ _ _ _ => by exact (de_revS (de_var 1 (pv 1)))) (by decide))) da_nil)))))
theorem ok_turned_rows (T : Tx K mg) : HasF P w K mg base (Gr K) 5 "turned_rows" [("rows" : Str)] [] F_turned_rows := by
  obtain ⟨fd, F⟩ := T.d_turned_rows
  exact ⟨_, fd, T.m_turned_rows, F.kp, (F.bindsN fun _ _ _ _ _ _ us hl => match us, hl with | [_], _ => rfl), okf_turned_rows T F⟩
end
/-! _law_churn -/
def fs__law_churn : Fs := (sSq (sAsg (d2 gAdd (dK (.int 5150)) (d2 gMul (dK (.int 41)) (dV 1))) (bName 2)) (sSq (sFor (sSeq (d2 gAdd (dC gListC (dCons (dScrTo 0 8) dNil)) (dLst (dList (dCons (dV 1) dNil))))) (bName 3) (sAsg (d2 gMod (dC gInt (dCons (d2 gAdd (d2 gAdd (d2 gMul (dV 2) (dK (.int 16645))) (d2 gMod (dC gInt (dCons (dV 3) dNil)) (dK (.int 2038074743)))) (dK (.int 977))) dNil)) (dK (.int 2147483629))) (bName 2))) (sSq (sAsg (dIf (dB (d2 gLt (dV 1) (dScrLen 0))) (dC gAbs (dCons (dC gInt (dCons (dScrIx 0 (dV 1)) dNil)) dNil)) (dK (.int 0))) (bName 4)) (sRetF (fDisp ((("mass" : Str), (dV 2)) :: (("figures" : Str), (dIf (dB (d2 gGt (dV 4) (d2 gPow (dK (.int 10)) (dK (.int 17))))) (d2 gMod (dC gInt (dCons (dV 4) dNil)) (d2 gPow (dK (.int 10)) (dK (.int 40)))) (dK (.int 0)))) :: (("dips" : Str), (dK (.int 0))) :: []))))))
def F__law_churn : Fn := fnOf fs__law_churn N__law_churn.length []
theorem sc__law_churn : FnScope N__law_churn [("script" : Str), ("lap" : Str)] (defScope s__law_churn) := ⟨rfl, rfl, rfl, by decide +kernel, rfl, by decide +kernel, by decide +kernel⟩
abbrev Xc__law_churn (P : Program) (w : World) (K : PySem.W.Frag) (mg : Str → Option Value) (base : Heap) (cdv : Value) (A : Around) (outer : List Env) (s : Shared) (H : Hp) (E : XK) : Cx := cxOf (L2N.CX P w) P w K mg base N__law_churn "_law_churn" (defScope s__law_churn) (He.ga K "_law_churn") cdv A outer s H E
section
variable {P : Program} {w : World} {K : PySem.W.Frag} {mg : Str → Option Value} {base : Heap}
theorem okf__law_churn (T : Tx K mg) {fd : FuncData} (F : FunD K "_law_churn" "_law_churn" (defArgs s__law_churn) (defBody s__law_churn) (defScope s__law_churn) [] [] (He.ga K "_law_churn") fd) : FnOk P w K mg base (L2N.CX P w) 1 (He.ga K "_law_churn") fd [("script" : Str), ("lap" : Str)] (spF K (Gr K) F__law_churn 2 []) := by
  exact fn_ok F sc__law_churn rfl fun cdv A outer s H E hr => by
    have nd := sc__law_churn.nd
    have hu64 := hr.units
    have hu65 : (A.deeper (envOfC "_law_churn" (defScope s__law_churn) s.heap.objs.size (He.ga K "_law_churn") cdv)).units + 65 < cLine := by have := hr.un; omega
    have hu1 : (A.deeper (envOfC "_law_churn" (defScope s__law_churn) s.heap.objs.size (He.ga K "_law_churn") cdv)).units + 1 < cLine := by omega
    have hu200 : (A.deeper (envOfC "_law_churn" (defScope s__law_churn) s.heap.objs.size (He.ga K "_law_churn") cdv)).units + 200 < cLine := by have := hr.un; omega
    have tk : L2N.Takes (cxOf (L2N.CX P w) P w K mg base N__law_churn "_law_churn" (defScope s__law_churn) (He.ga K "_law_churn") cdv A outer s H E) (fun cls d _ H => E cls d H) := L2N.takes_of rfl rfl rfl rfl
    exact (dss_cons (ds_asg (de_op op_addD rd_add de_int (de_op op_mulD rd_mul de_int (de_var 1 (pv 1)))) (pg_name (i := 2) nd rfl (by first | exact Or.inl rfl | exact Or.inr rfl)) (dg_name 2) (by decide)) (dss_cons (ds_for (passes_of rfl) rfl (di_seq (de_op op_addD rd_add (de_callTy call_list_of rc_list rfl T.b_list boot_list (da_cons (de_scrTo 0 (pv 0)) da_nil)) (DN.de (dn_lst (da_cons (de_var 1 (pv 1)) da_nil))))) (pg_name (i := 3) nd rfl (by first | exact Or.inl rfl | exact Or.inr rfl)) (dg_name 3) (dss_one (ds_asg (de_op op_mod rd_mod (de_callTy call_int1 rc_int rfl T.b_int boot_int (da_cons (de_op op_addD rd_add (de_op op_addD rd_add (de_op op_mulD rd_mul (de_var 2 (pv 2)) de_int) (de_op op_mod rd_mod (de_callTy call_int1 rc_int rfl T.b_int boot_int (da_cons (de_var 3 (pv 3)) da_nil)) de_int)) de_int) da_nil)) de_int) (pg_name (i := 2) nd rfl (by first | exact Or.inl rfl | exact Or.inr rfl)) (dg_name 2) (by decide))) (by decide)) (dss_cons (ds_asg (de_if (dt_cmp op_lt rd_lt (de_var 1 (pv 1)) (de_scrLen 0 (pv 0) rfl T.b_len) (nomark _)) (de_callB call_abs rc_abs rfl T.b_abs boot_abs (da_cons (de_callTy call_int1 rc_int rfl T.b_int boot_int (da_cons (de_scrIx 0 (pv 0) (de_var 1 (pv 1)) (fun _ _ => rfl)) da_nil)) da_nil)) de_int) (pg_name (i := 4) nd rfl (by first | exact Or.inl rfl | exact Or.inr rfl)) (dg_name 4) (by decide)) (dss_one (ds_retF (df_disp (dps_cons (de_var 2 (pv 2)) (dps_cons (de_if (dt_cmp op_gt rd_gt (de_var 4 (pv 4)) (de_op op_pow rd_pow de_int de_int) (nomark _)) (de_op op_mod rd_mod (de_callTy call_int1 rc_int rfl T.b_int boot_int (da_cons (de_var 4 (pv 4)) da_nil)) (de_op op_pow rd_pow de_int de_int)) de_int) (dps_cons de_int dps_nil))) rfl rfl (by simp) (by decide)))))))
theorem ok__law_churn (T : Tx K mg) : HasF P w K mg base (Gr K) 1 "_law_churn" [("script" : Str), ("lap" : Str)] [] F__law_churn := by
  obtain ⟨fd, F⟩ := T.d__law_churn
  exact ⟨_, fd, T.m__law_churn, F.kp, (F.bindsN fun _ _ _ _ _ _ us hl => match us, hl with | [_, _], _ => rfl), okf__law_churn T F⟩
end
/-! _law_dip -/
def fs__law_dip : Fs := (sSq (sIf (dB (d2 gGt (dSlot 0 (dGet 0 (dK (.str ("figures" : Str))))) (dK (.int 0)))) (sSq (sAsg (d2 gMod (dC gInt (dCons (dSlot 0 (dGet 0 (dK (.str ("figures" : Str))))) dNil)) (dV 1)) (bName 2)) (sSq (sPut 0 (dK (.str ("figures" : Str))) (d2 gFdiv (dSlot 0 (dGet 0 (dK (.str ("figures" : Str))))) (dV 1))) (sRet (dV 2)))) sNx) (sSq (sPut 0 (dK (.str ("dips" : Str))) (d2 gAdd (dSlot 0 (dGet 0 (dK (.str ("dips" : Str))))) (dK (.int 1)))) (sSq (sPut 0 (dK (.str ("mass" : Str))) (d2 gMod (dC gInt (dCons (d2 gAdd (d2 gMul (dSlot 0 (dGet 0 (dK (.str ("mass" : Str))))) (dK (.int 39373))) (d2 gMul (dK (.int 7)) (dSlot 0 (dGet 0 (dK (.str ("dips" : Str))))))) dNil)) (dK (.int 2147483629)))) (sRet (d2 gMod (dC gInt (dCons (d2 gFdiv (dSlot 0 (dGet 0 (dK (.str ("mass" : Str))))) (dK (.int 31))) dNil)) (dV 1))))))
def F__law_dip : Fn := fnOf fs__law_dip N__law_dip.length [0]
theorem sc__law_dip : FnScope N__law_dip [("churn" : Str), ("many" : Str)] (defScope s__law_dip) := ⟨rfl, rfl, rfl, by decide +kernel, rfl, by decide +kernel, by decide +kernel⟩
abbrev Xc__law_dip (P : Program) (w : World) (K : PySem.W.Frag) (mg : Str → Option Value) (base : Heap) (cdv : Value) (A : Around) (outer : List Env) (s : Shared) (H : Hp) (E : XK) : Cx := cxOf (L2N.CX P w) P w K mg base N__law_dip "_law_dip" (defScope s__law_dip) (He.ga K "_law_dip") cdv A outer s H E
section
variable {P : Program} {w : World} {K : PySem.W.Frag} {mg : Str → Option Value} {base : Heap}
theorem okf__law_dip (T : Tx K mg) {fd : FuncData} (F : FunD K "_law_dip" "_law_dip" (defArgs s__law_dip) (defBody s__law_dip) (defScope s__law_dip) [] [] (He.ga K "_law_dip") fd) : FnOk P w K mg base (L2N.CX P w) 1 (He.ga K "_law_dip") fd [("churn" : Str), ("many" : Str)] (spF K (Gr K) F__law_dip 2 [0]) := by
  exact fn_ok F sc__law_dip rfl fun cdv A outer s H E hr => by
    have nd := sc__law_dip.nd
    have hu64 := hr.units
    have hu65 : (A.deeper (envOfC "_law_dip" (defScope s__law_dip) s.heap.objs.size (He.ga K "_law_dip") cdv)).units + 65 < cLine := by have := hr.un; omega
    have hu1 : (A.deeper (envOfC "_law_dip" (defScope s__law_dip) s.heap.objs.size (He.ga K "_law_dip") cdv)).units + 1 < cLine := by omega
    have hu200 : (A.deeper (envOfC "_law_dip" (defScope s__law_dip) s.heap.objs.size (He.ga K "_law_dip") cdv)).units + 200 < cLine := by have := hr.un; omega
    have tk : L2N.Takes (cxOf (L2N.CX P w) P w K mg base N__law_dip "_law_dip" (defScope s__law_dip) (He.ga K "_law_dip") cdv A outer s H E) (fun cls d _ H => E cls d H) := L2N.takes_of rfl rfl rfl rfl
    exact (dss_cons (ds_if (dt_cmp op_gt rd_gt (de_dget 0 hu1 (pv 0) de_str (fun _ _ => rfl)) de_int (nomark _)) (dss_cons (ds_asg (de_op op_mod rd_mod (de_callTy call_int1 rc_int rfl T.b_int boot_int (da_cons (de_dget 0 hu1 (pv 0) de_str (fun _ _ => rfl)) da_nil)) (de_var 1 (pv 1))) (pg_name (i := 2) nd rfl (by first | exact Or.inl rfl | exact Or.inr rfl)) (dg_name 2) (by decide)) (dss_cons (ds_put 0 hu1 (pv 0) de_str (de_op op_fdiv rd_fdiv (de_dget 0 hu1 (pv 0) de_str (fun _ _ => rfl)) (de_var 1 (pv 1)))) (dss_one (ds_ret (de_var 2 (pv 2)))))) dss_nil) (dss_cons (ds_put 0 hu1 (pv 0) de_str (de_op op_addD rd_add (de_dget 0 hu1 (pv 0) de_str (fun _ _ => rfl)) de_int)) (dss_cons (ds_put 0 hu1 (pv 0) de_str (de_op op_mod rd_mod (de_callTy call_int1 rc_int rfl T.b_int boot_int (da_cons (de_op op_addD rd_add (de_op op_mulD rd_mul (de_dget 0 hu1 (pv 0) de_str (fun _ _ => rfl)) de_int) (de_op op_mulD rd_mul de_int (de_dget 0 hu1 (pv 0) de_str (fun _ _ => rfl)))) da_nil)) de_int)) (dss_one (ds_ret (de_op op_mod rd_mod (de_callTy call_int1 rc_int rfl T.b_int boot_int (da_cons (de_op op_fdiv rd_fdiv (de_dget 0 hu1 (pv 0) de_str (fun _ _ => rfl)) de_int) da_nil)) (de_var 1 (pv 1))))))))
theorem ok__law_dip (T : Tx K mg) : HasF P w K mg base (Gr K) 1 "_law_dip" [("churn" : Str), ("many" : Str)] [0] F__law_dip := by
  obtain ⟨fd, F⟩ := T.d__law_dip
  exact ⟨_, fd, T.m__law_dip, F.kp, (F.bindsN fun _ _ _ _ _ _ us hl => match us, hl with | [_, _], _ => rfl), okf__law_dip T F⟩
end
/-! _law_any -/
def fs__law_any : Fs := (sRet (d2 gIx (dV 1) (dCall F__law_dip [0] 2 (mSlot 0 (mVal (dC gLen (dCons (dV 1) dNil)) mNil)))))
def F__law_any : Fn := fnOf fs__law_any N__law_any.length [0]
theorem sc__law_any : FnScope N__law_any [("churn" : Str), ("things" : Str)] (defScope s__law_any) := ⟨rfl, rfl, rfl, by decide +kernel, rfl, by decide +kernel, by decide +kernel⟩
abbrev Xc__law_any (P : Program) (w : World) (K : PySem.W.Frag) (mg : Str → Option Value) (base : Heap) (cdv : Value) (A : Around) (outer : List Env) (s : Shared) (H : Hp) (E : XK) : Cx := cxOf (L2N.CX P w) P w K mg base N__law_any "_law_any" (defScope s__law_any) (He.ga K "_law_any") cdv A outer s H E
section
variable {P : Program} {w : World} {K : PySem.W.Frag} {mg : Str → Option Value} {base : Heap}
theorem okf__law_any (T : Tx K mg) {fd : FuncData} (F : FunD K "_law_any" "_law_any" (defArgs s__law_any) (defBody s__law_any) (defScope s__law_any) [] [] (He.ga K "_law_any") fd) : FnOk P w K mg base (L2N.CX P w) 2 (He.ga K "_law_any") fd [("churn" : Str), ("things" : Str)] (spF K (Gr K) F__law_any 2 [0]) := by
  have h__law_dip := ok__law_dip (P := P) (w := w) (base := base) T
  exact fn_ok F sc__law_any rfl fun cdv A outer s H E hr => by
    have nd := sc__law_any.nd
    have hu64 := hr.units
    have hu65 : (A.deeper (envOfC "_law_any" (defScope s__law_any) s.heap.objs.size (He.ga K "_law_any") cdv)).units + 65 < cLine := by have := hr.un; omega
    have hu1 : (A.deeper (envOfC "_law_any" (defScope s__law_any) s.heap.objs.size (He.ga K "_law_any") cdv)).units + 1 < cLine := by omega
    have hu200 : (A.deeper (envOfC "_law_any" (defScope s__law_any) s.heap.objs.size (He.ga K "_law_any") cdv)).units + 200 < cLine := by have := hr.un; omega
    have tk : L2N.Takes (cxOf (L2N.CX P w) P w K mg base N__law_any "_law_any" (defScope s__law_any) (He.ga K "_law_any") cdv A outer s H E) (fun cls d _ H => E cls d H) := L2N.takes_of rfl rfl rfl rfl
    exact (dss_one (ds_ret (de_ix (de_var 1 (pv 1)) (deF (h__law_dip.up (by decide)) hr tk (dm_slot 0 (pv 0) (dm_val (de_callB call_len rc_len rfl T.b_len boot_len (da_cons (de_var 1 (pv 1)) da_nil)) dm_nil))) (fun _ _ => rfl))))
theorem ok__law_any (T : Tx K mg) : HasF P w K mg base (Gr K) 2 "_law_any" [("churn" : Str), ("things" : Str)] [0] F__law_any := by
  obtain ⟨fd, F⟩ := T.d__law_any
  exact ⟨_, fd, T.m__law_any, F.kp, (F.bindsN fun _ _ _ _ _ _ us hl => match us, hl with | [_, _], _ => rfl), okf__law_any T F⟩
end
/-! _law_match -/
def fs__law_match (Fm : Fn) : Fs := (sSq (sIf (dOrB (dB (dIsN (dV 1))) (dB (dIsN (dV 0)))) (sRet (dAnd (dIsN (dV 0)) (dIsN (dV 1)))) sNx) (sSq (sIf (dOrB (dB (dIsi "tuple" (dV 1))) (dB (dIsi "list" (dV 1)))) (sSq (sIf (dOrB (dB (d2 gNe (dIsi "tuple" (dV 0)) (dIsi "tuple" (dV 1)))) (dB (d2 gNe (dIsi "list" (dV 0)) (dIsi "list" (dV 1))))) (sRet (dK (.bool false))) sNx) (sRet (dAnd (d2 gEq (dC gLen (dCons (dV 0) dNil)) (dC gLen (dCons (dV 1) dNil))) (dC gAll (dCons (dLst (dLc (sZip (dCons (dV 0) (dCons (dV 1) dNil))) (bTup 2 (bCons (bName 2) (bCons (bName 3) bNil))) [2, 3] tY (dCall Fm [] 2 (mVal (dV 2) (mVal (dV 3) mNil))))) dNil))))) sNx) (sSq (sIf (dOrB (dB (d2 gNe (dIsi "bool" (dV 0)) (dIsi "bool" (dV 1)))) (dB (d2 gNe (dIsi "str" (dV 0)) (dIsi "str" (dV 1))))) (sRet (dK (.bool false))) sNx) (sRet (dAnd (d2 gEq (dIsi "int" (dV 0)) (dIsi "int" (dV 1))) (d2 gEq (dV 0) (dV 1)))))))
def F__law_match : Nat → Fn
  | 0 => fun _ => .stuck
  | n + 1 => fnOf (fs__law_match (F__law_match n)) N__law_match.length []
theorem sc__law_match : FnScope N__law_match [("told" : Str), ("due" : Str)] (defScope s__law_match) := ⟨rfl, rfl, rfl, by decide +kernel, rfl, by decide +kernel, by decide +kernel⟩
abbrev Xc__law_match (P : Program) (w : World) (K : PySem.W.Frag) (mg : Str → Option Value) (base : Heap) (cdv : Value) (A : Around) (outer : List Env) (s : Shared) (H : Hp) (E : XK) : Cx := cxOf (L2N.CX P w) P w K mg base N__law_match "_law_match" (defScope s__law_match) (He.ga K "_law_match") cdv A outer s H E
section
variable {P : Program} {w : World} {K : PySem.W.Frag} {mg : Str → Option Value} {base : Heap}
theorem ok__law_matchN (T : Tx K mg) : ∀ n, HasF P w K mg base (Gr K) (0 + n) "_law_match" [("told" : Str), ("due" : Str)] [] (F__law_match n)
  | 0 => by
    obtain ⟨fd, F⟩ := T.d__law_match
    exact ⟨_, fd, T.m__law_match, F.kp, (F.bindsN fun _ _ _ _ _ _ us hl => match us, hl with | [_, _], _ => rfl), ⟨fun vs H Q E h => by obtain ⟨_, _, _, _, _, _, h⟩ := h; exact h.elim, fun A outer s H args us vs Q E _ _ _ _ h => by obtain ⟨_, _, _, _, _, _, h⟩ := h; exact h.elim⟩⟩
  | n + 1 => by
    have h__law_match := ok__law_matchN T n
    obtain ⟨fd, F⟩ := T.d__law_match
    refine ⟨_, fd, T.m__law_match, F.kp, (F.bindsN fun _ _ _ _ _ _ us hl => match us, hl with | [_, _], _ => rfl), fn_ok F sc__law_match rfl fun cdv A outer s H E hr => by
      have nd := sc__law_match.nd
      have hu64 := hr.units
      have hu65 : (A.deeper (envOfC "_law_match" (defScope s__law_match) s.heap.objs.size (He.ga K "_law_match") cdv)).units + 65 < cLine := by have := hr.un; omega
      have hu1 : (A.deeper (envOfC "_law_match" (defScope s__law_match) s.heap.objs.size (He.ga K "_law_match") cdv)).units + 1 < cLine := by omega
      have hu200 : (A.deeper (envOfC "_law_match" (defScope s__law_match) s.heap.objs.size (He.ga K "_law_match") cdv)).units + 200 < cLine := by have := hr.un; omega
      have tk : L2N.Takes (cxOf (L2N.CX P w) P w K mg base N__law_match "_law_match" (defScope s__law_match) (He.ga K "_law_match") cdv A outer s H E) (fun cls d _ H => E cls d H) := L2N.takes_of rfl rfl rfl rfl
      exact (dss_cons (ds_if (DW.pt (dw_or (dt_isN (de_var 1 (pv 1))) (dw_or1 (dt_isN (de_var 0 (pv 0)))))) (dss_one (ds_ret (de_and (de_isN (de_var 0 (pv 0))) (de_one (de_isN (de_var 1 (pv 1))))))) dss_nil) (dss_cons (ds_if (DW.pt (dw_or (dt_val (de_isi "tuple" (de_var 1 (pv 1)) rfl T.b_isinstance rfl T.b_tuple boot_tuple)) (dw_or1 (dt_val (de_isi "list" (de_var 1 (pv 1)) rfl T.b_isinstance rfl T.b_list boot_list))))) (dss_cons (ds_if (DW.pt (dw_or (dt_cmp (op_neD hu64) rd_ne (de_isi "tuple" (de_var 0 (pv 0)) rfl T.b_isinstance rfl T.b_tuple boot_tuple) (de_isi "tuple" (de_var 1 (pv 1)) rfl T.b_isinstance rfl T.b_tuple boot_tuple) (nomark _)) (dw_or1 (dt_cmp (op_neD hu64) rd_ne (de_isi "list" (de_var 0 (pv 0)) rfl T.b_isinstance rfl T.b_list boot_list) (de_isi "list" (de_var 1 (pv 1)) rfl T.b_isinstance rfl T.b_list boot_list) (nomark _))))) (dss_one (ds_ret de_bl)) dss_nil) (dss_one (ds_ret (de_and (de_cmp (op_eqD hu64) rd_eq (de_callB call_len rc_len rfl T.b_len boot_len (da_cons (de_var 0 (pv 0)) da_nil)) (de_callB call_len rc_len rfl T.b_len boot_len (da_cons (de_var 1 (pv 1)) da_nil)) (nomark _)) (de_one (de_callB (cr_all rfl) rc_all rfl T.b_all boot_all (da_cons (DN.de (dn_lc (X := Xc__law_match P w K mg base cdv A outer s H E) (own := [(("one" : Str), 2), (("two" : Str), 3)]) rfl nd (di_zip rfl T.b_zip (da_cons (de_var 0 (pv 0)) (da_cons (de_var 1 (pv 1)) da_nil))) (blkOk_by (N := N__law_match) (sc := defScope s__law_match) (by decide +kernel)) (fun _ _ _ _ _ => by exact (pg_tup rfl (pgs_cons (pg_name (i := 2) nd rfl (by first | exact Or.inl rfl | exact Or.inr rfl)) (pgs_cons (pg_name (i := 3) nd rfl (by first | exact Or.inl rfl | exact Or.inr rfl)) pgs_nil)))) (dg_tup (dgs_cons (dg_name 2) (dgs_cons (dg_name 3) dgs_nil))) (fun _ _ _ _ _ => by exact dts_nil) (fun _ _ _ _ _ => by exact (deF h__law_match hr takesN0 (dm_val (de_var 2 (pv 2)) (dm_val (de_var 3 (pv 3)) dm_nil)))) (by decide))) da_nil))))))) dss_nil) (dss_cons (ds_if (DW.pt (dw_or (dt_cmp (op_neD hu64) rd_ne (de_isi "bool" (de_var 0 (pv 0)) rfl T.b_isinstance rfl T.b_bool boot_bool) (de_isi "bool" (de_var 1 (pv 1)) rfl T.b_isinstance rfl T.b_bool boot_bool) (nomark _)) (dw_or1 (dt_cmp (op_neD hu64) rd_ne (de_isi "str" (de_var 0 (pv 0)) rfl T.b_isinstance rfl T.b_str boot_str) (de_isi "str" (de_var 1 (pv 1)) rfl T.b_isinstance rfl T.b_str boot_str) (nomark _))))) (dss_one (ds_ret de_bl)) dss_nil) (dss_one (ds_ret (de_and (de_cmp (op_eqD hu64) rd_eq (de_isi "int" (de_var 0 (pv 0)) rfl T.b_isinstance rfl T.b_int boot_int) (de_isi "int" (de_var 1 (pv 1)) rfl T.b_isinstance rfl T.b_int boot_int) (nomark _)) (de_one (de_cmp (op_eqD hu64) rd_eq (de_var 0 (pv 0)) (de_var 1 (pv 1)) (nomark _)))))))))⟩
theorem ok__law_match (T : Tx K mg) : HasF P w K mg base (Gr K) 6 "_law_match" [("told" : Str), ("due" : Str)] [] (F__law_match 6) := ok__law_matchN T 6
end
/-! _law_colours -/
def fs__law_colours : Fs := (sSq (sAsg (d2 gAdd (dK (.int 1)) (dCall F__law_dip [0] 2 (mSlot 0 (mVal (dV 2) mNil)))) (bName 4)) (sSq (sAsgF (fLst (dList dNil)) 5) (sSq (sFor (sRng1 (dCons (d2 gAdd (dK (.int 1)) (dCall F__law_dip [0] 2 (mSlot 0 (mVal (dV 3) mNil)))) dNil)) (bName 6) (sSq (sAsg (dCall F__law_dip [0] 2 (mSlot 0 (mVal (dK (.int 4)) mNil))) (bName 7)) (sSq (sAsg (dJoin (dK (.str ("" : Str))) (dLst (dLc (sRng1 (dCons (dV 4) dNil)) (bName 9) [9] tY (dCall F__law_any [0] 2 (mSlot 0 (mVal (dV 1) mNil)))))) (bName 8)) (sSq (sIf (dAndB (dB (d2 gEq (dV 7) (dK (.int 0)))) (bSee (dB (d2 gNe (dV 5) (dLst (dList dNil)))))) (sAsg (dSee (d2 gIx (dV 5) (dNeg (dK (.int 1))))) (bName 8)) (sIf (dB (d2 gEq (dV 7) (dK (.int 1)))) (sAsg (dJoin (dK (.str ("" : Str))) (dLst (dLc (sRng1 (dCons (dV 4) dNil)) (bName 9) [9] tY (d2 gIx (dV 8) (d2 gFdiv (dV 9) (dK (.int 2))))))) (bName 8)) sNx)) (sApp 5 (dV 8)))))) (fun env => (sRet (dC gTuple (dCons (dV 5) dNil))) (frz 5 env)))))
def F__law_colours : Fn := fnOf fs__law_colours N__law_colours.length [0]
theorem sc__law_colours : FnScope N__law_colours [("churn" : Str), ("yarns" : Str), ("most" : Str), ("high" : Str)] (defScope s__law_colours) := ⟨rfl, rfl, rfl, by decide +kernel, rfl, by decide +kernel, by decide +kernel⟩
abbrev Xc__law_colours (P : Program) (w : World) (K : PySem.W.Frag) (mg : Str → Option Value) (base : Heap) (cdv : Value) (A : Around) (outer : List Env) (s : Shared) (H : Hp) (E : XK) : Cx := cxOf (L2N.CX P w) P w K mg base N__law_colours "_law_colours" (defScope s__law_colours) (He.ga K "_law_colours") cdv A outer s H E
section
variable {P : Program} {w : World} {K : PySem.W.Frag} {mg : Str → Option Value} {base : Heap}
theorem okf__law_colours (T : Tx K mg) {fd : FuncData} (F : FunD K "_law_colours" "_law_colours" (defArgs s__law_colours) (defBody s__law_colours) (defScope s__law_colours) [] [] (He.ga K "_law_colours") fd) : FnOk P w K mg base (L2N.CX P w) 3 (He.ga K "_law_colours") fd [("churn" : Str), ("yarns" : Str), ("most" : Str), ("high" : Str)] (spF K (Gr K) F__law_colours 4 [0]) := by
  have h__law_any := ok__law_any (P := P) (w := w) (base := base) T
  have h__law_dip := ok__law_dip (P := P) (w := w) (base := base) T
  exact fn_ok F sc__law_colours rfl fun cdv A outer s H E hr => by
    have nd := sc__law_colours.nd
    have hu64 := hr.units
    have hu65 : (A.deeper (envOfC "_law_colours" (defScope s__law_colours) s.heap.objs.size (He.ga K "_law_colours") cdv)).units + 65 < cLine := by have := hr.un; omega
    have hu1 : (A.deeper (envOfC "_law_colours" (defScope s__law_colours) s.heap.objs.size (He.ga K "_law_colours") cdv)).units + 1 < cLine := by omega
    have hu200 : (A.deeper (envOfC "_law_colours" (defScope s__law_colours) s.heap.objs.size (He.ga K "_law_colours") cdv)).units + 200 < cLine := by have := hr.un; omega
    have tk : L2N.Takes (cxOf (L2N.CX P w) P w K mg base N__law_colours "_law_colours" (defScope s__law_colours) (He.ga K "_law_colours") cdv A outer s H E) (fun cls d _ H => E cls d H) := L2N.takes_of rfl rfl rfl rfl
    exact (dss_cons (ds_asg (de_op op_addD rd_add de_int (deF (h__law_dip.up (by decide)) hr tk (dm_slot 0 (pv 0) (dm_val (de_var 2 (pv 2)) dm_nil)))) (pg_name (i := 4) nd rfl (by first | exact Or.inl rfl | exact Or.inr rfl)) (dg_name 4) (by decide)) (dss_cons (ds_asgF (DN.df (dn_lst da_nil)) (pg_name (i := 5) nd rfl (by first | exact Or.inl rfl | exact Or.inr rfl)) (by decide)) (dss_cons (ds_for (passes_of rfl) rfl (di_range1 rfl T.b_range (da_cons (de_op op_addD rd_add de_int (deF (h__law_dip.up (by decide)) hr tk (dm_slot 0 (pv 0) (dm_val (de_var 3 (pv 3)) dm_nil)))) da_nil)) (pg_name (i := 6) nd rfl (by first | exact Or.inl rfl | exact Or.inr rfl)) (dg_name 6) (dss_cons (ds_asg (deF (h__law_dip.up (by decide)) hr tk (dm_slot 0 (pv 0) (dm_val de_int dm_nil))) (pg_name (i := 7) nd rfl (by first | exact Or.inl rfl | exact Or.inr rfl)) (dg_name 7) (by decide)) (dss_cons (ds_asg (de_join de_str (DN.de (dn_lc (X := Xc__law_colours P w K mg base cdv A outer s H E) (own := [(("place" : Str), 9)]) rfl nd (di_range1 rfl T.b_range (da_cons (de_var 4 (pv 4)) da_nil)) (blkOk_by (N := N__law_colours) (sc := defScope s__law_colours) (by decide +kernel)) (fun _ _ _ _ _ => by exact (pg_name (i := 9) nd rfl (by first | exact Or.inl rfl | exact Or.inr rfl))) (dg_name 9) (fun _ _ _ _ _ => by exact dts_nil) (fun _ _ _ _ _ => by exact (deF (h__law_any.up (by decide)) hr takesN0 (dm_slot 0 (pv 0) (dm_val (de_var 1 (pv 1)) dm_nil)))) (by decide)))) (pg_name (i := 8) nd rfl (by first | exact Or.inl rfl | exact Or.inr rfl)) (dg_name 8) (by decide)) (dss_cons (ds_if (DW.pt (dw_and (dt_cmp (op_eqD hu64) rd_eq (de_var 7 (pv 7)) de_int (nomark _)) (dw_and1 (dt_see (dt_cmp (op_neD hu64) rd_ne (de_var 5 (pv 5)) (DN.de (dn_lst da_nil)) (nomark _)))))) (dss_one (ds_asg (de_see (de_ix (de_var 5 (pv 5)) (de_neg de_int) (fun _ _ => rfl))) (pg_name (i := 8) nd rfl (by first | exact Or.inl rfl | exact Or.inr rfl)) (dg_name 8) (by decide))) (dss_one (ds_if (dt_cmp (op_eqD hu64) rd_eq (de_var 7 (pv 7)) de_int (nomark _)) (dss_one (ds_asg (de_join de_str (DN.de (dn_lc (X := Xc__law_colours P w K mg base cdv A outer s H E) (own := [(("place" : Str), 9)]) rfl nd (di_range1 rfl T.b_range (da_cons (de_var 4 (pv 4)) da_nil)) (blkOk_by (N := N__law_colours) (sc := defScope s__law_colours) (by decide +kernel)) (fun _ _ _ _ _ => by exact (pg_name (i := 9) nd rfl (by first | exact Or.inl rfl | exact Or.inr rfl))) (dg_name 9) (fun _ _ _ _ _ => by exact dts_nil) (fun _ _ _ _ _ => by exact (de_ix (de_var 8 (pv 8)) (de_op op_fdiv rd_fdiv (de_var 9 (pv 9)) de_int) (fun _ _ => rfl))) (by decide)))) (pg_name (i := 8) nd rfl (by first | exact Or.inl rfl | exact Or.inr rfl)) (dg_name 8) (by decide))) dss_nil))) (dss_one (ds_app 5 (pv 5) (de_var 8 (pv 8))))))) (by decide)) (dss_frz 5 (dss_one (ds_ret (de_callTy call_tuple_of rc_tuple rfl T.b_tuple boot_tuple (da_cons (de_var 5 (pv 5)) da_nil)))) (by decide)))))
theorem ok__law_colours (T : Tx K mg) : HasF P w K mg base (Gr K) 3 "_law_colours" [("churn" : Str), ("yarns" : Str), ("most" : Str), ("high" : Str)] [0] F__law_colours := by
  obtain ⟨fd, F⟩ := T.d__law_colours
  exact ⟨_, fd, T.m__law_colours, F.kp, (F.bindsN fun _ _ _ _ _ _ us hl => match us, hl with | [_, _, _, _], _ => rfl), okf__law_colours T F⟩
end
/-! _law_shift -/
def fs__law_shift : Fs := (sSq (sAsg (dTup (dCons (dC gLen (dCons (dV 0) dNil)) (dCons (dC gLen (dCons (d2 gIx (dV 0) (dK (.int 0))) dNil)) dNil))) (bTup 2 (bCons (bName 3) (bCons (bName 4) bNil)))) (sSq (sAsgF (fLst (dList dNil)) 5) (sSq (sFor (sRng1 (dCons (dV 3) dNil)) (bName 6) (sSq (sAsg (d2 gIx (dV 0) (d2 gMod (dC gInt (dCons (d2 gAdd (dV 6) (dV 2)) dNil)) (dV 3))) (bName 7)) (sApp 5 (dJoin (dK (.str ("" : Str))) (dLst (dLc (sRng1 (dCons (dV 4) dNil)) (bName 8) [8] tY (d2 gIx (dV 7) (d2 gMod (dC gInt (dCons (d2 gAdd (dV 8) (dV 1)) dNil)) (dV 4))))))))) (fun env => (sRet (dC gTuple (dCons (dV 5) dNil))) (frz 5 env)))))
def F__law_shift : Fn := fnOf fs__law_shift N__law_shift.length []
theorem sc__law_shift : FnScope N__law_shift [("rows" : Str), ("aside" : Str), ("down" : Str)] (defScope s__law_shift) := ⟨rfl, rfl, rfl, by decide +kernel, rfl, by decide +kernel, by decide +kernel⟩
abbrev Xc__law_shift (P : Program) (w : World) (K : PySem.W.Frag) (mg : Str → Option Value) (base : Heap) (cdv : Value) (A : Around) (outer : List Env) (s : Shared) (H : Hp) (E : XK) : Cx := cxOf (L2N.CX P w) P w K mg base N__law_shift "_law_shift" (defScope s__law_shift) (He.ga K "_law_shift") cdv A outer s H E
section
variable {P : Program} {w : World} {K : PySem.W.Frag} {mg : Str → Option Value} {base : Heap}
theorem okf__law_shift (T : Tx K mg) {fd : FuncData} (F : FunD K "_law_shift" "_law_shift" (defArgs s__law_shift) (defBody s__law_shift) (defScope s__law_shift) [] [] (He.ga K "_law_shift") fd) : FnOk P w K mg base (L2N.CX P w) 1 (He.ga K "_law_shift") fd [("rows" : Str), ("aside" : Str), ("down" : Str)] (spF K (Gr K) F__law_shift 3 []) := by
  exact fn_ok F sc__law_shift rfl fun cdv A outer s H E hr => by
    have nd := sc__law_shift.nd
    have hu64 := hr.units
    have hu65 : (A.deeper (envOfC "_law_shift" (defScope s__law_shift) s.heap.objs.size (He.ga K "_law_shift") cdv)).units + 65 < cLine := by have := hr.un; omega
    have hu1 : (A.deeper (envOfC "_law_shift" (defScope s__law_shift) s.heap.objs.size (He.ga K "_law_shift") cdv)).units + 1 < cLine := by omega
    have hu200 : (A.deeper (envOfC "_law_shift" (defScope s__law_shift) s.heap.objs.size (He.ga K "_law_shift") cdv)).units + 200 < cLine := by have := hr.un; omega
    have tk : L2N.Takes (cxOf (L2N.CX P w) P w K mg base N__law_shift "_law_shift" (defScope s__law_shift) (He.ga K "_law_shift") cdv A outer s H E) (fun cls d _ H => E cls d H) := L2N.takes_of rfl rfl rfl rfl
    exact (dss_cons (ds_asg (de_tup (da_cons (de_callB call_len rc_len rfl T.b_len boot_len (da_cons (de_var 0 (pv 0)) da_nil)) (da_cons (de_callB call_len rc_len rfl T.b_len boot_len (da_cons (de_ix (de_var 0 (pv 0)) de_int (fun _ _ => rfl)) da_nil)) da_nil))) (pg_tup rfl (pgs_cons (pg_name (i := 3) nd rfl (by first | exact Or.inl rfl | exact Or.inr rfl)) (pgs_cons (pg_name (i := 4) nd rfl (by first | exact Or.inl rfl | exact Or.inr rfl)) pgs_nil))) (dg_tup (dgs_cons (dg_name 3) (dgs_cons (dg_name 4) dgs_nil))) (by decide)) (dss_cons (ds_asgF (DN.df (dn_lst da_nil)) (pg_name (i := 5) nd rfl (by first | exact Or.inl rfl | exact Or.inr rfl)) (by decide)) (dss_cons (ds_for (passes_of rfl) rfl (di_range1 rfl T.b_range (da_cons (de_var 3 (pv 3)) da_nil)) (pg_name (i := 6) nd rfl (by first | exact Or.inl rfl | exact Or.inr rfl)) (dg_name 6) (dss_cons (ds_asg (de_ix (de_var 0 (pv 0)) (de_op op_mod rd_mod (de_callTy call_int1 rc_int rfl T.b_int boot_int (da_cons (de_op op_addD rd_add (de_var 6 (pv 6)) (de_var 2 (pv 2))) da_nil)) (de_var 3 (pv 3))) (fun _ _ => rfl)) (pg_name (i := 7) nd rfl (by first | exact Or.inl rfl | exact Or.inr rfl)) (dg_name 7) (by decide)) (dss_one (ds_app 5 (pv 5) (de_join de_str (DN.de (dn_lc (X := Xc__law_shift P w K mg base cdv A outer s H E) (own := [(("at" : Str), 8)]) rfl nd (di_range1 rfl T.b_range (da_cons (de_var 4 (pv 4)) da_nil)) (blkOk_by (N := N__law_shift) (sc := defScope s__law_shift) (by decide +kernel)) (fun _ _ _ _ _ => by exact (pg_name (i := 8) nd rfl (by first | exact Or.inl rfl | exact Or.inr rfl))) (dg_name 8) (fun _ _ _ _ _ => by exact dts_nil) (fun _ _ _ _ _ => by exact (de_ix (de_var 7 (pv 7)) (de_op op_mod rd_mod (de_callTy call_int1 rc_int rfl T.b_int boot_int (da_cons (de_op op_addD rd_add (de_var 8 (pv 8)) (de_var 1 (pv 1))) da_nil)) (de_var 4 (pv 4))) (fun _ _ => rfl))) (by decide))))))) (by decide)) (dss_frz 5 (dss_one (ds_ret (de_callTy call_tuple_of rc_tuple rfl T.b_tuple boot_tuple (da_cons (de_var 5 (pv 5)) da_nil)))) (by decide)))))
theorem ok__law_shift (T : Tx K mg) : HasF P w K mg base (Gr K) 1 "_law_shift" [("rows" : Str), ("aside" : Str), ("down" : Str)] [] F__law_shift := by
  obtain ⟨fd, F⟩ := T.d__law_shift
  exact ⟨_, fd, T.m__law_shift, F.kp, (F.bindsN fun _ _ _ _ _ _ us hl => match us, hl with | [_, _, _], _ => rfl), okf__law_shift T F⟩
end
/-! _law_all_shifts -/
def fs__law_all_shifts : Fs := (sSq (sAsg (dLst (dList dNil)) (bName 1)) (sSq (sFor (sRng1 (dCons (dC gLen (dCons (d2 gIx (dV 0) (dK (.int 0))) dNil)) dNil)) (bName 2) (sAsg (d2 gAdd (dV 1) (dLst (dLc (sRng1 (dCons (dC gLen (dCons (dV 0) dNil)) dNil)) (bName 3) [3] tY (dCall F__law_shift [] 3 (mVal (dV 0) (mVal (dV 2) (mVal (dV 3) mNil))))))) (bName 1))) (sRet (dV 1))))
def F__law_all_shifts : Fn := fnOf fs__law_all_shifts N__law_all_shifts.length []
theorem sc__law_all_shifts : FnScope N__law_all_shifts [("rows" : Str)] (defScope s__law_all_shifts) := ⟨rfl, rfl, rfl, by decide +kernel, rfl, by decide +kernel, by decide +kernel⟩
abbrev Xc__law_all_shifts (P : Program) (w : World) (K : PySem.W.Frag) (mg : Str → Option Value) (base : Heap) (cdv : Value) (A : Around) (outer : List Env) (s : Shared) (H : Hp) (E : XK) : Cx := cxOf (L2N.CX P w) P w K mg base N__law_all_shifts "_law_all_shifts" (defScope s__law_all_shifts) (He.ga K "_law_all_shifts") cdv A outer s H E
section
variable {P : Program} {w : World} {K : PySem.W.Frag} {mg : Str → Option Value} {base : Heap}
theorem okf__law_all_shifts (T : Tx K mg) {fd : FuncData} (F : FunD K "_law_all_shifts" "_law_all_shifts" (defArgs s__law_all_shifts) (defBody s__law_all_shifts) (defScope s__law_all_shifts) [] [] (He.ga K "_law_all_shifts") fd) : FnOk P w K mg base (L2N.CX P w) 2 (He.ga K "_law_all_shifts") fd [("rows" : Str)] (spF K (Gr K) F__law_all_shifts 1 []) := by
  have h__law_shift := ok__law_shift (P := P) (w := w) (base := base) T
  exact fn_ok F sc__law_all_shifts rfl fun cdv A outer s H E hr => by
    have nd := sc__law_all_shifts.nd
    have hu64 := hr.units
    have hu65 : (A.deeper (envOfC "_law_all_shifts" (defScope s__law_all_shifts) s.heap.objs.size (He.ga K "_law_all_shifts") cdv)).units + 65 < cLine := by have := hr.un; omega
    have hu1 : (A.deeper (envOfC "_law_all_shifts" (defScope s__law_all_shifts) s.heap.objs.size (He.ga K "_law_all_shifts") cdv)).units + 1 < cLine := by omega
    have hu200 : (A.deeper (envOfC "_law_all_shifts" (defScope s__law_all_shifts) s.heap.objs.size (He.ga K "_law_all_shifts") cdv)).units + 200 < cLine := by have := hr.un; omega
    have tk : L2N.Takes (cxOf (L2N.CX P w) P w K mg base N__law_all_shifts "_law_all_shifts" (defScope s__law_all_shifts) (He.ga K "_law_all_shifts") cdv A outer s H E) (fun cls d _ H => E cls d H) := L2N.takes_of rfl rfl rfl rfl
    exact (dss_cons (ds_asg (DN.de (dn_lst da_nil)) (pg_name (i := 1) nd rfl (by first | exact Or.inl rfl | exact Or.inr rfl)) (dg_name 1) (by decide)) (dss_cons (ds_for (passes_of rfl) rfl (di_range1 rfl T.b_range (da_cons (de_callB call_len rc_len rfl T.b_len boot_len (da_cons (de_ix (de_var 0 (pv 0)) de_int (fun _ _ => rfl)) da_nil)) da_nil)) (pg_name (i := 2) nd rfl (by first | exact Or.inl rfl | exact Or.inr rfl)) (dg_name 2) (dss_one (ds_asg (de_op op_addD rd_add (de_var 1 (pv 1)) (DN.de (dn_lc (X := Xc__law_all_shifts P w K mg base cdv A outer s H E) (own := [(("down" : Str), 3)]) rfl nd (di_range1 rfl T.b_range (da_cons (de_callB call_len rc_len rfl T.b_len boot_len (da_cons (de_var 0 (pv 0)) da_nil)) da_nil)) (blkOk_by (N := N__law_all_shifts) (sc := defScope s__law_all_shifts) (by decide +kernel)) (fun _ _ _ _ _ => by exact (pg_name (i := 3) nd rfl (by first | exact Or.inl rfl | exact Or.inr rfl))) (dg_name 3) (fun _ _ _ _ _ => by exact dts_nil) (fun _ _ _ _ _ => by exact (deF (h__law_shift.up (by decide)) hr takesN0 (dm_val (de_var 0 (pv 0)) (dm_val (de_var 2 (pv 2)) (dm_val (de_var 3 (pv 3)) dm_nil))))) (by decide)))) (pg_name (i := 1) nd rfl (by first | exact Or.inl rfl | exact Or.inr rfl)) (dg_name 1) (by decide))) (by decide)) (dss_one (ds_ret (de_var 1 (pv 1))))))
theorem ok__law_all_shifts (T : Tx K mg) : HasF P w K mg base (Gr K) 2 "_law_all_shifts" [("rows" : Str)] [] F__law_all_shifts := by
  obtain ⟨fd, F⟩ := T.d__law_all_shifts
  exact ⟨_, fd, T.m__law_all_shifts, F.kp, (F.bindsN fun _ _ _ _ _ _ us hl => match us, hl with | [_], _ => rfl), okf__law_all_shifts T F⟩
end
/-! _law_is_laid -/
def fs__law_is_laid : Fs := (sSq (sFor (sRng1 (dCons (dC gLen (dCons (dV 0) dNil)) dNil)) (bName 3) (sFor (sRng1 (dCons (dC gLen (dCons (d2 gIx (dV 0) (dK (.int 0))) dNil)) dNil)) (bName 4) (sIf (dB (d2 gNe (d2 gIx (d2 gIx (dV 0) (dV 3)) (dV 4)) (d2 gIx (d2 gIx (dV 0) (d2 gMod (dC gInt (dCons (dV 3) dNil)) (dV 2))) (d2 gMod (dC gInt (dCons (dV 4) dNil)) (dV 1))))) (sRet (dK (.bool false))) sNx))) (sRet (dK (.bool true))))
def F__law_is_laid : Fn := fnOf fs__law_is_laid N__law_is_laid.length []
theorem sc__law_is_laid : FnScope N__law_is_laid [("rows" : Str), ("wide" : Str), ("high" : Str)] (defScope s__law_is_laid) := ⟨rfl, rfl, rfl, by decide +kernel, rfl, by decide +kernel, by decide +kernel⟩
abbrev Xc__law_is_laid (P : Program) (w : World) (K : PySem.W.Frag) (mg : Str → Option Value) (base : Heap) (cdv : Value) (A : Around) (outer : List Env) (s : Shared) (H : Hp) (E : XK) : Cx := cxOf (L2N.CX P w) P w K mg base N__law_is_laid "_law_is_laid" (defScope s__law_is_laid) (He.ga K "_law_is_laid") cdv A outer s H E
section
variable {P : Program} {w : World} {K : PySem.W.Frag} {mg : Str → Option Value} {base : Heap}
theorem okf__law_is_laid (T : Tx K mg) {fd : FuncData} (F : FunD K "_law_is_laid" "_law_is_laid" (defArgs s__law_is_laid) (defBody s__law_is_laid) (defScope s__law_is_laid) [] [] (He.ga K "_law_is_laid") fd) : FnOk P w K mg base (L2N.CX P w) 1 (He.ga K "_law_is_laid") fd [("rows" : Str), ("wide" : Str), ("high" : Str)] (spF K (Gr K) F__law_is_laid 3 []) := by
  exact fn_ok F sc__law_is_laid rfl fun cdv A outer s H E hr => by
    have nd := sc__law_is_laid.nd
    have hu64 := hr.units
    have hu65 : (A.deeper (envOfC "_law_is_laid" (defScope s__law_is_laid) s.heap.objs.size (He.ga K "_law_is_laid") cdv)).units + 65 < cLine := by have := hr.un; omega
    have hu1 : (A.deeper (envOfC "_law_is_laid" (defScope s__law_is_laid) s.heap.objs.size (He.ga K "_law_is_laid") cdv)).units + 1 < cLine := by omega
    have hu200 : (A.deeper (envOfC "_law_is_laid" (defScope s__law_is_laid) s.heap.objs.size (He.ga K "_law_is_laid") cdv)).units + 200 < cLine := by have := hr.un; omega
    have tk : L2N.Takes (cxOf (L2N.CX P w) P w K mg base N__law_is_laid "_law_is_laid" (defScope s__law_is_laid) (He.ga K "_law_is_laid") cdv A outer s H E) (fun cls d _ H => E cls d H) := L2N.takes_of rfl rfl rfl rfl
    exact (dss_cons (ds_for (passes_of rfl) rfl (di_range1 rfl T.b_range (da_cons (de_callB call_len rc_len rfl T.b_len boot_len (da_cons (de_var 0 (pv 0)) da_nil)) da_nil)) (pg_name (i := 3) nd rfl (by first | exact Or.inl rfl | exact Or.inr rfl)) (dg_name 3) (dss_one (ds_for (passes_of rfl) rfl (di_range1 rfl T.b_range (da_cons (de_callB call_len rc_len rfl T.b_len boot_len (da_cons (de_ix (de_var 0 (pv 0)) de_int (fun _ _ => rfl)) da_nil)) da_nil)) (pg_name (i := 4) nd rfl (by first | exact Or.inl rfl | exact Or.inr rfl)) (dg_name 4) (dss_one (ds_if (dt_cmp (op_neD hu64) rd_ne (de_ix (de_ix (de_var 0 (pv 0)) (de_var 3 (pv 3)) (fun _ _ => rfl)) (de_var 4 (pv 4)) (fun _ _ => rfl)) (de_ix (de_ix (de_var 0 (pv 0)) (de_op op_mod rd_mod (de_callTy call_int1 rc_int rfl T.b_int boot_int (da_cons (de_var 3 (pv 3)) da_nil)) (de_var 2 (pv 2))) (fun _ _ => rfl)) (de_op op_mod rd_mod (de_callTy call_int1 rc_int rfl T.b_int boot_int (da_cons (de_var 4 (pv 4)) da_nil)) (de_var 1 (pv 1))) (fun _ _ => rfl)) (nomark _)) (dss_one (ds_ret de_bl)) dss_nil)) (by decide))) (by decide)) (dss_one (ds_ret de_bl)))
theorem ok__law_is_laid (T : Tx K mg) : HasF P w K mg base (Gr K) 1 "_law_is_laid" [("rows" : Str), ("wide" : Str), ("high" : Str)] [] F__law_is_laid := by
  obtain ⟨fd, F⟩ := T.d__law_is_laid
  exact ⟨_, fd, T.m__law_is_laid, F.kp, (F.bindsN fun _ _ _ _ _ _ us hl => match us, hl with | [_, _, _], _ => rfl), okf__law_is_laid T F⟩
end
/-! _law_parts -/
def fs__law_parts : Fs := (sRet (dLst (dLc (sRng2 (dCons (dK (.int 1)) (dCons (d2 gAdd (dV 0) (dK (.int 1))) dNil))) (bName 1) [1] (dB (d2 gEq (d2 gMod (dC gInt (dCons (dV 0) dNil)) (dV 1)) (dK (.int 0)))) (dV 1))))
def F__law_parts : Fn := fnOf fs__law_parts N__law_parts.length []
theorem sc__law_parts : FnScope N__law_parts [("number" : Str)] (defScope s__law_parts) := ⟨rfl, rfl, rfl, by decide +kernel, rfl, by decide +kernel, by decide +kernel⟩
abbrev Xc__law_parts (P : Program) (w : World) (K : PySem.W.Frag) (mg : Str → Option Value) (base : Heap) (cdv : Value) (A : Around) (outer : List Env) (s : Shared) (H : Hp) (E : XK) : Cx := cxOf (L2N.CX P w) P w K mg base N__law_parts "_law_parts" (defScope s__law_parts) (He.ga K "_law_parts") cdv A outer s H E
section
variable {P : Program} {w : World} {K : PySem.W.Frag} {mg : Str → Option Value} {base : Heap}
theorem okf__law_parts (T : Tx K mg) {fd : FuncData} (F : FunD K "_law_parts" "_law_parts" (defArgs s__law_parts) (defBody s__law_parts) (defScope s__law_parts) [] [] (He.ga K "_law_parts") fd) : FnOk P w K mg base (L2N.CX P w) 1 (He.ga K "_law_parts") fd [("number" : Str)] (spF K (Gr K) F__law_parts 1 []) := by
  exact fn_ok F sc__law_parts rfl fun cdv A outer s H E hr => by
    have nd := sc__law_parts.nd
    have hu64 := hr.units
    have hu65 : (A.deeper (envOfC "_law_parts" (defScope s__law_parts) s.heap.objs.size (He.ga K "_law_parts") cdv)).units + 65 < cLine := by have := hr.un; omega
    have hu1 : (A.deeper (envOfC "_law_parts" (defScope s__law_parts) s.heap.objs.size (He.ga K "_law_parts") cdv)).units + 1 < cLine := by omega
    have hu200 : (A.deeper (envOfC "_law_parts" (defScope s__law_parts) s.heap.objs.size (He.ga K "_law_parts") cdv)).units + 200 < cLine := by have := hr.un; omega
    have tk : L2N.Takes (cxOf (L2N.CX P w) P w K mg base N__law_parts "_law_parts" (defScope s__law_parts) (He.ga K "_law_parts") cdv A outer s H E) (fun cls d _ H => E cls d H) := L2N.takes_of rfl rfl rfl rfl
    exact (dss_one (ds_ret (DN.de (dn_lc (X := Xc__law_parts P w K mg base cdv A outer s H E) (own := [(("own" : Str), 1)]) rfl nd (di_range2 rfl T.b_range (da_cons de_int (da_cons (de_op op_addD rd_add (de_var 0 (pv 0)) de_int) da_nil))) (blkOk_by (N := N__law_parts) (sc := defScope s__law_parts) (by decide +kernel)) (fun _ _ _ _ _ => by exact (pg_name (i := 1) nd rfl (by first | exact Or.inl rfl | exact Or.inr rfl))) (dg_name 1) (fun _ _ _ _ _ => by exact (dts_one (dt_cmp (op_eqD hu64) rd_eq (de_op op_mod rd_mod (de_callTy call_int1 rc_int rfl T.b_int boot_int (da_cons (de_var 0 (pv 0)) da_nil)) (de_var 1 (pv 1))) de_int (nomark _)))) (fun _ _ _ _ _ => by exact (de_var 1 (pv 1))) (by decide)))))
theorem ok__law_parts (T : Tx K mg) : HasF P w K mg base (Gr K) 1 "_law_parts" [("number" : Str)] [] F__law_parts := by
  obtain ⟨fd, F⟩ := T.d__law_parts
  exact ⟨_, fd, T.m__law_parts, F.kp, (F.bindsN fun _ _ _ _ _ _ us hl => match us, hl with | [_], _ => rfl), okf__law_parts T F⟩
end
/-! _law_tile_of -/
def fs__law_tile_of : Fs := (sSq (sAsg (d2 gIx (dLst (dLc (sSeq (dCall F__law_parts [] 1 (mVal (dC gLen (dCons (d2 gIx (dV 0) (dK (.int 0))) dNil)) mNil))) (bName 3) [3] (dB (dCall F__law_is_laid [] 3 (mVal (dV 0) (mVal (dV 3) (mVal (dC gLen (dCons (dV 0) dNil)) mNil))))) (dV 3))) (dK (.int 0))) (bName 1)) (sSq (sAsg (d2 gIx (dLst (dLc (sSeq (dCall F__law_parts [] 1 (mVal (dC gLen (dCons (dV 0) dNil)) mNil))) (bName 3) [3] (dB (dCall F__law_is_laid [] 3 (mVal (dV 0) (mVal (dC gLen (dCons (d2 gIx (dV 0) (dK (.int 0))) dNil)) (mVal (dV 3) mNil))))) (dV 3))) (dK (.int 0))) (bName 2)) (sRet (dC gTuple (dCons (dLst (dLc (sSeq (dSl (dV 0) dNone (dPart (dV 2)))) (bName 4) [4] tY (dSl (dV 4) dNone (dPart (dV 1))))) dNil)))))
def F__law_tile_of : Fn := fnOf fs__law_tile_of N__law_tile_of.length []
theorem sc__law_tile_of : FnScope N__law_tile_of [("rows" : Str)] (defScope s__law_tile_of) := ⟨rfl, rfl, rfl, by decide +kernel, rfl, by decide +kernel, by decide +kernel⟩
abbrev Xc__law_tile_of (P : Program) (w : World) (K : PySem.W.Frag) (mg : Str → Option Value) (base : Heap) (cdv : Value) (A : Around) (outer : List Env) (s : Shared) (H : Hp) (E : XK) : Cx := cxOf (L2N.CX P w) P w K mg base N__law_tile_of "_law_tile_of" (defScope s__law_tile_of) (He.ga K "_law_tile_of") cdv A outer s H E
section
variable {P : Program} {w : World} {K : PySem.W.Frag} {mg : Str → Option Value} {base : Heap}
theorem okf__law_tile_of (T : Tx K mg) {fd : FuncData} (F : FunD K "_law_tile_of" "_law_tile_of" (defArgs s__law_tile_of) (defBody s__law_tile_of) (defScope s__law_tile_of) [] [] (He.ga K "_law_tile_of") fd) : FnOk P w K mg base (L2N.CX P w) 2 (He.ga K "_law_tile_of") fd [("rows" : Str)] (spF K (Gr K) F__law_tile_of 1 []) := by
  have h__law_is_laid := ok__law_is_laid (P := P) (w := w) (base := base) T
  have h__law_parts := ok__law_parts (P := P) (w := w) (base := base) T
  exact fn_ok F sc__law_tile_of rfl fun cdv A outer s H E hr => by
    have nd := sc__law_tile_of.nd
    have hu64 := hr.units
    have hu65 : (A.deeper (envOfC "_law_tile_of" (defScope s__law_tile_of) s.heap.objs.size (He.ga K "_law_tile_of") cdv)).units + 65 < cLine := by have := hr.un; omega
    have hu1 : (A.deeper (envOfC "_law_tile_of" (defScope s__law_tile_of) s.heap.objs.size (He.ga K "_law_tile_of") cdv)).units + 1 < cLine := by omega
    have hu200 : (A.deeper (envOfC "_law_tile_of" (defScope s__law_tile_of) s.heap.objs.size (He.ga K "_law_tile_of") cdv)).units + 200 < cLine := by have := hr.un; omega
    have tk : L2N.Takes (cxOf (L2N.CX P w) P w K mg base N__law_tile_of "_law_tile_of" (defScope s__law_tile_of) (He.ga K "_law_tile_of") cdv A outer s H E) (fun cls d _ H => E cls d H) := L2N.takes_of rfl rfl rfl rfl
    exact (dss_cons (ds_asg (de_ix (DN.de (dn_lc (X := Xc__law_tile_of P w K mg base cdv A outer s H E) (own := [(("own" : Str), 3)]) rfl nd (di_seq (deF (h__law_parts.up (by decide)) hr tk (dm_val (de_callB call_len rc_len rfl T.b_len boot_len (da_cons (de_ix (de_var 0 (pv 0)) de_int (fun _ _ => rfl)) da_nil)) dm_nil))) (blkOk_by (N := N__law_tile_of) (sc := defScope s__law_tile_of) (by decide +kernel)) (fun _ _ _ _ _ => by exact (pg_name (i := 3) nd rfl (by first | exact Or.inl rfl | exact Or.inr rfl))) (dg_name 3) (fun _ _ _ _ _ => by exact (dts_one (dt_val (deF (h__law_is_laid.up (by decide)) hr takesN0 (dm_val (de_var 0 (pv 0)) (dm_val (de_var 3 (pv 3)) (dm_val (de_callB call_len rc_len rfl T.b_len boot_len (da_cons (de_var 0 (pv 0)) da_nil)) dm_nil))))))) (fun _ _ _ _ _ => by exact (de_var 3 (pv 3))) (by decide))) de_int (fun _ _ => rfl)) (pg_name (i := 1) nd rfl (by first | exact Or.inl rfl | exact Or.inr rfl)) (dg_name 1) (by decide)) (dss_cons (ds_asg (de_ix (DN.de (dn_lc (X := Xc__law_tile_of P w K mg base cdv A outer s H E) (own := [(("own" : Str), 3)]) rfl nd (di_seq (deF (h__law_parts.up (by decide)) hr tk (dm_val (de_callB call_len rc_len rfl T.b_len boot_len (da_cons (de_var 0 (pv 0)) da_nil)) dm_nil))) (blkOk_by (N := N__law_tile_of) (sc := defScope s__law_tile_of) (by decide +kernel)) (fun _ _ _ _ _ => by exact (pg_name (i := 3) nd rfl (by first | exact Or.inl rfl | exact Or.inr rfl))) (dg_name 3) (fun _ _ _ _ _ => by exact (dts_one (dt_val (deF (h__law_is_laid.up (by decide)) hr takesN0 (dm_val (de_var 0 (pv 0)) (dm_val (de_callB call_len rc_len rfl T.b_len boot_len (da_cons (de_ix (de_var 0 (pv 0)) de_int (fun _ _ => rfl)) da_nil)) (dm_val (de_var 3 (pv 3)) dm_nil))))))) (fun _ _ _ _ _ => by exact (de_var 3 (pv 3))) (by decide))) de_int (fun _ _ => rfl)) (pg_name (i := 2) nd rfl (by first | exact Or.inl rfl | exact Or.inr rfl)) (dg_name 2) (by decide)) (dss_one (ds_ret (de_callTy call_tuple_of rc_tuple rfl T.b_tuple boot_tuple (da_cons (DN.de (dn_lc (X := Xc__law_tile_of P w K mg base cdv A outer s H E) (own := [(("row" : Str), 4)]) rfl nd (di_seq (de_slice (de_var 0 (pv 0)) dp_none (dp_some (de_var 2 (pv 2))))) (blkOk_by (N := N__law_tile_of) (sc := defScope s__law_tile_of) (by decide +kernel)) (fun _ _ _ _ _ => by exact (pg_name (i := 4) nd rfl (by first | exact Or.inl rfl | exact Or.inr rfl))) (dg_name 4) (fun _ _ _ _ _ => by exact dts_nil) (fun _ _ _ _ _ => by exact (de_slice (de_var 4 (pv 4)) dp_none (dp_some (de_var 1 (pv 1))))) (by decide))) da_nil))))))
theorem ok__law_tile_of (T : Tx K mg) : HasF P w K mg base (Gr K) 2 "_law_tile_of" [("rows" : Str)] [] F__law_tile_of := by
  obtain ⟨fd, F⟩ := T.d__law_tile_of
  exact ⟨_, fd, T.m__law_tile_of, F.kp, (F.bindsN fun _ _ _ _ _ _ us hl => match us, hl with | [_], _ => rfl), okf__law_tile_of T F⟩
end
/-! _law_drawn -/
def fs__law_drawn : Fs := (sSq (sAsg (dCall F__law_colours [0] 4 (mSlot 0 (mVal (dCall F__law_any [0] 2 (mSlot 0 (mVal (dLst (dList (dCons (dK (.str ("ab" : Str))) (dCons (dK (.str ("abc" : Str))) (dCons (dK (.str ("a" : Str))) dNil))))) mNil))) (mVal (dK (.int 4)) (mVal (dK (.int 3)) mNil))))) (bName 1)) (sSq (sAsg (dTup (dCons (d2 gAdd (dK (.int 1)) (dCall F__law_dip [0] 2 (mSlot 0 (mVal (d2 gFdiv (dK (.int 16)) (dC gLen (dCons (d2 gIx (dV 1) (dK (.int 0))) dNil))) mNil)))) (dCons (d2 gAdd (dK (.int 1)) (dCall F__law_dip [0] 2 (mSlot 0 (mVal (d2 gFdiv (dK (.int 10)) (dC gLen (dCons (dV 1) dNil))) mNil)))) dNil))) (bTup 2 (bCons (bName 2) (bCons (bName 3) bNil)))) (sSq (sAsg (dTup (dCons (dC gMin2 (dCons (dV 2) (dCons (dK (.int 4)) dNil))) (dCons (dC gMin2 (dCons (dV 3) (dCons (dK (.int 4)) dNil))) dNil))) (bTup 2 (bCons (bName 2) (bCons (bName 3) bNil)))) (sRet (dTup (dCons (dV 1) (dCons (dC gTuple (dCons (d2 gMul (dLst (dLc (sSeq (dV 1)) (bName 4) [4] tY (d2 gMul (dV 4) (dV 2)))) (dV 3)) dNil)) dNil)))))))
def F__law_drawn : Fn := fnOf fs__law_drawn N__law_drawn.length [0]
theorem sc__law_drawn : FnScope N__law_drawn [("churn" : Str)] (defScope s__law_drawn) := ⟨rfl, rfl, rfl, by decide +kernel, rfl, by decide +kernel, by decide +kernel⟩
abbrev Xc__law_drawn (P : Program) (w : World) (K : PySem.W.Frag) (mg : Str → Option Value) (base : Heap) (cdv : Value) (A : Around) (outer : List Env) (s : Shared) (H : Hp) (E : XK) : Cx := cxOf (L2N.CX P w) P w K mg base N__law_drawn "_law_drawn" (defScope s__law_drawn) (He.ga K "_law_drawn") cdv A outer s H E
section
variable {P : Program} {w : World} {K : PySem.W.Frag} {mg : Str → Option Value} {base : Heap}
theorem okf__law_drawn (T : Tx K mg) {fd : FuncData} (F : FunD K "_law_drawn" "_law_drawn" (defArgs s__law_drawn) (defBody s__law_drawn) (defScope s__law_drawn) [] [] (He.ga K "_law_drawn") fd) : FnOk P w K mg base (L2N.CX P w) 4 (He.ga K "_law_drawn") fd [("churn" : Str)] (spF K (Gr K) F__law_drawn 1 [0]) := by
  have h__law_any := ok__law_any (P := P) (w := w) (base := base) T
  have h__law_colours := ok__law_colours (P := P) (w := w) (base := base) T
  have h__law_dip := ok__law_dip (P := P) (w := w) (base := base) T
  exact fn_ok F sc__law_drawn rfl fun cdv A outer s H E hr => by
    have nd := sc__law_drawn.nd
    have hu64 := hr.units
    have hu65 : (A.deeper (envOfC "_law_drawn" (defScope s__law_drawn) s.heap.objs.size (He.ga K "_law_drawn") cdv)).units + 65 < cLine := by have := hr.un; omega
    have hu1 : (A.deeper (envOfC "_law_drawn" (defScope s__law_drawn) s.heap.objs.size (He.ga K "_law_drawn") cdv)).units + 1 < cLine := by omega
    have hu200 : (A.deeper (envOfC "_law_drawn" (defScope s__law_drawn) s.heap.objs.size (He.ga K "_law_drawn") cdv)).units + 200 < cLine := by have := hr.un; omega
    have tk : L2N.Takes (cxOf (L2N.CX P w) P w K mg base N__law_drawn "_law_drawn" (defScope s__law_drawn) (He.ga K "_law_drawn") cdv A outer s H E) (fun cls d _ H => E cls d H) := L2N.takes_of rfl rfl rfl rfl
    exact (dss_cons (ds_asg (deF (h__law_colours.up (by decide)) hr tk (dm_slot 0 (pv 0) (dm_val (deF (h__law_any.up (by decide)) hr tk (dm_slot 0 (pv 0) (dm_val (DN.de (dn_lst (da_cons de_str (da_cons de_str (da_cons de_str da_nil))))) dm_nil))) (dm_val de_int (dm_val de_int dm_nil))))) (pg_name (i := 1) nd rfl (by first | exact Or.inl rfl | exact Or.inr rfl)) (dg_name 1) (by decide)) (dss_cons (ds_asg (de_tup (da_cons (de_op op_addD rd_add de_int (deF (h__law_dip.up (by decide)) hr tk (dm_slot 0 (pv 0) (dm_val (de_op op_fdiv rd_fdiv de_int (de_callB call_len rc_len rfl T.b_len boot_len (da_cons (de_ix (de_var 1 (pv 1)) de_int (fun _ _ => rfl)) da_nil))) dm_nil)))) (da_cons (de_op op_addD rd_add de_int (deF (h__law_dip.up (by decide)) hr tk (dm_slot 0 (pv 0) (dm_val (de_op op_fdiv rd_fdiv de_int (de_callB call_len rc_len rfl T.b_len boot_len (da_cons (de_var 1 (pv 1)) da_nil))) dm_nil)))) da_nil))) (pg_tup rfl (pgs_cons (pg_name (i := 2) nd rfl (by first | exact Or.inl rfl | exact Or.inr rfl)) (pgs_cons (pg_name (i := 3) nd rfl (by first | exact Or.inl rfl | exact Or.inr rfl)) pgs_nil))) (dg_tup (dgs_cons (dg_name 2) (dgs_cons (dg_name 3) dgs_nil))) (by decide)) (dss_cons (ds_asg (de_tup (da_cons (de_callB (call_min2 rfl) rc_min2 rfl T.b_min boot_min (da_cons (de_var 2 (pv 2)) (da_cons de_int da_nil))) (da_cons (de_callB (call_min2 rfl) rc_min2 rfl T.b_min boot_min (da_cons (de_var 3 (pv 3)) (da_cons de_int da_nil))) da_nil))) (pg_tup rfl (pgs_cons (pg_name (i := 2) nd rfl (by first | exact Or.inl rfl | exact Or.inr rfl)) (pgs_cons (pg_name (i := 3) nd rfl (by first | exact Or.inl rfl | exact Or.inr rfl)) pgs_nil))) (dg_tup (dgs_cons (dg_name 2) (dgs_cons (dg_name 3) dgs_nil))) (by decide)) (dss_one (ds_ret (de_tup (da_cons (de_var 1 (pv 1)) (da_cons (de_callTy call_tuple_of rc_tuple rfl T.b_tuple boot_tuple (da_cons (de_op op_mulD rd_mul (DN.de (dn_lc (X := Xc__law_drawn P w K mg base cdv A outer s H E) (own := [(("row" : Str), 4)]) rfl nd (di_seq (de_var 1 (pv 1))) (blkOk_by (N := N__law_drawn) (sc := defScope s__law_drawn) (by decide +kernel)) (fun _ _ _ _ _ => by exact (pg_name (i := 4) nd rfl (by first | exact Or.inl rfl | exact Or.inr rfl))) (dg_name 4) (fun _ _ _ _ _ => by exact dts_nil) (fun _ _ _ _ _ => by exact (de_op op_mulD rd_mul (de_var 4 (pv 4)) (de_var 2 (pv 2)))) (by decide))) (de_var 3 (pv 3))) da_nil)) da_nil))))))))
theorem ok__law_drawn (T : Tx K mg) : HasF P w K mg base (Gr K) 4 "_law_drawn" [("churn" : Str)] [0] F__law_drawn := by
  obtain ⟨fd, F⟩ := T.d__law_drawn
  exact ⟨_, fd, T.m__law_drawn, F.kp, (F.bindsN fun _ _ _ _ _ _ us hl => match us, hl with | [_], _ => rfl), okf__law_drawn T F⟩
end
/-! _law_rows_right -/
def fs__law_rows_right : Fs := (sSq (sAsg (dCall F__law_tile_of [] 1 (mVal (dV 2) mNil)) (bName 3)) (sSq (sAsgF (fLst (dList (dCons (dCall F_tile_of [] 1 (mVal (dV 2) mNil)) (dCons (dCall F_is_tiled [] 3 (mVal (dV 2) (mVal (dC gLen (dCons (d2 gIx (dV 1) (dK (.int 0))) dNil)) (mVal (dC gLen (dCons (dV 1) dNil)) mNil)))) (dCons (dCall F_is_colouring [] 1 (mVal (dV 3) mNil)) dNil))))) 4) (fun env => (sSq (sIf (dNotB (dB (dCall (F__law_match 6) [] 2 (mVal (dV 4) (mVal (dLst (dList (dCons (dV 3) (dCons (dK (.bool true)) (dCons (dK (.bool true)) dNil))))) mNil))))) (sRet (dK (.bool false))) sNx) (sSq (sIf (dOrB (dB (d2 gNe (dV 3) (dCall F__law_tile_of [] 1 (mVal (dV 1) mNil)))) (dB (d2 gNe (dCall F_tile_of [] 1 (mVal (dV 1) mNil)) (dV 3)))) (sRet (dK (.bool false))) sNx) (sSq (sFor (sSeq (dCall F__law_parts [] 1 (mVal (dC gLen (dCons (d2 gIx (dV 2) (dK (.int 0))) dNil)) mNil))) (bName 5) (sFor (sSeq (dCall F__law_parts [] 1 (mVal (dC gLen (dCons (dV 2) dNil)) mNil))) (bName 6) (sIf (dNotB (dB (dCall (F__law_match 6) [] 2 (mVal (dCallK F_is_tiled [] 3 [2, 1, 0] 3 (mVal (dV 6) (mVal (dV 5) (mVal (dV 2) mNil)))) (mVal (dCall F__law_is_laid [] 3 (mVal (dV 2) (mVal (dV 5) (mVal (dV 6) mNil)))) mNil))))) (sRet (dK (.bool false))) sNx))) (sSq (sAsg (dCall F__law_all_shifts [] 1 (mVal (dV 2) mNil)) (bName 7)) (sSq (sPar 8 9 (dCons (dCall F__law_dip [0] 2 (mSlot 0 (mVal (dC gLen (dCons (d2 gIx (dV 2) (dK (.int 0))) dNil)) mNil))) (dCons (dCall F__law_dip [0] 2 (mSlot 0 (mVal (dC gLen (dCons (dV 2) dNil)) mNil))) dNil))) (sSq (sAsg (dCall F__law_shift [] 3 (mVal (dV 2) (mVal (dV 8) (mVal (dV 9) mNil)))) (bName 10)) (sSq (sAsgF (fLst (dList (dCons (dCall F_shifted_rows [] 3 (mVal (dV 2) (mVal (dV 8) (mVal (dV 9) mNil)))) (dCons (dCall F_least_shift [] 1 (mVal (dV 2) mNil)) (dCons (dCallK F_least_shift [] 1 [0] 1 (mVal (dV 10) mNil)) dNil))))) 4) (sSq (sApp 4 (dCallK F_are_shifts [] 2 [1, 0] 2 (mVal (dV 10) (mVal (dV 2) mNil)))) (fun env => (sSq (sIf (dNotB (dB (dCall (F__law_match 6) [] 2 (mVal (dV 4) (mVal (dLst (dList (dCons (dV 10) (dCons (dC gMinL (dCons (dV 7) dNil)) (dCons (dC gMinL (dCons (dV 7) dNil)) (dCons (dK (.bool true)) dNil)))))) mNil))))) (sRet (dK (.bool false))) sNx) (sSq (sIf (dOrB (dNotB (dB (dCall F_are_shifts [] 2 (mVal (dCall F_tile_of [] 1 (mVal (dV 10) mNil)) (mVal (dV 3) mNil))))) (dB (d2 gNe (d2 gMod (d2 gMul (dC gLen (dCons (dV 3) dNil)) (dC gLen (dCons (d2 gIx (dV 3) (dK (.int 0))) dNil))) (dLenSet (dV 7))) (dK (.int 0))))) (sRet (dK (.bool false))) sNx) (sSq (sPar 11 12 (dCons (dCall F__law_dip [0] 2 (mSlot 0 (mVal (dC gLen (dCons (dV 2) dNil)) mNil))) (dCons (dCall F__law_dip [0] 2 (mSlot 0 (mVal (dC gLen (dCons (d2 gIx (dV 2) (dK (.int 0))) dNil)) mNil))) dNil))) (sSq (sAsg (d2 gAdd (d2 gAdd (dSl (d2 gIx (dV 10) (dV 11)) dNone (dPart (dV 12))) (dCall F__law_any [0] 2 (mSlot 0 (mVal (dK (.str ("abc" : Str))) mNil)))) (dSl (d2 gIx (dV 10) (dV 11)) (dPart (d2 gAdd (dV 12) (dK (.int 1)))) dNone)) (bName 13)) (sSq (sFor (sSeq (dLst (dList (dCons (d2 gAdd (d2 gAdd (dSl (dV 10) dNone (dPart (dV 11))) (dTup (dCons (dV 13) dNil))) (dSl (dV 10) (dPart (d2 gAdd (dV 11) (dK (.int 1)))) dNone)) (dCons (dCall F_turned_rows [] 1 (mVal (dV 2) mNil)) (dCons (dRevS (dV 2)) (dCons (dV 1) dNil))))))) (bName 14) (sIf (dNotB (dB (dCall (F__law_match 6) [] 2 (mVal (dLst (dList (dCons (dCall F_are_shifts [] 2 (mVal (dV 2) (mVal (dV 14) mNil))) (dCons (dCall F_are_shifts [] 2 (mVal (dV 14) (mVal (dV 2) mNil))) dNil)))) (mVal (d2 gMul (dLst (dList (dCons (d2 gIn (dV 14) (dV 7)) dNil))) (dK (.int 2))) mNil))))) (sRet (dK (.bool false))) sNx)) (sRet (dK (.bool true)))))))) (frz 4 env)))))))))) (frz 4 env))))
def F__law_rows_right : Fn := fnOf fs__law_rows_right N__law_rows_right.length [0]
theorem sc__law_rows_right : FnScope N__law_rows_right [("churn" : Str), ("part" : Str), ("rows" : Str)] (defScope s__law_rows_right) := ⟨rfl, rfl, rfl, by decide +kernel, rfl, by decide +kernel, by decide +kernel⟩
abbrev Xc__law_rows_right (P : Program) (w : World) (K : PySem.W.Frag) (mg : Str → Option Value) (base : Heap) (cdv : Value) (A : Around) (outer : List Env) (s : Shared) (H : Hp) (E : XK) : Cx := cxOf (L2N.CX P w) P w K mg base N__law_rows_right "_law_rows_right" (defScope s__law_rows_right) (He.ga K "_law_rows_right") cdv A outer s H E
section
variable {P : Program} {w : World} {K : PySem.W.Frag} {mg : Str → Option Value} {base : Heap}
theorem okf__law_rows_right (T : Tx K mg) {fd : FuncData} (F : FunD K "_law_rows_right" "_law_rows_right" (defArgs s__law_rows_right) (defBody s__law_rows_right) (defScope s__law_rows_right) [] [] (He.ga K "_law_rows_right") fd) : FnOk P w K mg base (L2N.CX P w) 7 (He.ga K "_law_rows_right") fd [("churn" : Str), ("part" : Str), ("rows" : Str)] (spF K (Gr K) F__law_rows_right 3 [0]) := by
  have h__law_all_shifts := ok__law_all_shifts (P := P) (w := w) (base := base) T
  have h__law_any := ok__law_any (P := P) (w := w) (base := base) T
  have h__law_dip := ok__law_dip (P := P) (w := w) (base := base) T
  have h__law_is_laid := ok__law_is_laid (P := P) (w := w) (base := base) T
  have h__law_match := ok__law_match (P := P) (w := w) (base := base) T
  have h__law_parts := ok__law_parts (P := P) (w := w) (base := base) T
  have h__law_shift := ok__law_shift (P := P) (w := w) (base := base) T
  have h__law_tile_of := ok__law_tile_of (P := P) (w := w) (base := base) T
  have h_are_shifts := ok_are_shifts (P := P) (w := w) (base := base) T
  have h_is_colouring := ok_is_colouring (P := P) (w := w) (base := base) T
  have h_is_tiled := ok_is_tiled (P := P) (w := w) (base := base) T
  have h_least_shift := ok_least_shift (P := P) (w := w) (base := base) T
  have h_shifted_rows := ok_shifted_rows (P := P) (w := w) (base := base) T
  have h_tile_of := ok_tile_of (P := P) (w := w) (base := base) T
  have h_turned_rows := ok_turned_rows (P := P) (w := w) (base := base) T
  exact fn_ok F sc__law_rows_right rfl fun cdv A outer s H E hr => by
    have nd := sc__law_rows_right.nd
    have hk_are_shifts_0 := okk_are_shifts_0 (P := P) (w := w) (base := base) T
    have hk_is_tiled_0 := okk_is_tiled_0 (P := P) (w := w) (base := base) T
    have hk_least_shift_0 := okk_least_shift_0 (P := P) (w := w) (base := base) T
    have hu64 := hr.units
    have hu65 : (A.deeper (envOfC "_law_rows_right" (defScope s__law_rows_right) s.heap.objs.size (He.ga K "_law_rows_right") cdv)).units + 65 < cLine := by have := hr.un; omega
    have hu1 : (A.deeper (envOfC "_law_rows_right" (defScope s__law_rows_right) s.heap.objs.size (He.ga K "_law_rows_right") cdv)).units + 1 < cLine := by omega
    have hu200 : (A.deeper (envOfC "_law_rows_right" (defScope s__law_rows_right) s.heap.objs.size (He.ga K "_law_rows_right") cdv)).units + 200 < cLine := by have := hr.un; omega
    have tk : L2N.Takes (cxOf (L2N.CX P w) P w K mg base N__law_rows_right "_law_rows_right" (defScope s__law_rows_right) (He.ga K "_law_rows_right") cdv A outer s H E) (fun cls d _ H => E cls d H) := L2N.takes_of rfl rfl rfl rfl
    exact (dss_cons (ds_asg (deF (h__law_tile_of.up (by decide)) hr tk (dm_val (de_var 2 (pv 2)) dm_nil)) (pg_name (i := 3) nd rfl (by first | exact Or.inl rfl | exact Or.inr rfl)) (dg_name 3) (by decide)) (dss_cons (ds_asgF (DN.df (dn_lst (da_cons (deF (h_tile_of.up (by decide)) hr tk (dm_val (de_var 2 (pv 2)) dm_nil)) (da_cons (deF (h_is_tiled.up (by decide)) hr tk (dm_val (de_var 2 (pv 2)) (dm_val (de_callB call_len rc_len rfl T.b_len boot_len (da_cons (de_ix (de_var 1 (pv 1)) de_int (fun _ _ => rfl)) da_nil)) (dm_val (de_callB call_len rc_len rfl T.b_len boot_len (da_cons (de_var 1 (pv 1)) da_nil)) dm_nil)))) (da_cons (deF (h_is_colouring.up (by decide)) hr tk (dm_val (de_var 3 (pv 3)) dm_nil)) da_nil))))) (pg_name (i := 4) nd rfl (by first | exact Or.inl rfl | exact Or.inr rfl)) (by decide)) (dss_frz 4 (dss_cons (ds_if (dt_not (dt_val (deF (h__law_match.up (by decide)) hr tk (dm_val (de_var 4 (pv 4)) (dm_val (DN.de (dn_lst (da_cons (de_var 3 (pv 3)) (da_cons de_bl (da_cons de_bl da_nil))))) dm_nil))))) (dss_one (ds_ret de_bl)) dss_nil) (dss_cons (ds_if (DW.pt (dw_or (dt_cmp (op_neD hu64) rd_ne (de_var 3 (pv 3)) (deF (h__law_tile_of.up (by decide)) hr tk (dm_val (de_var 1 (pv 1)) dm_nil)) (nomark _)) (dw_or1 (dt_cmp (op_neD hu64) rd_ne (deF (h_tile_of.up (by decide)) hr tk (dm_val (de_var 1 (pv 1)) dm_nil)) (de_var 3 (pv 3)) (nomark _))))) (dss_one (ds_ret de_bl)) dss_nil) (dss_cons (ds_for (passes_of rfl) rfl (di_seq (deF (h__law_parts.up (by decide)) hr tk (dm_val (de_callB call_len rc_len rfl T.b_len boot_len (da_cons (de_ix (de_var 2 (pv 2)) de_int (fun _ _ => rfl)) da_nil)) dm_nil))) (pg_name (i := 5) nd rfl (by first | exact Or.inl rfl | exact Or.inr rfl)) (dg_name 5) (dss_one (ds_for (passes_of rfl) rfl (di_seq (deF (h__law_parts.up (by decide)) hr tk (dm_val (de_callB call_len rc_len rfl T.b_len boot_len (da_cons (de_var 2 (pv 2)) da_nil)) dm_nil))) (pg_name (i := 6) nd rfl (by first | exact Or.inl rfl | exact Or.inr rfl)) (dg_name 6) (dss_one (ds_if (dt_not (dt_val (deF (h__law_match.up (by decide)) hr tk (dm_val (deFK (π := [2, 1, 0]) (ks := [("high" : Str), ("wide" : Str), ("rows" : Str)]) (hk_is_tiled_0.up (by decide)) hr tk (dk_val (de_var 6 (pv 6)) (dk_val (de_var 5 (pv 5)) (dk_val (de_var 2 (pv 2)) dk_nil)))) (dm_val (deF (h__law_is_laid.up (by decide)) hr tk (dm_val (de_var 2 (pv 2)) (dm_val (de_var 5 (pv 5)) (dm_val (de_var 6 (pv 6)) dm_nil)))) dm_nil))))) (dss_one (ds_ret de_bl)) dss_nil)) (by decide))) (by decide)) (dss_cons (ds_asg (deF (h__law_all_shifts.up (by decide)) hr tk (dm_val (de_var 2 (pv 2)) dm_nil)) (pg_name (i := 7) nd rfl (by first | exact Or.inl rfl | exact Or.inr rfl)) (dg_name 7) (by decide)) (dss_cons (ds_par (i := 8) (j := 9) rfl nd rfl rfl (by decide) rfl rfl (da_cons (deF (h__law_dip.up (by decide)) hr tk (dm_slot 0 (pv 0) (dm_val (de_callB call_len rc_len rfl T.b_len boot_len (da_cons (de_ix (de_var 2 (pv 2)) de_int (fun _ _ => rfl)) da_nil)) dm_nil))) (da_cons (deF (h__law_dip.up (by decide)) hr tk (dm_slot 0 (pv 0) (dm_val (de_callB call_len rc_len rfl T.b_len boot_len (da_cons (de_var 2 (pv 2)) da_nil)) dm_nil))) da_nil)) (by decide) (by decide) (by first | rfl | with_unfolding_all rfl)) (dss_cons (ds_asg (deF (h__law_shift.up (by decide)) hr tk (dm_val (de_var 2 (pv 2)) (dm_val (de_var 8 (pv 8)) (dm_val (de_var 9 (pv 9)) dm_nil)))) (pg_name (i := 10) nd rfl (by first | exact Or.inl rfl | exact Or.inr rfl)) (dg_name 10) (by decide)) (dss_cons (ds_asgF (DN.df (dn_lst (da_cons (deF (h_shifted_rows.up (by decide)) hr tk (dm_val (de_var 2 (pv 2)) (dm_val (de_var 8 (pv 8)) (dm_val (de_var 9 (pv 9)) dm_nil)))) (da_cons (deF (h_least_shift.up (by decide)) hr tk (dm_val (de_var 2 (pv 2)) dm_nil)) (da_cons (deFK (π := [0]) (ks := [("rows" : Str)]) (hk_least_shift_0.up (by decide)) hr tk (dk_val (de_var 10 (pv 10)) dk_nil)) da_nil))))) (pg_name (i := 4) nd rfl (by first | exact Or.inl rfl | exact Or.inr rfl)) (by decide)) (dss_cons (ds_app 4 (pv 4) (deFK (π := [1, 0]) (ks := [("other_rows" : Str), ("rows" : Str)]) (hk_are_shifts_0.up (by decide)) hr tk (dk_val (de_var 10 (pv 10)) (dk_val (de_var 2 (pv 2)) dk_nil)))) (dss_frz 4 (dss_cons (ds_if (dt_not (dt_val (deF (h__law_match.up (by decide)) hr tk (dm_val (de_var 4 (pv 4)) (dm_val (DN.de (dn_lst (da_cons (de_var 10 (pv 10)) (da_cons (de_callB (call_minL rfl hu65) rc_minL rfl T.b_min boot_min (da_cons (de_var 7 (pv 7)) da_nil)) (da_cons (de_callB (call_minL rfl hu65) rc_minL rfl T.b_min boot_min (da_cons (de_var 7 (pv 7)) da_nil)) (da_cons de_bl da_nil)))))) dm_nil))))) (dss_one (ds_ret de_bl)) dss_nil) (dss_cons (ds_if (DW.pt (dw_or (dt_not (dt_val (deF (h_are_shifts.up (by decide)) hr tk (dm_val (deF (h_tile_of.up (by decide)) hr tk (dm_val (de_var 10 (pv 10)) dm_nil)) (dm_val (de_var 3 (pv 3)) dm_nil))))) (dw_or1 (dt_cmp (op_neD hu64) rd_ne (de_op op_mod rd_mod (de_op op_mulD rd_mul (de_callB call_len rc_len rfl T.b_len boot_len (da_cons (de_var 3 (pv 3)) da_nil)) (de_callB call_len rc_len rfl T.b_len boot_len (da_cons (de_ix (de_var 3 (pv 3)) de_int (fun _ _ => rfl)) da_nil))) (de_lenSet rfl hu200 rfl T.b_len rfl T.b_set (de_var 7 (pv 7)))) de_int (nomark _))))) (dss_one (ds_ret de_bl)) dss_nil) (dss_cons (ds_par (i := 11) (j := 12) rfl nd rfl rfl (by decide) rfl rfl (da_cons (deF (h__law_dip.up (by decide)) hr tk (dm_slot 0 (pv 0) (dm_val (de_callB call_len rc_len rfl T.b_len boot_len (da_cons (de_var 2 (pv 2)) da_nil)) dm_nil))) (da_cons (deF (h__law_dip.up (by decide)) hr tk (dm_slot 0 (pv 0) (dm_val (de_callB call_len rc_len rfl T.b_len boot_len (da_cons (de_ix (de_var 2 (pv 2)) de_int (fun _ _ => rfl)) da_nil)) dm_nil))) da_nil)) (by decide) (by decide) (by first | rfl | with_unfolding_all rfl)) (dss_cons (ds_asg (de_op op_addD rd_add (de_op op_addD rd_add (de_slice (de_ix (de_var 10 (pv 10)) (de_var 11 (pv 11)) (fun _ _ => rfl)) dp_none (dp_some (de_var 12 (pv 12)))) (deF (h__law_any.up (by decide)) hr tk (dm_slot 0 (pv 0) (dm_val de_str dm_nil)))) (de_slice (de_ix (de_var 10 (pv 10)) (de_var 11 (pv 11)) (fun _ _ => rfl)) (dp_some (de_op op_addD rd_add (de_var 12 (pv 12)) de_int)) dp_none)) (pg_name (i := 13) nd rfl (by first | exact Or.inl rfl | exact Or.inr rfl)) (dg_name 13) (by decide)) (dss_cons (ds_for (passes_of rfl) rfl (di_seq (DN.de (dn_lst (da_cons (de_op op_addD rd_add (de_op op_addD rd_add (de_slice (de_var 10 (pv 10)) dp_none (dp_some (de_var 11 (pv 11)))) (de_tup (da_cons (de_var 13 (pv 13)) da_nil))) (de_slice (de_var 10 (pv 10)) (dp_some (de_op op_addD rd_add (de_var 11 (pv 11)) de_int)) dp_none)) (da_cons (deF (h_turned_rows.up (by decide)) hr tk (dm_val (de_var 2 (pv 2)) dm_nil)) (da_cons (de_revS (de_var 2 (pv 2))) (da_cons (de_var 1 (pv 1)) da_nil))))))) (pg_name (i := 14) nd rfl (by first | exact Or.inl rfl | exact Or.inr rfl)) (dg_name 14) (dss_one (ds_if (dt_not (dt_val (deF (h__law_match.up (by decide)) hr tk (dm_val (DN.de (dn_lst (da_cons (deF (h_are_shifts.up (by decide)) hr tk (dm_val (de_var 2 (pv 2)) (dm_val (de_var 14 (pv 14)) dm_nil))) (da_cons (deF (h_are_shifts.up (by decide)) hr tk (dm_val (de_var 14 (pv 14)) (dm_val (de_var 2 (pv 2)) dm_nil))) da_nil)))) (dm_val (de_op op_mulD rd_mul (DN.de (dn_lst (da_cons (de_cmp (op_inA hu65) rd_in (de_var 14 (pv 14)) (de_var 7 (pv 7)) (by with_unfolding_all rfl)) da_nil))) de_int) dm_nil))))) (dss_one (ds_ret de_bl)) dss_nil)) (by decide)) (dss_one (ds_ret de_bl))))))) (by decide)))))))))) (by decide))))
theorem ok__law_rows_right (T : Tx K mg) : HasF P w K mg base (Gr K) 7 "_law_rows_right" [("churn" : Str), ("part" : Str), ("rows" : Str)] [0] F__law_rows_right := by
  obtain ⟨fd, F⟩ := T.d__law_rows_right
  exact ⟨_, fd, T.m__law_rows_right, F.kp, (F.bindsN fun _ _ _ _ _ _ us hl => match us, hl with | [_, _, _], _ => rfl), okf__law_rows_right T F⟩
end
end H86
set_option Elab.async false
set_option linter.all false
set_option maxRecDepth 100000
set_option maxHeartbeats 4000000
namespace H86
open PySem PySem.Spec PyProof.Rows L2 MI
def fsH__law_match : Fs := (sSq (sIf (dOrB (dB (dIsN (dV 1))) (dB (dIsN (dV 0)))) (sRet (dAnd (dIsN (dV 0)) (dIsN (dV 1)))) sNx) (sSq (sIf (dOrB (dB (dIsi "tuple" (dV 1))) (dB (dIsi "list" (dV 1)))) (sSq (sIf (dOrB (dB (d2 gNe (dIsi "tuple" (dV 0)) (dIsi "tuple" (dV 1)))) (dB (d2 gNe (dIsi "list" (dV 0)) (dIsi "list" (dV 1))))) (sRet (dK (.bool false))) sNx) sNo) sNx) (sSq (sIf (dOrB (dB (d2 gNe (dIsi "bool" (dV 0)) (dIsi "bool" (dV 1)))) (dB (d2 gNe (dIsi "str" (dV 0)) (dIsi "str" (dV 1))))) (sRet (dK (.bool false))) sNx) (sRet (dAnd (d2 gEq (dIsi "int" (dV 0)) (dIsi "int" (dV 1))) (d2 gEq (dV 0) (dV 1)))))))
def FH__law_match : Fn := fnOf fsH__law_match N__law_match.length []
section
variable {P : Program} {w : World} {K : PySem.W.Frag} {mg : Str → Option Value} {base : Heap}
theorem okH__law_match (T : Tx K mg) : ∃ f fd, mg "_law_match" = some (.ref f) ∧ PySem.W.keepIn K (.ref f) = true ∧ Binds K fd [("told" : Str), ("due" : Str)] [] ∧ L2H.FnH P w K mg base (L2N.CX P w) 1 f fd [("told" : Str), ("due" : Str)] (spF K (Gr K) FH__law_match 2 []) := by
  obtain ⟨fd, F⟩ := T.d__law_match
  refine ⟨_, fd, T.m__law_match, F.kp, (F.bindsN fun _ _ _ _ _ _ us hl => match us, hl with | [_, _], _ => rfl), fn_okH F sc__law_match rfl fun cdv A outer s H E p hot hr => ?_⟩
  have nd := sc__law_match.nd
  have hu64 : (A.deeper (envOfC "_law_match" (defScope s__law_match) s.heap.objs.size (He.ga K "_law_match") cdv)).units + 64 < cLine := by have := hr.un; omega
  have hu65 : (A.deeper (envOfC "_law_match" (defScope s__law_match) s.heap.objs.size (He.ga K "_law_match") cdv)).units + 65 < cLine := by have := hr.un; omega
  have hu1 : (A.deeper (envOfC "_law_match" (defScope s__law_match) s.heap.objs.size (He.ga K "_law_match") cdv)).units + 1 < cLine := by have := hr.un; omega
  have hu200 : (A.deeper (envOfC "_law_match" (defScope s__law_match) s.heap.objs.size (He.ga K "_law_match") cdv)).units + 200 < cLine := by have := hr.un; omega
  exact (dss_cons (ds_if (DW.pt (dw_or (dt_isN (de_var 1 (pv 1))) (dw_or1 (dt_isN (de_var 0 (pv 0)))))) (dss_one (ds_ret (de_and (de_isN (de_var 0 (pv 0))) (de_one (de_isN (de_var 1 (pv 1))))))) dss_nil) (dss_cons (ds_if (DW.pt (dw_or (dt_val (de_isi "tuple" (de_var 1 (pv 1)) rfl T.b_isinstance rfl T.b_tuple boot_tuple)) (dw_or1 (dt_val (de_isi "list" (de_var 1 (pv 1)) rfl T.b_isinstance rfl T.b_list boot_list))))) (dss_cons (ds_if (DW.pt (dw_or (dt_cmp (op_neD hu64) rd_ne (de_isi "tuple" (de_var 0 (pv 0)) rfl T.b_isinstance rfl T.b_tuple boot_tuple) (de_isi "tuple" (de_var 1 (pv 1)) rfl T.b_isinstance rfl T.b_tuple boot_tuple) (nomark _)) (dw_or1 (dt_cmp (op_neD hu64) rd_ne (de_isi "list" (de_var 0 (pv 0)) rfl T.b_isinstance rfl T.b_list boot_list) (de_isi "list" (de_var 1 (pv 1)) rfl T.b_isinstance rfl T.b_list boot_list) (nomark _))))) (dss_one (ds_ret de_bl)) dss_nil) (dss_one ds_no)) dss_nil) (dss_cons (ds_if (DW.pt (dw_or (dt_cmp (op_neD hu64) rd_ne (de_isi "bool" (de_var 0 (pv 0)) rfl T.b_isinstance rfl T.b_bool boot_bool) (de_isi "bool" (de_var 1 (pv 1)) rfl T.b_isinstance rfl T.b_bool boot_bool) (nomark _)) (dw_or1 (dt_cmp (op_neD hu64) rd_ne (de_isi "str" (de_var 0 (pv 0)) rfl T.b_isinstance rfl T.b_str boot_str) (de_isi "str" (de_var 1 (pv 1)) rfl T.b_isinstance rfl T.b_str boot_str) (nomark _))))) (dss_one (ds_ret de_bl)) dss_nil) (dss_one (ds_ret (de_and (de_cmp (op_eqD hu64) rd_eq (de_isi "int" (de_var 0 (pv 0)) rfl T.b_isinstance rfl T.b_int boot_int) (de_isi "int" (de_var 1 (pv 1)) rfl T.b_isinstance rfl T.b_int boot_int) (nomark _)) (de_one (de_cmp (op_eqD hu64) rd_eq (de_var 0 (pv 0)) (de_var 1 (pv 1)) (nomark _)))))))))
end
/-! ### _law_no_number: a lambda is handed to it -/
open LamX
abbrev GrT (K : PySem.W.Frag) (Pt : Addr) (qn : Str) : Er := { Gr K with T := [(Pt, qn)] }
theorem _root_.MI.HasF.tab {P : Program} {w : World} {K : PySem.W.Frag} {mg : Str → Option Value} {base : Heap} {G : Er} {k : Nat} {x : Str} {ps : List Str} {mp : List Nat} {F : Fn} {t : List (Addr × Str)} (h : HasF P w K mg base G k x ps mp F) : HasF P w K mg base { G with T := t } k x ps mp F := ⟨h.ex⟩
def fsNN : Str → D → Fs := fun c p => sRet (d1Call FH__law_match [] 2 (m1Val (d1By "InvalidNumber") (mVal (dV 1) mNil)) c p)
def ctNN : Str → Option Bool := fun c => if c = "InvalidNumber" then some true else none
def frNN : Fs := sSq (sRet (dK (.bool false))) sNx
def dNN (fe2 fbody : Fe) : Fe := dLam2 fe2 fbody ctNN 2 fsNN (sRet (dK (.bool false))) 3
theorem scNN : FnScope N__law_no_number [("act" : Str), ("number" : Str)] (defScope s__law_no_number) := ⟨rfl, rfl, rfl, by decide +kernel, rfl, by decide +kernel, by decide +kernel⟩
theorem roomH_of' {k : Nat} {A : Around} (r : Room k A) : L2H.RoomH k A := ⟨r.dp, r.un⟩
theorem roomH_at {k : Nat} {A : Around} {h : Option Value} (r : L2H.RoomH k A) : L2H.RoomH k (A.mark h) := ⟨r.dp, r.un⟩
section
variable {X : Cx} {W W2 : WX} {c Pt : Addr} {k : Nat} {params : Arguments} {body e2 : Expr} {scope : Scope} {p lpos pos : Pos} {fe2 fbody : Fe} {qn : Str}
theorem de_nn (T : Tx X.K X.mg) (TB : TabB X.base X.mg c Pt) (hr : Room (k + 2) X.A)
    (hbody : ∀ (A : Around) (outer : List Env) (s : Shared) (H : Hp) (E : XK) (f c' : Addr), Room k (A.deeper (lamEnv X scope s.heap.objs.size f c')) → DE (lamY X A outer s H E scope f c') (Gr X.K) (fun cls d _ H => E cls d H) body fbody)
    (he2 : DE X (GrT X.K Pt qn) W2 e2 fe2)
    (L : LamS X.env.scope scope := by exact lamS_by (by first | rfl | decide +kernel)) (hbind : ∀ (q : Str) (cl : List (Str × Addr)) (pm cv ctv : Value), bindArgs (PySem.W.kla_fn "<lambda>" q params body scope cl pm cv ctv) ⟨[], []⟩ = pure [] := by intros; rfl)
    (hdef : defaultsOf params X.env = ([], []) := by rfl) (hc : X.calm = true := by rfl) (hst : X.stack = X.env :: X.outer := by rfl) (hff : X.env.frame = some X.env.locals := by rfl) (hcode : X.env.code = .ref c := by rfl) (hq : X.env.qual ++ "<lambda>" = qn := by rfl)
    (hg : Gl X "_law_no_number" := by rfl)
    (hs2 : starEach [e2] X.env = [(false, eval e2 X.env)] := by rfl) :
    DE X (GrT X.K Pt qn) W (.Call (.Name "_law_no_number" p) [.Lambda params body scope lpos, e2] [] pos) (dNN fe2 fbody) := by
  obtain ⟨fd, F⟩ := T.d__law_no_number
  have nd := scNN.nd
  obtain ⟨fm, fdm, hm1, hm2, hm3, hm4⟩ := okH__law_match (P := X.prog) (w := X.w) (base := X.base) T
  exact de_lam2 (G := GrT X.K Pt qn) (G0 := Gr X.K) (W2 := W2) (i := 2) (ct := ctNN) (fs := fsNN) (frest := sRet (dK (.bool false))) (Ng := N__law_no_number) (a := "act") (b := "number") (n := "e") (x := "InvalidNumber") (cc := .ref (He.ga X.K "InvalidNumber")) hc hst hff TB hcode (by rw [hq]; exact List.mem_singleton.mpr rfl) (fun p hp _ => by rw [List.mem_singleton.mp hp, hq]) L hdef hbind hr rfl hg T.m__law_no_number F
    (F.bindsN fun _ _ _ _ _ _ us hl => match us, hl with | [_, _], _ => rfl) scNN hbody he2 rfl rfl rfl T.e_InvalidNumber.gC rfl
    (fun c b h => by
      unfold ctNN at h
      split at h
      · rename_i e; subst e; cases h; exact T.x_InvalidNumber_InvalidNumber
      · cases h)
    (fun cdv s H a' oe cls d pn hr2 hz hv => by
      have hot : L2H.HotC ((cxOf (L2N.CX X.prog X.w) X.prog X.w X.K X.mg X.base N__law_no_number "_law_no_number" (defScope s__law_no_number) (He.ga X.K "_law_no_number") cdv X.A X.stack s H (fun _ _ _ => False)).suite a' ((a', oe) :: pn)) := by
        obtain ⟨vs, hd⟩ := hv
        exact ⟨(a', oe), ⟨rfl, vs, hd, hz.2.2 vs hd⟩, List.mem_cons_self⟩
      exact dx_ret (de1_callH hm4 ((roomH_at (roomH_of' hr2)).mono (by omega)) hot rfl hm1 hm2 hm3 (fun σ => L2N.passAt takesN0 σ)
        (dm1_cons (de1_by (fun te he => pe_by_InvalidNumber T.e_InvalidNumber hz hv he) (pv 2) rfl rfl) (dm_val (de_var 1 (pv 1)) dm_nil))))
    (fun cdv s H hr2 => dss_one (ds_ret de_bl))
    (Or.inl rfl) (hs2 := hs2)
end

/-! law -/
def fs_law : Fs := (sSq (sFor (sSeq (dTup (dCons (dK (.int 0)) (dCons (dK (.int 1)) dNil)))) (bName 1) (sSq (sAsgF (fCall F__law_churn [] 2 (mSlot 0 (mVal (dV 1) mNil))) 2) (sFor (sRng1 (dCons (dK (.int 5)) dNil)) (bName 3) (sSq (sAsg (dCall F__law_drawn [0] 1 (mSlot 2 mNil)) (bTup 2 (bCons (bName 4) (bCons (bName 5) bNil)))) (sSq (sIf (dNotB (dB (dCall F__law_rows_right [0] 3 (mSlot 2 (mVal (dV 4) (mVal (dV 5) mNil)))))) (sRet (dK (.bool false))) sNx) (sSq (sAsg (dTup (dCons (dC gLen (dCons (d2 gIx (dV 5) (dK (.int 0))) dNil)) (dCons (dC gLen (dCons (dV 5) dNil)) dNil))) (bTup 2 (bCons (bName 6) (bCons (bName 7) bNil)))) (sSq (sAsgF (fLst (dList (dCons (dNN (d2 gAdd (dV 6) (dK (.int 1))) (dCall F_is_tiled [] 3 (mVal (dV 5) (mVal (d2 gAdd (dV 6) (dK (.int 1))) (mVal (dK (.int 1)) mNil))))) dNil))) 8) (sSq (sApp 8 (dNN (dK (.int 0)) (dCall F_is_tiled [] 3 (mVal (dV 5) (mVal (dK (.int 1)) (mVal (dK (.int 0)) mNil)))))) (sSq (sApp 8 (dNN (dV 6) (dCall F_shifted_rows [] 3 (mVal (dV 5) (mVal (dV 6) (mVal (dK (.int 0)) mNil)))))) (sSq (sApp 8 (dNN (dV 7) (dCall F_shifted_rows [] 3 (mVal (dV 5) (mVal (dK (.int 0)) (mVal (dV 7) mNil)))))) (sSq (sApp 8 (dNN (dK (.bool true)) (dCall F_shifted_rows [] 3 (mVal (dV 5) (mVal (dK (.int 0)) (mVal (dK (.bool true)) mNil)))))) (sSq (sApp 8 (dOr (d2 gLt (dV 6) (dK (.int 3))) (dNN (d2 gSub (dV 6) (dK (.int 1))) (dCall F_is_tiled [] 3 (mVal (dV 5) (mVal (d2 gSub (dV 6) (dK (.int 1))) (mVal (dK (.int 1)) mNil))))))) (sSq (sApp 8 (dOr (d2 gLt (dV 7) (dK (.int 3))) (dNN (d2 gSub (dV 7) (dK (.int 1))) (dCall F_is_tiled [] 3 (mVal (dV 5) (mVal (dK (.int 1)) (mVal (d2 gSub (dV 7) (dK (.int 1))) mNil))))))) (sIf (bSee (dB (d2 gNe (dV 8) (d2 gMul (dLst (dList (dCons (dK (.bool true)) dNil))) (dK (.int 7)))))) (sRet (dK (.bool false))) sNx)))))))))))))) (sRet (dK (.bool true))))
theorem sc_law : FnScope N_law [("script" : Str)] (defScope s_law) := ⟨rfl, rfl, rfl, by decide +kernel, rfl, by decide +kernel, by decide +kernel⟩
abbrev qnL : Str := (envOfC "law" (defScope s_law) 0 0 .none).qual ++ "<lambda>"
section
variable {P : Program} {w : World} {K : PySem.W.Frag} {mg : Str → Option Value} {base : Heap}
theorem law_body (T : Tx K mg) {c Pt : Addr} (TB : LamX.TabB base mg c Pt) (A : Around) (outer : List Env) (s : Shared) (H : Hp) (E : XK) (hr : Room 7 (A.deeper (envOfC "law" (defScope s_law) s.heap.objs.size (He.ga K "law") (.ref c)))) :
    DSs (cxOf (L2N.CX P w) P w K mg base N_law "law" (defScope s_law) (He.ga K "law") (.ref c) A outer s H E) (GrT K Pt qnL) (fun cls d _ H => E cls d H) [] (defBody s_law) fs_law := by
  have nd := sc_law.nd
  have h__law_churn := (ok__law_churn (P := P) (w := w) (base := base) T).tab (t := [(Pt, qnL)])
  have h0__law_churn := ok__law_churn (P := P) (w := w) (base := base) T
  have h__law_drawn := (ok__law_drawn (P := P) (w := w) (base := base) T).tab (t := [(Pt, qnL)])
  have h0__law_drawn := ok__law_drawn (P := P) (w := w) (base := base) T
  have h__law_rows_right := (ok__law_rows_right (P := P) (w := w) (base := base) T).tab (t := [(Pt, qnL)])
  have h0__law_rows_right := ok__law_rows_right (P := P) (w := w) (base := base) T
  have h_is_tiled := (ok_is_tiled (P := P) (w := w) (base := base) T).tab (t := [(Pt, qnL)])
  have h0_is_tiled := ok_is_tiled (P := P) (w := w) (base := base) T
  have h_shifted_rows := (ok_shifted_rows (P := P) (w := w) (base := base) T).tab (t := [(Pt, qnL)])
  have h0_shifted_rows := ok_shifted_rows (P := P) (w := w) (base := base) T
  have hu64 := hr.units
  have hu65 : (A.deeper (envOfC "law" (defScope s_law) s.heap.objs.size (He.ga K "law") (.ref c))).units + 65 < cLine := by have := hr.un; omega
  have hu1 : (A.deeper (envOfC "law" (defScope s_law) s.heap.objs.size (He.ga K "law") (.ref c))).units + 1 < cLine := by have := hr.un; omega
  have hu200 : (A.deeper (envOfC "law" (defScope s_law) s.heap.objs.size (He.ga K "law") (.ref c))).units + 200 < cLine := by have := hr.un; omega
  have tk : L2N.Takes (cxOf (L2N.CX P w) P w K mg base N_law "law" (defScope s_law) (He.ga K "law") (.ref c) A outer s H E) (fun cls d _ H => E cls d H) := L2N.takes_of rfl rfl rfl rfl
  exact (dss_cons (ds_for (passes_of rfl) rfl (di_seq (de_tup (da_cons de_int (da_cons de_int da_nil)))) (pg_name (i := 1) nd rfl (by first | exact Or.inl rfl | exact Or.inr rfl)) (dg_name 1) (dss_cons (ds_asgF (dfF (h__law_churn.up (by decide)) hr tk (dm_slot 0 (pv 0) (dm_val (de_var 1 (pv 1)) dm_nil))) (pg_name (i := 2) nd rfl (by first | exact Or.inl rfl | exact Or.inr rfl)) (by decide)) (dss_one (ds_for (passes_of rfl) rfl (di_range1 rfl T.b_range (da_cons de_int da_nil)) (pg_name (i := 3) nd rfl (by first | exact Or.inl rfl | exact Or.inr rfl)) (dg_name 3) (dss_cons (ds_asg (deF (h__law_drawn.up (by decide)) hr tk (dm_slot 2 (pv 2) dm_nil)) (pg_tup rfl (pgs_cons (pg_name (i := 4) nd rfl (by first | exact Or.inl rfl | exact Or.inr rfl)) (pgs_cons (pg_name (i := 5) nd rfl (by first | exact Or.inl rfl | exact Or.inr rfl)) pgs_nil))) (dg_tup (dgs_cons (dg_name 4) (dgs_cons (dg_name 5) dgs_nil))) (by decide)) (dss_cons (ds_if (dt_not (dt_val (deF (h__law_rows_right.up (by decide)) hr tk (dm_slot 2 (pv 2) (dm_val (de_var 4 (pv 4)) (dm_val (de_var 5 (pv 5)) dm_nil)))))) (dss_one (ds_ret de_bl)) dss_nil) (dss_cons (ds_asg (de_tup (da_cons (de_callB call_len rc_len rfl T.b_len boot_len (da_cons (de_ix (de_var 5 (pv 5)) de_int (fun _ _ => rfl)) da_nil)) (da_cons (de_callB call_len rc_len rfl T.b_len boot_len (da_cons (de_var 5 (pv 5)) da_nil)) da_nil))) (pg_tup rfl (pgs_cons (pg_name (i := 6) nd rfl (by first | exact Or.inl rfl | exact Or.inr rfl)) (pgs_cons (pg_name (i := 7) nd rfl (by first | exact Or.inl rfl | exact Or.inr rfl)) pgs_nil))) (dg_tup (dgs_cons (dg_name 6) (dgs_cons (dg_name 7) dgs_nil))) (by decide)) (dss_cons (ds_asgF (DN.df (dn_lst (da_cons (de_nn T TB (W2 := fun _ _ _ _ => False) (k := 5) (hr.mono (by decide)) (fun _ _ _ _ _ _ _ hr => by exact (deF (h0_is_tiled.up (by decide)) hr takesY (dm_val (de_var 5 (pv 5)) (dm_val (de_op op_addD rd_add (de_var 6 (pv 6)) de_int) (dm_val de_int dm_nil))))) (de_op op_addD rd_add (de_var 6 (pv 6)) de_int)) da_nil))) (pg_name (i := 8) nd rfl (by first | exact Or.inl rfl | exact Or.inr rfl)) (by decide)) (dss_cons (ds_app 8 (pv 8) (de_nn T TB (W2 := fun _ _ _ _ => False) (k := 5) (hr.mono (by decide)) (fun _ _ _ _ _ _ _ hr => by exact (deF (h0_is_tiled.up (by decide)) hr takesY (dm_val (de_var 5 (pv 5)) (dm_val de_int (dm_val de_int dm_nil))))) de_int)) (dss_cons (ds_app 8 (pv 8) (de_nn T TB (W2 := fun _ _ _ _ => False) (k := 5) (hr.mono (by decide)) (fun _ _ _ _ _ _ _ hr => by exact (deF (h0_shifted_rows.up (by decide)) hr takesY (dm_val (de_var 5 (pv 5)) (dm_val (de_var 6 (pv 6)) (dm_val de_int dm_nil))))) (de_var 6 (pv 6)))) (dss_cons (ds_app 8 (pv 8) (de_nn T TB (W2 := fun _ _ _ _ => False) (k := 5) (hr.mono (by decide)) (fun _ _ _ _ _ _ _ hr => by exact (deF (h0_shifted_rows.up (by decide)) hr takesY (dm_val (de_var 5 (pv 5)) (dm_val de_int (dm_val (de_var 7 (pv 7)) dm_nil))))) (de_var 7 (pv 7)))) (dss_cons (ds_app 8 (pv 8) (de_nn T TB (W2 := fun _ _ _ _ => False) (k := 5) (hr.mono (by decide)) (fun _ _ _ _ _ _ _ hr => by exact (deF (h0_shifted_rows.up (by decide)) hr takesY (dm_val (de_var 5 (pv 5)) (dm_val de_int (dm_val de_bl dm_nil))))) de_bl)) (dss_cons (ds_app 8 (pv 8) (de_or (de_cmp op_lt rd_lt (de_var 6 (pv 6)) de_int (nomark _)) (de_one (de_nn T TB (W2 := fun _ _ _ _ => False) (k := 5) (hr.mono (by decide)) (fun _ _ _ _ _ _ _ hr => by exact (deF (h0_is_tiled.up (by decide)) hr takesY (dm_val (de_var 5 (pv 5)) (dm_val (de_op op_sub rd_sub (de_var 6 (pv 6)) de_int) (dm_val de_int dm_nil))))) (de_op op_sub rd_sub (de_var 6 (pv 6)) de_int))))) (dss_cons (ds_app 8 (pv 8) (de_or (de_cmp op_lt rd_lt (de_var 7 (pv 7)) de_int (nomark _)) (de_one (de_nn T TB (W2 := fun _ _ _ _ => False) (k := 5) (hr.mono (by decide)) (fun _ _ _ _ _ _ _ hr => by exact (deF (h0_is_tiled.up (by decide)) hr takesY (dm_val (de_var 5 (pv 5)) (dm_val de_int (dm_val (de_op op_sub rd_sub (de_var 7 (pv 7)) de_int) dm_nil))))) (de_op op_sub rd_sub (de_var 7 (pv 7)) de_int))))) (dss_one (ds_if (dt_see (dt_cmp (op_neD hu64) rd_ne (de_var 8 (pv 8)) (de_op op_mulD rd_mul (DN.de (dn_lst (da_cons de_bl da_nil))) de_int) (nomark _))) (dss_one (ds_ret de_bl)) dss_nil)))))))))))) (by decide)))) (by decide)) (dss_one (ds_ret de_bl)))
end
abbrev lvLaw : Nat := 7
end H86
set_option Elab.async false
set_option linter.all false
set_option maxRecDepth 100000
set_option maxHeartbeats 4000000
namespace H86
open PySem PySem.Spec PyProof.Rows L2 MI
theorem p_whole {z : Int} : F_is_whole [.val (.int z)] = .rt (.val (.bool true)) [] := by
  simp [F_is_whole, fnOf, fs_is_whole]
theorem p_wholeB {z : Bool} : F_is_whole [.val (.bool z)] = .rt (.val (.bool false)) [] := by
  simp [F_is_whole, fnOf, fs_is_whole]
theorem p_between {z a b : Int} : F_is_between [.val (.int z), .val (.int a), .val (.int b)] = .rt (.val (.bool (decide (a ≤ z ∧ z ≤ b)))) [] := by
  simp [F_is_between, fnOf, fs_is_between, call1 p_whole]
  by_cases h : a ≤ z <;> simp [h]
theorem p_betweenB {z : Bool} {a b : Int} : F_is_between [.val (.bool z), .val (.int a), .val (.int b)] = .rt (.val (.bool false)) [] := by
  simp [F_is_between, fnOf, fs_is_between, call1 p_wholeB]
theorem p_number {z a b : Int} (h : a ≤ z ∧ z ≤ b) : F_check_number [.val (.int z), .val (.int a), .val (.int b)] = .rt (.val .none) [] := by
  simp [F_check_number, fnOf, fs_check_number, call3 p_between, h]
theorem p_numberE {z a b : Int} (h : ¬ (a ≤ z ∧ z ≤ b)) : F_check_number [.val (.int z), .val (.int a), .val (.int b)] = .err "InvalidNumber" (.int z) [] := by
  simp [F_check_number, fnOf, fs_check_number, call3 p_between, h]
theorem p_numberB {z : Bool} {a b : Int} : F_check_number [.val (.bool z), .val (.int a), .val (.int b)] = .err "InvalidNumber" (.bool z) [] := by
  simp [F_check_number, fnOf, fs_check_number, call3 p_betweenB]
theorem p_divides {n m : Nat} (h : 0 < n) (h' : n < 1000) (hm : m < 1000) : F_divides [.val (nI n), .val (nI m)] = .rt (.val (.bool (decide (m % n = 0)))) [] := by
  have hd : m / n < 10000000000000000000 := Nat.lt_of_le_of_lt (Nat.div_le_self _ _) (by omega)
  simp [F_divides, fnOf, fs_divides, div_n h (by omega : n < 1073741824), mul_n hd]
  have := Nat.div_add_mod m n
  rw [Nat.mul_comm] at this
  omega
theorem p_wrapped {n m : Nat} (h : 0 < m) (h' : m < 1000) (hm' : n < 1000) : F_wrapped [.val (nI n), .val (nI m)] = .rt (.val (nI (n % m))) [] := by
  have hd : n / m < 10000000000000000000 := Nat.lt_of_le_of_lt (Nat.div_le_self _ _) (by omega)
  have := Nat.div_add_mod n m
  rw [Nat.mul_comm] at this
  have e : n - n / m * m = n % m := by omega
  simp [F_wrapped, fnOf, fs_wrapped, div_n h (by omega : m < 1073741824), mul_n hd, sub_n (by omega : n / m * m ≤ n), e]
structure Good (R : List (List Nat)) (W : Nat) : Prop where
  h1 : 1 ≤ R.length
  h2 : R.length ≤ 10
  w1 : 1 ≤ W
  w2 : W ≤ 16
  len : ∀ r ∈ R, r.length = W
  let_ : ∀ r ∈ R, ∀ c ∈ r, 97 ≤ c ∧ c ≤ 101
def cell (R : List (List Nat)) (i j : Nat) : Nat := chr (row R i) j
def laid (R : List (List Nat)) (W w h : Nat) : Bool := (List.range R.length).all fun i => (List.range W).all fun j => decide (cell R i j = cell R (i % h) (j % w))
section
variable {R : List (List Nat)} {W : Nat}
theorem Good.rowmem (g : Good R W) {i : Nat} (h : i < R.length) : row R i ∈ R := by
  unfold row; rw [List.getD_eq_getElem?_getD, List.getElem?_eq_getElem h]; exact List.getElem_mem h
theorem Good.rowlen (g : Good R W) {i : Nat} (h : i < R.length) : (row R i).length = W := g.len _ (g.rowmem h)
theorem Good.cellOk (g : Good R W) {i j : Nat} (h : i < R.length) (hj : j < W) : 97 ≤ cell R i j ∧ cell R i j ≤ 101 := by
  refine g.let_ _ (g.rowmem h) _ ?_
  unfold cell
  have hl : j < (row R i).length := by rw [g.rowlen h]; exact hj
  unfold chr
  rw [List.getD_eq_getElem?_getD, List.getElem?_eq_getElem hl]; exact List.getElem_mem hl
theorem ok1 {c : Nat} (h : c ≤ 101) : okT [c] := fun x hx => by rw [List.mem_singleton.mp hx]; omega
theorem map_get {α β : Type} {l : List α} {f : α → β} {i : Nat} {d : β} (h : (l.map f)[i]? = some d) : ∃ x, l[i]? = some x ∧ d = f x := by
  rw [List.getElem?_map] at h
  cases hx : l[i]? with
  | none => rw [hx] at h; cases h
  | some x => rw [hx] at h; cases h; exact ⟨x, rfl, rfl⟩
theorem row_of {i : Nat} {r : List Nat} (h : R[i]? = some r) : row R i = r := by unfold row; rw [List.getD_eq_getElem?_getD, h]; rfl
theorem chr_of {r : List Nat} {i c : Nat} (h : r[i]? = some c) : chr r i = c := by unfold chr; rw [List.getD_eq_getElem?_getD, h]; rfl
theorem p_tiled (g : Good R W) {w h : Nat} (hw : 0 < w) (hw' : w < 1000) (hh : 0 < h) (hh' : h < 1000) : F_tiled_by [.val (rD R), .val (nI w), .val (nI h)] = .rt (.val (.bool (laid R W w h))) [] := by
  have loop := fGo_all (b := bTup 2 (bCons (bName 3) (bCons (bName 4) bNil))) (rv := .val (.bool false)) (items := enumD (R.map sD))
    (F1 := sSq (sAsg (d2 gIx (dV 0) (dCall F_wrapped [] 2 (mVal (dV 3) (mVal (dV 2) mNil)))) (bName 5)) (sFor (sEnum (dCons (dV 4) dNil)) (bTup 2 (bCons (bName 6) (bCons (bName 7) bNil))) (sIf (dB (d2 gNe (dV 7) (d2 gIx (dV 5) (dCall F_wrapped [] 2 (mVal (dV 6) (mVal (dV 1) mNil)))))) (sRet (dK (.bool false))) sNx)))
    (S := fun env => ∃ x3 x4 x5 x6 x7, env = [some (.val (rD R)), some (.val (nI w)), some (.val (nI h)), x3, x4, x5, x6, x7])
    (P := fun i => (List.range W).all fun j => decide (cell R i j = cell R (i % h) (j % w)))
    (fun i d hd env ⟨x3, x4, x5, x6, x7, he⟩ => by
      obtain ⟨x, hx, rfl⟩ := enum_get hd
      obtain ⟨r, hr, rfl⟩ := map_get hx
      have hi : i < R.length := (List.getElem?_eq_some_iff.mp hr).1
      have er : row R i = r := row_of hr
      have hm : i % h < R.length := Nat.lt_of_le_of_lt (Nat.mod_le _ _) hi
      subst he
      refine ⟨_, by simp; rfl, ?_⟩
      have := g.h2
      simp [call2 (p_wrapped hh hh' (by omega : i < 1000)), ix_rD hm]
      have inner := fGo_all (b := bTup 2 (bCons (bName 6) (bCons (bName 7) bNil))) (rv := .val (.bool false)) (items := enumD (r.map fun c => sD [c]))
        (F1 := sIf (dB (d2 gNe (dV 7) (d2 gIx (dV 5) (dCall F_wrapped [] 2 (mVal (dV 6) (mVal (dV 1) mNil)))))) (sRet (dK (.bool false))) sNx)
        (S := fun env => ∃ x6 x7, env = [some (.val (rD R)), some (.val (nI w)), some (.val (nI h)), some (.val (nI i)), some (.val (sD r)), some (.val (sD (row R (i % h)))), x6, x7])
        (P := fun j => decide (cell R i j = cell R (i % h) (j % w)))
        (fun j d hd env ⟨x6, x7, he⟩ => by
          obtain ⟨x, hx, rfl⟩ := enum_get hd
          obtain ⟨c, hc, rfl⟩ := map_get hx
          have hj : j < r.length := (List.getElem?_eq_some_iff.mp hc).1
          have lr : r.length = W := g.len r (List.mem_of_getElem? hr)
          have ec : cell R i j = c := by unfold cell; rw [er]; exact chr_of hc
          have hjm : j % w < (row R (i % h)).length := by rw [g.rowlen hm, ← lr]; exact Nat.lt_of_le_of_lt (Nat.mod_le _ _) hj
          have w2 := g.w2
          have k1 : okT [c] := ok1 (by rw [← ec]; exact (g.cellOk hi (by omega)).2)
          have k2 : okT [chr (row R (i % h)) (j % w)] := ok1 (g.cellOk hm (by rw [← g.rowlen hm]; exact hjm)).2
          subst he
          refine ⟨_, by simp; rfl, ?_⟩
          simp [call2 (p_wrapped hw hw' (by omega : j < 1000)), ix_sD hjm (by rw [g.rowlen hm]; omega), ne_sD k1 k2]
          rw [← ec]
          by_cases q : cell R i j = cell R (i % h) (j % w)
          · exact .inl ⟨q, _, by rw [if_pos (show cell R i j = chr (row R (i % h)) (j % w) from q)], _, _, rfl⟩
          · exact .inr ⟨q, _, by rw [if_neg (show ¬ cell R i j = chr (row R (i % h)) (j % w) from q)]⟩) _ ⟨x6, x7, rfl⟩
      rw [enum_len, List.length_map, g.len r (List.mem_of_getElem? hr)] at inner
      rcases inner with ⟨a, e, h5, x6', x7', rfl⟩ | ⟨a, e, h5⟩
      · exact .inl ⟨by simpa using a, _, h5, _, _, _, _, _, rfl⟩
      · exact .inr ⟨by simpa using a, _, h5⟩)
    _ ⟨none, none, none, none, none, rfl⟩
  rw [enum_len, List.length_map] at loop
  simp only [F_tiled_by, fnOf, fs_tiled_by]
  rcases loop with ⟨a, e, h5, x3, x4, x5, x6, x7, rfl⟩ | ⟨a, e, h5⟩
  · have a' : laid R W w h = true := a
    simp [h5, a']
  · have a' : laid R W w h = false := a
    simp [h5, a']
theorem Good.row0 (g : Good R W) : (row R 0).length = W := g.rowlen (by have := g.h1; omega)
/-- rows[0] is there, its length is W -/
theorem Good.ix0 (g : Good R W) : gIx (rD R) (nI 0) = some (sD (row R 0)) := ix_rD (by have := g.h1; omega)
theorem Good.len0 (g : Good R W) : gLen [sD (row R 0)] = some (nI W) := by
  have := g.w2
  rw [len_sD (by rw [g.row0]; omega), g.row0]
theorem Good.ixc (g : Good R W) {i j : Nat} (hi : i < R.length) (hj : j < W) : gIx (sD (row R i)) (nI j) = some (sD [cell R i j]) := by
  have := g.w2
  exact ix_sD (by rw [g.rowlen hi]; exact hj) (by rw [g.rowlen hi]; omega)
theorem p_laid (g : Good R W) {w h : Nat} (hw : 0 < w) (hh : 0 < h) : F__law_is_laid [.val (rD R), .val (nI w), .val (nI h)] = .rt (.val (.bool (laid R W w h))) [] := by
  have h2 := g.h2
  have w2 := g.w2
  have loop := fGo_all (b := bName 3) (rv := .val (.bool false)) (items := (List.range R.length).map nI)
    (F1 := sFor (sRng1 (dCons (dC gLen (dCons (d2 gIx (dV 0) (dK (.int 0))) dNil)) dNil)) (bName 4) (sIf (dB (d2 gNe (d2 gIx (d2 gIx (dV 0) (dV 3)) (dV 4)) (d2 gIx (d2 gIx (dV 0) (d2 gMod (dC gInt (dCons (dV 3) dNil)) (dV 2))) (d2 gMod (dC gInt (dCons (dV 4) dNil)) (dV 1))))) (sRet (dK (.bool false))) sNx))
    (S := fun env => ∃ x3 x4, env = [some (.val (rD R)), some (.val (nI w)), some (.val (nI h)), x3, x4])
    (P := fun i => (List.range W).all fun j => decide (cell R i j = cell R (i % h) (j % w)))
    (fun i d hd env ⟨x3, x4, he⟩ => by
      obtain ⟨hi, rfl⟩ := rgn_get hd
      have hm : i % h < R.length := Nat.lt_of_le_of_lt (Nat.mod_le _ _) hi
      subst he
      refine ⟨_, by simp; rfl, ?_⟩
      simp [k0, g.ix0, g.len0, rng1_n (by omega : W < 1000000)]
      have inner := fGo_all (b := bName 4) (rv := .val (.bool false)) (items := (List.range W).map nI)
        (F1 := sIf (dB (d2 gNe (d2 gIx (d2 gIx (dV 0) (dV 3)) (dV 4)) (d2 gIx (d2 gIx (dV 0) (d2 gMod (dC gInt (dCons (dV 3) dNil)) (dV 2))) (d2 gMod (dC gInt (dCons (dV 4) dNil)) (dV 1))))) (sRet (dK (.bool false))) sNx)
        (S := fun env => ∃ x4, env = [some (.val (rD R)), some (.val (nI w)), some (.val (nI h)), some (.val (nI i)), x4])
        (P := fun j => decide (cell R i j = cell R (i % h) (j % w)))
        (fun j d hd env ⟨x4, he⟩ => by
          obtain ⟨hj, rfl⟩ := rgn_get hd
          have hjm : j % w < W := Nat.lt_of_le_of_lt (Nat.mod_le _ _) hj
          subst he
          refine ⟨_, by simp; rfl, ?_⟩
          simp [ix_rD hi, ix_rD hm, mod_n hh, mod_n hw, g.ixc hi hj, g.ixc hm hjm, ne_sD (ok1 (g.cellOk hi hj).2) (ok1 (g.cellOk hm hjm).2)]
          by_cases q : cell R i j = cell R (i % h) (j % w)
          · exact .inl ⟨q, _, by rw [if_pos q], _, rfl⟩
          · exact .inr ⟨q, _, by rw [if_neg q]⟩) _ ⟨x4, rfl⟩
      rw [List.length_map, List.length_range] at inner
      rcases inner with ⟨a, e, h5, x4', rfl⟩ | ⟨a, e, h5⟩
      · exact .inl ⟨by simpa using a, _, h5, _, _, rfl⟩
      · exact .inr ⟨by simpa using a, _, h5⟩)
    _ ⟨none, none, rfl⟩
  rw [List.length_map, List.length_range] at loop
  simp only [F__law_is_laid, fnOf, fs__law_is_laid]
  rcases loop with ⟨a, e, h5, x3, x4, rfl⟩ | ⟨a, e, h5⟩
  · have a' : laid R W w h = true := a
    simp [k0, rng1_n (by omega : R.length < 1000000), h5, a']
  · have a' : laid R W w h = false := a
    simp [k0, rng1_n (by omega : R.length < 1000000), h5, a']
end
end H86
set_option Elab.async false
set_option linter.all false
set_option maxRecDepth 100000
set_option maxHeartbeats 4000000
namespace H86
open PySem PySem.Spec PyProof.Rows L2 MI
theorem in_texts {r : List Nat} {ks : List (List Nat)} : gIn (sD r) (.tuple (ks.map sD)) = some (.bool (decide (r ∈ ks))) := by
  have h1 : (ks.map sD).all flatD = true := by simp [sD, flatD]
  have h2 : flatD (sD r) = true := rfl
  have h3 : ((ks.map sD).any fun z => PyData.eqv z (sD r)) = decide (r ∈ ks) := by
    induction ks with
    | nil => rfl
    | cons k ks ih =>
      rw [List.map_cons, List.any_cons, ih (by simp [sD, flatD]), eqv_sD]
      by_cases q : k = r
      · simp [q]
      · simp [q, show ¬ r = k from fun z => q z.symm]
  unfold gIn gInB
  simp only [h1, h2, h3, and_self, if_true, Option.map_some]
theorem lit_a : PyData.str ("a" : Str) = sD [97] := congrArg PyData.str (by decide +kernel)
theorem lit_b : PyData.str ("b" : Str) = sD [98] := congrArg PyData.str (by decide +kernel)
theorem lit_c : PyData.str ("c" : Str) = sD [99] := congrArg PyData.str (by decide +kernel)
theorem lit_d : PyData.str ("d" : Str) = sD [100] := congrArg PyData.str (by decide +kernel)
theorem lit_e : PyData.str ("e" : Str) = sD [101] := congrArg PyData.str (by decide +kernel)
section
variable {R : List (List Nat)} {W : Nat}
theorem p_yarn {c : Nat} (h : 97 ≤ c) (h' : c ≤ 101) : F_yarn_ok [.val (sD [c])] = .rt (.val (.bool true)) [] := by
  have hi : gIn (sD [c]) (.tuple [.str "a", .str "b", .str "c", .str "d", .str "e"]) = some (.bool true) := by
    rw [lit_a, lit_b, lit_c, lit_d, lit_e]
    rw [show [sD [97], sD [98], sD [99], sD [100], sD [101]] = [[97], [98], [99], [100], [101]].map sD from rfl, in_texts]
    congr 2
    simp
    omega
  simp [F_yarn_ok, fnOf, fs_yarn_ok, c_YARNS, e_dK, hi]
theorem all_bools : ∀ {bs : List Bool}, gAll [.list (bs.map .bool)] = some (.bool (bs.all id))
  | bs => by
    have : boolsO (bs.map PyData.bool) = some bs := by
      induction bs with
      | nil => rfl
      | cons b bs ih => rw [List.map_cons, boolsO, ih]; rfl
    show (boolsO (bs.map PyData.bool)).map _ = _
    rw [this]; rfl
/-- a comprehension over one plain slot v: the state around it stays -/
theorem lc1 {src : En → Out (List D)} {tt : En → Out Bool} {te : Fe} {v : Nat} {env e1 : En} {items : List D} {P : Nat → Bool} {r : Nat → D} (hs : src env = .ok items e1) (hl : items.length ≤ 1000000)
    (hv : e1[v]? = some none) (step : ∀ i d, items[i]? = some d → tt (e1.set v (some (.val d))) = .ok (P i) (e1.set v (some (.val d))) ∧ (P i = true → te (e1.set v (some (.val d))) = .ok (r i) (e1.set v (some (.val d))))) :
    dLc src (bName v) [v] tt te env = .ok (((List.range items.length).filter P).map r) e1 := by
  have hvl : v < e1.length := (List.getElem?_eq_some_iff.mp hv).1
  have hfree : ∀ x : Option SV, (x = none ∨ ∃ d, x = some (.val d)) → freeV [v] (e1.set v x) = true := fun x hx => by
    unfold freeV
    rw [List.all_cons, List.all_nil, Bool.and_true, List.getElem?_set_self hvl]
    rcases hx with rfl | ⟨d, rfl⟩ <;> rfl
  have hset : e1.set v none = e1 := by
    apply List.ext_getElem?
    intro j
    by_cases q : v = j
    · subst q; rw [List.getElem?_set_self hvl, hv]
    · rw [List.getElem?_set_ne q]
  have hw : ∀ x, wipeE (e1.set v x) [v] = e1 := fun x => by
    show (e1.set v x).set v none = e1
    rw [List.set_set, hset]
  obtain ⟨e, h1, x, hx, rfl⟩ := lcGo_map (b := bName v) (vs := [v]) (tt := tt) (te := te) (S := fun env => ∃ x, (x = none ∨ ∃ d, x = some (SV.val d)) ∧ env = e1.set v x) (items := items) (P := P) (r := r)
    (fun env ⟨x, hx, he⟩ => ⟨none, .inl rfl, by rw [he, hw, hset]⟩) (fun env ⟨x, hx, he⟩ => by rw [he]; exact hfree x hx)
    (fun i d hd env ⟨x, hx, he⟩ => by
      obtain ⟨h2, h3⟩ := step i d hd
      have eb : bName v d env = some (e1.set v (some (.val d))) := by rw [e_bName, he, List.set_set]
      refine ⟨_, _, eb, h2, ?_⟩
      cases hP : P i with
      | true => exact .inl ⟨rfl, _, h3 hP, _, .inr ⟨d, rfl⟩, rfl⟩
      | false => exact .inr ⟨rfl, _, .inr ⟨d, rfl⟩, rfl⟩) e1 [] ⟨none, .inl rfl, hset.symm⟩
  unfold dLc
  rw [hs, bnd_ok, if_pos ⟨by rw [← hset]; exact hfree none (.inl rfl), hl⟩]
  have hw1 : wipeE e1 [v] = e1 := by show e1.set v none = e1; exact hset
  rw [hw1, h1, bns_ok, List.nil_append]
  congr 1
  show (e1.set v x).set v ((e1[v]?).getD none) = e1
  rw [hv, List.set_set]
  exact hset
theorem p_row {r : List Nat} (h1 : 1 ≤ r.length) (h2 : r.length ≤ 16) (hc : ∀ c ∈ r, 97 ≤ c ∧ c ≤ 101) : F_row_ok [.val (sD r)] = .rt (.val (.bool true)) [] := by
  have hl := lc1 (src := sSeq (dV 0)) (tt := tY) (te := dCall F_yarn_ok [] 1 (mVal (dV 1) mNil)) (v := 1) (env := [some (.val (sD r)), none]) (e1 := [some (.val (sD r)), none]) (items := r.map fun c => sD [c]) (P := fun _ => true) (r := fun _ => .bool true)
    (by simp) (by rw [List.length_map]; omega) rfl (fun i d hd => by
      obtain ⟨c, hcr, rfl⟩ := map_get hd
      obtain ⟨a, b⟩ := hc c (List.mem_of_getElem? hcr)
      exact ⟨rfl, fun _ => by simp [call1 (p_yarn a b)]⟩)
  have e : ((List.range (r.map fun c => sD [c]).length).filter fun _ => true).map (fun _ => PyData.bool true) = (List.replicate r.length true).map PyData.bool := by
    rw [List.filter_eq_self.mpr (fun _ _ => rfl), List.map_const']; simp
  rw [e] at hl
  have a1 : (decide (1 ≤ r.length)) = true := decide_eq_true h1
  simp [F_row_ok, fnOf, fs_row_ok, c_MOST_WIDE, k1, k16, len_sD (by omega : r.length ≤ 1000000), h1, h2, hl, all_bools, -List.map_replicate]
theorem p_first (g : Good R W) : F_first_wrong [.val (rD R)] = .rt (.val .none) [] := by
  have h1 := g.h1
  have h2 := g.h2
  have loop := fGo_all (b := bTup 2 (bCons (bName 1) (bCons (bName 2) bNil))) (rv := .val .none) (items := enumD (R.map sD))
    (F1 := sIf (dOrB (dB (d2 gGe (dV 1) c_MOST_ROWS)) (dOrB (dNotB (dB (dCall F_row_ok [] 1 (mVal (dV 2) mNil)))) (dB (d2 gNe (dC gLen (dCons (dV 2) dNil)) (dC gLen (dCons (d2 gIx (dV 0) (dK (.int 0))) dNil)))))) (sRet (dV 1)) sNx)
    (S := fun env => ∃ x1 x2, env = [some (.val (rD R)), x1, x2])
    (P := fun i => true)
    (fun i d hd env ⟨x1, x2, he⟩ => by
      obtain ⟨x, hx, rfl⟩ := enum_get hd
      obtain ⟨r, hr, rfl⟩ := map_get hx
      have hi : i < R.length := (List.getElem?_eq_some_iff.mp hr).1
      have hm := List.mem_of_getElem? hr
      have lr := g.len r hm
      have w1 := g.w1
      have w2 := g.w2
      subst he
      refine ⟨_, by simp; rfl, .inl ⟨rfl, _, by
        simp [c_MOST_ROWS, k0, k10, show ¬ 10 ≤ i by omega, call1 (p_row (by omega) (by omega) (g.let_ r hm)), g.ix0, g.len0, len_sD (by omega : r.length ≤ 1000000), lr]; exact ⟨rfl, rfl⟩, _, _, rfl⟩⟩)
    _ ⟨none, none, rfl⟩
  rcases loop with ⟨a, e, h5, x1, x2, rfl⟩ | ⟨a, e, h5⟩
  · simp [F_first_wrong, fnOf, fs_first_wrong, k0, show R.length ≠ 0 by omega, h5]
  · simp at a
theorem p_check (g : Good R W) : F_check_rows [.val (rD R)] = .rt (.val .none) [] := by
  simp [F_check_rows, fnOf, fs_check_rows, call1 (p_first g)]
theorem p_colouring (g : Good R W) : F_is_colouring [.val (rD R)] = .rt (.val (.bool true)) [] := by
  have : F_colouring_ok [.val (rD R)] = .rt (.val (.bool true)) [] := by
    simp [F_colouring_ok, fnOf, fs_colouring_ok, call1 (p_first g)]
  simp [F_is_colouring, fnOf, fs_is_colouring, call1 this]
end
end H86
set_option Elab.async false
set_option linter.all false
set_option maxRecDepth 100000
set_option maxHeartbeats 4000000
namespace H86
open PySem PySem.Spec PyProof.Rows L2 MI
def parts (n : Nat) : List Nat := ((List.range n).filter fun i => decide (n % (1 + i) = 0)).map fun i => 1 + i
def fit (n : Nat) (q : Nat → Bool) : List Nat := ((List.range n).filter fun i => decide (n % (1 + i) = 0) && q (1 + i)).map fun i => 1 + i
theorem parts_fit {n : Nat} {q : Nat → Bool} : (parts n).filter q = fit n q := by
  unfold parts fit
  rw [List.filter_map, List.filter_filter]
  congr 2
  funext i
  simp [Function.comp, Bool.and_comm]
theorem fit_ne {n : Nat} {q : Nat → Bool} (h : 1 ≤ n) (hq : q n = true) : n ∈ fit n q := by
  unfold fit
  rw [List.mem_map]
  refine ⟨n - 1, ?_, by omega⟩
  rw [List.mem_filter, List.mem_range]
  refine ⟨by omega, ?_⟩
  rw [show 1 + (n - 1) = n by omega, hq, Nat.mod_self]; rfl
theorem mem_fit {n k : Nat} {q : Nat → Bool} : k ∈ fit n q ↔ 1 ≤ k ∧ k ≤ n ∧ n % k = 0 ∧ q k = true := by
  unfold fit
  rw [List.mem_map]
  constructor
  · rintro ⟨i, hi, rfl⟩
    rw [List.mem_filter, List.mem_range, Bool.and_eq_true, decide_eq_true_eq] at hi
    exact ⟨by omega, by omega, hi.2.1, hi.2.2⟩
  · rintro ⟨h1, h2, h3, h4⟩
    refine ⟨k - 1, ?_, by omega⟩
    rw [List.mem_filter, List.mem_range, Bool.and_eq_true, decide_eq_true_eq, show 1 + (k - 1) = k by omega]
    exact ⟨by omega, h3, h4⟩
theorem p_parts {n : Nat} (h : n < 1000) : F__law_parts [.val (nI n)] = .rt (.val (.list ((parts n).map nI))) [] := by
  have hl := lc1 (src := sRng2 (dCons (dK (.int 1)) (dCons (d2 gAdd (dV 0) (dK (.int 1))) dNil))) (tt := dB (d2 gEq (d2 gMod (dC gInt (dCons (dV 0) dNil)) (dV 1)) (dK (.int 0)))) (te := dV 1) (v := 1) (env := [some (.val (nI n)), none]) (e1 := [some (.val (nI n)), none])
    (items := (List.range (n + 1 - 1)).map fun i => nI (1 + i)) (P := fun i => decide (n % (1 + i) = 0)) (r := fun i => nI (1 + i))
    (by simp [k1, rng2_n (by omega : 1 < 1000000) (by omega : n + 1 < 1000000)]) (by simp; omega) rfl (fun i d hd => by
      obtain ⟨hi, rfl⟩ := rgn_get hd
      exact ⟨by simp [k0, mod_n (by omega : 0 < 1 + i)], fun _ => by simp⟩)
  have e : ((List.range ((List.range (n + 1 - 1)).map fun i => nI (1 + i)).length).filter fun i => decide (n % (1 + i) = 0)).map (fun i => nI (1 + i)) = (parts n).map nI := by
    rw [List.length_map, List.length_range, Nat.add_sub_cancel]
    unfold parts
    rw [List.map_map]; rfl
  rw [e] at hl
  simp [F__law_parts, fnOf, fs__law_parts, hl]
theorem e_dSee {f : Fe} {env : En} {d : D} {e : En} (h : f (seeE env) = .ok d e) (hs : scalD d = true) : dSee f env = .ok d env := by
  unfold dSee; rw [h]; simp only [hs, if_true]
theorem ix_l0 {l : List Nat} {k : Nat} (h : k ∈ l) : gIx (.list (l.map nI)) (nI 0) = some (nI (l.getD 0 0)) := by
  show atI (l.map nI) ((0 : Nat) : Int) = _
  cases l with
  | nil => cases h
  | cons x xs => rw [MI.atI_nat (by simp)]; rfl
section
variable {R : List (List Nat)} {W : Nat}
def lw (R : List (List Nat)) (W : Nat) : Nat := (fit W fun w => laid R W w R.length).getD 0 0
def lh (R : List (List Nat)) (W : Nat) : Nat := (fit R.length fun h => laid R W W h).getD 0 0
theorem laid_full (g : Good R W) : laid R W W R.length = true := by
  unfold laid
  rw [List.all_eq_true]
  intro i hi
  rw [List.all_eq_true]
  intro j hj
  rw [List.mem_range] at hi hj
  rw [Nat.mod_eq_of_lt hi, Nat.mod_eq_of_lt hj]; simp
theorem lw_mem (g : Good R W) : W ∈ fit W fun w => laid R W w R.length := fit_ne g.w1 (laid_full g)
theorem lh_mem (g : Good R W) : R.length ∈ fit R.length fun h => laid R W W h := fit_ne g.h1 (laid_full g)
theorem p_lw (g : Good R W) : F_least_width [.val (rD R)] = .rt (.val (nI (lw R W))) [] := by
  have w1 := g.w1
  have w2 := g.w2
  have h1 := g.h1
  have h2 := g.h2
  have hl := lc1 (src := sRng2 (dCons (dK (.int 1)) (dCons (d2 gAdd (dV 1) (dK (.int 1))) dNil))) (tt := dAndB (dB (dCall F_divides [] 2 (mVal (dV 3) (mVal (dV 1) mNil)))) (dB (dCall F_tiled_by [] 3 (mVal (dV 0) (mVal (dV 3) (mVal (dC gLen (dCons (dV 0) dNil)) mNil)))))) (te := dV 3) (v := 3)
    (env := [some (.val (rD R)), some (.val (nI W)), none, none]) (e1 := [some (.val (rD R)), some (.val (nI W)), none, none])
    (items := (List.range (W + 1 - 1)).map fun i => nI (1 + i)) (P := fun i => decide (W % (1 + i) = 0) && laid R W (1 + i) R.length) (r := fun i => nI (1 + i))
    (by simp [k1, rng2_n (by omega : 1 < 1000000) (by omega : W + 1 < 1000000)]) (by simp; omega) rfl (fun i d hd => by
      obtain ⟨hi, rfl⟩ := rgn_get hd
      refine ⟨?_, fun _ => by simp⟩
      by_cases q : W % (1 + i) = 0
      · simp [call2 (p_divides (by omega : 0 < 1 + i) (by omega) (by omega : W < 1000)), call3 (p_tiled g (by omega : 0 < 1 + i) (by omega) (by omega : 0 < R.length) (by omega)), q]
      · simp [call2 (p_divides (by omega : 0 < 1 + i) (by omega) (by omega : W < 1000)), q])
  have e : ((List.range ((List.range (W + 1 - 1)).map fun i => nI (1 + i)).length).filter fun i => decide (W % (1 + i) = 0) && laid R W (1 + i) R.length).map (fun i => nI (1 + i)) = (fit W fun w => laid R W w R.length).map nI := by
    rw [List.length_map, List.length_range, Nat.add_sub_cancel]
    unfold fit
    rw [List.map_map]; rfl
  rw [e] at hl
  have hx := ix_l0 (lw_mem g)
  have hsee : dSee (d2 gIx (dV 2) (dK (.int 0))) [some (.val (rD R)), some (.val (nI W)), some (.lst ((fit W fun w => laid R W w R.length).map nI)), none] = .ok (nI (lw R W)) [some (.val (rD R)), some (.val (nI W)), some (.lst ((fit W fun w => laid R W w R.length).map nI)), none] :=
    e_dSee (e := seeE [some (.val (rD R)), some (.val (nI W)), some (.lst ((fit W fun w => laid R W w R.length).map nI)), none]) (by simp [seeE, k0, hx]; rfl) rfl
  simp [F_least_width, fnOf, fs_least_width, k0, g.ix0, g.len0, hl, hsee]
theorem p_lh (g : Good R W) : F_least_height [.val (rD R)] = .rt (.val (nI (lh R W))) [] := by
  have w1 := g.w1
  have w2 := g.w2
  have h1 := g.h1
  have h2 := g.h2
  have hl := lc1 (src := sRng2 (dCons (dK (.int 1)) (dCons (d2 gAdd (dV 1) (dK (.int 1))) dNil))) (tt := dAndB (dB (dCall F_divides [] 2 (mVal (dV 3) (mVal (dV 1) mNil)))) (dB (dCall F_tiled_by [] 3 (mVal (dV 0) (mVal (dC gLen (dCons (d2 gIx (dV 0) (dK (.int 0))) dNil)) (mVal (dV 3) mNil)))))) (te := dV 3) (v := 3)
    (env := [some (.val (rD R)), some (.val (nI R.length)), none, none]) (e1 := [some (.val (rD R)), some (.val (nI R.length)), none, none])
    (items := (List.range (R.length + 1 - 1)).map fun i => nI (1 + i)) (P := fun i => decide (R.length % (1 + i) = 0) && laid R W W (1 + i)) (r := fun i => nI (1 + i))
    (by simp [k1, rng2_n (by omega : 1 < 1000000) (by omega : R.length + 1 < 1000000)]) (by simp; omega) rfl (fun i d hd => by
      obtain ⟨hi, rfl⟩ := rgn_get hd
      refine ⟨?_, fun _ => by simp⟩
      by_cases q : R.length % (1 + i) = 0
      · simp [call2 (p_divides (by omega : 0 < 1 + i) (by omega) (by omega : R.length < 1000)), k0, g.ix0, g.len0, call3 (p_tiled g (by omega : 0 < W) (by omega) (by omega : 0 < 1 + i) (by omega)), q]
      · simp [call2 (p_divides (by omega : 0 < 1 + i) (by omega) (by omega : R.length < 1000)), q])
  have e : ((List.range ((List.range (R.length + 1 - 1)).map fun i => nI (1 + i)).length).filter fun i => decide (R.length % (1 + i) = 0) && laid R W W (1 + i)).map (fun i => nI (1 + i)) = (fit R.length fun h => laid R W W h).map nI := by
    rw [List.length_map, List.length_range, Nat.add_sub_cancel]
    unfold fit
    rw [List.map_map]; rfl
  rw [e] at hl
  have hx := ix_l0 (lh_mem g)
  have hsee : dSee (d2 gIx (dV 2) (dK (.int 0))) [some (.val (rD R)), some (.val (nI R.length)), some (.lst ((fit R.length fun h => laid R W W h).map nI)), none] = .ok (nI (lh R W)) [some (.val (rD R)), some (.val (nI R.length)), some (.lst ((fit R.length fun h => laid R W W h).map nI)), none] :=
    e_dSee (e := seeE [some (.val (rD R)), some (.val (nI R.length)), some (.lst ((fit R.length fun h => laid R W W h).map nI)), none]) (by simp [seeE, k0, hx]; rfl) rfl
  simp [F_least_height, fnOf, fs_least_height, hl, hsee]
end
end H86
set_option Elab.async false
set_option linter.all false
set_option maxRecDepth 100000
set_option maxHeartbeats 4000000
namespace H86
open PySem PySem.Spec PyProof.Rows L2 MI
theorem cut_to {α : Type} {l : List α} {k : Nat} : (l.drop (HT.sIx l.length 0 none)).take (HT.sIx l.length l.length (some (k : Int)) - HT.sIx l.length 0 none) = l.take k := by
  rw [HT.sIx_none, HT.sIx_nat, List.drop_zero, Nat.sub_zero]
  rcases Nat.le_total k l.length with h | h
  · rw [Nat.min_eq_left h]
  · rw [Nat.min_eq_right h, List.take_length, List.take_of_length_le h]
theorem cut_from {α : Type} {l : List α} {k : Nat} : (l.drop (HT.sIx l.length 0 (some (k : Int)))).take (HT.sIx l.length l.length none - HT.sIx l.length 0 (some (k : Int))) = l.drop k := by
  rw [HT.sIx_none, HT.sIx_nat]
  rcases Nat.le_total k l.length with h | h
  · rw [Nat.min_eq_left h, List.take_of_length_le (by rw [List.length_drop]; omega)]
  · rw [Nat.min_eq_right h, Nat.sub_self, List.take_zero, List.drop_eq_nil_of_le h]
theorem sl_to_l {ds : List D} {k : Nat} : gSl (.list ds) none (some (k : Int)) = some (.list (ds.take k)) := by
  show some (PyData.list (MI.cutD ds none (some (k : Int)))) = _
  unfold MI.cutD; rw [cut_to]
theorem sl_from_l {ds : List D} {k : Nat} : gSl (.list ds) (some (k : Int)) none = some (.list (ds.drop k)) := by
  show some (PyData.list (MI.cutD ds (some (k : Int)) none)) = _
  unfold MI.cutD; rw [cut_from]
theorem sl_to_t {R : List (List Nat)} {k : Nat} : gSl (rD R) none (some (k : Int)) = some (rD (R.take k)) := by
  show some (PyData.tuple (MI.cutD (R.map sD) none (some (k : Int)))) = _
  unfold MI.cutD; rw [cut_to, ← List.map_take]; rfl
theorem sl_from_t {R : List (List Nat)} {k : Nat} : gSl (rD R) (some (k : Int)) none = some (rD (R.drop k)) := by
  show some (PyData.tuple (MI.cutD (R.map sD) (some (k : Int)) none)) = _
  unfold MI.cutD; rw [cut_from, ← List.map_drop]; rfl
theorem sl_to_s {r : List Nat} {k : Nat} (h : r.length ≤ 1000000) : gSl (sD r) none (some (k : Int)) = some (sD (r.take k)) := by
  show (if small r.toArray.size = true then some (PyData.str (cutS ⟨r.toArray⟩ none (some (k : Int)))) else none) = _
  rw [List.size_toArray, if_pos (sm_nat h)]
  unfold cutS Str.length
  simp only [List.size_toArray]
  rw [cut_to]; rfl
theorem sl_from_s {r : List Nat} {k : Nat} (h : r.length ≤ 1000000) : gSl (sD r) (some (k : Int)) none = some (sD (r.drop k)) := by
  show (if small r.toArray.size = true then some (PyData.str (cutS ⟨r.toArray⟩ (some (k : Int)) none)) else none) = _
  rw [List.size_toArray, if_pos (sm_nat h)]
  unfold cutS Str.length
  simp only [List.size_toArray]
  rw [cut_from]; rfl
section
variable {R : List (List Nat)} {W : Nat}
def tile (R : List (List Nat)) (W : Nat) : List (List Nat) := (R.take (lh R W)).map fun r => r.take (lw R W)
theorem tile_items : ((List.range ((R.take (lh R W)).map sD).length).filter fun _ => true).map (fun i => sD ((row R i).take (lw R W))) = (tile R W).map sD := by
  rw [List.filter_eq_self.mpr (fun _ _ => rfl), List.length_map]
  unfold tile
  apply List.ext_getElem?
  intro i
  rw [List.getElem?_map, List.getElem?_map, List.getElem?_map, List.getElem?_take]
  by_cases q : i < (R.take (lh R W)).length
  · have q1 : i < lh R W := by rw [List.length_take] at q; omega
    have q2 : i < R.length := by rw [List.length_take] at q; omega
    rw [List.getElem?_range q, if_pos q1, List.getElem?_eq_getElem q2]
    simp [row_of (List.getElem?_eq_getElem q2)]
  · rw [List.getElem?_eq_none (by rw [List.length_range]; omega)]
    rw [List.length_take] at q
    by_cases q1 : i < lh R W
    · rw [if_pos q1, List.getElem?_eq_none (by omega)]; rfl
    · rw [if_neg q1]; rfl
theorem p_tile_by (g : Good R W) : F_tile_by [.val (rD R)] = .rt (.val (rD (tile R W))) [] := by
  have w2 := g.w2
  have h2 := g.h2
  have hl := lc1 (src := sSeq (dSl (dV 0) dNone (dPart (dCall F_least_height [] 1 (mVal (dV 0) mNil))))) (tt := tY) (te := dSl (dV 2) dNone (dPart (dV 1))) (v := 2) (env := [some (.val (rD R)), some (.val (nI (lw R W))), none]) (e1 := [some (.val (rD R)), some (.val (nI (lw R W))), none])
    (items := (R.take (lh R W)).map sD) (P := fun _ => true) (r := fun i => sD ((row R i).take (lw R W)))
    (by simp [call1 (p_lh g), sl_to_t]) (by simp; omega) rfl (fun i d hd => by
      obtain ⟨r, hr, rfl⟩ := map_get hd
      have hr' : R[i]? = some r := by
        rw [List.getElem?_take] at hr
        split at hr
        · exact hr
        · cases hr
      have lr := g.len r (List.mem_of_getElem? hr')
      exact ⟨rfl, fun _ => by simp [sl_to_s (by omega : r.length ≤ 1000000), row_of hr']⟩)
  have e : ((List.range ((R.take (lh R W)).map sD).length).filter fun _ => true).map (fun i => sD ((row R i).take (lw R W))) = (tile R W).map sD := by
    rw [List.filter_eq_self.mpr (fun _ _ => rfl), List.length_map]
    unfold tile
    apply List.ext_getElem?
    intro i
    rw [List.getElem?_map, List.getElem?_map, List.getElem?_map, List.getElem?_take]
    by_cases q : i < (R.take (lh R W)).length
    · have q1 : i < lh R W := by rw [List.length_take] at q; omega
      have q2 : i < R.length := by rw [List.length_take] at q; omega
      rw [List.getElem?_range q, if_pos q1, List.getElem?_eq_getElem q2]
      simp [row_of (List.getElem?_eq_getElem q2)]
    · rw [List.getElem?_eq_none (by rw [List.length_range]; omega)]
      rw [List.length_take] at q
      by_cases q1 : i < lh R W
      · rw [if_pos q1, List.getElem?_eq_none (by omega)]; rfl
      · rw [if_neg q1]; rfl
  rw [e] at hl
  simp [F_tile_by, fnOf, fs_tile_by, call1 (p_lw g), hl]; rfl
theorem range_getD {l : List Nat} : (List.range l.length).map (fun i => l.getD i 0) = l := by
  apply List.ext_getElem?
  intro i
  rw [List.getElem?_map]
  by_cases q : i < l.length
  · rw [List.getElem?_range q, List.getElem?_eq_getElem q]
    simp [List.getD_eq_getElem?_getD, List.getElem?_eq_getElem q]
  · rw [List.getElem?_eq_none (by rw [List.length_range]; omega), List.getElem?_eq_none (by omega)]; rfl
theorem filter_idx {l : List Nat} {q : Nat → Bool} : ((List.range l.length).filter fun i => q (l.getD i 0)).map (fun i => nI (l.getD i 0)) = (l.filter q).map nI := by
  conv => rhs; rw [← range_getD (l := l)]
  rw [List.filter_map, List.map_map]; rfl
theorem parts_mem {n k : Nat} (h : k ∈ parts n) : 1 ≤ k ∧ k ≤ n ∧ n % k = 0 := by
  have : k ∈ (parts n).filter fun _ => true := List.mem_filter.mpr ⟨h, rfl⟩
  rw [parts_fit, mem_fit] at this
  exact ⟨this.1, this.2.1, this.2.2.1⟩
theorem parts_len {n : Nat} : (parts n).length ≤ n := by
  unfold parts
  rw [List.length_map]
  exact Nat.le_trans (List.length_filter_le _ _) (by rw [List.length_range]; exact Nat.le_refl _)
theorem getD_mem {l : List Nat} {i : Nat} {x : Nat} (h : l[i]? = some x) : l.getD i 0 = x := by rw [List.getD_eq_getElem?_getD, h]; rfl
theorem p_law_tile (g : Good R W) : F__law_tile_of [.val (rD R)] = .rt (.val (rD (tile R W))) [] := by
  have w1 := g.w1
  have w2 := g.w2
  have h1 := g.h1
  have h2 := g.h2
  have l1 := lc1 (src := sSeq (dCall F__law_parts [] 1 (mVal (dC gLen (dCons (d2 gIx (dV 0) (dK (.int 0))) dNil)) mNil))) (tt := dB (dCall F__law_is_laid [] 3 (mVal (dV 0) (mVal (dV 3) (mVal (dC gLen (dCons (dV 0) dNil)) mNil))))) (te := dV 3) (v := 3)
    (env := [some (.val (rD R)), none, none, none, none]) (e1 := [some (.val (rD R)), none, none, none, none]) (items := (parts W).map nI) (P := fun i => laid R W ((parts W).getD i 0) R.length) (r := fun i => nI ((parts W).getD i 0))
    (by simp [k0, g.ix0, g.len0, call1 (p_parts (by omega : W < 1000))]) (by have := parts_len (n := W); rw [List.length_map]; omega) rfl (fun i d hd => by
      obtain ⟨x, hx, rfl⟩ := map_get hd
      have hp := parts_mem (List.mem_of_getElem? hx)
      exact ⟨by simp [call3 (p_laid g (by omega : 0 < x) (by omega : 0 < R.length)), getD_mem hx, -List.getD_eq_getElem?_getD], fun _ => by simp [getD_mem hx, -List.getD_eq_getElem?_getD]⟩)
  rw [List.length_map, filter_idx (q := fun w => laid R W w R.length), parts_fit] at l1
  have l2 := lc1 (src := sSeq (dCall F__law_parts [] 1 (mVal (dC gLen (dCons (dV 0) dNil)) mNil))) (tt := dB (dCall F__law_is_laid [] 3 (mVal (dV 0) (mVal (dC gLen (dCons (d2 gIx (dV 0) (dK (.int 0))) dNil)) (mVal (dV 3) mNil))))) (te := dV 3) (v := 3)
    (env := [some (.val (rD R)), some (.val (nI (lw R W))), none, none, none]) (e1 := [some (.val (rD R)), some (.val (nI (lw R W))), none, none, none]) (items := (parts R.length).map nI) (P := fun i => laid R W W ((parts R.length).getD i 0)) (r := fun i => nI ((parts R.length).getD i 0))
    (by simp [call1 (p_parts (by omega : R.length < 1000))]) (by have := parts_len (n := R.length); rw [List.length_map]; omega) rfl (fun i d hd => by
      obtain ⟨x, hx, rfl⟩ := map_get hd
      have hp := parts_mem (List.mem_of_getElem? hx)
      exact ⟨by simp [k0, g.ix0, g.len0, call3 (p_laid g (by omega : 0 < W) (by omega : 0 < x)), getD_mem hx, -List.getD_eq_getElem?_getD], fun _ => by simp [getD_mem hx, -List.getD_eq_getElem?_getD]⟩)
  rw [List.length_map, filter_idx (q := fun h => laid R W W h), parts_fit] at l2
  have l3 := lc1 (src := sSeq (dSl (dV 0) dNone (dPart (dV 2)))) (tt := tY) (te := dSl (dV 4) dNone (dPart (dV 1))) (v := 4) (env := [some (.val (rD R)), some (.val (nI (lw R W))), some (.val (nI (lh R W))), none, none]) (e1 := [some (.val (rD R)), some (.val (nI (lw R W))), some (.val (nI (lh R W))), none, none])
    (items := (R.take (lh R W)).map sD) (P := fun _ => true) (r := fun i => sD ((row R i).take (lw R W)))
    (by simp [sl_to_t]) (by simp; omega) rfl (fun i d hd => by
      obtain ⟨r, hr, rfl⟩ := map_get hd
      have hr' : R[i]? = some r := by
        rw [List.getElem?_take] at hr
        split at hr
        · exact hr
        · cases hr
      have lr := g.len r (List.mem_of_getElem? hr')
      exact ⟨rfl, fun _ => by simp [sl_to_s (by omega : r.length ≤ 1000000), row_of hr']⟩)
  have e := tile_items (R := R) (W := W)
  rw [e] at l3
  have x1 := ix_l0 (lw_mem g)
  have x2 := ix_l0 (lh_mem g)
  have x1' : gIx (.list ((fit W fun w => laid R W w R.length).map nI)) (nI 0) = some (nI (lw R W)) := x1
  have x2' : gIx (.list ((fit R.length fun h => laid R W W h).map nI)) (nI 0) = some (nI (lh R W)) := x2
  simp [F__law_tile_of, fnOf, fs__law_tile_of, l1, l2, l3, k0, x1', x2']; rfl
end
end H86
set_option Elab.async false
set_option linter.all false
set_option maxRecDepth 100000
set_option maxHeartbeats 4000000
namespace H86
open PySem PySem.Spec PyProof.Rows L2 MI
section
variable {R : List (List Nat)} {W : Nat}
theorem p_tile_of (g : Good R W) : F_tile_of [.val (rD R)] = .rt (.val (rD (tile R W))) [] := by
  simp [F_tile_of, fnOf, fs_tile_of, call1 (p_check g), call1 (p_tile_by g)]
theorem p_betweenN {z a b : Nat} : F_is_between [.val (nI z), .val (nI a), .val (nI b)] = .rt (.val (.bool (decide (a ≤ z ∧ z ≤ b)))) [] := by
  have := p_between (z := (z : Int)) (a := (a : Int)) (b := (b : Int))
  have e : (decide ((a : Int) ≤ (z : Int) ∧ (z : Int) ≤ (b : Int))) = decide (a ≤ z ∧ z ≤ b) := decide_eq_decide.mpr (by omega)
  rw [e] at this
  exact this
theorem p_divisor {n m : Nat} (h : 1 ≤ n) (h2 : n ≤ m) (hm : m < 1000) (hd : m % n = 0) : F_check_divisor [.val (nI n), .val (nI m)] = .rt (.val .none) [] := by
  simp [F_check_divisor, fnOf, fs_check_divisor, k1, call3 p_betweenN, h, h2, call2 (p_divides (by omega : 0 < n) (by omega) hm), hd]
theorem p_divisorE {n m : Nat} (hm : m < 1000) (hn : n < 1000) (h : ¬ (1 ≤ n ∧ n ≤ m ∧ m % n = 0)) : F_check_divisor [.val (nI n), .val (nI m)] = .err "InvalidNumber" (nI n) [] := by
  by_cases q : 1 ≤ n ∧ n ≤ m
  · simp [F_check_divisor, fnOf, fs_check_divisor, k1, call3 p_betweenN, q.1, q.2, call2 (p_divides (by omega : 0 < n) hn hm), show m % n ≠ 0 from fun z => h ⟨q.1, q.2, z⟩]
  · have : decide (1 ≤ n ∧ n ≤ m) = false := decide_eq_false q
    simp only [F_check_divisor, fnOf, fs_check_divisor]
    simp [k1, call3 p_betweenN, this, -Bool.decide_and]
theorem p_is_tiled (g : Good R W) {w h : Nat} (hw : 1 ≤ w) (hw2 : w ≤ W) (hw3 : W % w = 0) (hh : 1 ≤ h) (hh2 : h ≤ R.length) (hh3 : R.length % h = 0) : F_is_tiled [.val (rD R), .val (nI w), .val (nI h)] = .rt (.val (.bool (laid R W w h))) [] := by
  have w2 := g.w2
  have h2 := g.h2
  simp [F_is_tiled, fnOf, fs_is_tiled, call1 (p_check g), k0, g.ix0, g.len0, call2 (p_divisor hw hw2 (by omega) hw3), call2 (p_divisor hh hh2 (by omega) hh3), call3 (p_tiled g (by omega : 0 < w) (by omega) (by omega : 0 < h) (by omega))]
theorem p_is_tiledE1 (g : Good R W) {w h : Nat} (hw : w < 1000) (hb : ¬ (1 ≤ w ∧ w ≤ W ∧ W % w = 0)) : F_is_tiled [.val (rD R), .val (nI w), .val (nI h)] = .err "InvalidNumber" (nI w) [] := by
  have w2 := g.w2
  simp [F_is_tiled, fnOf, fs_is_tiled, call1 (p_check g), k0, g.ix0, g.len0, cerr2 (p_divisorE (by omega : W < 1000) hw hb)]
theorem p_is_tiledE2 (g : Good R W) {w h : Nat} (hw : 1 ≤ w) (hw2 : w ≤ W) (hw3 : W % w = 0) (hh : h < 1000) (hb : ¬ (1 ≤ h ∧ h ≤ R.length ∧ R.length % h = 0)) : F_is_tiled [.val (rD R), .val (nI w), .val (nI h)] = .err "InvalidNumber" (nI h) [] := by
  have w2 := g.w2
  have h2 := g.h2
  simp [F_is_tiled, fnOf, fs_is_tiled, call1 (p_check g), k0, g.ix0, g.len0, call2 (p_divisor hw hw2 (by omega) hw3), cerr2 (p_divisorE (by omega : R.length < 1000) hh hb)]
def turnR (r : List Nat) (a : Nat) : List Nat := r.drop a ++ r.take a
def turn (R : List (List Nat)) (a d : Nat) : List (List Nat) := (R.map fun r => turnR r a).drop d ++ (R.map fun r => turnR r a).take d
theorem turnR_len {r : List Nat} {a : Nat} : (turnR r a).length = r.length := by
  unfold turnR; rw [List.length_append, List.length_drop, List.length_take]; omega
theorem add_s {a b : List Nat} (h : a.length + b.length ≤ 1000000) : gAdd (sD a) (sD b) = some (sD (a ++ b)) := by
  show (if small (a.toArray.size + b.toArray.size) = true then some (PyData.str ((⟨a.toArray⟩ : Str) ++ ⟨b.toArray⟩)) else none) = _
  rw [List.size_toArray, List.size_toArray, if_pos (sm_nat h)]
  congr 2
  show (⟨a.toArray ++ b.toArray⟩ : Str) = ⟨(a ++ b).toArray⟩
  simp
theorem add_l {a b : List D} (h : a.length + b.length ≤ 1000000) : gAdd (.list a) (.list b) = some (.list (a ++ b)) := by
  show (if small (a.length + b.length) = true then _ else none) = _
  rw [if_pos (sm_nat h)]
theorem p_turned (g : Good R W) {a d : Nat} : F_turned_on [.val (rD R), .val (nI a), .val (nI d)] = .rt (.val (rD (turn R a d))) [] := by
  have w2 := g.w2
  have h2 := g.h2
  have hl := lc1 (src := sSeq (dV 0)) (tt := tY) (te := d2 gAdd (dSl (dV 4) (dPart (dV 1)) dNone) (dSl (dV 4) dNone (dPart (dV 1)))) (v := 4) (env := [some (.val (rD R)), some (.val (nI a)), some (.val (nI d)), none, none]) (e1 := [some (.val (rD R)), some (.val (nI a)), some (.val (nI d)), none, none])
    (items := R.map sD) (P := fun _ => true) (r := fun i => sD (turnR (row R i) a))
    (by simp) (by simp; omega) rfl (fun i d hd => by
      obtain ⟨r, hr, rfl⟩ := map_get hd
      have lr := g.len r (List.mem_of_getElem? hr)
      have e : gAdd (sD (r.drop a)) (sD (r.take a)) = some (sD (turnR r a)) := add_s (by rw [List.length_drop, List.length_take]; omega)
      exact ⟨rfl, fun _ => by simp [sl_to_s (by omega : r.length ≤ 1000000), sl_from_s (by omega : r.length ≤ 1000000), row_of hr, e]⟩)
  have e : ((List.range (R.map sD).length).filter fun _ => true).map (fun i => sD (turnR (row R i) a)) = (R.map fun r => turnR r a).map sD := by
    rw [List.filter_eq_self.mpr (fun _ _ => rfl), List.length_map]
    apply List.ext_getElem?
    intro i
    rw [List.getElem?_map, List.getElem?_map, List.getElem?_map]
    by_cases q : i < R.length
    · rw [List.getElem?_range q, List.getElem?_eq_getElem q]
      simp [row_of (List.getElem?_eq_getElem q)]
    · rw [List.getElem?_eq_none (by rw [List.length_range]; omega), List.getElem?_eq_none (by omega)]; rfl
  rw [e] at hl
  have hadd : gAdd (.list (((R.map fun r => turnR r a).map sD).drop d)) (.list (((R.map fun r => turnR r a).map sD).take d)) = some (.list ((turn R a d).map sD)) := by
    rw [add_l (by rw [List.length_drop, List.length_take, List.length_map, List.length_map]; omega)]
    unfold turn
    rw [List.map_append, List.map_drop, List.map_take]
  simp only [F_turned_on, fnOf, fs_turned_on]
  have hfr : ∀ l : List D, frz 3 [some (.val (rD R)), some (.val (nI a)), some (.val (nI d)), some (.lst l), none] = [some (.val (rD R)), some (.val (nI a)), some (.val (nI d)), some (.val (.list l)), none] := fun _ => rfl
  simp [hl, hfr, sl_to_l, sl_from_l, hadd, -List.map_map, -List.map_drop, -List.map_take]; rfl
end
end H86
set_option Elab.async false
set_option linter.all false
set_option maxRecDepth 100000
set_option maxHeartbeats 4000000
namespace H86
open PySem PySem.Spec PyProof.Rows L2 MI
section
variable {R : List (List Nat)} {W : Nat}
theorem p_numN {z a b : Nat} (h : a ≤ z) (h2 : z ≤ b) : F_check_number [.val (nI z), .val (nI a), .val (nI b)] = .rt (.val .none) [] := p_number (by omega)
theorem p_numNE {z a b : Nat} (h : ¬ (a ≤ z ∧ z ≤ b)) : F_check_number [.val (nI z), .val (nI a), .val (nI b)] = .err "InvalidNumber" (nI z) [] := p_numberE (by omega)
theorem p_numNB {z : Bool} {a b : Nat} : F_check_number [.val (.bool z), .val (nI a), .val (nI b)] = .err "InvalidNumber" (.bool z) [] := p_numberB
theorem p_shifted (g : Good R W) {a d : Nat} (ha : a < W) (hd : d < R.length) : F_shifted_rows [.val (rD R), .val (nI a), .val (nI d)] = .rt (.val (rD (turn R a d))) [] := by
  have w1 := g.w1
  have h1 := g.h1
  simp [F_shifted_rows, fnOf, fs_shifted_rows, call1 (p_check g), k0, k1, g.ix0, g.len0, sub_n w1, sub_n h1, call3 (p_numN (Nat.zero_le a) (by omega : a ≤ W - 1)), call3 (p_numN (Nat.zero_le d) (by omega : d ≤ R.length - 1)), call3 (p_turned g)]
theorem p_shiftedE1 (g : Good R W) {a : Nat} {d : D} (ha : W ≤ a) : F_shifted_rows [.val (rD R), .val (nI a), .val d] = .err "InvalidNumber" (nI a) [] := by
  have w1 := g.w1
  simp [F_shifted_rows, fnOf, fs_shifted_rows, call1 (p_check g), k0, k1, g.ix0, g.len0, sub_n w1, cerr3 (p_numNE (by omega : ¬ (0 ≤ a ∧ a ≤ W - 1)))]
theorem p_shiftedE2 (g : Good R W) {d : Nat} (hd : R.length ≤ d) : F_shifted_rows [.val (rD R), .val (nI 0), .val (nI d)] = .err "InvalidNumber" (nI d) [] := by
  have w1 := g.w1
  have h1 := g.h1
  simp [F_shifted_rows, fnOf, fs_shifted_rows, call1 (p_check g), k0, k1, g.ix0, g.len0, sub_n w1, sub_n h1, call3 (p_numN (Nat.zero_le 0) (by omega : 0 ≤ W - 1)), cerr3 (p_numNE (by omega : ¬ (0 ≤ d ∧ d ≤ R.length - 1)))]
theorem p_shiftedE3 (g : Good R W) {b : Bool} : F_shifted_rows [.val (rD R), .val (nI 0), .val (.bool b)] = .err "InvalidNumber" (.bool b) [] := by
  have w1 := g.w1
  have h1 := g.h1
  simp [F_shifted_rows, fnOf, fs_shifted_rows, call1 (p_check g), k0, k1, g.ix0, g.len0, sub_n w1, sub_n h1, call3 (p_numN (Nat.zero_le 0) (by omega : 0 ≤ W - 1)), cerr3 (p_numNB)]
end
end H86
set_option Elab.async false
set_option linter.all false
set_option maxRecDepth 100000
set_option maxHeartbeats 4000000
namespace H86
open PySem PySem.Spec PyProof.Rows L2 MI
section
variable {R : List (List Nat)} {W : Nat}
def allT (R : List (List Nat)) (W : Nat) : List (List (List Nat)) := (List.range R.length).flatMap fun d => (List.range W).map fun a => turn R a d
theorem e_app {i : Nat} {f : Fe} {env e : En} {l ds : List D} {d : D} (h1 : gOwn env i = some (.lst l)) (h2 : f env = .ok d e) (h3 : gOwn e i = some (.lst ds)) (h : ds.length < 1000000) : sApp i f env = .nx (e.set i (some (.lst (ds ++ [d])))) := by
  unfold sApp; rw [h1]; simp only [h2, bnS_ok, h3, if_pos h]
theorem p_shifts (g : Good R W) : F_shifts_by [.val (rD R)] = .rt (.lst ((allT R W).map rD)) [] := by
  have w2 := g.w2
  have h2 := g.h2
  obtain ⟨e, h5, x2, x3, rfl⟩ := fGo_app (b := bName 2) (F1 := sFor (sRng1 (dCons (dC gLen (dCons (d2 gIx (dV 0) (dK (.int 0))) dNil)) dNil)) (bName 3) (sApp 1 (dCall F_turned_on [] 3 (mVal (dV 0) (mVal (dV 3) (mVal (dV 2) mNil))))))
    (S := fun (s : List (List (List Nat))) env => ∃ x2 x3, env = [some (.val (rD R)), some (.lst (s.map rD)), x2, x3]) (B := 16) (items := (List.range R.length).map nI) (f := fun d => (List.range W).map fun a => turn R a d)
    (fun i _ => by rw [List.length_map, List.length_range]; exact w2) [] 1000 (by simp; omega)
    (fun d x hd s env ⟨x2, x3, he⟩ hs => by
      obtain ⟨hi, rfl⟩ := rgn_get hd
      subst he
      obtain ⟨e, h5, x3', rfl⟩ := fGo_app (b := bName 3) (F1 := sApp 1 (dCall F_turned_on [] 3 (mVal (dV 0) (mVal (dV 3) (mVal (dV 2) mNil)))))
        (S := fun (s : List (List (List Nat))) env => ∃ x3, env = [some (.val (rD R)), some (.lst (s.map rD)), some (.val (nI d)), x3]) (B := 1) (items := (List.range W).map nI) (f := fun a => [turn R a d])
        (fun i _ => by simp) s 1000 (by simp; omega)
        (fun a x ha s env ⟨x3, he⟩ hs => by
          obtain ⟨hi, rfl⟩ := rgn_get ha
          subst he
          refine ⟨_, _, rfl, e_app (l := s.map rD) (ds := s.map rD) (d := rD (turn R a d)) (e := [some (.val (rD R)), some (.lst (s.map rD)), some (.val (nI d)), some (.val (nI a))]) rfl (by simp [call3 (p_turned g)]) rfl (by rw [List.length_map]; omega), some (.val (nI a)), by simp⟩) _ ⟨x3, rfl⟩
      refine ⟨_, _, rfl, by simp [k0, g.ix0, g.len0, rng1_n (by omega : W < 1000000)]; exact h5, some (.val (nI d)), x3', ?_⟩
      rw [List.length_map, List.length_range]
      have : (List.range W).flatMap (fun a => [turn R a d]) = (List.range W).map fun a => turn R a d := by
        induction (List.range W) with
        | nil => rfl
        | cons x xs ih => rw [List.flatMap_cons, ih]; rfl
      rw [this]) _ ⟨none, none, rfl⟩
  rw [List.length_map, List.length_range, List.nil_append] at h5
  simp only [List.map_nil] at h5
  simp [F_shifts_by, fnOf, fs_shifts_by, rng1_n (by omega : R.length < 1000000), h5, sRetO, allT]
end
end H86
set_option Elab.async false
set_option linter.all false
set_option maxRecDepth 100000
set_option maxHeartbeats 4000000
namespace H86
open PySem PySem.Spec PyProof.Rows L2 MI
theorem strs_chars : ∀ {l : List Nat}, strsO (l.map fun c => sD [c]) = some (l.map fun c => (⟨#[c]⟩ : Str))
  | [] => rfl
  | c :: l => by
    rw [List.map_cons]
    show (strsO (l.map fun c => sD [c])).map _ = _
    rw [strs_chars]; rfl
theorem join_nil : ∀ {l : List Nat}, Str.join ⟨#[]⟩ (l.map fun c => (⟨#[c]⟩ : Str)) = ⟨l.toArray⟩
  | [] => rfl
  | [c] => rfl
  | c :: d :: l => by
    have ih := join_nil (l := d :: l)
    rw [List.map_cons] at ih ⊢
    rw [List.map_cons]
    show ((⟨#[c]⟩ : Str) ++ ⟨#[]⟩ ++ Str.join ⟨#[]⟩ ((⟨#[d]⟩ : Str) :: l.map fun c => (⟨#[c]⟩ : Str))) = _
    rw [ih]
    show (⟨(#[c] ++ #[]) ++ (d :: l).toArray⟩ : Str) = _
    simp
theorem lit_nil : ("" : Str) = ⟨#[]⟩ := by decide +kernel
theorem join_chars {l : List Nat} (h : l.length ≤ 1000000) : gJoin ("" : Str) (.list (l.map fun c => sD [c])) = some (sD l) := by
  rw [lit_nil]
  unfold gJoin
  simp only [strs_chars]
  have hs : ((l.map fun c => (⟨#[c]⟩ : Str)).map (·.length)).sum = l.length := by
    clear h
    induction l with
    | nil => rfl
    | cons c l ih => rw [List.map_cons, List.map_cons, List.sum_cons, ih, List.length_cons]; show 1 + _ = _; omega
  rw [if_pos (by rw [hs]; show l.length + _ * 0 ≤ _; omega)]
  congr 2
  exact (PySem.StrLaws.glued_eq_join _ _).trans join_nil
end H86
set_option Elab.async false
set_option linter.all false
set_option maxRecDepth 100000
set_option maxHeartbeats 4000000
namespace H86
open PySem PySem.Spec PyProof.Rows L2 MI
section
variable {R : List (List Nat)} {W : Nat}
def shf (R : List (List Nat)) (W a d : Nat) : List (List Nat) := (List.range R.length).map fun i => (List.range W).map fun j => cell R ((i + d) % R.length) ((j + a) % W)
theorem p_law_shift (g : Good R W) {a d : Nat} : F__law_shift [.val (rD R), .val (nI a), .val (nI d)] = .rt (.val (rD (shf R W a d))) [] := by
  have w1 := g.w1
  have w2 := g.w2
  have h1 := g.h1
  have h2 := g.h2
  obtain ⟨e, h5, x6, x7, rfl⟩ := fGo_app (b := bName 6) (F1 := sSq (sAsg (d2 gIx (dV 0) (d2 gMod (dC gInt (dCons (d2 gAdd (dV 6) (dV 2)) dNil)) (dV 3))) (bName 7)) (sApp 5 (dJoin (dK (.str ("" : Str))) (dLst (dLc (sRng1 (dCons (dV 4) dNil)) (bName 8) [8] tY (d2 gIx (dV 7) (d2 gMod (dC gInt (dCons (d2 gAdd (dV 8) (dV 1)) dNil)) (dV 4))))))))
    (S := fun (s : List (List Nat)) env => ∃ x6 x7, env = [some (.val (rD R)), some (.val (nI a)), some (.val (nI d)), some (.val (nI R.length)), some (.val (nI W)), some (.lst (s.map sD)), x6, x7, none]) (B := 1) (items := (List.range R.length).map nI)
    (f := fun i => [(List.range W).map fun j => cell R ((i + d) % R.length) ((j + a) % W)])
    (fun i _ => by simp) [] 1000 (by simp; omega)
    (fun i x hx s env ⟨x6, x7, he⟩ hs => by
      obtain ⟨hi, rfl⟩ := rgn_get hx
      subst he
      have hm : (i + d) % R.length < R.length := Nat.mod_lt _ (by omega)
      have hl := lc1 (src := sRng1 (dCons (dV 4) dNil)) (tt := tY) (te := d2 gIx (dV 7) (d2 gMod (dC gInt (dCons (d2 gAdd (dV 8) (dV 1)) dNil)) (dV 4))) (v := 8)
        (env := [some (.val (rD R)), some (.val (nI a)), some (.val (nI d)), some (.val (nI R.length)), some (.val (nI W)), some (.lst (s.map sD)), some (.val (nI i)), some (.val (sD (row R ((i + d) % R.length)))), none])
        (e1 := [some (.val (rD R)), some (.val (nI a)), some (.val (nI d)), some (.val (nI R.length)), some (.val (nI W)), some (.lst (s.map sD)), some (.val (nI i)), some (.val (sD (row R ((i + d) % R.length)))), none])
        (items := (List.range W).map nI) (P := fun _ => true) (r := fun j => sD [cell R ((i + d) % R.length) ((j + a) % W)])
        (by simp [rng1_n (by omega : W < 1000000)]) (by simp; omega) rfl (fun j y hj => by
          obtain ⟨hj, rfl⟩ := rgn_get hj
          exact ⟨rfl, fun _ => by simp [mod_n (by omega : 0 < W), g.ixc hm (Nat.mod_lt _ (by omega : 0 < W))]⟩)
      have e : ((List.range ((List.range W).map nI).length).filter fun _ => true).map (fun j => sD [cell R ((i + d) % R.length) ((j + a) % W)]) = ((List.range W).map fun j => cell R ((i + d) % R.length) ((j + a) % W)).map fun c => sD [c] := by
        rw [List.filter_eq_self.mpr (fun _ _ => rfl), List.length_map, List.length_range, List.map_map]; rfl
      rw [e] at hl
      have hj := join_chars (l := (List.range W).map fun j => cell R ((i + d) % R.length) ((j + a) % W)) (by simp; omega)
      refine ⟨_, _, rfl, ?_, some (.val (nI i)), some (.val (sD (row R ((i + d) % R.length)))), rfl⟩
      simp only [e_sSq]
      have ha : sAsg (d2 gIx (dV 0) (d2 gMod (dC gInt (dCons (d2 gAdd (dV 6) (dV 2)) dNil)) (dV 3))) (bName 7) [some (.val (rD R)), some (.val (nI a)), some (.val (nI d)), some (.val (nI R.length)), some (.val (nI W)), some (.lst (s.map sD)), some (.val (nI i)), x7, none] = .nx [some (.val (rD R)), some (.val (nI a)), some (.val (nI d)), some (.val (nI R.length)), some (.val (nI W)), some (.lst (s.map sD)), some (.val (nI i)), some (.val (sD (row R ((i + d) % R.length)))), none] := by
        simp [mod_n (by omega : 0 < R.length), ix_rD hm]
      show sqK _ (sAsg _ _ [some (.val (rD R)), some (.val (nI a)), some (.val (nI d)), some (.val (nI R.length)), some (.val (nI W)), some (.lst (s.map sD)), some (.val (nI i)), x7, none]) = _
      rw [ha, sqK_nx, e_app (l := s.map sD) (ds := s.map sD) (d := sD ((List.range W).map fun j => cell R ((i + d) % R.length) ((j + a) % W))) (e := [some (.val (rD R)), some (.val (nI a)), some (.val (nI d)), some (.val (nI R.length)), some (.val (nI W)), some (.lst (s.map sD)), some (.val (nI i)), some (.val (sD (row R ((i + d) % R.length)))), none]) rfl (by simp only [e_dJoin, e_dKs, bnd_ok, joinK_s, e_dLst, hl, hj, outO_some]) rfl (by rw [List.length_map]; omega)]
      simp) _ ⟨none, none, rfl⟩
  rw [List.length_map, List.length_range, List.nil_append] at h5
  have e2 : (List.range R.length).flatMap (fun i => [(List.range W).map fun j => cell R ((i + d) % R.length) ((j + a) % W)]) = shf R W a d := by
    unfold shf
    induction (List.range R.length) with
    | nil => rfl
    | cons x xs ih => rw [List.flatMap_cons, ih]; rfl
  rw [e2] at h5
  simp only [List.map_nil] at h5
  simp [F__law_shift, fnOf, fs__law_shift, k0, g.ix0, g.len0, rng1_n (by omega : R.length < 1000000), h5, frz]; rfl
end
end H86
set_option Elab.async false
set_option linter.all false
set_option maxRecDepth 100000
set_option maxHeartbeats 4000000
namespace H86
open PySem PySem.Spec PyProof.Rows L2 MI
section
variable {R : List (List Nat)} {W : Nat}
def allS (R : List (List Nat)) (W : Nat) : List (List (List Nat)) := (List.range W).flatMap fun a => (List.range R.length).map fun d => shf R W a d
theorem p_all_shifts (g : Good R W) : F__law_all_shifts [.val (rD R)] = .rt (.val (.list ((allS R W).map rD))) [] := by
  have w1 := g.w1
  have w2 := g.w2
  have h1 := g.h1
  have h2 := g.h2
  obtain ⟨e, h5, x2, rfl⟩ := fGo_app (b := bName 2) (F1 := sAsg (d2 gAdd (dV 1) (dLst (dLc (sRng1 (dCons (dC gLen (dCons (dV 0) dNil)) dNil)) (bName 3) [3] tY (dCall F__law_shift [] 3 (mVal (dV 0) (mVal (dV 2) (mVal (dV 3) mNil))))))) (bName 1))
    (S := fun (s : List (List (List Nat))) env => ∃ x2, env = [some (.val (rD R)), some (.val (.list (s.map rD))), x2, none]) (B := 10) (items := (List.range W).map nI) (f := fun a => (List.range R.length).map fun d => shf R W a d)
    (fun i _ => by simp; omega) [] 1000 (by simp; omega)
    (fun a x hx s env ⟨x2, he⟩ hs => by
      obtain ⟨hi, rfl⟩ := rgn_get hx
      subst he
      have hl := lc1 (src := sRng1 (dCons (dC gLen (dCons (dV 0) dNil)) dNil)) (tt := tY) (te := dCall F__law_shift [] 3 (mVal (dV 0) (mVal (dV 2) (mVal (dV 3) mNil)))) (v := 3)
        (env := [some (.val (rD R)), some (.val (.list (s.map rD))), some (.val (nI a)), none]) (e1 := [some (.val (rD R)), some (.val (.list (s.map rD))), some (.val (nI a)), none])
        (items := (List.range R.length).map nI) (P := fun _ => true) (r := fun d => rD (shf R W a d))
        (by simp [rng1_n (by omega : R.length < 1000000)]) (by simp; omega) rfl (fun j y hj => by
          obtain ⟨hj, rfl⟩ := rgn_get hj
          exact ⟨rfl, fun _ => by simp [call3 (p_law_shift g)]⟩)
      have e : ((List.range ((List.range R.length).map nI).length).filter fun _ => true).map (fun d => rD (shf R W a d)) = ((List.range R.length).map fun d => shf R W a d).map rD := by
        rw [List.filter_eq_self.mpr (fun _ _ => rfl), List.length_map, List.length_range, List.map_map]; rfl
      rw [e] at hl
      have ha : gAdd (.list (s.map rD)) (.list (((List.range R.length).map fun d => shf R W a d).map rD)) = some (.list ((s ++ (List.range R.length).map fun d => shf R W a d).map rD)) := by
        rw [add_l (by simp; omega), List.map_append]
      exact ⟨_, _, rfl, by simp [hl, ha, -List.map_map, -List.map_append], some (.val (nI a)), rfl⟩) _ ⟨none, rfl⟩
  rw [List.length_map, List.length_range, List.nil_append] at h5
  simp only [List.map_nil] at h5
  simp [F__law_all_shifts, fnOf, fs__law_all_shifts, k0, g.ix0, g.len0, rng1_n (by omega : W < 1000000), h5]; rfl
end
end H86
set_option Elab.async false
set_option linter.all false
set_option maxRecDepth 100000
set_option maxHeartbeats 4000000
namespace H86
open PySem PySem.Spec PyProof.Rows L2 MI
/-- the order of texts and rows of texts, as the machine has it -/
def rlt (R Q : List (List Nat)) : Bool := PySem.W.dataLt (rD R) (rD Q)
theorem rlt_irrefl (R : List (List Nat)) : rlt R R = false := PySem.W.dataLt_self _
theorem rlt_trans {R Q S : List (List Nat)} (h : rlt R Q = true) (h2 : rlt Q S = true) : rlt R S = true := lex_trans _ _ _ h h2
abbrev tS (R : List (List Nat)) : PySem.W.Tup Str := ⟨R.map fun r => (⟨r.toArray⟩ : Str)⟩
theorem toD_tS (R : List (List Nat)) : PySem.W.Datum.toD (tS R) = rD R := by
  show PyData.tuple _ = PyData.tuple _
  congr 1
  rw [List.map_map]; rfl
theorem rlt_eq (R Q : List (List Nat)) : rlt R Q = PySem.W.listLt (tS R).items (tS Q).items := by
  unfold rlt
  rw [← toD_tS, ← toD_tS]
  exact PySem.W.DatumOrd.lt_eq (tS R) (tS Q)
theorem llt_total : ∀ {xs ys : List Str}, PySem.W.listLt xs ys = false → PySem.W.listLt ys xs = false → xs = ys
  | [], [], _, _ => rfl
  | [], _ :: _, h, _ => by rw [PySem.W.listLt] at h; cases h
  | _ :: _, [], _, h => by rw [PySem.W.listLt] at h; cases h
  | x :: xs, y :: ys, h1, h2 => by
    rw [PySem.W.listLt] at h1 h2
    by_cases e : x = y
    · subst e
      rw [if_pos rfl] at h1 h2
      rw [llt_total h1 h2]
    · rw [if_neg e] at h1
      rw [if_neg (fun z => e z.symm)] at h2
      have a1 : ¬ x.cps.toList < y.cps.toList := of_decide_eq_false h1
      have a2 : ¬ y.cps.toList < x.cps.toList := of_decide_eq_false h2
      have : x.cps.toList = y.cps.toList := List.le_antisymm (List.not_lt.mp a2) (List.not_lt.mp a1)
      obtain ⟨⟨l⟩⟩ := x
      obtain ⟨⟨m⟩⟩ := y
      exact absurd (by simpa using this) (fun z : l = m => e (by rw [z]))
theorem rlt_total {R Q : List (List Nat)} (h1 : rlt R Q = false) (h2 : rlt Q R = false) : R = Q := by
  rw [rlt_eq] at h1 h2
  have := llt_total h1 h2
  have e : (R.map fun r => (⟨r.toArray⟩ : Str)) = Q.map fun r => (⟨r.toArray⟩ : Str) := this
  have inj : ∀ {A B : List (List Nat)}, (A.map fun r => (⟨r.toArray⟩ : Str)) = B.map (fun r => (⟨r.toArray⟩ : Str)) → A = B := by
    intro A
    induction A with
    | nil => intro B h; cases B with
      | nil => rfl
      | cons => cases h
    | cons a A ih =>
      intro B h
      cases B with
      | nil => cases h
      | cons b B =>
        rw [List.map_cons, List.map_cons] at h
        injection h with h1 h2
        injection h1 with h1
        rw [ih h2, show a = b by simpa using h1]
  exact inj e
def minR (x : List (List Nat)) (xs : List (List (List Nat))) : List (List Nat) := xs.foldl (fun a y => if rlt y a = true then y else a) x
theorem minR_eq (x : List (List Nat)) : ∀ xs : List (List (List Nat)), PySem.W.minD (rD x) (xs.map rD) = rD (minR x xs) := fun xs => by
  unfold PySem.W.minD minR
  induction xs generalizing x with
  | nil => rfl
  | cons y ys ih =>
    rw [List.map_cons, List.foldl_cons, List.foldl_cons, ← ih]
    show List.foldl _ (if rlt y x = true then rD y else rD x) _ = _
    cases rlt y x <;> rfl
theorem minR_mem {x : List (List Nat)} : ∀ {xs : List (List (List Nat))}, minR x xs ∈ x :: xs := by
  intro xs
  unfold minR
  induction xs generalizing x with
  | nil => exact List.mem_cons_self
  | cons y ys ih =>
    rw [List.foldl_cons]
    have := ih (x := if rlt y x = true then y else x)
    rcases List.mem_cons.mp this with h | h
    · rw [h]
      by_cases q : rlt y x = true
      · rw [if_pos q]; exact List.mem_cons_of_mem _ List.mem_cons_self
      · rw [if_neg q]; exact List.mem_cons_self
    · exact List.mem_cons_of_mem _ (List.mem_cons_of_mem _ h)
theorem rlt_le_trans {a b c : List (List Nat)} (h : rlt b a = false) (h2 : rlt c b = false) : rlt c a = false := by
  cases q : rlt c a with
  | false => rfl
  | true =>
    rcases lex_negTrans _ (PySem.W.keyToks (rD b)) _ q with z | z
    · exact absurd (show rlt c b = true from z) (by rw [h2]; exact Bool.false_ne_true)
    · exact absurd (show rlt b a = true from z) (by rw [h]; exact Bool.false_ne_true)
theorem minR_le {x : List (List Nat)} : ∀ {xs : List (List (List Nat))} {y : List (List Nat)}, y ∈ x :: xs → rlt y (minR x xs) = false := by
  intro xs
  unfold minR
  induction xs generalizing x with
  | nil => intro y h; rw [List.mem_singleton.mp h]; exact rlt_irrefl x
  | cons z zs ih =>
    intro y h
    rw [List.foldl_cons]
    by_cases q : rlt z x = true
    · rw [if_pos q]
      rcases List.mem_cons.mp h with e | e
      · subst e
        refine rlt_le_trans (ih List.mem_cons_self) ?_
        cases c : rlt y z with
        | false => rfl
        | true => exact absurd (rlt_trans c q) (by rw [rlt_irrefl]; exact Bool.false_ne_true)
      · exact ih e
    · rw [if_neg q]
      rcases List.mem_cons.mp h with e | e
      · exact ih (by rw [e]; exact List.mem_cons_self)
      · rcases List.mem_cons.mp e with e2 | e2
        · subst e2
          exact rlt_le_trans (ih List.mem_cons_self) (by simpa using q)
        · exact ih (List.mem_cons_of_mem _ e2)
/-- the least of two lists of the same members is the same -/
theorem minR_same {x y : List (List Nat)} {xs ys : List (List (List Nat))} (h : ∀ z, z ∈ x :: xs ↔ z ∈ y :: ys) : minR x xs = minR y ys :=
  rlt_total (minR_le ((h _).mpr minR_mem) |> fun _ => by
    have := minR_le (x := y) (xs := ys) ((h _).mp (minR_mem (x := x) (xs := xs)))
    exact this) (minR_le ((h _).mpr (minR_mem (x := y) (xs := ys))))
end H86
set_option Elab.async false
set_option linter.all false
set_option maxRecDepth 100000
set_option maxHeartbeats 4000000
namespace H86
open PySem PySem.Spec PyProof.Rows L2 MI
theorem alike_rD (R Q : List (List Nat)) : PySem.W.alike (rD R) (rD Q) = true := by
  rw [← toD_tS, ← toD_tS]; exact PySem.W.DatumOrd.alike (tS R) (tS Q)
theorem alikeB_rD (l : List (List (List Nat))) : alikeB (l.map rD) = true := by
  unfold alikeB
  rw [Bool.and_eq_true, List.all_eq_true, List.all_eq_true]
  refine ⟨fun x hx => ?_, fun x hx => ?_⟩
  · rw [List.all_eq_true]
    intro y hy
    obtain ⟨a, _, rfl⟩ := List.mem_map.mp hx
    obtain ⟨b, _, rfl⟩ := List.mem_map.mp hy
    exact alike_rD a b
  · obtain ⟨a, _, rfl⟩ := List.mem_map.mp hx
    rfl
theorem depAll_rD : ∀ l : List (List (List Nat)), PyData.depthAll (l.map rD) ≤ 1
  | [] => by rw [List.map_nil, PyData.depthAll]; omega
  | x :: l => by
    have := depAll_rD l
    rw [List.map_cons, PyData.depthAll, dep_rD]; omega
/-- the least of a list of rows -/
def leastOf (l : List (List (List Nat))) : List (List Nat) := match l with
  | [] => []
  | x :: xs => minR x xs
theorem min_rD {l : List (List (List Nat))} (h : l ≠ []) : gMinL [.list (l.map rD)] = some (rD (leastOf l)) := by
  cases l with
  | nil => exact absurd rfl h
  | cons x xs =>
    have h1 := alikeB_rD (x :: xs)
    have h2 := depAll_rD (x :: xs)
    show (if alikeB ((x :: xs).map rD) = true ∧ PyData.depthAll ((x :: xs).map rD) ≤ 60 then some (PySem.W.minD (rD x) (xs.map rD)) else none) = _
    rw [if_pos ⟨h1, by omega⟩, minR_eq]; rfl
theorem least_same {l m : List (List (List Nat))} (hl : l ≠ []) (h : ∀ z, z ∈ l ↔ z ∈ m) : leastOf l = leastOf m := by
  cases l with
  | nil => exact absurd rfl hl
  | cons x xs =>
    cases m with
    | nil => exact absurd ((h x).mp List.mem_cons_self) (by simp)
    | cons y ys => exact minR_same h
theorem least_mem {l : List (List (List Nat))} (h : l ≠ []) : leastOf l ∈ l := by
  cases l with
  | nil => exact absurd rfl h
  | cons x xs => exact minR_mem
section
variable {R Q : List (List Nat)} {W V : Nat}
theorem allT_ne (g : Good R W) : allT R W ≠ [] := by
  intro h
  have : turn R 0 0 ∈ allT R W := by
    unfold allT
    rw [List.mem_flatMap]
    exact ⟨0, List.mem_range.mpr g.h1, List.mem_map.mpr ⟨0, List.mem_range.mpr g.w1, rfl⟩⟩
  rw [h] at this
  cases this
theorem p_least_by (g : Good R W) : F_least_by [.val (rD R)] = .rt (.val (rD (leastOf (allT R W)))) [] := by
  simp [F_least_by, fnOf, fs_least_by, call1L (p_shifts g), min_rD (allT_ne g)]
theorem p_least (g : Good R W) : F_least_shift [.val (rD R)] = .rt (.val (rD (leastOf (allT R W)))) [] := by
  simp [F_least_shift, fnOf, fs_least_shift, call1 (p_check g), call1 (p_least_by g)]
theorem turn_mem {R : List (List Nat)} {a d : Nat} {r : List Nat} (h : r ∈ turn R a d) : ∃ q ∈ R, r = turnR q a := by
  unfold turn at h
  rcases List.mem_append.mp h with h | h
  · obtain ⟨q, hq, rfl⟩ := List.mem_map.mp (List.mem_of_mem_drop h); exact ⟨q, hq, rfl⟩
  · obtain ⟨q, hq, rfl⟩ := List.mem_map.mp (List.mem_of_mem_take h); exact ⟨q, hq, rfl⟩
theorem turn_len {R : List (List Nat)} {a d : Nat} : (turn R a d).length = R.length := by
  unfold turn; rw [List.length_append, List.length_drop, List.length_take, List.length_map]; omega
theorem turn_good (g : Good R W) {a d : Nat} : Good (turn R a d) W := by
  refine ⟨by rw [turn_len]; exact g.h1, by rw [turn_len]; exact g.h2, g.w1, g.w2, fun r hr => ?_, fun r hr c hc => ?_⟩
  · obtain ⟨q, hq, rfl⟩ := turn_mem hr; rw [turnR_len]; exact g.len q hq
  · obtain ⟨q, hq, rfl⟩ := turn_mem hr
    unfold turnR at hc
    rcases List.mem_append.mp hc with h | h
    · exact g.let_ q hq c (List.mem_of_mem_drop h)
    · exact g.let_ q hq c (List.mem_of_mem_take h)
theorem Good.ok (g : Good R W) : okR R := fun r hr c hc => by have := (g.let_ r hr c hc).2; omega
theorem least_good (g : Good R W) : Good (leastOf (allT R W)) W := by
  have := least_mem (allT_ne g)
  unfold allT at this
  obtain ⟨d, _, h⟩ := List.mem_flatMap.mp this
  obtain ⟨a, _, e⟩ := List.mem_map.mp h
  unfold allT
  rw [← e]
  exact turn_good g
def areS (R Q : List (List Nat)) (W V : Nat) : Bool := decide (R.length = Q.length) && decide (W = V) && decide (leastOf (allT R W) = leastOf (allT Q V))
theorem p_are (g : Good R W) (k : Good Q V) : F_are_shifts [.val (rD R), .val (rD Q)] = .rt (.val (.bool (areS R Q W V))) [] := by
  simp only [F_are_shifts, fnOf, fs_are_shifts]
  unfold areS
  by_cases h1 : R.length = Q.length
  · by_cases h2 : W = V
    · subst h2
      simp [call1 (p_check g), call1 (p_check k), k0, g.ix0, g.len0, k.ix0, k.len0, h1, call1 (p_least_by g), call1 (p_least_by k), eq_rD (least_good g).ok (least_good k).ok]
    · simp [call1 (p_check g), call1 (p_check k), k0, g.ix0, g.len0, k.ix0, k.len0, h1, h2]
  · simp [call1 (p_check g), call1 (p_check k), k0, g.ix0, g.len0, k.ix0, k.len0, h1]
end
end H86
set_option Elab.async false
set_option linter.all false
set_option maxRecDepth 100000
set_option maxHeartbeats 4000000
namespace H86
open MI
/-! ### cyclic things and their periods -/
section per
variable {β : Type} {g : Nat → β} {N a b k : Nat}
def Per (g : Nat → β) (N p : Nat) : Prop := ∀ j, g ((j + p) % N) = g (j % N)
theorem Per.zero : Per g N 0 := fun j => rfl
theorem Per.sub (ha : Per g N a) (hb : Per g N b) (h : a ≤ b) : Per g N (b - a) := fun j => by
  have h1 := ha (j + (b - a))
  rw [show j + (b - a) + a = j + b by omega, hb j] at h1
  exact h1.symm
theorem Per.mul (ha : Per g N a) : ∀ k, Per g N (k * a)
  | 0 => by rw [Nat.zero_mul]; exact Per.zero
  | k + 1 => fun j => by
    rw [Nat.succ_mul, ← Nat.add_assoc, ha (j + k * a), Per.mul ha k j]
theorem Per.mod (ha : Per g N a) (hb : Per g N b) : Per g N (b % a) := by
  have := (ha.mul (b / a)).sub hb (Nat.div_mul_le_self b a)
  rwa [show b - b / a * a = b % a by have := Nat.div_add_mod' b a; omega] at this
theorem Per.gcd : ∀ {a b : Nat}, Per g N a → Per g N b → Per g N (Nat.gcd a b) := by
  intro a b
  induction a, b using Nat.gcd.induction with
  | H0 n => intro _ h; rwa [Nat.gcd_zero_left]
  | H1 m n hm ih => intro h1 h2; rw [Nat.gcd_rec]; exact ih (h1.mod h2) h1
/-- the laid form of a period -/
theorem per_iff (hN : 0 < N) (hd : a ∣ N) (ha : 0 < a) : Per g N a ↔ ∀ j, j < N → g j = g (j % a) := by
  have hle := Nat.le_of_dvd hN hd
  constructor
  · intro h j hj
    have h1 := h.mul (j / a) (j % a)
    rw [show j % a + j / a * a = j from Nat.mod_add_div' j a, Nat.mod_eq_of_lt hj, Nat.mod_eq_of_lt (Nat.lt_of_lt_of_le (Nat.mod_lt _ ha) hle)] at h1
    exact h1
  · intro h j
    rw [h _ (Nat.mod_lt _ hN), h (j % N) (Nat.mod_lt _ hN), Nat.mod_mod_of_dvd _ hd, Nat.mod_mod_of_dvd _ hd, Nat.add_mod_right]
end per
theorem fit_sorted {n : Nat} {q : Nat → Bool} : (fit n q).Pairwise (· < ·) := by
  unfold fit
  rw [List.pairwise_map]
  exact (List.Pairwise.filter _ List.pairwise_lt_range).imp fun h => by omega
theorem head_le {l : List Nat} (s : l.Pairwise (· < ·)) {x : Nat} (h : x ∈ l) : l.getD 0 0 ∈ l ∧ l.getD 0 0 ≤ x := by
  cases l with
  | nil => cases h
  | cons y ys =>
    refine ⟨List.mem_cons_self, ?_⟩
    show y ≤ x
    rcases List.mem_cons.mp h with e | e
    · rw [e]; exact Nat.le_refl _
    · exact Nat.le_of_lt ((List.pairwise_cons.mp s).1 x e)
/-- the least period that divides N: it divides all others -/
theorem least_per {β : Type} {g : Nat → β} {N : Nat} {q : Nat → Bool} (hN : 0 < N) (hq : ∀ p, 0 < p → p ∣ N → (q p = true ↔ Per g N p)) :
    (0 < (fit N q).getD 0 0 ∧ (fit N q).getD 0 0 ∣ N ∧ Per g N ((fit N q).getD 0 0)) ∧ ∀ p, 0 < p → p ∣ N → Per g N p → (fit N q).getD 0 0 ∣ p := by
  have mem : ∀ p, 0 < p → p ∣ N → Per g N p → p ∈ fit N q := fun p h1 h2 h3 => mem_fit.mpr ⟨h1, Nat.le_of_dvd hN h2, Nat.mod_eq_zero_of_dvd h2, (hq p h1 h2).mpr h3⟩
  have hw : Per g N N := fun j => by rw [Nat.add_mod_right]
  obtain ⟨m1, _⟩ := head_le fit_sorted (mem N hN (Nat.dvd_refl N) hw)
  obtain ⟨h1, _, h3, h4⟩ := mem_fit.mp m1
  have hd := Nat.dvd_of_mod_eq_zero h3
  have hp := (hq _ h1 hd).mp h4
  refine ⟨⟨h1, hd, hp⟩, fun p p1 p2 p3 => ?_⟩
  have hg : 0 < Nat.gcd ((fit N q).getD 0 0) p := Nat.gcd_pos_of_pos_left _ h1
  obtain ⟨_, l⟩ := head_le fit_sorted (mem (Nat.gcd ((fit N q).getD 0 0) p) hg (Nat.dvd_trans (Nat.gcd_dvd_left _ _) hd) (hp.gcd p3))
  have e : Nat.gcd ((fit N q).getD 0 0) p = (fit N q).getD 0 0 := Nat.le_antisymm (Nat.le_of_dvd h1 (Nat.gcd_dvd_left _ _)) l
  rw [← e]
  exact Nat.gcd_dvd_right _ _
/-- the same periods: the same least one -/
theorem least_same_per {β γ : Type} {g : Nat → β} {f : Nat → γ} {N M : Nat} {q r : Nat → Bool} (hN : 0 < N) (hM : 0 < M) (hMN : M ∣ N) (hq : ∀ p, 0 < p → p ∣ N → (q p = true ↔ Per g N p)) (hr : ∀ p, 0 < p → p ∣ M → (r p = true ↔ Per f M p))
    (same : ∀ p, Per g N p ↔ Per f M p) : (fit N q).getD 0 0 = (fit M r).getD 0 0 := by
  obtain ⟨⟨a1, a2, a3⟩, a4⟩ := least_per hN hq
  obtain ⟨⟨b1, b2, b3⟩, b4⟩ := least_per hM hr
  have hMp : Per f M M := fun j => by rw [Nat.add_mod_right]
  have d1 := a4 M hM hMN ((same M).mpr hMp)
  have d2 := a4 _ b1 (Nat.dvd_trans b2 hMN) ((same _).mpr b3)
  have d3 := b4 _ a1 d1 ((same _).mp a3)
  exact Nat.dvd_antisymm d2 d3
/-! ### cells -/
section
variable {R Q : List (List Nat)} {W : Nat}
theorem rect_row {H V : Nat} {f : Nat → Nat → Nat} {i : Nat} (hi : i < H) : row ((List.range H).map fun i => (List.range V).map fun j => f i j) i = (List.range V).map fun j => f i j :=
  row_of (by rw [List.getElem?_map, List.getElem?_range hi]; rfl)
theorem rect_cell {H V : Nat} {f : Nat → Nat → Nat} {i j : Nat} (hi : i < H) (hj : j < V) : cell ((List.range H).map fun i => (List.range V).map fun j => f i j) i j = f i j := by
  unfold cell
  rw [rect_row hi]
  exact chr_of (by rw [List.getElem?_map, List.getElem?_range hj]; rfl)
theorem Good.pos (g : Good R W) : 0 < R.length := g.h1
theorem Good.eta (g : Good R W) : R = (List.range R.length).map fun i => (List.range W).map fun j => cell R i j := by
  apply List.ext_getElem?
  intro i
  rw [List.getElem?_map]
  by_cases h : i < R.length
  · rw [List.getElem?_range h, List.getElem?_eq_getElem h]
    show some R[i] = some _
    congr 1
    have er : row R i = R[i] := row_of (List.getElem?_eq_getElem h)
    have el : R[i].length = W := g.len _ (List.getElem_mem h)
    apply List.ext_getElem?
    intro j
    rw [List.getElem?_map]
    by_cases hj : j < W
    · rw [List.getElem?_range hj, List.getElem?_eq_getElem (by rw [el]; exact hj)]
      show some _ = some _
      congr 1
      unfold cell
      rw [er]
      exact (chr_of (List.getElem?_eq_getElem (by rw [el]; exact hj))).symm
    · rw [List.getElem?_eq_none (by omega), List.getElem?_eq_none (by rw [List.length_range]; omega)]; rfl
  · rw [List.getElem?_eq_none (by omega), List.getElem?_eq_none (by rw [List.length_range]; omega)]; rfl
theorem Good.ext (g : Good R W) (k : Good Q W) (hl : R.length = Q.length) (h : ∀ i j, i < R.length → j < W → cell R i j = cell Q i j) : R = Q := by
  rw [g.eta, k.eta, hl]
  apply List.map_congr_left
  intro i hi
  apply List.map_congr_left
  intro j hj
  exact h i j (by rw [hl]; exact List.mem_range.mp hi) (List.mem_range.mp hj)
theorem shf_len {a d : Nat} : (shf R W a d).length = R.length := by unfold shf; simp
theorem shf_cell {a d i j : Nat} (hi : i < R.length) (hj : j < W) : cell (shf R W a d) i j = cell R ((i + d) % R.length) ((j + a) % W) := rect_cell hi hj
theorem Good.cellIn (g : Good R W) {i j : Nat} (hi : i < R.length) (hj : j < W) : ∃ r ∈ R, cell R i j ∈ r := by
  refine ⟨row R i, g.rowmem hi, ?_⟩
  unfold cell chr
  have hl : j < (row R i).length := by rw [g.rowlen hi]; exact hj
  rw [List.getD_eq_getElem?_getD, List.getElem?_eq_getElem hl]; exact List.getElem_mem hl
theorem rect_good {H V : Nat} {f : Nat → Nat → Nat} (h1 : 1 ≤ H) (h2 : H ≤ 10) (w1 : 1 ≤ V) (w2 : V ≤ 16) (hf : ∀ i j, i < H → j < V → 97 ≤ f i j ∧ f i j ≤ 101) : Good ((List.range H).map fun i => (List.range V).map fun j => f i j) V := by
  refine ⟨by simp; omega, by simp; omega, w1, w2, fun r hr => ?_, fun r hr c hc => ?_⟩
  · obtain ⟨i, _, rfl⟩ := List.mem_map.mp hr; simp
  · obtain ⟨i, hi, rfl⟩ := List.mem_map.mp hr
    obtain ⟨j, hj, rfl⟩ := List.mem_map.mp hc
    exact hf i j (List.mem_range.mp hi) (List.mem_range.mp hj)
theorem Good.cellOk' (g : Good R W) {i j : Nat} (hi : i < R.length) (hj : j < W) : 97 ≤ cell R i j ∧ cell R i j ≤ 101 := by
  obtain ⟨r, hr, hc⟩ := g.cellIn hi hj
  exact g.let_ r hr _ hc
theorem shf_good (g : Good R W) {a d : Nat} : Good (shf R W a d) W := rect_good g.h1 g.h2 g.w1 g.w2 fun i j _ _ => g.cellOk' (Nat.mod_lt _ g.h1) (Nat.mod_lt _ g.w1)
theorem mod_add2 {x a b n : Nat} : ((x + a) % n + b) % n = (x + (a + b)) % n := by
  rw [Nat.mod_add_mod, Nat.add_assoc]
theorem shf_shf (g : Good R W) {a d a' d' : Nat} : shf (shf R W a d) W a' d' = shf R W (a' + a) (d' + d) := by
  refine (shf_good (shf_good g)).ext (shf_good g) (by simp [shf_len]) fun i j hi hj => ?_
  have hi' : i < R.length := by simpa [shf_len] using hi
  rw [shf_cell (by rw [shf_len]; exact hi') hj, shf_cell hi' hj, shf_len, shf_cell (Nat.mod_lt _ g.h1) (Nat.mod_lt _ g.w1), mod_add2, mod_add2]
theorem shf_mod (g : Good R W) {a d : Nat} : shf R W (a % W) (d % R.length) = shf R W a d := by
  refine (shf_good g).ext (shf_good g) (by simp [shf_len]) fun i j hi hj => ?_
  have hi' : i < R.length := by simpa [shf_len] using hi
  rw [shf_cell hi' hj, shf_cell hi' hj, Nat.add_mod_mod, Nat.add_mod_mod]
theorem shf_zero (g : Good R W) : shf R W 0 0 = R := by
  refine (shf_good g).ext g (by simp [shf_len]) fun i j hi hj => ?_
  have hi' : i < R.length := by simpa [shf_len] using hi
  rw [shf_cell hi' hj, Nat.add_zero, Nat.add_zero, Nat.mod_eq_of_lt hi', Nat.mod_eq_of_lt hj]
theorem shf_back (g : Good R W) {a d : Nat} : ∃ a' d', shf (shf R W a d) W a' d' = R := by
  refine ⟨W - a % W, R.length - d % R.length, ?_⟩
  have h1 : a % W < W := Nat.mod_lt _ g.w1
  have h2 : d % R.length < R.length := Nat.mod_lt _ g.h1
  rw [← shf_mod (a := a), shf_shf g, show W - a % W + a % W = W by omega, show R.length - d % R.length + d % R.length = R.length by omega, ← shf_mod g, Nat.mod_self, Nat.mod_self, shf_zero g]
  exact g
theorem mem_allS (g : Good R W) {S : List (List Nat)} : S ∈ allS R W ↔ ∃ a d, S = shf R W a d := by
  unfold allS
  rw [List.mem_flatMap]
  constructor
  · rintro ⟨a, _, h⟩
    obtain ⟨d, _, rfl⟩ := List.mem_map.mp h
    exact ⟨a, d, rfl⟩
  · rintro ⟨a, d, rfl⟩
    exact ⟨a % W, List.mem_range.mpr (Nat.mod_lt _ g.w1), List.mem_map.mpr ⟨d % R.length, List.mem_range.mpr (Nat.mod_lt _ g.h1), shf_mod g⟩⟩
theorem turnR_get {r : List Nat} {a j : Nat} (ha : a ≤ r.length) (hj : j < r.length) : chr (turnR r a) j = chr r ((j + a) % r.length) := by
  unfold turnR
  apply chr_of
  by_cases h : j < r.length - a
  · rw [List.getElem?_append_left (by rw [List.length_drop]; exact h), List.getElem?_drop, Nat.mod_eq_of_lt (by omega), Nat.add_comm]
    unfold chr
    rw [List.getD_eq_getElem?_getD, List.getElem?_eq_getElem (by omega : j + a < r.length)]; rfl
  · rw [List.getElem?_append_right (by rw [List.length_drop]; omega), List.length_drop, List.getElem?_take, if_pos (by omega)]
    have : (j + a) % r.length = j - (r.length - a) := by
      rw [Nat.mod_eq_sub_mod (by omega), Nat.mod_eq_of_lt (by omega)]; omega
    rw [this]
    unfold chr
    rw [List.getD_eq_getElem?_getD, List.getElem?_eq_getElem (by omega : j - (r.length - a) < r.length)]; rfl
theorem turnR_len' {r : List Nat} {a : Nat} : (turnR r a).length = r.length := by
  unfold turnR; rw [List.length_append, List.length_drop, List.length_take]; omega
theorem turn_rows {R : List (List Nat)} {a d i : Nat} (hd : d ≤ R.length) (hi : i < R.length) : row (turn R a d) i = turnR (row R ((i + d) % R.length)) a := by
  unfold turn
  have hm : (i + d) % R.length < R.length := Nat.mod_lt _ (by omega)
  have key : (R.map fun r => turnR r a)[(i + d) % R.length]? = some (turnR (row R ((i + d) % R.length)) a) := by
    rw [List.getElem?_map, List.getElem?_eq_getElem hm, row_of (List.getElem?_eq_getElem hm)]; rfl
  apply row_of
  by_cases h : i < R.length - d
  · rw [List.getElem?_append_left (by rw [List.length_drop, List.length_map]; exact h), List.getElem?_drop, ← key, Nat.mod_eq_of_lt (by omega), Nat.add_comm]
  · rw [List.getElem?_append_right (by rw [List.length_drop, List.length_map]; omega), List.length_drop, List.length_map, List.getElem?_take, if_pos (by omega), ← key]
    have : (i + d) % R.length = i - (R.length - d) := by
      rw [Nat.mod_eq_sub_mod (by omega), Nat.mod_eq_of_lt (by omega)]; omega
    rw [this]
theorem turn_len' {R : List (List Nat)} {a d : Nat} : (turn R a d).length = R.length := by
  unfold turn; rw [List.length_append, List.length_drop, List.length_take, List.length_map]; omega
theorem turn_eq (g : Good R W) (kt : ∀ a d, Good (turn R a d) W) {a d : Nat} (ha : a ≤ W) (hd : d ≤ R.length) : turn R a d = shf R W a d := by
  refine (kt a d).ext (shf_good g) (by rw [turn_len', shf_len]) fun i j hi hj => ?_
  have hi' : i < R.length := by rw [turn_len'] at hi; exact hi
  have hm : (i + d) % R.length < R.length := Nat.mod_lt _ g.h1
  rw [shf_cell hi' hj]
  unfold cell
  rw [turn_rows hd hi', turnR_get (by rw [g.rowlen hm]; exact ha) (by rw [g.rowlen hm]; exact hj), g.rowlen hm]
theorem mem_allT (g : Good R W) (kt : ∀ a d, Good (turn R a d) W) {S : List (List Nat)} : S ∈ allT R W ↔ S ∈ allS R W := by
  unfold allT allS
  rw [List.mem_flatMap, List.mem_flatMap]
  constructor
  · rintro ⟨d, hd, h⟩
    obtain ⟨a, ha, rfl⟩ := List.mem_map.mp h
    have ha' := List.mem_range.mp ha
    have hd' := List.mem_range.mp hd
    exact ⟨a, ha, List.mem_map.mpr ⟨d, hd, (turn_eq g kt (by omega) (by omega)).symm⟩⟩
  · rintro ⟨a, ha, h⟩
    obtain ⟨d, hd, rfl⟩ := List.mem_map.mp h
    have ha' := List.mem_range.mp ha
    have hd' := List.mem_range.mp hd
    exact ⟨d, hd, List.mem_map.mpr ⟨a, ha, turn_eq g kt (by omega) (by omega)⟩⟩
/-- a shift's shifts are the same -/
theorem allS_shf (g : Good R W) {a d : Nat} {S : List (List Nat)} : S ∈ allS (shf R W a d) W ↔ S ∈ allS R W := by
  rw [mem_allS (shf_good g), mem_allS g]
  constructor
  · rintro ⟨a', d', rfl⟩; exact ⟨_, _, shf_shf g⟩
  · rintro ⟨a', d', rfl⟩
    obtain ⟨x, y, h⟩ := shf_back g (a := a) (d := d)
    refine ⟨a' + x, d' + y, ?_⟩
    rw [← shf_shf (shf_good g), h]
end
end H86
set_option Elab.async false
set_option linter.all false
set_option maxRecDepth 100000
set_option maxHeartbeats 4000000
namespace H86
open MI
section
variable {R Q P : List (List Nat)} {W w : Nat}
def colF (R : List (List Nat)) (j : Nat) : List Nat := (List.range R.length).map fun i => cell R i j
def rowF (R : List (List Nat)) (W : Nat) (i : Nat) : List Nat := (List.range W).map fun j => cell R i j
theorem colF_eq {j j' : Nat} : colF R j = colF R j' ↔ ∀ i, i < R.length → cell R i j = cell R i j' := by
  unfold colF
  rw [List.map_inj_left]
  exact ⟨fun h i hi => h i (List.mem_range.mpr hi), fun h i hi => h i (List.mem_range.mp hi)⟩
theorem rowF_eq {i i' : Nat} : rowF R W i = rowF R W i' ↔ ∀ j, j < W → cell R i j = cell R i' j := by
  unfold rowF
  rw [List.map_inj_left]
  exact ⟨fun h i hi => h i (List.mem_range.mpr hi), fun h i hi => h i (List.mem_range.mp hi)⟩
theorem laid_iff {h : Nat} : laid R W w h = true ↔ ∀ i j, i < R.length → j < W → cell R i j = cell R (i % h) (j % w) := by
  unfold laid
  rw [List.all_eq_true]
  constructor
  · intro q i j hi hj
    have := q i (List.mem_range.mpr hi)
    rw [List.all_eq_true] at this
    exact of_decide_eq_true (this j (List.mem_range.mpr hj))
  · intro q i hi
    rw [List.all_eq_true]
    intro j hj
    exact decide_eq_true (q i j (List.mem_range.mp hi) (List.mem_range.mp hj))
theorem laid_w (hW : 0 < W) {p : Nat} (hp : 0 < p) (hd : p ∣ W) : laid R W p R.length = true ↔ Per (colF R) W p := by
  rw [per_iff hW hd hp, laid_iff]
  constructor
  · intro q j hj
    rw [colF_eq]
    intro i hi
    have := q i j hi hj
    rwa [Nat.mod_eq_of_lt hi] at this
  · intro q i j hi hj
    rw [Nat.mod_eq_of_lt hi]
    exact colF_eq.mp (q j hj) i hi
theorem laid_h (hH : 0 < R.length) {p : Nat} (hp : 0 < p) (hd : p ∣ R.length) : laid R W W p = true ↔ Per (rowF R W) R.length p := by
  rw [per_iff hH hd hp, laid_iff]
  constructor
  · intro q i hi
    rw [rowF_eq]
    intro j hj
    have := q i j hi hj
    rwa [Nat.mod_eq_of_lt hj] at this
  · intro q i j hi hj
    rw [Nat.mod_eq_of_lt hj]
    exact rowF_eq.mp (q i hi) j hj
theorem lw_spec (g : Good R W) : (0 < lw R W ∧ lw R W ∣ W ∧ Per (colF R) W (lw R W)) ∧ ∀ p, 0 < p → p ∣ W → Per (colF R) W p → lw R W ∣ p := least_per g.w1 fun p h1 h2 => laid_w g.w1 h1 h2
theorem lh_spec (g : Good R W) : (0 < lh R W ∧ lh R W ∣ R.length ∧ Per (rowF R W) R.length (lh R W)) ∧ ∀ p, 0 < p → p ∣ R.length → Per (rowF R W) R.length p → lh R W ∣ p := least_per g.h1 fun p h1 h2 => laid_h g.h1 h1 h2
theorem lw_le (g : Good R W) : lw R W ≤ W := Nat.le_of_dvd g.w1 (lw_spec g).1.2.1
theorem lh_le (g : Good R W) : lh R W ≤ R.length := Nat.le_of_dvd g.h1 (lh_spec g).1.2.1
theorem cell_per (g : Good R W) {x y : Nat} (hx : x < R.length) (hy : y < W) : cell R x y = cell R (x % lh R W) (y % lw R W) := by
  obtain ⟨⟨a1, a2, a3⟩, _⟩ := lw_spec g
  obtain ⟨⟨b1, b2, b3⟩, _⟩ := lh_spec g
  have e1 := colF_eq.mp ((per_iff g.w1 a2 a1).mp a3 y hy) x hx
  have hy' : y % lw R W < W := Nat.lt_of_lt_of_le (Nat.mod_lt _ a1) (lw_le g)
  have e2 := rowF_eq.mp ((per_iff g.h1 b2 b1).mp b3 x hx) (y % lw R W) hy'
  exact e1.trans e2
/-! the tile -/
theorem tile_eq (g : Good R W) : tile R W = (List.range (lh R W)).map fun i => (List.range (lw R W)).map fun j => cell R i j := by
  have h1 := lh_le g
  have h2 := lw_le g
  unfold tile
  generalize lh R W = a at *
  generalize lw R W = b at *
  conv => lhs; rw [g.eta]
  have e : ∀ {α : Type} {f : Nat → α} {n m : Nat}, m ≤ n → ((List.range n).map f).take m = (List.range m).map f := by
    intro α f n m h
    rw [← List.map_take, List.take_range, Nat.min_eq_left h]
  rw [e h1, List.map_map]
  apply List.map_congr_left
  intro i _
  exact e h2
theorem tile_len (g : Good R W) : (tile R W).length = lh R W := by rw [tile_eq g]; simp
theorem tile_cell (g : Good R W) {i j : Nat} (hi : i < lh R W) (hj : j < lw R W) : cell (tile R W) i j = cell R i j := by rw [tile_eq g]; exact rect_cell hi hj
theorem tile_good (g : Good R W) : Good (tile R W) (lw R W) := by
  have h1 := lh_le g
  have h2 := lw_le g
  rw [tile_eq g]
  exact rect_good (lh_spec g).1.1 (Nat.le_trans h1 g.h2) (lw_spec g).1.1 (Nat.le_trans h2 g.w2) fun i j hi hj => g.cellOk' (Nat.lt_of_lt_of_le hi h1) (Nat.lt_of_lt_of_le hj h2)
/-! laid again -/
structure Rep (P : List (List Nat)) (w : Nat) (R : List (List Nat)) (W : Nat) : Prop where
  dw : w ∣ W
  dh : P.length ∣ R.length
  c : ∀ i j, i < R.length → j < W → cell R i j = cell P (i % P.length) (j % w)
theorem Rep.lw (r : Rep P w R W) (k : Good P w) (g : Good R W) : H86.lw R W = H86.lw P w := by
  have hH := Nat.le_of_dvd g.h1 r.dh
  refine least_same_per g.w1 k.w1 r.dw (fun p h1 h2 => laid_w g.w1 h1 h2) (fun p h1 h2 => laid_w k.w1 h1 h2) fun p => ?_
  have ce : ∀ i x, i < P.length → cell R i (x % W) = cell P i (x % w) := fun i x hi => by
    rw [r.c i (x % W) (by omega) (Nat.mod_lt _ g.w1), Nat.mod_mod_of_dvd _ r.dw, Nat.mod_eq_of_lt hi]
  constructor
  · intro q j
    have := colF_eq.mp (q j)
    rw [colF_eq]
    intro i hi
    rw [← ce i _ hi, ← ce i _ hi]
    exact this i (by omega)
  · intro q j
    rw [colF_eq]
    intro i hi
    have hm : i % P.length < P.length := Nat.mod_lt _ k.h1
    have := colF_eq.mp (q j) _ hm
    rw [r.c i _ hi (Nat.mod_lt _ g.w1), r.c i _ hi (Nat.mod_lt _ g.w1), Nat.mod_mod_of_dvd _ r.dw, Nat.mod_mod_of_dvd _ r.dw]
    exact this
theorem Rep.lh (r : Rep P w R W) (k : Good P w) (g : Good R W) : H86.lh R W = H86.lh P w := by
  have hW := Nat.le_of_dvd g.w1 r.dw
  refine least_same_per g.h1 k.h1 r.dh (fun p h1 h2 => laid_h g.h1 h1 h2) (fun p h1 h2 => laid_h k.h1 h1 h2) fun p => ?_
  have ce : ∀ j x, j < w → cell R (x % R.length) j = cell P (x % P.length) j := fun j x hj => by
    rw [r.c _ j (Nat.mod_lt _ g.h1) (by omega), Nat.mod_mod_of_dvd _ r.dh, Nat.mod_eq_of_lt hj]
  constructor
  · intro q x
    have := rowF_eq.mp (q x)
    rw [rowF_eq]
    intro j hj
    rw [← ce j _ hj, ← ce j _ hj]
    exact this j (by omega)
  · intro q x
    rw [rowF_eq]
    intro j hj
    have hm : j % w < w := Nat.mod_lt _ k.w1
    have := rowF_eq.mp (q x) _ hm
    rw [r.c _ j (Nat.mod_lt _ g.h1) hj, r.c _ j (Nat.mod_lt _ g.h1) hj, Nat.mod_mod_of_dvd _ r.dh, Nat.mod_mod_of_dvd _ r.dh]
    exact this
theorem Rep.tile (r : Rep P w R W) (k : Good P w) (g : Good R W) : H86.tile R W = H86.tile P w := by
  have h1 := lh_le k
  have h2 := lw_le k
  have hH := Nat.le_of_dvd g.h1 r.dh
  have hW := Nat.le_of_dvd g.w1 r.dw
  rw [tile_eq g, tile_eq k, r.lw k g, r.lh k g]
  apply List.map_congr_left
  intro i hi
  apply List.map_congr_left
  intro j hj
  have hi := List.mem_range.mp hi
  have hj := List.mem_range.mp hj
  rw [r.c i j (by omega) (by omega), Nat.mod_eq_of_lt (by omega), Nat.mod_eq_of_lt (by omega)]
theorem Rep.laid (r : Rep P w R W) (k : Good P w) (g : Good R W) : H86.laid R W w P.length = true := by
  have hH := Nat.le_of_dvd g.h1 r.dh
  have hW := Nat.le_of_dvd g.w1 r.dw
  rw [laid_iff]
  intro i j hi hj
  have a : i % P.length < P.length := Nat.mod_lt _ k.h1
  have b : j % w < w := Nat.mod_lt _ k.w1
  rw [r.c i j hi hj, r.c (i % P.length) (j % w) (by omega) (by omega), Nat.mod_mod, Nat.mod_mod]
/-! the tile of a shift -/
theorem shf_perw (g : Good R W) {a d p : Nat} (h : Per (colF R) W p) : Per (colF (shf R W a d)) W p := fun j => by
  rw [colF_eq]
  intro i hi
  have hi' : i < R.length := by rwa [shf_len] at hi
  rw [shf_cell hi' (Nat.mod_lt _ g.w1), shf_cell hi' (Nat.mod_lt _ g.w1), Nat.mod_add_mod, Nat.mod_add_mod, show j + p + a = j + a + p by omega]
  exact colF_eq.mp (h (j + a)) _ (Nat.mod_lt _ g.h1)
theorem shf_perh (g : Good R W) {a d p : Nat} (h : Per (rowF R W) R.length p) : Per (rowF (shf R W a d) W) (shf R W a d).length p := fun x => by
  rw [rowF_eq]
  intro j hj
  rw [shf_len, shf_cell (Nat.mod_lt _ g.h1) hj, shf_cell (Nat.mod_lt _ g.h1) hj, Nat.mod_add_mod, Nat.mod_add_mod, show x + p + d = x + d + p by omega]
  exact rowF_eq.mp (h (x + d)) _ (Nat.mod_lt _ g.w1)
theorem shf_lw (g : Good R W) {a d : Nat} : lw (shf R W a d) W = lw R W := by
  have k := shf_good g (a := a) (d := d)
  refine least_same_per g.w1 g.w1 (Nat.dvd_refl _) (fun p h1 h2 => laid_w g.w1 h1 h2) (fun p h1 h2 => laid_w g.w1 h1 h2) fun p => ⟨fun h => ?_, fun h => shf_perw g h⟩
  obtain ⟨x, y, e⟩ := shf_back g (a := a) (d := d)
  have := shf_perw k (a := x) (d := y) h
  rwa [e] at this
theorem shf_lh (g : Good R W) {a d : Nat} : lh (shf R W a d) W = lh R W := by
  have k := shf_good g (a := a) (d := d)
  refine least_same_per (by rw [shf_len]; exact g.h1) g.h1 (by rw [shf_len]; exact Nat.dvd_refl _) (fun p h1 h2 => laid_h (by rw [shf_len]; exact g.h1) h1 h2) (fun p h1 h2 => laid_h g.h1 h1 h2) fun p => ⟨fun h => ?_, fun h => shf_perh g h⟩
  obtain ⟨x, y, e⟩ := shf_back g (a := a) (d := d)
  have := shf_perh k (a := x) (d := y) h
  rwa [e] at this
theorem tile_shf (g : Good R W) {a d : Nat} : tile (shf R W a d) W = shf (tile R W) (lw R W) a d := by
  have k := shf_good g (a := a) (d := d)
  have t := tile_good g
  have h1 := lh_le g
  have h2 := lw_le g
  have tk := tile_good k
  rw [shf_lw g] at tk
  refine tk.ext (shf_good t) (by rw [shf_len, tile_len k, tile_len g, shf_lh g]) fun i j hi hj => ?_
  rw [tile_len k, shf_lh g] at hi
  have b1 := (lh_spec g).1
  have b2 := (lw_spec g).1
  rw [tile_cell k (by rw [shf_lh g]; exact hi) (by rw [shf_lw g]; exact hj), shf_cell (by omega) (by omega), shf_cell (by rw [tile_len g]; exact hi) hj, tile_len g, tile_cell g (Nat.mod_lt _ b1.1) (Nat.mod_lt _ b2.1),
    cell_per g (Nat.mod_lt _ g.h1) (Nat.mod_lt _ g.w1), Nat.mod_mod_of_dvd _ b1.2.1, Nat.mod_mod_of_dvd _ b2.2.1]
theorem shf_inj (g : Good R W) (k : Good Q W) (hl : R.length = Q.length) {a d : Nat} (h : shf R W a d = shf Q W a d) : R = Q := by
  have h1 : a % W < W := Nat.mod_lt _ g.w1
  have h2 : d % R.length < R.length := Nat.mod_lt _ g.h1
  have hQ : d % R.length = d % Q.length := by rw [hl]
  have b : ∀ {S : List (List Nat)}, Good S W → S.length = R.length → shf (shf S W a d) W (W - a % W) (R.length - d % R.length) = S := fun {S} gs es => by
    rw [← shf_mod (a := a) gs, shf_shf gs, es, show W - a % W + a % W = W by omega, show R.length - d % R.length + d % R.length = R.length by omega, ← shf_mod gs, es, Nat.mod_self, Nat.mod_self, shf_zero gs]
  rw [← b g rfl, ← b k hl.symm, h]
/-- a shift by what is the same modulo the tile is the same -/
theorem shf_tile (g : Good R W) {a d : Nat} : shf R W (a % lw R W) (d % lh R W) = shf R W a d := by
  have b1 := (lh_spec g).1
  have b2 := (lw_spec g).1
  refine (shf_good g).ext (shf_good g) (by simp [shf_len]) fun i j hi hj => ?_
  have hi' : i < R.length := by simpa [shf_len] using hi
  rw [shf_cell hi' hj, shf_cell hi' hj, cell_per g (Nat.mod_lt _ g.h1) (Nat.mod_lt _ g.w1), Nat.mod_mod_of_dvd _ b1.2.1, Nat.mod_mod_of_dvd _ b2.2.1, cell_per g (x := (i + d) % R.length) (Nat.mod_lt _ g.h1) (Nat.mod_lt _ g.w1), Nat.mod_mod_of_dvd _ b1.2.1, Nat.mod_mod_of_dvd _ b2.2.1,
    Nat.add_mod_mod, Nat.add_mod_mod]
end
/-! ### how many there are -/
section count
variable {α : Type} [BEq α] [LawfulBEq α] [DecidableEq α]
theorem sum_count : ∀ (D L : List α), D.Nodup → (∀ x ∈ L, x ∈ D) → (D.map fun x => L.count x).sum = L.length
  | D, [], nd, h => by
    induction D with
    | nil => rfl
    | cons x xs ih => rw [List.map_cons, List.sum_cons, ih (List.nodup_cons.mp nd).2 (fun _ z => nomatch z)]; rfl
  | D, y :: L, nd, h => by
    have ih := sum_count D L nd fun x hx => h x (List.mem_cons_of_mem _ hx)
    have hy := h y List.mem_cons_self
    rw [List.length_cons, ← ih]
    clear ih h
    have key : ∀ E : List α, E.Nodup → (E.map fun x => (y :: L).count x).sum = (E.map fun x => L.count x).sum + if y ∈ E then 1 else 0 := by
      intro E
      induction E with
      | nil => intro _; simp
      | cons z zs ih =>
        intro nd
        obtain ⟨n1, n2⟩ := List.nodup_cons.mp nd
        rw [List.map_cons, List.map_cons, List.sum_cons, List.sum_cons, ih n2]
        by_cases e : y = z
        · subst e
          rw [List.count_cons_self, if_neg n1, if_pos List.mem_cons_self]; omega
        · rw [List.count_cons_of_ne (by simpa using fun z => e z)]
          by_cases m : y ∈ zs
          · rw [if_pos m, if_pos (List.mem_cons_of_mem _ m)]; omega
          · rw [if_neg m, if_neg (by rw [List.mem_cons]; rintro (c | c); exact e c; exact m c)]; omega
    rw [key D nd, if_pos hy]
theorem all_count {D L : List α} {c : Nat} (nd : D.Nodup) (h : ∀ x, x ∈ D ↔ x ∈ L) (hc : ∀ x ∈ L, L.count x = c) : L.length = D.length * c := by
  rw [← sum_count D L nd fun x hx => (h x).mpr hx]
  have : (D.map fun x => L.count x) = List.replicate D.length c := by
    rw [List.eq_replicate_iff]
    refine ⟨by simp, fun b hb => ?_⟩
    obtain ⟨x, hx, rfl⟩ := List.mem_map.mp hb
    exact hc x ((h x).mp hx)
  rw [this, List.sum_replicate_nat]
end count
theorem rot_range {p u : Nat} (hp : 0 < p) : ((List.range p).map fun a => (a + u) % p).Perm (List.range p) := by
  have hu : u % p < p := Nat.mod_lt _ hp
  have e : ((List.range p).map fun a => (a + u) % p) = (List.range p).drop (u % p) ++ (List.range p).take (u % p) := by
    apply List.ext_getElem?
    intro i
    rw [List.getElem?_map]
    by_cases h : i < p
    · rw [List.getElem?_range h]
      have em : (i + u) % p = (i + u % p) % p := by rw [Nat.add_mod_mod]
      show some ((i + u) % p) = _
      rw [em]
      by_cases h2 : i < p - u % p
      · rw [List.getElem?_append_left (by rw [List.length_drop, List.length_range]; exact h2), List.getElem?_drop, List.getElem?_range (by omega), Nat.mod_eq_of_lt (by omega), Nat.add_comm]
      · rw [List.getElem?_append_right (by rw [List.length_drop, List.length_range]; omega), List.length_drop, List.length_range, List.getElem?_take, if_pos (by omega), List.getElem?_range (by omega), Nat.mod_eq_sub_mod (by omega), Nat.mod_eq_of_lt (by omega)]
        congr 1; omega
    · rw [List.getElem?_eq_none (by rw [List.length_range]; omega), List.getElem?_eq_none (by simp; omega)]; rfl
  rw [e]
  exact List.perm_append_comm.trans (by rw [List.take_append_drop])
theorem flat_perm {α β : Type} {f g : α → List β} : ∀ (l : List α), (∀ a ∈ l, (f a).Perm (g a)) → (l.flatMap f).Perm (l.flatMap g)
  | [], _ => List.Perm.refl _
  | a :: l, h => by
    rw [List.flatMap_cons, List.flatMap_cons]
    exact (h a List.mem_cons_self).append (flat_perm l fun b hb => h b (List.mem_cons_of_mem _ hb))
def grid (p q : Nat) : List (Nat × Nat) := (List.range p).flatMap fun a => (List.range q).map fun d => (a, d)
theorem grid_rot {p q u v : Nat} (hp : 0 < p) (hq : 0 < q) : ((grid p q).map fun x => ((x.1 + u) % p, (x.2 + v) % q)).Perm (grid p q) := by
  unfold grid
  rw [List.map_flatMap]
  have e : ((List.range p).flatMap fun a => ((List.range q).map fun d => (a, d)).map fun x => ((x.1 + u) % p, (x.2 + v) % q)) = ((List.range p).map fun a => (a + u) % p).flatMap fun a => ((List.range q).map fun d => (d + v) % q).map fun d => (a, d) := by
    rw [List.flatMap_map]
    simp only [List.map_map]
    rfl
  rw [e]
  refine ((rot_range hp).flatMap_right _).trans ?_
  exact flat_perm _ fun a _ => (rot_range hq).map _
theorem grid_len {p q : Nat} : (grid p q).length = p * q := by
  unfold grid
  rw [List.length_flatMap]
  simp [List.sum_replicate_nat, List.map_const']
theorem mem_grid {p q : Nat} {x : Nat × Nat} : x ∈ grid p q ↔ x.1 < p ∧ x.2 < q := by
  unfold grid
  rw [List.mem_flatMap]
  constructor
  · rintro ⟨a, ha, h⟩
    obtain ⟨d, hd, rfl⟩ := List.mem_map.mp h
    exact ⟨List.mem_range.mp ha, List.mem_range.mp hd⟩
  · rintro ⟨h1, h2⟩
    exact ⟨x.1, List.mem_range.mpr h1, List.mem_map.mpr ⟨x.2, List.mem_range.mpr h2, rfl⟩⟩
/-- the number of unlike shifts divides the tile's places -/
theorem shifts_dvd {R : List (List Nat)} {W : Nat} (g : Good R W) {Dl : List (List (List Nat))} (nd : Dl.Nodup) (h : ∀ S, S ∈ Dl ↔ S ∈ allS R W) : Dl.length ∣ lw R W * lh R W := by
  have b1 := (lh_spec g).1
  have b2 := (lw_spec g).1
  generalize hT : (grid (lw R W) (lh R W)).map (fun x => shf R W x.1 x.2) = T
  have hmem : ∀ S, S ∈ Dl ↔ S ∈ T := fun S => by
    rw [h S, mem_allS g, ← hT, List.mem_map]
    constructor
    · rintro ⟨a, d, rfl⟩
      exact ⟨(a % lw R W, d % lh R W), mem_grid.mpr ⟨Nat.mod_lt _ b2.1, Nat.mod_lt _ b1.1⟩, shf_tile g⟩
    · rintro ⟨x, _, rfl⟩; exact ⟨_, _, rfl⟩
  have hc : ∀ S ∈ T, T.count S = (grid (lw R W) (lh R W)).countP fun x => decide (shf R W x.1 x.2 = R) := fun S hS => by
    rw [← hT] at hS ⊢
    obtain ⟨⟨u, v⟩, _, rfl⟩ := List.mem_map.mp hS
    show (List.map _ _).count (shf R W u v) = _
    rw [List.count_eq_countP, List.countP_map, ← (grid_rot (u := u) (v := v) b2.1 b1.1).countP_eq, List.countP_map]
    congr 1
    funext x
    show (shf R W ((x.1 + u) % lw R W) ((x.2 + v) % lh R W) == shf R W u v) = _
    rw [shf_tile g, Nat.add_comm x.1, Nat.add_comm x.2, ← shf_shf g]
    rw [Bool.beq_eq_decide_eq]
    apply decide_eq_decide.mpr
    exact ⟨fun e => shf_inj (shf_good g) g shf_len e, fun e => by rw [e]⟩
  have := all_count nd hmem hc
  rw [← hT, List.length_map, grid_len] at this
  exact ⟨_, this⟩
end H86
set_option Elab.async false
set_option linter.all false
set_option maxRecDepth 100000
set_option maxHeartbeats 4000000
namespace H86
open PySem PySem.Spec PyProof.Rows L2 MI
theorem mul_n' {a b : Nat} (h : b < 10000000000000000000) : gMul (nI a) (nI b) = some (nI (a * b)) := by
  show (if cMul (a : Int) (b : Int) = true then some (PyData.int ((a : Int) * (b : Int))) else none) = _
  rw [if_pos (by simp [cMul]; omega)]; rfl
theorem n_mf : (("mass" : Str) = "figures") = False := by simp only [eq_iff_iff, iff_false]; decide +kernel
theorem n_md : (("mass" : Str) = "dips") = False := by simp only [eq_iff_iff, iff_false]; decide +kernel
theorem n_fm : (("figures" : Str) = "mass") = False := by simp only [eq_iff_iff, iff_false]; decide +kernel
theorem n_fd : (("figures" : Str) = "dips") = False := by simp only [eq_iff_iff, iff_false]; decide +kernel
theorem n_dm : (("dips" : Str) = "mass") = False := by simp only [eq_iff_iff, iff_false]; decide +kernel
theorem n_df : (("dips" : Str) = "figures") = False := by simp only [eq_iff_iff, iff_false]; decide +kernel
theorem kr_eq {a b : Str} : ((Sum.inr a : Key) = Sum.inr b) = (a = b) := by simp
def chK (m f n : D) : List (Key × D) := [(.inr ("mass" : Str), m), (.inr ("figures" : Str), f), (.inr ("dips" : Str), n)]
def chS (m f n : Nat) : SV := .dct (chK (nI m) (nI f) (nI n))
section
variable {m f n x : D}
theorem v_m : valD (chK m f n) (.inr ("mass" : Str)) = some m := by unfold valD chK; simp [List.find?_cons]
theorem v_f : valD (chK m f n) (.inr ("figures" : Str)) = some f := by unfold valD chK; simp [List.find?_cons, kr_eq, n_mf]
theorem v_d : valD (chK m f n) (.inr ("dips" : Str)) = some n := by unfold valD chK; simp [List.find?_cons, kr_eq, n_md, n_fd]
theorem u_m : putD (chK m f n) (.inr ("mass" : Str)) x = chK x f n := by unfold putD chK; simp [kr_eq, n_fm, n_dm]
theorem u_f : putD (chK m f n) (.inr ("figures" : Str)) x = chK m x n := by unfold putD chK; simp [kr_eq, n_mf, n_df]
theorem u_d : putD (chK m f n) (.inr ("dips" : Str)) x = chK m f x := by unfold putD chK; simp [kr_eq, n_md, n_fd]
end
theorem k7 {env : En} : dK (.int 7) env = .ok (nI 7) env := rfl
theorem k31 {env : En} : dK (.int 31) env = .ok (nI 31) env := rfl
theorem k39373 {env : En} : dK (.int 39373) env = .ok (nI 39373) env := rfl
theorem kBig {env : En} : dK (.int 2147483629) env = .ok (nI 2147483629) env := rfl
theorem gOwn_ch {m f n : Nat} {e : En} : gOwn (some (chS m f n) :: e) 0 = some (.dct (chK (nI m) (nI f) (nI n))) := rfl
theorem gOwn_ch' {m f n : Nat} {e : En} : gOwn (some (chS m f n) :: e) 0 = some (chS m f n) := rfl
theorem gOwn_ck {m f n : D} {e : En} : gOwn (some (.dct (chK m f n)) :: e) 0 = some (.dct (chK m f n)) := rfl
theorem p_dip {m f n k : Nat} (hk : 0 < k) (hk2 : k < 1000) : ∃ r m' f' n', r < k ∧ F__law_dip [chS m f n, .val (nI k)] = .rt (.val (nI r)) [chS m' f' n'] := by
  by_cases q : 0 < f
  · refine ⟨f % k, m, f / k, n, Nat.mod_lt _ hk, ?_⟩
    have h1 : sPut 0 (dK (.str ("figures" : Str))) (d2 gFdiv (dSlot 0 (dGet 0 (dK (.str ("figures" : Str))))) (dV 1)) [some (chS m f n), some (.val (nI k)), some (.val (nI (f % k)))] = .nx [some (chS m (f / k) n), some (.val (nI k)), some (.val (nI (f % k)))] := by
      rw [e_sPut (d := nI (f / k)) (e1 := [some (chS m f n), some (.val (nI k)), some (.val (nI (f % k)))]) (by simp [e_dSlot gOwn_ch, e_dGet gOwn_ch, v_f, div_n hk (by omega : k < 1073741824)]) gOwn_ch (by simp [chK]), u_f]; rfl
    simp [F__law_dip, fnOf, fs__law_dip, e_dSlot gOwn_ch, e_dGet gOwn_ch, v_f, k0, q, mod_n hk, h1, gOwn_ch']
  · have f0 : f = 0 := by omega
    subst f0
    refine ⟨(m * 39373 + 7 * (n + 1)) % 2147483629 / 31 % k, (m * 39373 + 7 * (n + 1)) % 2147483629, 0, n + 1, Nat.mod_lt _ hk, ?_⟩
    have h1 : sPut 0 (dK (.str ("dips" : Str))) (d2 gAdd (dSlot 0 (dGet 0 (dK (.str ("dips" : Str))))) (dK (.int 1))) [some (chS m 0 n), some (.val (nI k)), none] = .nx [some (chS m 0 (n + 1)), some (.val (nI k)), none] := by
      rw [e_sPut (d := nI (n + 1)) (e1 := [some (chS m 0 n), some (.val (nI k)), none]) (by simp [e_dSlot gOwn_ch, e_dGet gOwn_ch, v_d, k1]) gOwn_ch (by simp [chK]), u_d]; rfl
    have h2 : sPut 0 (dK (.str ("mass" : Str))) (d2 gMod (dC gInt (dCons (d2 gAdd (d2 gMul (dSlot 0 (dGet 0 (dK (.str ("mass" : Str))))) (dK (.int 39373))) (d2 gMul (dK (.int 7)) (dSlot 0 (dGet 0 (dK (.str ("dips" : Str))))))) dNil)) (dK (.int 2147483629))) [some (chS m 0 (n + 1)), some (.val (nI k)), none] = .nx [some (chS ((m * 39373 + 7 * (n + 1)) % 2147483629) 0 (n + 1)), some (.val (nI k)), none] := by
      rw [e_sPut (d := nI ((m * 39373 + 7 * (n + 1)) % 2147483629)) (e1 := [some (chS m 0 (n + 1)), some (.val (nI k)), none]) (by
        simp [e_dSlot gOwn_ch, e_dGet gOwn_ch, v_m, v_d, k7, k39373, kBig, mul_n' (by omega : 39373 < 10000000000000000000), mul_n (by omega : 7 < 10000000000000000000), mod_n (by omega : 0 < 2147483629)]) gOwn_ch (by simp [chK]), u_m]; rfl
    simp [F__law_dip, fnOf, fs__law_dip, e_dSlot gOwn_ch, e_dGet gOwn_ch, v_f, v_m, k0, h1, h2, k31, div_n (by omega : 0 < 31) (by omega : 31 < 1073741824), mod_n hk, gOwn_ch']
end H86
set_option Elab.async false
set_option linter.all false
set_option maxRecDepth 100000
set_option maxHeartbeats 4000000
namespace H86
open PySem PySem.Spec PyProof.Rows L2 MI
def ChP (c : SV) : Prop := ∃ m f n, c = chS m f n
@[simp] theorem e_mSlot0 {fr : En → Out (List AR)} {s : SV} {e : En} : mSlot 0 fr (some s :: e) = (fr (some s :: e)).bnd fun as e2 => .ok (.inr 0 :: as) e2 := e_mSlot (s := s) rfl
theorem ChP.own {c : SV} (h : ChP c) : c.own = true := by obtain ⟨m, f, n, rfl⟩ := h; rfl
theorem dip0 {c : SV} {k : Nat} (h : ChP c) (hk : 0 < k) (hk2 : k < 1000) : ∃ r c', r < k ∧ ChP c' ∧ ∀ e, dAft F__law_dip [0] 2 [.inr 0, .inl (nI k)] (some c :: e) = .ok (nI r) (some c' :: e) := by
  obtain ⟨m, f, n, rfl⟩ := h
  obtain ⟨r, m', f', n', h1, h2⟩ := p_dip (m := m) (f := f) (n := n) hk hk2
  exact ⟨r, chS m' f' n', h1, ⟨_, _, _, rfl⟩, fun e => callS1 (e := some (chS m f n) :: e) rfl rfl h2⟩
theorem ChP.gOwn {c : SV} (h : ChP c) {e : En} : gOwn (some c :: e) 0 = some c := by obtain ⟨m, f, n, rfl⟩ := h; rfl
theorem any_s {c : SV} {r : List Nat} (h : ChP c) (h1 : 1 ≤ r.length) (h2 : r.length ≤ 100) : ∃ x c', x ∈ r ∧ ChP c' ∧ ∀ e, dAft F__law_any [0] 2 [.inr 0, .inl (sD r)] (some c :: e) = .ok (sD [x]) (some c' :: e) := by
  obtain ⟨i, c', hi, hc, hd⟩ := dip0 h (by omega : 0 < r.length) (by omega)
  refine ⟨chr r i, c', ?_, hc, fun e => callS1 (e := some c :: e) rfl h.own ?_⟩
  · unfold chr; rw [List.getD_eq_getElem?_getD, List.getElem?_eq_getElem hi]; exact List.getElem_mem hi
  · simp [F__law_any, fnOf, fs__law_any, len_sD (by omega : r.length ≤ 1000000), hd, ix_sD hi (by omega), hc.gOwn]
theorem any_l {c : SV} {ds : List D} (h : ChP c) (h1 : 1 ≤ ds.length) (h2 : ds.length < 1000) : ∃ x c', x ∈ ds ∧ ChP c' ∧ ∀ e, dAft F__law_any [0] 2 [.inr 0, .inl (.list ds)] (some c :: e) = .ok x (some c' :: e) := by
  obtain ⟨i, c', hi, hc, hd⟩ := dip0 h (by omega : 0 < ds.length) h2
  refine ⟨ds[i], c', List.getElem_mem hi, hc, fun e => callS1 (e := some c :: e) rfl h.own ?_⟩
  have hx : gIx (.list ds) (nI i) = some ds[i] := by
    show atI ds (i : Int) = _
    rw [atI_nat hi, List.getElem?_eq_getElem hi]
  simp [F__law_any, fnOf, fs__law_any, hd, hx, hc.gOwn]
theorem lay_lst {R : List (List Nat)} (h : okR R) : SeqAt.shaped (.list (R.map sD)) = true := by
  unfold SeqAt.shaped
  have a : PyData.canLay0 (.list (R.map sD)) = true := by rw [PyData.canLay0, lay_rows h]
  have b : PyData.depth (.list (R.map sD)) = 1 := by rw [PyData.depth, dep_rows]
  rw [a, b]; rfl
theorem ne_lst {R Q : List (List Nat)} (h1 : okR R) (h2 : okR Q) : gNe (.list (R.map sD)) (.list (Q.map sD)) = some (.bool (!decide (R = Q))) := by
  unfold gNe; rw [if_pos ⟨lay_lst h1, lay_lst h2⟩, PyData.eqv, eqv_rows]
/-- the last of a list -/
theorem ix_last {R : List (List Nat)} (h : R ≠ []) : ∃ r ∈ R, gIx (.list (R.map sD)) (.int (-1)) = some (sD r) := by
  have hl : 0 < R.length := List.length_pos_iff.mpr h
  refine ⟨R[R.length - 1], List.getElem_mem _, ?_⟩
  show atI (R.map sD) (-1) = _
  unfold atI
  have : ixN (R.map sD).length (-1) = some (R.length - 1) := by
    unfold ixN
    rw [List.length_map]
    simp
    omega
  rw [this]
  show (R.map sD)[R.length - 1]? = _
  rw [List.getElem?_map, List.getElem?_eq_getElem (by omega)]; rfl
def RowOk (r : List Nat) (W : Nat) : Prop := r.length = W ∧ ∀ c ∈ r, 97 ≤ c ∧ c ≤ 101
theorem colours0 {c : SV} {ys : List Nat} {most high : Nat} (h : ChP c) (h1 : 1 ≤ ys.length) (h2 : ys.length ≤ 5) (hy : ∀ x ∈ ys, 97 ≤ x ∧ x ≤ 101) (hm : 1 ≤ most) (hm2 : most ≤ 16) (hh : 1 ≤ high) (hh2 : high ≤ 10) :
    ∃ R W c', Good R W ∧ W ≤ most ∧ R.length ≤ high ∧ ChP c' ∧ ∀ e, dAft F__law_colours [0] 4 [.inr 0, .inl (sD ys), .inl (nI most), .inl (nI high)] (some c :: e) = .ok (rD R) (some c' :: e) := by
  obtain ⟨w0, c1, hw0, hc1, hd1⟩ := dip0 h hm (by omega : most < 1000)
  obtain ⟨g0, c2, hg0, hc2, hd2⟩ := dip0 hc1 hh (by omega : high < 1000)
  have loop := fGo_inv (b := bName 6) (items := (List.range (1 + g0)).map nI)
    (F1 := (sSq (sAsg (dCall F__law_dip [0] 2 (mSlot 0 (mVal (dK (.int 4)) mNil))) (bName 7)) (sSq (sAsg (dJoin (dK (.str ("" : Str))) (dLst (dLc (sRng1 (dCons (dV 4) dNil)) (bName 9) [9] tY (dCall F__law_any [0] 2 (mSlot 0 (mVal (dV 1) mNil)))))) (bName 8)) (sSq (sIf (dAndB (dB (d2 gEq (dV 7) (dK (.int 0)))) (bSee (dB (d2 gNe (dV 5) (dLst (dList dNil)))))) (sAsg (dSee (d2 gIx (dV 5) (dNeg (dK (.int 1))))) (bName 8)) (sIf (dB (d2 gEq (dV 7) (dK (.int 1)))) (sAsg (dJoin (dK (.str ("" : Str))) (dLst (dLc (sRng1 (dCons (dV 4) dNil)) (bName 9) [9] tY (d2 gIx (dV 8) (d2 gFdiv (dV 9) (dK (.int 2))))))) (bName 8)) sNx)) (sApp 5 (dV 8))))))
    (S := fun i env => ∃ (c : SV) (s : List (List Nat)) (x6 x7 x8 : Option SV), ChP c ∧ s.length = i ∧ (∀ r ∈ s, RowOk r (1 + w0)) ∧ env = [some c, some (.val (sD ys)), some (.val (nI most)), some (.val (nI high)), some (.val (nI (1 + w0))), some (.lst (s.map sD)), x6, x7, x8, none])
    (fun i d hd env ⟨c, s, x6, x7, x8, hc, hs, hr, he⟩ => by
      obtain ⟨hi, rfl⟩ := rgn_get hd
      subst he
      obtain ⟨way, c3, hway, hc3, hd3⟩ := dip0 hc (by omega : 0 < 4) (by omega : 4 < 1000)
      obtain ⟨acc, e4, hl4, c4, r, hc4, hacc, hrl, hrc, rfl⟩ := lc_inv (v := 9) (src := sRng1 (dCons (dV 4) dNil)) (te := dCall F__law_any [0] 2 (mSlot 0 (mVal (dV 1) mNil)))
        (env := [some c3, some (.val (sD ys)), some (.val (nI most)), some (.val (nI high)), some (.val (nI (1 + w0))), some (.lst (s.map sD)), some (.val (nI i)), some (.val (nI way)), x8, none])
        (e1 := [some c3, some (.val (sD ys)), some (.val (nI most)), some (.val (nI high)), some (.val (nI (1 + w0))), some (.lst (s.map sD)), some (.val (nI i)), some (.val (nI way)), x8, none])
        (items := (List.range (1 + w0)).map nI)
        (J := fun k acc e => ∃ (c : SV) (r : List Nat), ChP c ∧ acc = r.map (fun c => sD [c]) ∧ r.length = k ∧ (∀ c ∈ r, 97 ≤ c ∧ c ≤ 101) ∧ e = [some c, some (.val (sD ys)), some (.val (nI most)), some (.val (nI high)), some (.val (nI (1 + w0))), some (.lst (s.map sD)), some (.val (nI i)), some (.val (nI way)), x8, none])
        (by simp [rng1_n (by omega : 1 + w0 < 1000000)]) (by simp; omega) ⟨c3, [], hc3, rfl, rfl, fun _ z => (nomatch z), rfl⟩ (fun n acc e ⟨_, _, _, _, _, _, he⟩ => by rw [he]; rfl)
        (fun j d hd acc e ⟨c, r, hc, ha, hl, hcs, he⟩ => by
          obtain ⟨hj, rfl⟩ := rgn_get hd
          obtain ⟨x, c', hx, hc', hd'⟩ := any_s hc h1 (by omega)
          subst he
          refine ⟨sD [x], [some c', some (.val (sD ys)), some (.val (nI most)), some (.val (nI high)), some (.val (nI (1 + w0))), some (.lst (s.map sD)), some (.val (nI i)), some (.val (nI way)), x8, none], by simp [hd'], c', r ++ [x], hc', by rw [ha, List.map_append]; rfl, by simp [hl], fun c hc => ?_, rfl⟩
          rcases List.mem_append.mp hc with z | z
          · exact hcs c z
          · rw [List.mem_singleton.mp z]; exact hy x hx)
      rw [List.length_map, List.length_range] at hrl
      subst hacc
      have hj := join_chars (l := r) (by omega)
      have okr : RowOk r (1 + w0) := ⟨hrl, hrc⟩
      -- the row told
      obtain ⟨r', hr', hif⟩ : ∃ r', RowOk r' (1 + w0) ∧ (sIf (dAndB (dB (d2 gEq (dV 7) (dK (.int 0)))) (bSee (dB (d2 gNe (dV 5) (dLst (dList dNil)))))) (sAsg (dSee (d2 gIx (dV 5) (dNeg (dK (.int 1))))) (bName 8)) (sIf (dB (d2 gEq (dV 7) (dK (.int 1)))) (sAsg (dJoin (dK (.str ("" : Str))) (dLst (dLc (sRng1 (dCons (dV 4) dNil)) (bName 9) [9] tY (d2 gIx (dV 8) (d2 gFdiv (dV 9) (dK (.int 2))))))) (bName 8)) sNx)) [some c4, some (.val (sD ys)), some (.val (nI most)), some (.val (nI high)), some (.val (nI (1 + w0))), some (.lst (s.map sD)), some (.val (nI i)), some (.val (nI way)), some (.val (sD r)), none] =
          .nx [some c4, some (.val (sD ys)), some (.val (nI most)), some (.val (nI high)), some (.val (nI (1 + w0))), some (.lst (s.map sD)), some (.val (nI i)), some (.val (nI way)), some (.val (sD r')), none] := by
        have seen : seeE [some c4, some (.val (sD ys)), some (.val (nI most)), some (.val (nI high)), some (.val (nI (1 + w0))), some (.lst (s.map sD)), some (.val (nI i)), some (.val (nI way)), some (.val (sD r)), none] = [none, some (.val (sD ys)), some (.val (nI most)), some (.val (nI high)), some (.val (nI (1 + w0))), some (.val (.list (s.map sD))), some (.val (nI i)), some (.val (nI way)), some (.val (sD r)), none] := by
          obtain ⟨_, _, _, rfl⟩ := hc4; rfl
        have oks : okR s := fun q hq x hx => by have := ((hr q hq).2 x hx).2; omega
        have hb : bSee (dB (d2 gNe (dV 5) (dLst (dList dNil)))) [some c4, some (.val (sD ys)), some (.val (nI most)), some (.val (nI high)), some (.val (nI (1 + w0))), some (.lst (s.map sD)), some (.val (nI i)), some (.val (nI way)), some (.val (sD r)), none] =
            .ok (!decide (s = [])) [some c4, some (.val (sD ys)), some (.val (nI most)), some (.val (nI high)), some (.val (nI (1 + w0))), some (.lst (s.map sD)), some (.val (nI i)), some (.val (nI way)), some (.val (sD r)), none] := by
          apply e_bSee
          rw [seen]
          have := ne_lst oks (Q := []) (fun _ z => nomatch z)
          simp only [List.map_nil] at this
          simp [this]
          rfl
        by_cases q : way = 0 ∧ s ≠ []
        · obtain ⟨q1, q2⟩ := q
          subst q1
          obtain ⟨t, ht, hix⟩ := ix_last q2
          refine ⟨t, hr t ht, ?_⟩
          have hse : dSee (d2 gIx (dV 5) (dNeg (dK (.int 1)))) [some c4, some (.val (sD ys)), some (.val (nI most)), some (.val (nI high)), some (.val (nI (1 + w0))), some (.lst (s.map sD)), some (.val (nI i)), some (.val (nI 0)), some (.val (sD r)), none] = .ok (sD t) [some c4, some (.val (sD ys)), some (.val (nI most)), some (.val (nI high)), some (.val (nI (1 + w0))), some (.lst (s.map sD)), some (.val (nI i)), some (.val (nI 0)), some (.val (sD r)), none] := by
            refine e_dSee (e := [none, some (.val (sD ys)), some (.val (nI most)), some (.val (nI high)), some (.val (nI (1 + w0))), some (.val (.list (s.map sD))), some (.val (nI i)), some (.val (nI 0)), some (.val (sD r)), none]) ?_ rfl
            rw [seen]
            simp [dNeg, e_dKi, hix]
          simp [k0, hb, q2, hse]
        · have c0 : (way = 0 ∧ ¬ s = []) = False := eq_false q
          by_cases q1 : way = 1
          · subst q1
            have hl := lc1 (src := sRng1 (dCons (dV 4) dNil)) (tt := tY) (te := d2 gIx (dV 8) (d2 gFdiv (dV 9) (dK (.int 2)))) (v := 9)
              (env := [some c4, some (.val (sD ys)), some (.val (nI most)), some (.val (nI high)), some (.val (nI (1 + w0))), some (.lst (s.map sD)), some (.val (nI i)), some (.val (nI 1)), some (.val (sD r)), none])
              (e1 := [some c4, some (.val (sD ys)), some (.val (nI most)), some (.val (nI high)), some (.val (nI (1 + w0))), some (.lst (s.map sD)), some (.val (nI i)), some (.val (nI 1)), some (.val (sD r)), none])
              (items := (List.range (1 + w0)).map nI) (P := fun _ => true) (r := fun j => sD [chr r (j / 2)])
              (by simp [rng1_n (by omega : 1 + w0 < 1000000)]) (by simp; omega) rfl (fun j y hj => by
                obtain ⟨hj, rfl⟩ := rgn_get hj
                exact ⟨rfl, fun _ => by simp [k2, div_n (by omega : 0 < 2) (by omega : 2 < 1073741824), ix_sD (by omega : j / 2 < r.length) (by omega : r.length ≤ 1000000)]⟩)
            have e : ((List.range ((List.range (1 + w0)).map nI).length).filter fun _ => true).map (fun j => sD [chr r (j / 2)]) = ((List.range (1 + w0)).map fun j => chr r (j / 2)).map fun c => sD [c] := by
              rw [List.filter_eq_self.mpr (fun _ _ => rfl), List.length_map, List.length_range, List.map_map]; rfl
            rw [e] at hl
            have hj2 := join_chars (l := (List.range (1 + w0)).map fun j => chr r (j / 2)) (by simp; omega)
            refine ⟨(List.range (1 + w0)).map fun j => chr r (j / 2), ⟨by simp, fun x hx => ?_⟩, ?_⟩
            · obtain ⟨j, hj, rfl⟩ := List.mem_map.mp hx
              have hj := List.mem_range.mp hj
              refine hrc _ ?_
              unfold chr
              rw [List.getD_eq_getElem?_getD, List.getElem?_eq_getElem (by omega : j / 2 < r.length)]; exact List.getElem_mem _
            · simp [k0, k1, hb, -List.map_map] at hl hj2 ⊢
              simp [hl, hj2, -List.map_map]
          · refine ⟨r, okr, ?_⟩
            by_cases q0 : way = 0
            · have : s = [] := Classical.byContradiction fun z => q ⟨q0, z⟩
              subst this
              subst q0
              simp [k0, k1] at hb ⊢
              simp [hb]
            · simp [k0, k1, q0, q1, hb]
      refine ⟨[some c, some (.val (sD ys)), some (.val (nI most)), some (.val (nI high)), some (.val (nI (1 + w0))), some (.lst (s.map sD)), some (.val (nI i)), x7, x8, none], [some c4, some (.val (sD ys)), some (.val (nI most)), some (.val (nI high)), some (.val (nI (1 + w0))), some (.lst ((s ++ [r']).map sD)), some (.val (nI i)), some (.val (nI way)), some (.val (sD r')), none], rfl, ?_, c4, s ++ [r'], some (.val (nI i)), some (.val (nI way)), some (.val (sD r')), hc4, by simp [hs], fun q hq => ?_, rfl⟩
      · simp only [e_sSq]
        have a1 : sAsg (dCall F__law_dip [0] 2 (mSlot 0 (mVal (dK (.int 4)) mNil))) (bName 7) [some c, some (.val (sD ys)), some (.val (nI most)), some (.val (nI high)), some (.val (nI (1 + w0))), some (.lst (s.map sD)), some (.val (nI i)), x7, x8, none] = .nx [some c3, some (.val (sD ys)), some (.val (nI most)), some (.val (nI high)), some (.val (nI (1 + w0))), some (.lst (s.map sD)), some (.val (nI i)), some (.val (nI way)), x8, none] := by
          simp [k4, hd3]
        rw [a1, sqK_nx, e_sSq, e_sAsg, e_dJoin, e_dKs, bnd_ok, joinK_s, e_dLst, hl4, bnd_ok, bnd_ok, hj, outO_some, bnS_ok, e_bName, asgK_s, sqK_nx, e_sSq]
        show sqK _ (sIf _ _ _ [some c4, some (.val (sD ys)), some (.val (nI most)), some (.val (nI high)), some (.val (nI (1 + w0))), some (.lst (s.map sD)), some (.val (nI i)), some (.val (nI way)), some (.val (sD r)), none]) = _
        rw [hif, sqK_nx, e_app' (l := s.map sD) (ds := s.map sD) (d := sD r') (e := [some c4, some (.val (sD ys)), some (.val (nI most)), some (.val (nI high)), some (.val (nI (1 + w0))), some (.lst (s.map sD)), some (.val (nI i)), some (.val (nI way)), some (.val (sD r')), none]) rfl (by simp) rfl (by rw [List.length_map]; omega)]
        rw [List.map_append]; rfl
      · rcases List.mem_append.mp hq with z | z
        · exact hr q z
        · rw [List.mem_singleton.mp z]; exact hr') _ ⟨c2, [], none, none, none, hc2, rfl, fun _ z => (nomatch z), rfl⟩
  rw [List.length_map, List.length_range] at loop
  obtain ⟨e, hgo, c5, s, x6, x7, x8, hc5, hs, hr, rfl⟩ := loop
  simp only [List.map_nil] at hgo
  refine ⟨s, 1 + w0, c5, ⟨by omega, by omega, by omega, by omega, fun r hq => (hr r hq).1, fun r hq => (hr r hq).2⟩, by omega, by omega, hc5, fun e => ?_⟩
  have hcall : F__law_colours [c, .val (sD ys), .val (nI most), .val (nI high)] = .rt (.val (rD s)) [c5] := by
    simp [F__law_colours, fnOf, fs__law_colours, k1, hd1, hd2, rng1_n (by omega : 1 + g0 < 1000000), hgo, frz, hc5.gOwn]; rfl
  exact callS3 (e := some c :: e) rfl h.own hcall
end H86
set_option Elab.async false
set_option linter.all false
set_option maxRecDepth 100000
set_option maxHeartbeats 4000000
namespace H86
open PySem PySem.Spec PyProof.Rows L2 MI
def rep {α : Type} (l : List α) (n : Nat) : List α := (List.replicate n l).flatten
theorem rep_len {α : Type} {l : List α} {n : Nat} : (rep l n).length = n * l.length := by unfold rep; simp [List.sum_replicate_nat]
theorem rep_get {α : Type} {l : List α} : ∀ {n i : Nat}, i < n * l.length → (rep l n)[i]? = l[i % l.length]?
  | 0, i, h => by rw [Nat.zero_mul] at h; omega
  | n + 1, i, h => by
    have hl : 0 < l.length := by
      rcases Nat.eq_zero_or_pos l.length with z | z
      · rw [z] at h; omega
      · exact z
    unfold rep
    rw [List.replicate_succ, List.flatten_cons]
    by_cases q : i < l.length
    · rw [List.getElem?_append_left q, Nat.mod_eq_of_lt q]
    · rw [List.getElem?_append_right (by omega), Nat.mod_eq_sub_mod (by omega)]
      rw [Nat.succ_mul] at h
      exact rep_get (n := n) (i := i - l.length) (by omega)
theorem mul_s {r : List Nat} {a : Nat} (h1 : 1 ≤ a) (h2 : a ≤ 1000) (h3 : 1 ≤ r.length) (h4 : r.length ≤ 1000) : gMul (sD r) (nI a) = some (sD (rep r a)) := by
  show (if 1 ≤ (a : Int) ∧ (a : Int) ≤ 1000 ∧ 1 ≤ (⟨r.toArray⟩ : Str).length ∧ (⟨r.toArray⟩ : Str).length ≤ 1000 then some (PyData.str (repS ⟨r.toArray⟩ ((a : Int).toNat))) else none) = _
  have e : (⟨r.toArray⟩ : Str).length = r.length := by show r.toArray.size = _; simp
  rw [e, if_pos (by omega)]
  unfold repS rep sD
  simp
theorem mul_l {ds : List D} {a : Nat} (h2 : a ≤ 1000) (h4 : ds.length ≤ 1000) : gMul (.list ds) (nI a) = some (.list (rep ds a)) := by
  show (if 0 ≤ (a : Int) ∧ (a : Int) ≤ 1000 ∧ ds.length ≤ 1000 then some (PyData.list ((List.replicate (a : Int).toNat ds).flatten)) else none) = _
  rw [if_pos (by omega)]
  unfold rep
  simp
theorem rep_map {α β : Type} {f : α → β} {l : List α} {n : Nat} : rep (l.map f) n = (rep l n).map f := by unfold rep; rw [List.map_flatten, List.map_replicate]
theorem rep_mem {α : Type} {l : List α} {n : Nat} {x : α} (h : x ∈ rep l n) : x ∈ l := by
  unfold rep at h
  obtain ⟨m, hm, hx⟩ := List.mem_flatten.mp h
  rw [List.eq_of_mem_replicate hm] at hx
  exact hx
def big (P : List (List Nat)) (a d : Nat) : List (List Nat) := rep (P.map fun r => rep r a) d
section
variable {P : List (List Nat)} {w a d : Nat}
theorem big_row {i : Nat} (hi : i < d * P.length) : row (big P a d) i = rep (row P (i % P.length)) a := by
  have hp : 0 < P.length := by
    rcases Nat.eq_zero_or_pos P.length with z | z
    · rw [z] at hi; omega
    · exact z
  have hm : i % P.length < P.length := Nat.mod_lt _ hp
  apply row_of
  unfold big
  rw [rep_get (by rw [List.length_map]; exact hi), List.length_map, List.getElem?_map, List.getElem?_eq_getElem hm, row_of (List.getElem?_eq_getElem hm)]; rfl
theorem big_len : (big P a d).length = d * P.length := by unfold big; rw [rep_len, List.length_map]
theorem big_good (g : Good P w) (ha : 1 ≤ a) (hd : 1 ≤ d) (hw : a * w ≤ 16) (hh : d * P.length ≤ 10) : Good (big P a d) (a * w) := by
  have h1 := g.h1
  have w1 := g.w1
  refine ⟨by rw [big_len]; exact Nat.mul_le_mul hd h1, by rw [big_len]; exact hh, Nat.mul_le_mul ha w1, hw, fun r hr => ?_, fun r hr c hc => ?_⟩
  · obtain ⟨q, hq, rfl⟩ := List.mem_map.mp (rep_mem hr)
    rw [rep_len, g.len q hq]
  · obtain ⟨q, hq, rfl⟩ := List.mem_map.mp (rep_mem hr)
    exact g.let_ q hq c (rep_mem hc)
theorem big_rep (g : Good P w) : Rep P w (big P a d) (a * w) := by
  refine ⟨Nat.dvd_mul_left _ _, by rw [big_len]; exact Nat.dvd_mul_left _ _, fun i j hi hj => ?_⟩
  rw [big_len] at hi
  have hm : i % P.length < P.length := Nat.mod_lt _ g.h1
  unfold cell
  rw [big_row hi]
  have hl := g.rowlen hm
  have hj' : j % w < (row P (i % P.length)).length := by rw [hl]; exact Nat.mod_lt _ g.w1
  apply chr_of
  rw [rep_get (by rw [hl]; exact hj), hl, List.getElem?_eq_getElem hj']
  unfold chr
  rw [List.getD_eq_getElem?_getD, List.getElem?_eq_getElem hj']; rfl
theorem lit_ab : PyData.str ("ab" : Str) = sD [97, 98] := congrArg PyData.str (by decide +kernel)
theorem lit_abc : PyData.str ("abc" : Str) = sD [97, 98, 99] := congrArg PyData.str (by decide +kernel)
theorem div_pos' {n m : Nat} (h : 1 ≤ m) (h2 : m ≤ n) : 0 < n / m := Nat.div_pos h2 h
theorem drawn0 {c : SV} (h : ChP c) : ∃ P w R W c', Good P w ∧ w ≤ 4 ∧ P.length ≤ 3 ∧ Good R W ∧ Rep P w R W ∧ ChP c' ∧ F__law_drawn [c] = .rt (.val (.tuple [rD P, rD R])) [c'] := by
  obtain ⟨x, c1, hx, hc1, hd1⟩ := any_l (ds := [PyData.str ("ab" : Str), PyData.str ("abc" : Str), PyData.str ("a" : Str)]) h (by simp) (by simp)
  obtain ⟨ys, rfl, hy1, hy2, hy3⟩ : ∃ ys, x = sD ys ∧ 1 ≤ ys.length ∧ ys.length ≤ 5 ∧ ∀ x ∈ ys, 97 ≤ x ∧ x ≤ 101 := by
    rw [lit_ab, lit_abc, lit_a] at hx
    simp only [List.mem_cons, List.not_mem_nil, or_false] at hx
    rcases hx with rfl | rfl | rfl
    · exact ⟨_, rfl, by simp, by simp, by intro z hz; simp at hz; omega⟩
    · exact ⟨_, rfl, by simp, by simp, by intro z hz; simp at hz; omega⟩
    · exact ⟨_, rfl, by simp, by simp, by intro z hz; simp at hz; omega⟩
  obtain ⟨P, w, c2, g, hw, hl, hc2, hd2⟩ := colours0 hc1 hy1 hy2 hy3 (by omega : 1 ≤ 4) (by omega) (by omega : 1 ≤ 3) (by omega)
  have h1 := g.h1
  have w1 := g.w1
  have q1 := div_pos' w1 (by omega : w ≤ 16)
  have q2 := div_pos' h1 (by omega : P.length ≤ 10)
  have q1' := Nat.div_le_self 16 w
  have q2' := Nat.div_le_self 10 P.length
  obtain ⟨a0, c3, ha0, hc3, hd3⟩ := dip0 hc2 q1 (by omega)
  obtain ⟨d0, c4, hd0, hc4, hd4⟩ := dip0 hc3 q2 (by omega)
  have m1 := Nat.div_mul_le_self 16 w
  have m2 := Nat.div_mul_le_self 10 P.length
  have ea : min (1 + a0) 4 * w ≤ 16 := Nat.le_trans (Nat.mul_le_mul_right w (by omega : min (1 + a0) 4 ≤ 16 / w)) m1
  have ed : min (1 + d0) 4 * P.length ≤ 10 := Nat.le_trans (Nat.mul_le_mul_right _ (by omega : min (1 + d0) 4 ≤ 10 / P.length)) m2
  have b1 : 1 ≤ min (1 + a0) 4 := by omega
  have b2 : 1 ≤ min (1 + d0) 4 := by omega
  have b3 : min (1 + a0) 4 ≤ 1000 := by omega
  have b4 : min (1 + d0) 4 ≤ 1000 := by omega
  refine ⟨P, w, big P (min (1 + a0) 4) (min (1 + d0) 4), min (1 + a0) 4 * w, c4, g, hw, hl, big_good g b1 b2 ea ed, big_rep g, hc4, ?_⟩
  generalize ea0 : min (1 + a0) 4 = a at *
  generalize ed0 : min (1 + d0) 4 = dn at *
  have hlc := lc1 (src := sSeq (dV 1)) (tt := tY) (te := d2 gMul (dV 4) (dV 2)) (v := 4) (env := [some c4, some (.val (rD P)), some (.val (nI a)), some (.val (nI dn)), none]) (e1 := [some c4, some (.val (rD P)), some (.val (nI a)), some (.val (nI dn)), none])
    (items := P.map sD) (P := fun _ => true) (r := fun i => sD (rep (row P i) a)) (by simp) (by simp; omega) rfl (fun i d hd => by
      obtain ⟨r, hr, rfl⟩ := map_get hd
      have lr := g.len r (List.mem_of_getElem? hr)
      exact ⟨rfl, fun _ => by simp [mul_s b1 b3 (by omega : 1 ≤ r.length) (by omega : r.length ≤ 1000), row_of hr]⟩)
  have e : ((List.range (P.map sD).length).filter fun _ => true).map (fun i => sD (rep (row P i) a)) = (P.map fun r => rep r a).map sD := by
    rw [List.filter_eq_self.mpr (fun _ _ => rfl), List.length_map]
    apply List.ext_getElem?
    intro i
    rw [List.getElem?_map, List.getElem?_map, List.getElem?_map]
    by_cases q : i < P.length
    · rw [List.getElem?_range q, List.getElem?_eq_getElem q]
      simp [row_of (List.getElem?_eq_getElem q)]
    · rw [List.getElem?_eq_none (by rw [List.length_range]; omega), List.getElem?_eq_none (by omega)]; rfl
  rw [e] at hlc
  have hml := mul_l (ds := (P.map fun r => rep r a).map sD) (a := dn) b4 (by simp; omega)
  rw [rep_map] at hml
  have k3 : ∀ {env : En}, dK (.int 3) env = .ok (nI 3) env := rfl
  simp [F__law_drawn, fnOf, fs__law_drawn, hd1, hd2, k0, k1, k3, k4, k10, k16, g.ix0, g.len0, div_n w1 (by omega : w < 1073741824), div_n h1 (by omega : P.length < 1073741824), hd3, hd4, ea0, ed0, hlc, hml, hc4.gOwn, -List.map_map]
  rfl
end
end H86
set_option Elab.async false
set_option linter.all false
set_option maxRecDepth 100000
set_option maxHeartbeats 4000000
namespace H86
open PySem PySem.Spec PyProof.Rows L2 MI
/-! _law_match of a datum with itself -/
inductive MOk : Nat → D → Prop
  | b {n : Nat} (b : Bool) : MOk (n + 1) (.bool b)
  | i {n : Nat} (z : Int) : MOk (n + 1) (.int z)
  | s {n : Nat} {r : List Nat} : okT r → MOk (n + 1) (sD r)
  | t {n : Nat} {ds : List D} : ds.length ≤ 1000 → (∀ d ∈ ds, MOk n d) → MOk (n + 1) (.tuple ds)
  | l {n : Nat} {ds : List D} : ds.length ≤ 1000 → (∀ d ∈ ds, MOk n d) → MOk (n + 1) (.list ds)
theorem zip_self {ds : List D} {i : Nat} {d : D} (h : (zipD ds ds)[i]? = some d) : ∃ x ∈ ds, d = .tuple [x, x] := by
  unfold zipD at h
  rw [List.getElem?_map] at h
  cases hz : (ds.zip ds)[i]? with
  | none => rw [hz] at h; cases h
  | some p =>
    rw [hz] at h
    cases h
    rw [List.getElem?_zip_eq_some] at hz
    have e : p.1 = p.2 := Option.some.inj (hz.1.symm.trans hz.2)
    exact ⟨p.1, List.mem_of_getElem? hz.1, by show PyData.tuple [p.1, p.2] = _; rw [← e]⟩
theorem zip_len {ds : List D} : (zipD ds ds).length = ds.length := by unfold zipD; simp
theorem p_match : ∀ {n : Nat} {d : D}, MOk n d → F__law_match n [.val d, .val d] = .rt (.val (.bool true)) []
  | 0, _, h => by cases h
  | n + 1, d, h => by
    have comp : ∀ (q : D) (ds : List D), zipItems q q = some (zipD ds ds) → ds.length ≤ 1000 → (∀ d ∈ ds, MOk n d) → dLc (sZip (dCons (dV 0) (dCons (dV 1) dNil))) (bTup 2 (bCons (bName 2) (bCons (bName 3) bNil))) [2, 3] tY (dCall (F__law_match n) [] 2 (mVal (dV 2) (mVal (dV 3) mNil))) [some (.val q), some (.val q), none, none] = .ok ((List.replicate ds.length true).map PyData.bool) [some (.val q), some (.val q), none, none] := fun q ds hz hl hd => by
      rw [lcG (e1 := [some (.val q), some (.val q), none, none]) (items := zipD ds ds) (P := fun _ => true) (r := fun _ => .bool true) (by simp [hz]) (by rw [zip_len]; omega) rfl rfl rfl (fun i d hi => by
        obtain ⟨x, hx, rfl⟩ := zip_self hi
        exact ⟨[some (.val q), some (.val q), some (.val x), some (.val x)], by simp, rfl, fun _ => by simp [call2 (p_match (hd x hx))], rfl, rfl⟩), filter_true, zip_len]
      congr 1
      rw [List.map_const', List.map_replicate, List.length_range]
    cases h with
    | b b => simp [F__law_match, fnOf, fs__law_match]
    | i z => simp [F__law_match, fnOf, fs__law_match]
    | s hr => simp [F__law_match, fnOf, fs__law_match, eq_sD hr hr]
    | @t _ ds hl hd =>
      have hc := comp (.tuple ds) ds rfl hl hd
      simp [F__law_match, fnOf, fs__law_match, hc, all_bools, -List.map_replicate]
    | @l _ ds hl hd =>
      have hc := comp (.list ds) ds rfl hl hd
      simp [F__law_match, fnOf, fs__law_match, hc, all_bools, -List.map_replicate]
theorem mok_rows {n : Nat} {R : List (List Nat)} (h : okR R) (hl : R.length ≤ 1000) : MOk (n + 2) (rD R) := .t (by rw [List.length_map]; exact hl) fun d hd => by
  obtain ⟨r, hr, rfl⟩ := List.mem_map.mp hd
  exact .s (h r hr)
theorem p_matchH {d : D} (h : (∃ b, d = .bool b) ∨ ∃ z, d = .int z) : FH__law_match [.val d, .val d] = .rt (.val (.bool true)) [] := by
  rcases h with ⟨b, rfl⟩ | ⟨z, rfl⟩
  · simp [FH__law_match, fnOf, fsH__law_match]
  · simp [FH__law_match, fnOf, fsH__law_match]
/-! churn -/
def p17 : Nat := 10 ^ 17
def p40 : Nat := 10 ^ 40
theorem e_p17 {env : En} : d2 gPow (dK (.int 10)) (dK (.int 17)) env = .ok (nI p17) env := by
  show outO (gPow (.int 10) (.int 17)) env = _
  have : gPow (.int 10) (.int 17) = some (nI p17) := by
    show (if cPow 10 17 = true then some (PyData.int ((10 : Int) ^ (17 : Int).toNat)) else none) = _
    rw [if_pos (by decide +kernel)]
    show some (PyData.int ((10 : Int) ^ 17)) = some (PyData.int ((10 ^ 17 : Nat) : Int))
    congr 2
  rw [this]; rfl
theorem e_p40 {env : En} : d2 gPow (dK (.int 10)) (dK (.int 40)) env = .ok (nI p40) env := by
  show outO (gPow (.int 10) (.int 40)) env = _
  have : gPow (.int 10) (.int 40) = some (nI p40) := by
    show (if cPow 10 40 = true then some (PyData.int ((10 : Int) ^ (40 : Int).toNat)) else none) = _
    rw [if_pos (by decide +kernel)]
    show some (PyData.int ((10 : Int) ^ 40)) = some (PyData.int ((10 ^ 40 : Nat) : Int))
    congr 2
  rw [this]; rfl
theorem mod_z {z : Int} {b : Nat} (h : 0 < b) : gMod (.int z) (nI b) = some (nI (z % (b : Int)).toNat) := by
  show (if decide ((0 : Int) < (b : Int)) = true then some (PyData.int (z % (b : Int))) else none) = _
  rw [if_pos (by simp; omega)]
  show _ = some (PyData.int (((z % (b : Int)).toNat : Nat) : Int))
  rw [Int.toNat_of_nonneg (Int.emod_nonneg _ (by omega))]
theorem abs_z {z : Int} : gAbs [.int z] = some (nI z.natAbs) := by
  rw [gAbs_i]
  show some (PyData.int _) = some (PyData.int _)
  congr 2
  by_cases h : z < 0
  · rw [if_pos h]; omega
  · rw [if_neg h]; omega
theorem dispGo_cons {k : Str} {f : Fe} {r : List (Str × Fe)} {env e1 : En} {d : D} (h : f env = .ok d e1) : dispGo ((k, f) :: r) env = (dispGo r e1).bns fun kvs e2 => .ok ((.inr k, d) :: kvs) e2 := by
  rw [dispGo, h, bns_ok]
theorem p_churn {ns : List Int} {lap : Nat} (hn : ns.length ≤ 63) (hl : lap ≤ 1) : ∃ c, ChP c ∧ F__law_churn [.scr ns, .val (nI lap)] = .rt c [] := by
  have k16645 : ∀ {env : En}, dK (.int 16645) env = .ok (nI 16645) env := rfl
  have k2038 : ∀ {env : En}, dK (.int 2038074743) env = .ok (nI 2038074743) env := rfl
  have k977 : ∀ {env : En}, dK (.int 977) env = .ok (nI 977) env := rfl
  have k5150 : ∀ {env : En}, dK (.int 5150) env = .ok (nI 5150) env := rfl
  have k41 : ∀ {env : En}, dK (.int 41) env = .ok (nI 41) env := rfl
  have hcut : cutD (ns.map PyData.int) none (some 8) = (ns.take 8).map PyData.int := by
    have : cutD (ns.map PyData.int) none (some ((8 : Nat) : Int)) = (ns.map PyData.int).take 8 := by unfold MI.cutD; rw [cut_to]
    rw [List.map_take]
    exact this
  have hsrc : gAdd (.list ((ns.take 8).map PyData.int)) (.list [nI lap]) = some (.list ((ns.take 8 ++ [(lap : Int)]).map PyData.int)) := by
    rw [add_l (by simp; omega), List.map_append]; rfl
  obtain ⟨e, hgo, m, x3, rfl⟩ := fGo_inv (b := bName 3) (items := (ns.take 8 ++ [(lap : Int)]).map PyData.int)
    (F1 := sAsg (d2 gMod (dC gInt (dCons (d2 gAdd (d2 gAdd (d2 gMul (dV 2) (dK (.int 16645))) (d2 gMod (dC gInt (dCons (dV 3) dNil)) (dK (.int 2038074743)))) (dK (.int 977))) dNil)) (dK (.int 2147483629))) (bName 2))
    (S := fun i env => ∃ (m : Nat) (x3 : Option SV), env = [some (.scr ns), some (.val (nI lap)), some (.val (nI m)), x3, none])
    (fun i d hd env ⟨m, x3, he⟩ => by
      obtain ⟨z, hz, rfl⟩ := map_get hd
      subst he
      refine ⟨_, [some (.scr ns), some (.val (nI lap)), some (.val (nI ((m * 16645 + (z % ((2038074743 : Nat) : Int)).toNat + 977) % 2147483629))), some (.val (.int z)), none], by rw [e_bName], ?_, _, _, rfl⟩
      simp [k16645, k2038, k977, kBig, mul_n' (by omega : 16645 < 10000000000000000000), mod_z (by omega : 0 < 2038074743), mod_n (by omega : 0 < 2147483629)]) [some (.scr ns), some (.val (nI lap)), some (.val (nI (5150 + 41 * lap))), none, none] ⟨_, _, rfl⟩
  -- far
  obtain ⟨far, hfar⟩ : ∃ far, dIf (dB (d2 gLt (dV 1) (dScrLen 0))) (dC gAbs (dCons (dC gInt (dCons (dScrIx 0 (dV 1)) dNil)) dNil)) (dK (.int 0)) [some (.scr ns), some (.val (nI lap)), some (.val (nI m)), x3, none] = .ok (nI far) [some (.scr ns), some (.val (nI lap)), some (.val (nI m)), x3, none] := by
    have hsl : dScrLen 0 [some (.scr ns), some (.val (nI lap)), some (.val (nI m)), x3, none] = .ok (nI ns.length) [some (.scr ns), some (.val (nI lap)), some (.val (nI m)), x3, none] := rfl
    by_cases q : lap < ns.length
    · have hix : dScrIx 0 (dV 1) [some (.scr ns), some (.val (nI lap)), some (.val (nI m)), x3, none] = .ok (.int ns[lap]) [some (.scr ns), some (.val (nI lap)), some (.val (nI m)), x3, none] := by
        have ha : atI ns ((lap : Nat) : Int) = some ns[lap] := by rw [atI_nat q, List.getElem?_eq_getElem q]
        unfold dScrIx
        simp only [gScr_zero, e_dV, gv_succ, gv_zero, outO_some, bnd_ok, nI, if_true, ha, Option.map_some]
      exact ⟨ns[lap].natAbs, by simp only [e_dIf, e_dB, e_d2, e_dV, gv_succ, gv_zero, outO_some, bnd_ok, hsl, lt_n, decide_eq_true q, bOf_bool, if_true, e_dC, e_dCons, e_dNil, hix, gInt_i, abs_z]⟩
    · exact ⟨0, by simp only [e_dIf, e_dB, e_d2, e_dV, gv_succ, gv_zero, outO_some, bnd_ok, hsl, lt_n, decide_eq_false q, bOf_bool, Bool.false_eq_true, if_false, k0]⟩
  obtain ⟨f, hf⟩ : ∃ f, dIf (dB (d2 gGt (dV 4) (d2 gPow (dK (.int 10)) (dK (.int 17))))) (d2 gMod (dC gInt (dCons (dV 4) dNil)) (d2 gPow (dK (.int 10)) (dK (.int 40)))) (dK (.int 0)) [some (.scr ns), some (.val (nI lap)), some (.val (nI m)), x3, some (.val (nI far))] = .ok (nI f) [some (.scr ns), some (.val (nI lap)), some (.val (nI m)), x3, some (.val (nI far))] := by
    have pp : 0 < p40 := by unfold p40; exact Nat.pow_pos (by omega)
    by_cases q : p17 < far
    · exact ⟨far % p40, by
        have h1 : d2 gGt (dV 4) (d2 gPow (dK (.int 10)) (dK (.int 17))) [some (.scr ns), some (.val (nI lap)), some (.val (nI m)), x3, some (.val (nI far))] = .ok (.bool true) [some (.scr ns), some (.val (nI lap)), some (.val (nI m)), x3, some (.val (nI far))] := by
          rw [MI.e_d2, e_dV]; simp only [gv_succ, gv_zero, outO_some, bnd_ok, e_p17, gt_n, decide_eq_true q]
        have h2 : d2 gMod (dC gInt (dCons (dV 4) dNil)) (d2 gPow (dK (.int 10)) (dK (.int 40))) [some (.scr ns), some (.val (nI lap)), some (.val (nI m)), x3, some (.val (nI far))] = .ok (nI (far % p40)) [some (.scr ns), some (.val (nI lap)), some (.val (nI m)), x3, some (.val (nI far))] := by
          rw [MI.e_d2]; simp only [e_dC, e_dCons, e_dV, e_dNil, gv_succ, gv_zero, outO_some, bnd_ok, int_n, e_p40, mod_n pp]
        rw [e_dIf, e_dB, h1, bnd_ok, bOf_bool, bnd_ok, if_pos rfl, h2]⟩
    · exact ⟨0, by
        have h1 : d2 gGt (dV 4) (d2 gPow (dK (.int 10)) (dK (.int 17))) [some (.scr ns), some (.val (nI lap)), some (.val (nI m)), x3, some (.val (nI far))] = .ok (.bool false) [some (.scr ns), some (.val (nI lap)), some (.val (nI m)), x3, some (.val (nI far))] := by
          rw [MI.e_d2, e_dV]; simp only [gv_succ, gv_zero, outO_some, bnd_ok, e_p17, gt_n, decide_eq_false q]
        rw [e_dIf, e_dB, h1, bnd_ok, bOf_bool, bnd_ok, if_neg Bool.false_ne_true, k0]⟩
  refine ⟨chS m f 0, ⟨m, f, 0, rfl⟩, ?_⟩
  have hd : fDisp ((("mass" : Str), (dV 2)) :: (("figures" : Str), (dIf (dB (d2 gGt (dV 4) (d2 gPow (dK (.int 10)) (dK (.int 17))))) (d2 gMod (dC gInt (dCons (dV 4) dNil)) (d2 gPow (dK (.int 10)) (dK (.int 40)))) (dK (.int 0)))) :: (("dips" : Str), (dK (.int 0))) :: []) [some (.scr ns), some (.val (nI lap)), some (.val (nI m)), x3, some (.val (nI far))] = .ok (chS m f 0) [some (.scr ns), some (.val (nI lap)), some (.val (nI m)), x3, some (.val (nI far))] := by
    have hgo3 : dispGo ((("mass" : Str), (dV 2)) :: (("figures" : Str), (dIf (dB (d2 gGt (dV 4) (d2 gPow (dK (.int 10)) (dK (.int 17))))) (d2 gMod (dC gInt (dCons (dV 4) dNil)) (d2 gPow (dK (.int 10)) (dK (.int 40)))) (dK (.int 0)))) :: (("dips" : Str), (dK (.int 0))) :: []) [some (.scr ns), some (.val (nI lap)), some (.val (nI m)), x3, some (.val (nI far))] = .ok (chK (nI m) (nI f) (nI 0)) [some (.scr ns), some (.val (nI lap)), some (.val (nI m)), x3, some (.val (nI far))] := by
      rw [dispGo_cons (f := dV 2) (d := nI m) (e1 := [some (.scr ns), some (.val (nI lap)), some (.val (nI m)), x3, some (.val (nI far))]) rfl, dispGo_cons hf, dispGo_cons k0]
      rfl
    unfold fDisp
    rw [hgo3, bns_ok, if_pos (by unfold chK; simp)]
    show Out.ok (SV.dct (mergeD [] (chK (nI m) (nI f) (nI 0)))) _ = Out.ok (SV.dct (chK (nI m) (nI f) (nI 0))) _
    have : mergeD [] (chK (nI m) (nI f) (nI 0)) = chK (nI m) (nI f) (nI 0) := by
      unfold mergeD chK putD
      simp [kr_eq, n_mf, n_md, n_fd]
    rw [this]
  have h8 : dScrTo 0 8 [some (.scr ns), some (.val (nI lap)), some (.val (nI (5150 + 41 * lap))), none, none] = .ok (.list ((ns.take 8).map PyData.int)) [some (.scr ns), some (.val (nI lap)), some (.val (nI (5150 + 41 * lap))), none, none] := by
    unfold dScrTo; simp only [gScr_zero, hcut]
  simp only [F__law_churn, fnOf, fs__law_churn]
  simp [k5150, k41, mul_n (by omega : 41 < 10000000000000000000), h8, hsrc, -List.map_append, -List.map_take, hgo, -e_dIf, hfar, hd]
  simp [chS]
end H86
set_option Elab.async false
set_option linter.all false
set_option maxRecDepth 100000
set_option maxHeartbeats 4000000
namespace H86
open PySem PySem.Spec PyProof.Rows L2 MI
/-! in a list of rows -/
theorem lay_all_rD : ∀ {l : List (List (List Nat))}, (∀ R ∈ l, okR R) → PyData.canLayAll0 (l.map rD) = true
  | [], _ => by rw [List.map_nil, PyData.canLayAll0]
  | R :: l, h => by rw [List.map_cons, PyData.canLayAll0, lay_rD (h R List.mem_cons_self), lay_all_rD fun x hx => h x (List.mem_cons_of_mem _ hx)]; rfl
theorem shaped_lrD {l : List (List (List Nat))} (h : ∀ R ∈ l, okR R) : SeqAt.shaped (.list (l.map rD)) = true := by
  unfold SeqAt.shaped
  have a : PyData.canLay0 (.list (l.map rD)) = true := by rw [PyData.canLay0, lay_all_rD h]
  have b : PyData.depth (.list (l.map rD)) ≤ 2 := by rw [PyData.depth]; have := depAll_rD l; omega
  rw [a, Bool.true_and]
  simp
  omega
theorem in_rows {Q : List (List Nat)} {l : List (List (List Nat))} (hq : okR Q) (h : ∀ R ∈ l, okR R) : gIn (rD Q) (.list (l.map rD)) = some (.bool (decide (Q ∈ l))) := by
  have h3 : ((l.map rD).any fun z => PyData.eqv z (rD Q)) = decide (Q ∈ l) := by
    clear h
    induction l with
    | nil => rfl
    | cons k ks ih =>
      rw [List.map_cons, List.any_cons, ih, eqv_rD]
      by_cases q : k = Q
      · simp [q]
      · simp [q, show ¬ Q = k from fun z => q z.symm]
  unfold gIn gInB
  simp only [shaped_rD hq, shaped_lrD h, and_self, if_true, h3, Option.map_some]
/-! shifts -/
section
variable {R Q : List (List Nat)} {W V : Nat}
theorem least_allT (g : Good R W) : leastOf (allT R W) = leastOf (allS R W) := least_same (allT_ne g) fun z => mem_allT g (fun a d => turn_good g)
theorem are_iff (g : Good R W) (k : Good Q V) : areS R Q W V = decide (Q ∈ allS R W) := by
  unfold areS
  by_cases h : Q ∈ allS R W
  · rw [decide_eq_true h]
    obtain ⟨a, d, rfl⟩ := (mem_allS g).mp h
    have e : W = V := by
      have k' := shf_good g (a := a) (d := d)
      have hr := k.rowmem (i := 0) k.h1
      exact (k'.len _ hr).symm.trans (k.len _ hr)
    subst e
    rw [shf_len]
    have : leastOf (allT R W) = leastOf (allT (shf R W a d) W) := by
      rw [least_allT g, least_allT k]
      exact least_same (fun z => by rw [z] at h; cases h) fun z => (allS_shf g).symm
    simp [this]
  · rw [decide_eq_false h]
    by_cases h1 : R.length = Q.length
    · by_cases h2 : W = V
      · subst h2
        have : ¬ leastOf (allT R W) = leastOf (allT Q W) := fun e => by
          apply h
          have m1 := (mem_allT g (fun a d => turn_good g)).mp (least_mem (allT_ne g))
          have m2 := (mem_allT k (fun a d => turn_good k)).mp (least_mem (allT_ne k))
          rw [e] at m1
          obtain ⟨a, d, e1⟩ := (mem_allS g).mp m1
          obtain ⟨a', d', e2⟩ := (mem_allS k).mp m2
          obtain ⟨x, y, e3⟩ := shf_back k (a := a') (d := d')
          rw [← e2, e1, shf_shf g] at e3
          exact (mem_allS g).mpr ⟨_, _, e3.symm⟩
        simp [this]
      · simp [h2]
    · simp [h1]
theorem are_symm : areS Q R V W = areS R Q W V := by
  unfold areS
  congr 1
  · congr 1
    · exact decide_eq_decide.mpr ⟨Eq.symm, Eq.symm⟩
    · exact decide_eq_decide.mpr ⟨Eq.symm, Eq.symm⟩
  · exact decide_eq_decide.mpr ⟨Eq.symm, Eq.symm⟩
theorem allS_good (g : Good R W) {S : List (List Nat)} (h : S ∈ allS R W) : Good S W := by
  obtain ⟨a, d, rfl⟩ := (mem_allS g).mp h; exact shf_good g
/-- the set's size -/
def nSh (R : List (List Nat)) (W : Nat) : Nat := (dd [] (allS R W)).length
theorem nSh_dvd (g : Good R W) : nSh R W ∣ lw R W * lh R W := shifts_dvd g (dd_nodup List.nodup_nil) fun S => by rw [dd_mem]; simp
theorem strTup_rD {R : List (List Nat)} : strTup (rD R) = some (R.map fun r => (⟨r.toArray⟩ : Str)) := by
  show strsO (R.map sD) = _
  induction R with
  | nil => rfl
  | cons r R ih =>
    rw [List.map_cons]
    show (strsO (R.map sD)).map _ = _
    rw [ih]; rfl
theorem strs_inj : ∀ (A B : List (List Nat)), (A.map fun r => (⟨r.toArray⟩ : Str)) = B.map (fun r => (⟨r.toArray⟩ : Str)) → A = B
  | [], [], _ => rfl
  | [], _ :: _, h => by cases h
  | _ :: _, [], h => by cases h
  | a :: A, b :: B, h => by
    rw [List.map_cons, List.map_cons] at h
    injection h with h1 h2
    injection h1 with h1
    rw [strs_inj A B h2, show a = b by simpa using h1]
theorem lenset_rD {l : List (List (List Nat))} (h : (dd [] l).length < 60) (hl : l.length ≤ 1000) : gLenSet (.list (l.map rD)) = some (nI (dd [] l).length) := by
  have e : (l.map rD).mapM strTup = some (l.map fun R => R.map fun r => (⟨r.toArray⟩ : Str)) := by
    clear h hl
    induction l with
    | nil => rfl
    | cons R l ih => rw [List.map_cons, List.mapM_cons, strTup_rD, ih]; rfl
  have e2 := dd_map (f := fun R : List (List Nat) => R.map fun r => (⟨r.toArray⟩ : Str)) strs_inj (xs := l) (acc := [])
  rw [List.map_nil] at e2
  unfold gLenSet
  simp only [e, e2, List.length_map]
  rw [if_pos ⟨h, hl⟩]; rfl
theorem allS_len (g : Good R W) : (allS R W).length ≤ 160 := by
  unfold allS
  rw [List.length_flatMap]
  simp [List.map_const', List.sum_replicate_nat]
  have := g.w2
  have := g.h2
  exact Nat.le_trans (Nat.mul_le_mul g.w2 g.h2) (by omega)
/-! turned rows, rows upside down -/
theorem revS {r : List Nat} (h : r.length ≤ 1000000) : gRev (sD r) = some (sD r.reverse) := by
  show (if small (⟨r.toArray⟩ : Str).length = true then some (PyData.str (revStr ⟨r.toArray⟩)) else none) = _
  have e : (⟨r.toArray⟩ : Str).length = r.length := by show r.toArray.size = _; simp
  rw [e, if_pos (sm_nat h)]
  unfold revStr sD
  simp
theorem revR : gRev (rD R) = some (rD R.reverse) := by
  show some (PyData.tuple (R.map sD).reverse) = _
  rw [← List.map_reverse]; rfl
theorem p_turned_rows (g : Good R W) : F_turned_rows [.val (rD R)] = .rt (.val (rD (R.map List.reverse))) [] := by
  have w2 := g.w2
  have h2 := g.h2
  have hl := lcG (src := sSeq (dV 0)) (b := bName 1) (vs := [1]) (tt := tY) (te := dRevS (dV 1)) (env := [some (.val (rD R)), none]) (e1 := [some (.val (rD R)), none]) (items := R.map sD) (P := fun _ => true) (r := fun i => sD (row R i).reverse)
    (by simp) (by simp; omega) rfl rfl rfl (fun i d hd => by
      obtain ⟨r, hr, rfl⟩ := map_get hd
      have lr := g.len r (List.mem_of_getElem? hr)
      exact ⟨_, rfl, rfl, fun _ => by simp [revS (by omega : r.length ≤ 1000000), row_of hr], rfl, rfl⟩)
  have e : (List.range (R.map sD).length).map (fun i => sD (row R i).reverse) = (R.map List.reverse).map sD := by
    rw [List.length_map]
    apply List.ext_getElem?
    intro i
    rw [List.getElem?_map, List.getElem?_map, List.getElem?_map]
    by_cases q : i < R.length
    · rw [List.getElem?_range q, List.getElem?_eq_getElem q]
      simp [row_of (List.getElem?_eq_getElem q)]
    · rw [List.getElem?_eq_none (by rw [List.length_range]; omega), List.getElem?_eq_none (by omega)]; rfl
  rw [filter_true, e] at hl
  simp [F_turned_rows, fnOf, fs_turned_rows, call1 (p_check g), hl, -List.map_map]; rfl
theorem turned_good (g : Good R W) : Good (R.map List.reverse) W := by
  refine ⟨by simp; exact g.h1, by simp; exact g.h2, g.w1, g.w2, fun r hr => ?_, fun r hr c hc => ?_⟩
  · obtain ⟨q, hq, rfl⟩ := List.mem_map.mp hr; rw [List.length_reverse]; exact g.len q hq
  · obtain ⟨q, hq, rfl⟩ := List.mem_map.mp hr; exact g.let_ q hq c (List.mem_reverse.mp hc)
theorem rev_good (g : Good R W) : Good R.reverse W :=
  ⟨by simp; exact g.h1, by simp; exact g.h2, g.w1, g.w2, fun r hr => g.len r (List.mem_reverse.mp hr), fun r hr => g.let_ r (List.mem_reverse.mp hr)⟩
/-! one place put otherwise -/
def put1 (r : List Nat) (j x : Nat) : List Nat := r.take j ++ [x] ++ r.drop (j + 1)
theorem put1_len {r : List Nat} {j x : Nat} (h : j < r.length) : (put1 r j x).length = r.length := by
  unfold put1; simp; omega
theorem put1_mem {r : List Nat} {j x c : Nat} (h : c ∈ put1 r j x) : c ∈ r ∨ c = x := by
  unfold put1 at h
  simp only [List.mem_append, List.mem_singleton] at h
  rcases h with (h | h) | h
  · exact .inl (List.mem_of_mem_take h)
  · exact .inr h
  · exact .inl (List.mem_of_mem_drop h)
def putR (R : List (List Nat)) (i : Nat) (r : List Nat) : List (List Nat) := R.take i ++ [r] ++ R.drop (i + 1)
theorem putR_good (g : Good R W) {i : Nat} {r : List Nat} (hi : i < R.length) (h : RowOk r W) : Good (putR R i r) W := by
  have hm : ∀ q, q ∈ putR R i r → q ∈ R ∨ q = r := fun q hq => by
    unfold putR at hq
    simp only [List.mem_append, List.mem_singleton] at hq
    rcases hq with (h | h) | h
    · exact .inl (List.mem_of_mem_take h)
    · exact .inr h
    · exact .inl (List.mem_of_mem_drop h)
  have hl : (putR R i r).length = R.length := by unfold putR; simp; omega
  have g1 := g.h1
  have g2 := g.h2
  refine ⟨by omega, by omega, g.w1, g.w2, fun q hq => ?_, fun q hq c hc => ?_⟩
  · rcases hm q hq with z | z
    · exact g.len q z
    · rw [z]; exact h.1
  · rcases hm q hq with z | z
    · exact g.let_ q z c hc
    · rw [z] at hc; exact h.2 c hc
theorem add_t {A B : List (List Nat)} (h : A.length + B.length ≤ 1000000) : gAdd (rD A) (rD B) = some (rD (A ++ B)) := by
  show (if small ((A.map sD).length + (B.map sD).length) = true then some (PyData.tuple (A.map sD ++ B.map sD)) else none) = _
  rw [List.length_map, List.length_map, if_pos (sm_nat h), ← List.map_append]; rfl
end
end H86
set_option Elab.async false
set_option linter.all false
set_option maxRecDepth 100000
set_option maxHeartbeats 4000000
namespace H86
open PySem PySem.Spec PyProof.Rows L2 MI
theorem e_sPar {i j : Nat} {fs : En → Out (List D)} {env : En} : sPar i j fs env = (fs env).bnS fun ds e => match ds with
  | [d1, d2] => .nx ((e.set i (some (.val d1))).set j (some (.val d2)))
  | _ => .stuck := rfl
theorem frz4 {a b c d : Option SV} {ds : List D} {e : En} : frz 4 (a :: b :: c :: d :: some (.lst ds) :: e) = a :: b :: c :: d :: some (.val (.list ds)) :: e := rfl
theorem parts_get {n i : Nat} {d : D} (h : ((parts n).map nI)[i]? = some d) : ∃ x, d = nI x ∧ 1 ≤ x ∧ x ≤ n ∧ n % x = 0 := by
  obtain ⟨x, hx, rfl⟩ := map_get h
  obtain ⟨a, b, c⟩ := parts_mem (List.mem_of_getElem? hx)
  exact ⟨x, rfl, a, b, c⟩
theorem mok_bool3 {n : Nat} {T : List (List Nat)} {a b : Bool} (h : okR T) (hl : T.length ≤ 1000) : MOk (n + 3) (.list [rD T, .bool a, .bool b]) := .l (by simp) fun d hd => by
  simp only [List.mem_cons, List.not_mem_nil, or_false] at hd
  rcases hd with rfl | rfl | rfl
  · exact mok_rows h hl
  · exact .b _
  · exact .b _
theorem mok_4 {n : Nat} {T U : List (List Nat)} {a : Bool} (h : okR T) (hl : T.length ≤ 1000) (h2 : okR U) (hl2 : U.length ≤ 1000) : MOk (n + 3) (.list [rD T, rD U, rD U, .bool a]) := .l (by simp) fun d hd => by
  simp only [List.mem_cons, List.not_mem_nil, or_false] at hd
  rcases hd with rfl | rfl | rfl | rfl
  · exact mok_rows h hl
  · exact mok_rows h2 hl2
  · exact mok_rows h2 hl2
  · exact .b _
theorem mok_2 {n : Nat} {a b : Bool} : MOk (n + 2) (.list [.bool a, .bool b]) := .l (by simp) fun d hd => by
  simp only [List.mem_cons, List.not_mem_nil, or_false] at hd
  rcases hd with rfl | rfl
  · exact .b _
  · exact .b _
theorem p_rows_right {c : SV} {P R : List (List Nat)} {w W : Nat} (hc : ChP c) (k : Good P w) (g : Good R W) (rp : Rep P w R W) (hw : w ≤ 4) (hh : P.length ≤ 3) : ∃ c', ChP c' ∧ F__law_rows_right [c, .val (rD P), .val (rD R)] = .rt (.val (.bool true)) [c'] := by
  have h1 := g.h1
  have h2 := g.h2
  have w1 := g.w1
  have w2 := g.w2
  have kh1 := k.h1
  have kw1 := k.w1
  have dW := Nat.le_of_dvd w1 rp.dw
  have dH := Nat.le_of_dvd h1 rp.dh
  have t := tile_good g
  have eT : tile P w = tile R W := (rp.tile k g).symm
  obtain ⟨a, c1, ha, hc1, hd1⟩ := dip0 hc (by omega : 0 < W) (by omega : W < 1000)
  obtain ⟨d, c2, hd, hc2, hd2⟩ := dip0 hc1 (by omega : 0 < R.length) (by omega : R.length < 1000)
  obtain ⟨i, c3, hi, hc3, hd3⟩ := dip0 hc2 (by omega : 0 < R.length) (by omega : R.length < 1000)
  obtain ⟨j, c4, hj, hc4, hd4⟩ := dip0 hc3 (by omega : 0 < W) (by omega : W < 1000)
  obtain ⟨x, c5, hx, hc5, hd5⟩ := any_s (r := [97, 98, 99]) hc4 (by simp) (by simp)
  have gS := shf_good g (a := a) (d := d)
  have lS : (shf R W a d).length = R.length := shf_len
  have tS := tile_good gS
  have eTS := tile_shf g (a := a) (d := d)
  rw [eTS, shf_lw g] at tS
  have is1 : laid R W w P.length = true := rp.laid k g
  have m1 := p_match (n := 6) (mok_bool3 (n := 3) (T := tile R W) (a := true) (b := true) t.ok (by have := t.h2; omega))
  -- the loop over all parts
  obtain ⟨e, hgo, x5, x6, rfl⟩ := fGo_inv (b := bName 5) (items := (parts W).map nI)
    (F1 := (sFor (sSeq (dCall F__law_parts [] 1 (mVal (dC gLen (dCons (dV 2) dNil)) mNil))) (bName 6) (sIf (dNotB (dB (dCall (F__law_match 6) [] 2 (mVal (dCallK F_is_tiled [] 3 [2, 1, 0] 3 (mVal (dV 6) (mVal (dV 5) (mVal (dV 2) mNil)))) (mVal (dCall F__law_is_laid [] 3 (mVal (dV 2) (mVal (dV 5) (mVal (dV 6) mNil)))) mNil))))) (sRet (dK (.bool false))) sNx)))
    (S := fun _ env => ∃ (x5 x6 : Option SV), env = [some c, some (.val (rD P)), some (.val (rD R)), some (.val (rD (tile R W))), some (.val (.list [rD (tile R W), .bool true, .bool true])), x5, x6, none, none, none, none, none, none, none, none])
    (fun q d hd env ⟨x5, x6, he⟩ => by
      obtain ⟨wd, rfl, b1, b2, b3⟩ := parts_get hd
      subst he
      obtain ⟨e, hgo, x6', rfl⟩ := fGo_inv (b := bName 6) (items := (parts R.length).map nI)
        (F1 := (sIf (dNotB (dB (dCall (F__law_match 6) [] 2 (mVal (dCallK F_is_tiled [] 3 [2, 1, 0] 3 (mVal (dV 6) (mVal (dV 5) (mVal (dV 2) mNil)))) (mVal (dCall F__law_is_laid [] 3 (mVal (dV 2) (mVal (dV 5) (mVal (dV 6) mNil)))) mNil))))) (sRet (dK (.bool false))) sNx))
        (S := fun _ env => ∃ (x6 : Option SV), env = [some c, some (.val (rD P)), some (.val (rD R)), some (.val (rD (tile R W))), some (.val (.list [rD (tile R W), .bool true, .bool true])), some (.val (nI wd)), x6, none, none, none, none, none, none, none, none])
        (fun q d hd env ⟨x6, he⟩ => by
          obtain ⟨hg, rfl, f1, f2, f3⟩ := parts_get hd
          subst he
          refine ⟨_, [some c, some (.val (rD P)), some (.val (rD R)), some (.val (rD (tile R W))), some (.val (.list [rD (tile R W), .bool true, .bool true])), some (.val (nI wd)), some (.val (nI hg)), none, none, none, none, none, none, none, none], by rw [e_bName], ?_, _, rfl⟩
          simp [dCallK, pick, call3 (p_is_tiled g b1 b2 b3 f1 f2 f3), call3 (p_laid g (by omega : 0 < wd) (by omega : 0 < hg)), call2 (p_match (MOk.b (n := 5) (laid R W wd hg)))]) _ ⟨x6, rfl⟩
      exact ⟨_, _, by rw [e_bName], by simp [call1 (p_parts (by omega : R.length < 1000))]; exact hgo, _, _, rfl⟩) [some c, some (.val (rD P)), some (.val (rD R)), some (.val (rD (tile R W))), some (.val (.list [rD (tile R W), .bool true, .bool true])), none, none, none, none, none, none, none, none, none, none] ⟨_, _, rfl⟩
  have lm : leastOf (allT R W) = leastOf (allS R W) := least_allT g
  have lm2 : leastOf (allT (shf R W a d) W) = leastOf (allS R W) := by
    rw [least_allT gS]
    refine least_same (fun z => ?_) fun z => allS_shf g
    have : shf R W a d ∈ allS (shf R W a d) W := by rw [allS_shf g]; exact (mem_allS g).mpr ⟨_, _, rfl⟩
    rw [z] at this; cases this
  have ne : allS R W ≠ [] := fun z => by
    have : shf R W a d ∈ allS R W := (mem_allS g).mpr ⟨_, _, rfl⟩
    rw [z] at this; cases this
  have gL : Good (leastOf (allS R W)) W := allS_good g (least_mem ne)
  have ar1 : areS R (shf R W a d) W W = true := by rw [are_iff g gS]; exact decide_eq_true ((mem_allS g).mpr ⟨_, _, rfl⟩)
  have ar2 : areS (shf (tile R W) (lw R W) a d) (tile R W) (lw R W) (lw R W) = true := by
    rw [are_symm, are_iff t tS]; exact decide_eq_true ((mem_allS t).mpr ⟨_, _, rfl⟩)
  have et : turn R a d = shf R W a d := turn_eq g (fun a d => turn_good g) (by omega) (by omega)
  have m2 := p_match (n := 6) (mok_4 (n := 3) (T := shf R W a d) (U := leastOf (allS R W)) (a := true) gS.ok (by have := gS.h2; omega) gL.ok (by have := gL.h2; omega))
  -- how many
  have lwl : lw R W ≤ w := by rw [rp.lw k g]; exact lw_le k
  have lhl : lh R W ≤ P.length := by rw [rp.lh k g]; exact lh_le k
  have ar : lw R W * lh R W ≤ 12 := Nat.le_trans (Nat.mul_le_mul (Nat.le_trans lwl hw) (Nat.le_trans lhl hh)) (by omega)
  have p1 : 0 < lw R W * lh R W := Nat.mul_pos (lw_spec g).1.1 (lh_spec g).1.1
  have dv := nSh_dvd g
  have nl : nSh R W ≤ 12 := Nat.le_trans (Nat.le_of_dvd p1 dv) ar
  have n0 : 0 < nSh R W := Nat.pos_of_dvd_of_pos dv p1
  have ls := lenset_rD (l := allS R W) (by show nSh R W < 60; omega) (by have := allS_len g; omega)
  have ls' : gLenSet (.list ((allS R W).map rD)) = some (nI (nSh R W)) := ls
  have md : lh R W * lw R W % nSh R W = 0 := by rw [Nat.mul_comm]; exact Nat.mod_eq_zero_of_dvd dv
  have tl := tile_len g
  have tl0 : lh R W < 10000000000000000000 := by omega
  -- one place otherwise
  have lr : (row (shf R W a d) i).length = W := gS.rowlen (by omega)
  have rok : RowOk (put1 (row (shf R W a d) i) j x) W := ⟨by rw [put1_len (by omega)]; exact lr, fun y hy => by
    rcases put1_mem hy with z | z
    · exact gS.let_ _ (gS.rowmem (by omega)) y z
    · simp at hx; omega⟩
  have gO := putR_good gS (i := i) (by omega) rok
  have sl1 := sl_to_s (r := row (shf R W a d) i) (k := j) (by omega)
  have sl2 : gSl (sD (row (shf R W a d) i)) (some ((j : Int) + 1)) none = some (sD ((row (shf R W a d) i).drop (j + 1))) := sl_from_s (k := j + 1) (by omega)
  have as1 : gAdd (sD ((row (shf R W a d) i).take j)) (sD [x]) = some (sD ((row (shf R W a d) i).take j ++ [x])) := add_s (by simp; omega)
  have as2 : gAdd (sD ((row (shf R W a d) i).take j ++ [x])) (sD ((row (shf R W a d) i).drop (j + 1))) = some (sD (put1 (row (shf R W a d) i) j x)) := add_s (by simp; omega)
  have st1 := sl_to_t (R := shf R W a d) (k := i)
  have st2 : gSl (rD (shf R W a d)) (some ((i : Int) + 1)) none = some (rD ((shf R W a d).drop (i + 1))) := sl_from_t (k := i + 1)
  have at1 : gAdd (rD ((shf R W a d).take i)) (rD [put1 (row (shf R W a d) i) j x]) = some (rD ((shf R W a d).take i ++ [put1 (row (shf R W a d) i) j x])) := add_t (by simp; omega)
  have at2 : gAdd (rD ((shf R W a d).take i ++ [put1 (row (shf R W a d) i) j x])) (rD ((shf R W a d).drop (i + 1))) = some (rD (putR (shf R W a d) i (put1 (row (shf R W a d) i) j x))) := add_t (by simp; omega)
  have ixr : gIx (rD (shf R W a d)) (nI i) = some (sD (row (shf R W a d) i)) := ix_rD (by omega)
  -- the last loop
  have last : ∀ O V, Good O V → ∀ (x4 x13 : Option SV), (sIf (dNotB (dB (dCall (F__law_match 6) [] 2 (mVal (dLst (dList (dCons (dCall F_are_shifts [] 2 (mVal (dV 2) (mVal (dV 14) mNil))) (dCons (dCall F_are_shifts [] 2 (mVal (dV 14) (mVal (dV 2) mNil))) dNil)))) (mVal (d2 gMul (dLst (dList (dCons (d2 gIn (dV 14) (dV 7)) dNil))) (dK (.int 2))) mNil))))) (sRet (dK (.bool false))) sNx)
      [some c5, some (.val (rD P)), some (.val (rD R)), some (.val (rD (tile R W))), x4, x5, x6, some (.val (.list ((allS R W).map rD))), some (.val (nI a)), some (.val (nI d)), some (.val (rD (shf R W a d))), some (.val (nI i)), some (.val (nI j)), x13, some (.val (rD O))] =
      .nx [some c5, some (.val (rD P)), some (.val (rD R)), some (.val (rD (tile R W))), x4, x5, x6, some (.val (.list ((allS R W).map rD))), some (.val (nI a)), some (.val (nI d)), some (.val (rD (shf R W a d))), some (.val (nI i)), some (.val (nI j)), x13, some (.val (rD O))] := fun O V kO x4 x13 => by
    have e1 := are_iff g kO
    have e2 := (are_symm (R := R) (Q := O) (W := W) (V := V)).trans e1
    have hin := in_rows (Q := O) (l := allS R W) kO.ok fun S hS => (allS_good g hS).ok
    have hm := mul_l (ds := [PyData.bool (decide (O ∈ allS R W))]) (a := 2) (by omega) (by simp)
    have hm' : gMul (.list [PyData.bool (decide (O ∈ allS R W))]) (nI 2) = some (.list [PyData.bool (decide (O ∈ allS R W)), PyData.bool (decide (O ∈ allS R W))]) := hm
    have mm := p_match (n := 6) (mok_2 (n := 4) (a := decide (O ∈ allS R W)) (b := decide (O ∈ allS R W)))
    simp [call2 (p_are g kO), call2 (p_are kO g), e1, e2, hin, k2, hm', call2 mm]
  obtain ⟨e5, hgo5, x14, rfl⟩ := fGo_inv (b := bName 14) (items := [rD (putR (shf R W a d) i (put1 (row (shf R W a d) i) j x)), rD (R.map List.reverse), rD R.reverse, rD P])
    (F1 := (sIf (dNotB (dB (dCall (F__law_match 6) [] 2 (mVal (dLst (dList (dCons (dCall F_are_shifts [] 2 (mVal (dV 2) (mVal (dV 14) mNil))) (dCons (dCall F_are_shifts [] 2 (mVal (dV 14) (mVal (dV 2) mNil))) dNil)))) (mVal (d2 gMul (dLst (dList (dCons (d2 gIn (dV 14) (dV 7)) dNil))) (dK (.int 2))) mNil))))) (sRet (dK (.bool false))) sNx))
    (S := fun _ env => ∃ (x14 : Option SV), env = [some c5, some (.val (rD P)), some (.val (rD R)), some (.val (rD (tile R W))), some (.val (.list [rD (shf R W a d), rD (leastOf (allS R W)), rD (leastOf (allS R W)), .bool true])), x5, x6, some (.val (.list ((allS R W).map rD))), some (.val (nI a)), some (.val (nI d)), some (.val (rD (shf R W a d))), some (.val (nI i)), some (.val (nI j)), some (.val (sD (put1 (row (shf R W a d) i) j x))), x14])
    (fun q o ho env ⟨x14, he⟩ => by
      subst he
      have hm := List.mem_of_getElem? ho
      obtain ⟨O, V, rfl, kO⟩ : ∃ O V, o = rD O ∧ Good O V := by
        simp only [List.mem_cons, List.not_mem_nil, or_false] at hm
        rcases hm with rfl | rfl | rfl | rfl
        · exact ⟨_, _, rfl, gO⟩
        · exact ⟨_, _, rfl, turned_good g⟩
        · exact ⟨_, _, rfl, rev_good g⟩
        · exact ⟨_, _, rfl, k⟩
      exact ⟨_, _, rfl, last O V kO _ _, _, rfl⟩) [some c5, some (.val (rD P)), some (.val (rD R)), some (.val (rD (tile R W))), some (.val (.list [rD (shf R W a d), rD (leastOf (allS R W)), rD (leastOf (allS R W)), .bool true])), x5, x6, some (.val (.list ((allS R W).map rD))), some (.val (nI a)), some (.val (nI d)), some (.val (rD (shf R W a d))), some (.val (nI i)), some (.val (nI j)), some (.val (sD (put1 (row (shf R W a d) i) j x))), none] ⟨_, rfl⟩
  refine ⟨c5, hc5, ?_⟩
  simp only [F__law_rows_right, fnOf, fs__law_rows_right]
  have gmin := min_rD ne
  have kS : ∀ {r : List Nat} {env : En}, dK (sD r) env = .ok (sD r) env := rfl
  have tup1 : PyData.tuple [sD (put1 (row (shf R W a d) i) j x)] = rD [put1 (row (shf R W a d) i) j x] := rfl
  have lit : PyData.str (Str.ofString "abc") = sD [97, 98, 99] := lit_abc
  simp [call1 (p_law_tile g), call1 (p_tile_of g), k0, k.ix0, k.len0, call3 (p_is_tiled g kw1 dW (Nat.mod_eq_zero_of_dvd rp.dw) kh1 dH (Nat.mod_eq_zero_of_dvd rp.dh)), is1, call1 (p_colouring t), frz4, call2 m1, call1 (p_law_tile k), call1 (p_tile_of k), eT, ne_rD t.ok t.ok, g.ix0, g.len0,
    call1 (p_parts (by omega : W < 1000)), hgo, call1 (p_all_shifts g), -List.map_map, e_sPar, hd1, hd2, call3 (p_law_shift g), call3 (p_shifted g ha hd), et, call1 (p_least g), call1 (p_least gS), lm, lm2, dCallK, pick, sApp, call2 (p_are g gS), ar1, gmin, call2 m2, call1 (p_tile_of gS), eTS, call2 (p_are tS t), ar2, len_rD, tl, t.ix0, t.len0, mul_n tl0, ls', mod_n n0, md, hd3, hd4, ixr, sl1, sl2, lit, hd5, as1, as2, st1, st2, at1, at2, kS, k1, call1 (p_turned_rows g), revR, tup1, hgo5, hc5.gOwn]
end H86
set_option Elab.async false
set_option linter.all false
set_option maxRecDepth 100000
set_option maxHeartbeats 4000000
namespace H86
open PySem PySem.Spec PyProof.Rows L2 MI
theorem e_dNN {fe2 fbody : Fe} {env e1 e2 : En} {n : D} (h2 : fe2 (seeE env) = .ok n e1) (hn : (∃ b, n = .bool b) ∨ ∃ z, n = .int z) (hb : fbody (seeE env) = .err "InvalidNumber" n e2) : dNN fe2 fbody env = .ok (.bool true) env := by
  have hs : scalD n = true := by rcases hn with ⟨b, rfl⟩ | ⟨z, rfl⟩ <;> rfl
  have hm : dAft FH__law_match [] 2 [.inl n, .inl n] [none, some (.val n), none] = .ok (.bool true) [none, some (.val n), none] := call2 (p_matchH hn)
  have hf : fsNN "InvalidNumber" n [none, some (.val n), none] = .rt (.val (.bool true)) [none, some (.val n), none] := by
    unfold fsNN
    rw [e_sRet]
    unfold d1Call m1Val
    have hby : d1By "InvalidNumber" "InvalidNumber" n [none, some (.val n), none] = .ok n [none, some (.val n), none] := by unfold d1By; rw [if_pos rfl]
    rw [e_mVal, hby]
    simp [hm]
  have hc : ctNN "InvalidNumber" = some true := by unfold ctNN; rw [if_pos rfl]
  unfold dNN dLam2
  rw [h2]
  simp only [hs, if_true, hb]
  have hg : sSq (gTry (Out.err "InvalidNumber" n e2) ctNN 2 fsNN) (sRet (dK (.bool false))) (none :: some (.val n) :: List.replicate (3 - 2) none) = .rt (.val (.bool true)) [none, some (.val n), none] := by
    rw [e_sSq]
    unfold gTry
    simp only [hs, if_true, hc]
    rw [if_pos (by simp)]
    show sqK _ (clr 2 (fsNN "InvalidNumber" n [none, some (.val n), none])) = _
    rw [hf]; rfl
  rw [hg]; rfl
theorem n_int {a : Nat} : (∃ b, nI a = .bool b) ∨ ∃ z, nI a = .int z := .inr ⟨_, rfl⟩
theorem pure_law (ns : List Int) (hns : ns.length ≤ 63) : ∃ e, fs_law (some (.scr ns) :: List.replicate (N_law.length - 1) none) = .rt (.val (.bool true)) e := by
  have outer := fGo_inv (b := bName 1) (items := [nI 0, nI 1])
    (F1 := (sSq (sAsgF (fCall F__law_churn [] 2 (mSlot 0 (mVal (dV 1) mNil))) 2) (sFor (sRng1 (dCons (dK (.int 5)) dNil)) (bName 3) (sSq (sAsg (dCall F__law_drawn [0] 1 (mSlot 2 mNil)) (bTup 2 (bCons (bName 4) (bCons (bName 5) bNil)))) (sSq (sIf (dNotB (dB (dCall F__law_rows_right [0] 3 (mSlot 2 (mVal (dV 4) (mVal (dV 5) mNil)))))) (sRet (dK (.bool false))) sNx) (sSq (sAsg (dTup (dCons (dC gLen (dCons (d2 gIx (dV 5) (dK (.int 0))) dNil)) (dCons (dC gLen (dCons (dV 5) dNil)) dNil))) (bTup 2 (bCons (bName 6) (bCons (bName 7) bNil)))) (sSq (sAsgF (fLst (dList (dCons (dNN (d2 gAdd (dV 6) (dK (.int 1))) (dCall F_is_tiled [] 3 (mVal (dV 5) (mVal (d2 gAdd (dV 6) (dK (.int 1))) (mVal (dK (.int 1)) mNil))))) dNil))) 8) (sSq (sApp 8 (dNN (dK (.int 0)) (dCall F_is_tiled [] 3 (mVal (dV 5) (mVal (dK (.int 1)) (mVal (dK (.int 0)) mNil)))))) (sSq (sApp 8 (dNN (dV 6) (dCall F_shifted_rows [] 3 (mVal (dV 5) (mVal (dV 6) (mVal (dK (.int 0)) mNil)))))) (sSq (sApp 8 (dNN (dV 7) (dCall F_shifted_rows [] 3 (mVal (dV 5) (mVal (dK (.int 0)) (mVal (dV 7) mNil)))))) (sSq (sApp 8 (dNN (dK (.bool true)) (dCall F_shifted_rows [] 3 (mVal (dV 5) (mVal (dK (.int 0)) (mVal (dK (.bool true)) mNil)))))) (sSq (sApp 8 (dOr (d2 gLt (dV 6) (dK (.int 3))) (dNN (d2 gSub (dV 6) (dK (.int 1))) (dCall F_is_tiled [] 3 (mVal (dV 5) (mVal (d2 gSub (dV 6) (dK (.int 1))) (mVal (dK (.int 1)) mNil))))))) (sSq (sApp 8 (dOr (d2 gLt (dV 7) (dK (.int 3))) (dNN (d2 gSub (dV 7) (dK (.int 1))) (dCall F_is_tiled [] 3 (mVal (dV 5) (mVal (dK (.int 1)) (mVal (d2 gSub (dV 7) (dK (.int 1))) mNil))))))) (sIf (bSee (dB (d2 gNe (dV 8) (d2 gMul (dLst (dList (dCons (dK (.bool true)) dNil))) (dK (.int 7)))))) (sRet (dK (.bool false))) sNx))))))))))))))
    (S := fun _ env => ∃ (x1 x2 x3 x4 x5 x6 x7 x8 : Option SV), env = [some (.scr ns), x1, x2, x3, x4, x5, x6, x7, x8])
    (fun q d hd env ⟨x1, x2, x3, x4, x5, x6, x7, x8, he⟩ => by
      obtain ⟨lap, rfl, hlap⟩ : ∃ lap, d = nI lap ∧ lap ≤ 1 := by
        have hm := List.mem_of_getElem? hd
        simp only [List.mem_cons, List.not_mem_nil, or_false] at hm
        rcases hm with rfl | rfl
        · exact ⟨0, rfl, by omega⟩
        · exact ⟨1, rfl, by omega⟩
      subst he
      obtain ⟨c, hc, hch⟩ := p_churn (ns := ns) (lap := lap) hns hlap
      have hfc : fAft F__law_churn [] 2 [.inr 0, .inl (nI lap)] [some (.scr ns), some (.val (nI lap)), x2, x3, x4, x5, x6, x7, x8] = .ok c [some (.scr ns), some (.val (nI lap)), x2, x3, x4, x5, x6, x7, x8] := by
        unfold fAft aft
        simp [List.mapM_cons, argSV, ownP, hch, setJs, hc.own]
      obtain ⟨e, hgo, c', x3', x4', x5', x6', x7', x8', hc', rfl⟩ := fGo_inv (b := bName 3) (items := (List.range 5).map nI)
        (F1 := (sSq (sAsg (dCall F__law_drawn [0] 1 (mSlot 2 mNil)) (bTup 2 (bCons (bName 4) (bCons (bName 5) bNil)))) (sSq (sIf (dNotB (dB (dCall F__law_rows_right [0] 3 (mSlot 2 (mVal (dV 4) (mVal (dV 5) mNil)))))) (sRet (dK (.bool false))) sNx) (sSq (sAsg (dTup (dCons (dC gLen (dCons (d2 gIx (dV 5) (dK (.int 0))) dNil)) (dCons (dC gLen (dCons (dV 5) dNil)) dNil))) (bTup 2 (bCons (bName 6) (bCons (bName 7) bNil)))) (sSq (sAsgF (fLst (dList (dCons (dNN (d2 gAdd (dV 6) (dK (.int 1))) (dCall F_is_tiled [] 3 (mVal (dV 5) (mVal (d2 gAdd (dV 6) (dK (.int 1))) (mVal (dK (.int 1)) mNil))))) dNil))) 8) (sSq (sApp 8 (dNN (dK (.int 0)) (dCall F_is_tiled [] 3 (mVal (dV 5) (mVal (dK (.int 1)) (mVal (dK (.int 0)) mNil)))))) (sSq (sApp 8 (dNN (dV 6) (dCall F_shifted_rows [] 3 (mVal (dV 5) (mVal (dV 6) (mVal (dK (.int 0)) mNil)))))) (sSq (sApp 8 (dNN (dV 7) (dCall F_shifted_rows [] 3 (mVal (dV 5) (mVal (dK (.int 0)) (mVal (dV 7) mNil)))))) (sSq (sApp 8 (dNN (dK (.bool true)) (dCall F_shifted_rows [] 3 (mVal (dV 5) (mVal (dK (.int 0)) (mVal (dK (.bool true)) mNil)))))) (sSq (sApp 8 (dOr (d2 gLt (dV 6) (dK (.int 3))) (dNN (d2 gSub (dV 6) (dK (.int 1))) (dCall F_is_tiled [] 3 (mVal (dV 5) (mVal (d2 gSub (dV 6) (dK (.int 1))) (mVal (dK (.int 1)) mNil))))))) (sSq (sApp 8 (dOr (d2 gLt (dV 7) (dK (.int 3))) (dNN (d2 gSub (dV 7) (dK (.int 1))) (dCall F_is_tiled [] 3 (mVal (dV 5) (mVal (dK (.int 1)) (mVal (d2 gSub (dV 7) (dK (.int 1))) mNil))))))) (sIf (bSee (dB (d2 gNe (dV 8) (d2 gMul (dLst (dList (dCons (dK (.bool true)) dNil))) (dK (.int 7)))))) (sRet (dK (.bool false))) sNx))))))))))))
        (S := fun _ env => ∃ (c : SV) (x3 x4 x5 x6 x7 x8 : Option SV), ChP c ∧ env = [some (.scr ns), some (.val (nI lap)), some c, x3, x4, x5, x6, x7, x8])
        (fun q d hd env ⟨c, x3, x4, x5, x6, x7, x8, hc, he⟩ => by
          obtain ⟨ht, rfl⟩ := rgn_get hd
          subst he
          obtain ⟨P, w, R, W, c1, k, hw, hh, g, rp, hc1, hdr⟩ := drawn0 hc
          obtain ⟨c2, hc2, hrr⟩ := p_rows_right hc1 k g rp hw hh
          have h1 := g.h1
          have h2 := g.h2
          have w1 := g.w1
          have w2 := g.w2
          have a1 := callS0 (e := [some (.scr ns), some (.val (nI lap)), some c, some (.val (nI q)), x4, x5, x6, x7, x8]) (j := 2) (s := c) rfl hc.own hdr
          have a2 := callS2 (e := [some (.scr ns), some (.val (nI lap)), some c1, some (.val (nI q)), some (.val (rD P)), some (.val (rD R)), x6, x7, x8]) (j := 2) (s := c1) rfl hc1.own hrr
          have ms : ∀ {c : SV} {x0 x1 : Option SV} {r : En} {fr : En → Out (List AR)}, mSlot 2 fr (x0 :: x1 :: some c :: r) = (fr (x0 :: x1 :: some c :: r)).bnd fun as e2 => .ok (.inr 2 :: as) e2 := fun {c x0 x1 r fr} => e_mSlot (s := c) rfl
          have k3 : ∀ {env : En}, dK (.int 3) env = .ok (nI 3) env := rfl
          have E : ∀ t, ∃ u, seeE [some (.scr ns), some (.val (nI lap)), some c2, some (.val (nI q)), some (.val (rD P)), some (.val (rD R)), some (.val (nI W)), some (.val (nI R.length)), t] = [some (.scr ns), some (.val (nI lap)), none, some (.val (nI q)), some (.val (rD P)), some (.val (rD R)), some (.val (nI W)), some (.val (nI R.length)), u] := fun t => by
            obtain ⟨_, _, _, rfl⟩ := hc2
            exact ⟨_, rfl⟩
          have b1 : ∀ t, dNN (d2 gAdd (dV 6) (dK (.int 1))) (dCall F_is_tiled [] 3 (mVal (dV 5) (mVal (d2 gAdd (dV 6) (dK (.int 1))) (mVal (dK (.int 1)) mNil)))) [some (.scr ns), some (.val (nI lap)), some c2, some (.val (nI q)), some (.val (rD P)), some (.val (rD R)), some (.val (nI W)), some (.val (nI R.length)), t] = .ok (.bool true) [some (.scr ns), some (.val (nI lap)), some c2, some (.val (nI q)), some (.val (rD P)), some (.val (rD R)), some (.val (nI W)), some (.val (nI R.length)), t] := fun t => by
            obtain ⟨u, hu⟩ := E t
            exact e_dNN (n := nI (W + 1)) (by rw [hu]; simp [k1]; rfl) n_int (by rw [hu]; simp [k1, cerr3 (p_is_tiledE1 g (w := W + 1) (h := 1) (by omega) (by omega))]; rfl)
          have b2 : ∀ t, dNN (dK (.int 0)) (dCall F_is_tiled [] 3 (mVal (dV 5) (mVal (dK (.int 1)) (mVal (dK (.int 0)) mNil)))) [some (.scr ns), some (.val (nI lap)), some c2, some (.val (nI q)), some (.val (rD P)), some (.val (rD R)), some (.val (nI W)), some (.val (nI R.length)), t] = .ok (.bool true) [some (.scr ns), some (.val (nI lap)), some c2, some (.val (nI q)), some (.val (rD P)), some (.val (rD R)), some (.val (nI W)), some (.val (nI R.length)), t] := fun t => by
            obtain ⟨u, hu⟩ := E t
            exact e_dNN (n := nI 0) (by rw [hu, k0]) n_int (by rw [hu]; simp [k0, k1, cerr3 (p_is_tiledE2 g (w := 1) (h := 0) (by omega) (by omega) (Nat.mod_one _) (by omega) (by omega))]; rfl)
          have b3 : ∀ t, dNN (dV 6) (dCall F_shifted_rows [] 3 (mVal (dV 5) (mVal (dV 6) (mVal (dK (.int 0)) mNil)))) [some (.scr ns), some (.val (nI lap)), some c2, some (.val (nI q)), some (.val (rD P)), some (.val (rD R)), some (.val (nI W)), some (.val (nI R.length)), t] = .ok (.bool true) [some (.scr ns), some (.val (nI lap)), some c2, some (.val (nI q)), some (.val (rD P)), some (.val (rD R)), some (.val (nI W)), some (.val (nI R.length)), t] := fun t => by
            obtain ⟨u, hu⟩ := E t
            exact e_dNN (n := nI W) (by rw [hu]; simp; rfl) n_int (by rw [hu]; simp [k0, cerr3 (p_shiftedE1 g (a := W) (d := nI 0) (by omega))]; rfl)
          have b4 : ∀ t, dNN (dV 7) (dCall F_shifted_rows [] 3 (mVal (dV 5) (mVal (dK (.int 0)) (mVal (dV 7) mNil)))) [some (.scr ns), some (.val (nI lap)), some c2, some (.val (nI q)), some (.val (rD P)), some (.val (rD R)), some (.val (nI W)), some (.val (nI R.length)), t] = .ok (.bool true) [some (.scr ns), some (.val (nI lap)), some c2, some (.val (nI q)), some (.val (rD P)), some (.val (rD R)), some (.val (nI W)), some (.val (nI R.length)), t] := fun t => by
            obtain ⟨u, hu⟩ := E t
            exact e_dNN (n := nI R.length) (by rw [hu]; simp; rfl) n_int (by rw [hu]; simp [k0, cerr3 (p_shiftedE2 g (d := R.length) (by omega))]; rfl)
          have b5 : ∀ t, dNN (dK (.bool true)) (dCall F_shifted_rows [] 3 (mVal (dV 5) (mVal (dK (.int 0)) (mVal (dK (.bool true)) mNil)))) [some (.scr ns), some (.val (nI lap)), some c2, some (.val (nI q)), some (.val (rD P)), some (.val (rD R)), some (.val (nI W)), some (.val (nI R.length)), t] = .ok (.bool true) [some (.scr ns), some (.val (nI lap)), some c2, some (.val (nI q)), some (.val (rD P)), some (.val (rD R)), some (.val (nI W)), some (.val (nI R.length)), t] := fun t => by
            obtain ⟨u, hu⟩ := E t
            exact e_dNN (n := .bool true) (by rw [hu]; rfl) (.inl ⟨_, rfl⟩) (by rw [hu]; simp [k0, cerr3 (p_shiftedE3 g (b := true))]; rfl)
          have b6 : ∀ t, dOr (d2 gLt (dV 6) (dK (.int 3))) (dNN (d2 gSub (dV 6) (dK (.int 1))) (dCall F_is_tiled [] 3 (mVal (dV 5) (mVal (d2 gSub (dV 6) (dK (.int 1))) (mVal (dK (.int 1)) mNil))))) [some (.scr ns), some (.val (nI lap)), some c2, some (.val (nI q)), some (.val (rD P)), some (.val (rD R)), some (.val (nI W)), some (.val (nI R.length)), t] = .ok (.bool true) [some (.scr ns), some (.val (nI lap)), some c2, some (.val (nI q)), some (.val (rD P)), some (.val (rD R)), some (.val (nI W)), some (.val (nI R.length)), t] := fun t => by
            obtain ⟨u, hu⟩ := E t
            by_cases z : W < 3
            · simp [k3, z]
            · have : ¬ (1 ≤ W - 1 ∧ W - 1 ≤ W ∧ W % (W - 1) = 0) := fun ⟨_, _, y⟩ => by
                rw [Nat.mod_eq_sub_mod (by omega), show W - (W - 1) = 1 by omega, Nat.mod_eq_of_lt (by omega)] at y; omega
              have := e_dNN (n := nI (W - 1)) (fe2 := d2 gSub (dV 6) (dK (.int 1))) (fbody := dCall F_is_tiled [] 3 (mVal (dV 5) (mVal (d2 gSub (dV 6) (dK (.int 1))) (mVal (dK (.int 1)) mNil)))) (env := [some (.scr ns), some (.val (nI lap)), some c2, some (.val (nI q)), some (.val (rD P)), some (.val (rD R)), some (.val (nI W)), some (.val (nI R.length)), t]) (by rw [hu]; simp [k1, sub_n w1]; rfl) n_int (by rw [hu]; simp [k1, sub_n w1, cerr3 (p_is_tiledE1 g (w := W - 1) (h := 1) (by omega) this)]; rfl)
              simp [k3, z, this]
          have b7 : ∀ t, dOr (d2 gLt (dV 7) (dK (.int 3))) (dNN (d2 gSub (dV 7) (dK (.int 1))) (dCall F_is_tiled [] 3 (mVal (dV 5) (mVal (dK (.int 1)) (mVal (d2 gSub (dV 7) (dK (.int 1))) mNil))))) [some (.scr ns), some (.val (nI lap)), some c2, some (.val (nI q)), some (.val (rD P)), some (.val (rD R)), some (.val (nI W)), some (.val (nI R.length)), t] = .ok (.bool true) [some (.scr ns), some (.val (nI lap)), some c2, some (.val (nI q)), some (.val (rD P)), some (.val (rD R)), some (.val (nI W)), some (.val (nI R.length)), t] := fun t => by
            obtain ⟨u, hu⟩ := E t
            by_cases z : R.length < 3
            · simp [k3, z]
            · have : ¬ (1 ≤ R.length - 1 ∧ R.length - 1 ≤ R.length ∧ R.length % (R.length - 1) = 0) := fun ⟨_, _, y⟩ => by
                rw [Nat.mod_eq_sub_mod (by omega), show R.length - (R.length - 1) = 1 by omega, Nat.mod_eq_of_lt (by omega)] at y; omega
              have := e_dNN (n := nI (R.length - 1)) (fe2 := d2 gSub (dV 7) (dK (.int 1))) (fbody := dCall F_is_tiled [] 3 (mVal (dV 5) (mVal (dK (.int 1)) (mVal (d2 gSub (dV 7) (dK (.int 1))) mNil)))) (env := [some (.scr ns), some (.val (nI lap)), some c2, some (.val (nI q)), some (.val (rD P)), some (.val (rD R)), some (.val (nI W)), some (.val (nI R.length)), t]) (by rw [hu]; simp [k1, sub_n h1]; rfl) n_int (by rw [hu]; simp [k1, sub_n h1, cerr3 (p_is_tiledE2 g (w := 1) (h := R.length - 1) (by omega) (by omega) (Nat.mod_one _) (by omega) this)]; rfl)
              simp [k3, z, this]
          have hsee : bSee (dB (d2 gNe (dV 8) (d2 gMul (dLst (dList (dCons (dK (.bool true)) dNil))) (dK (.int 7))))) [some (.scr ns), some (.val (nI lap)), some c2, some (.val (nI q)), some (.val (rD P)), some (.val (rD R)), some (.val (nI W)), some (.val (nI R.length)), some (.lst [.bool true, .bool true, .bool true, .bool true, .bool true, .bool true, .bool true])] = .ok false [some (.scr ns), some (.val (nI lap)), some c2, some (.val (nI q)), some (.val (rD P)), some (.val (rD R)), some (.val (nI W)), some (.val (nI R.length)), some (.lst [.bool true, .bool true, .bool true, .bool true, .bool true, .bool true, .bool true])] := by
            obtain ⟨m1, f1, n1, rfl⟩ := hc2
            have hm : gMul (.list [PyData.bool true]) (nI 7) = some (.list [.bool true, .bool true, .bool true, .bool true, .bool true, .bool true, .bool true]) := mul_l (ds := [PyData.bool true]) (a := 7) (by omega) (by simp)
            have hne : gNe (.list [.bool true, .bool true, .bool true, .bool true, .bool true, .bool true, .bool true]) (.list [.bool true, .bool true, .bool true, .bool true, .bool true, .bool true, .bool true]) = some (.bool false) := by
              unfold gNe
              rw [if_pos ⟨by decide +kernel, by decide +kernel⟩]
              congr 2
            apply e_bSee (e := seeE [some (.scr ns), some (.val (nI lap)), some (chS m1 f1 n1), some (.val (nI q)), some (.val (rD P)), some (.val (rD R)), some (.val (nI W)), some (.val (nI R.length)), some (.lst [.bool true, .bool true, .bool true, .bool true, .bool true, .bool true, .bool true])])
            show dB _ [some (.scr ns), some (.val (nI lap)), none, some (.val (nI q)), some (.val (rD P)), some (.val (rD R)), some (.val (nI W)), some (.val (nI R.length)), some (.val (.list [.bool true, .bool true, .bool true, .bool true, .bool true, .bool true, .bool true]))] = _
            simp [k7, hm, hne]
            rfl
          refine ⟨_, _, rfl, ?_, c2, some (.val (nI q)), some (.val (rD P)), some (.val (rD R)), some (.val (nI W)), some (.val (nI R.length)), some (.lst [.bool true, .bool true, .bool true, .bool true, .bool true, .bool true, .bool true]), hc2, rfl⟩
          simp only [List.set_cons_succ, List.set_cons_zero]
          simp [ms, a1, a2, k0, g.ix0, g.len0, b1, b2, b3, b4, b5, sApp, -e_dOr, b6, b7, hsee]) [some (.scr ns), some (.val (nI lap)), some c, x3, x4, x5, x6, x7, x8] ⟨c, _, _, _, _, _, _, hc, rfl⟩
      refine ⟨_, [some (.scr ns), some (.val (nI lap)), some c', x3', x4', x5', x6', x7', x8'], rfl, ?_, _, _, _, _, _, _, _, _, rfl⟩
      simp [hfc, hc.own, k5, rng1_n (by omega : 5 < 1000000), hgo]) [some (.scr ns), none, none, none, none, none, none, none, none] ⟨_, _, _, _, _, _, _, _, rfl⟩
  obtain ⟨e, hgo, x1, x2, x3, x4, x5, x6, x7, x8, rfl⟩ := outer
  refine ⟨[some (.scr ns), x1, x2, x3, x4, x5, x6, x7, x8], ?_⟩
  show fs_law [some (.scr ns), none, none, none, none, none, none, none, none] = _
  unfold fs_law
  simp [k0, k1, hgo]
end H86
set_option Elab.async false
set_option linter.all false
set_option maxRecDepth 100000
set_option maxHeartbeats 0
namespace H86
open PySem PySem.Spec PyProof.Rows PySem.HandSPX L2 MI
def d_is_whole : He.DefD := ⟨("is_whole", none), "is_whole", "is_whole", defArgs s_is_whole, defBody s_is_whole, defScope s_is_whole, [], []⟩
def d_is_between : He.DefD := ⟨("is_between", none), "is_between", "is_between", defArgs s_is_between, defBody s_is_between, defScope s_is_between, [], []⟩
def d_yarn_ok : He.DefD := ⟨("yarn_ok", none), "yarn_ok", "yarn_ok", defArgs s_yarn_ok, defBody s_yarn_ok, defScope s_yarn_ok, [], []⟩
def d_check_number : He.DefD := ⟨("check_number", none), "check_number", "check_number", defArgs s_check_number, defBody s_check_number, defScope s_check_number, [], []⟩
def d_row_ok : He.DefD := ⟨("row_ok", none), "row_ok", "row_ok", defArgs s_row_ok, defBody s_row_ok, defScope s_row_ok, [], []⟩
def d_first_wrong : He.DefD := ⟨("first_wrong", none), "first_wrong", "first_wrong", defArgs s_first_wrong, defBody s_first_wrong, defScope s_first_wrong, [], []⟩
def d_colouring_ok : He.DefD := ⟨("colouring_ok", none), "colouring_ok", "colouring_ok", defArgs s_colouring_ok, defBody s_colouring_ok, defScope s_colouring_ok, [], []⟩
def d_check_rows : He.DefD := ⟨("check_rows", none), "check_rows", "check_rows", defArgs s_check_rows, defBody s_check_rows, defScope s_check_rows, [], []⟩
def d_divides : He.DefD := ⟨("divides", none), "divides", "divides", defArgs s_divides, defBody s_divides, defScope s_divides, [], []⟩
def d_wrapped : He.DefD := ⟨("wrapped", none), "wrapped", "wrapped", defArgs s_wrapped, defBody s_wrapped, defScope s_wrapped, [], []⟩
def d_tiled_by : He.DefD := ⟨("tiled_by", none), "tiled_by", "tiled_by", defArgs s_tiled_by, defBody s_tiled_by, defScope s_tiled_by, [], []⟩
def d_least_width : He.DefD := ⟨("least_width", none), "least_width", "least_width", defArgs s_least_width, defBody s_least_width, defScope s_least_width, [], []⟩
def d_least_height : He.DefD := ⟨("least_height", none), "least_height", "least_height", defArgs s_least_height, defBody s_least_height, defScope s_least_height, [], []⟩
def d_tile_by : He.DefD := ⟨("tile_by", none), "tile_by", "tile_by", defArgs s_tile_by, defBody s_tile_by, defScope s_tile_by, [], []⟩
def d_turned_on : He.DefD := ⟨("turned_on", none), "turned_on", "turned_on", defArgs s_turned_on, defBody s_turned_on, defScope s_turned_on, [], []⟩
def d_shifts_by : He.DefD := ⟨("shifts_by", none), "shifts_by", "shifts_by", defArgs s_shifts_by, defBody s_shifts_by, defScope s_shifts_by, [], []⟩
def d_least_by : He.DefD := ⟨("least_by", none), "least_by", "least_by", defArgs s_least_by, defBody s_least_by, defScope s_least_by, [], []⟩
def d_check_divisor : He.DefD := ⟨("check_divisor", none), "check_divisor", "check_divisor", defArgs s_check_divisor, defBody s_check_divisor, defScope s_check_divisor, [], []⟩
def d_tile_of : He.DefD := ⟨("tile_of", none), "tile_of", "tile_of", defArgs s_tile_of, defBody s_tile_of, defScope s_tile_of, [], []⟩
def d_is_tiled : He.DefD := ⟨("is_tiled", none), "is_tiled", "is_tiled", defArgs s_is_tiled, defBody s_is_tiled, defScope s_is_tiled, [], []⟩
def d_shifted_rows : He.DefD := ⟨("shifted_rows", none), "shifted_rows", "shifted_rows", defArgs s_shifted_rows, defBody s_shifted_rows, defScope s_shifted_rows, [], []⟩
def d_least_shift : He.DefD := ⟨("least_shift", none), "least_shift", "least_shift", defArgs s_least_shift, defBody s_least_shift, defScope s_least_shift, [], []⟩
def d_are_shifts : He.DefD := ⟨("are_shifts", none), "are_shifts", "are_shifts", defArgs s_are_shifts, defBody s_are_shifts, defScope s_are_shifts, [], []⟩
def d_is_colouring : He.DefD := ⟨("is_colouring", none), "is_colouring", "is_colouring", defArgs s_is_colouring, defBody s_is_colouring, defScope s_is_colouring, [], []⟩
def d_turned_rows : He.DefD := ⟨("turned_rows", none), "turned_rows", "turned_rows", defArgs s_turned_rows, defBody s_turned_rows, defScope s_turned_rows, [], []⟩
def d__law_churn : He.DefD := ⟨("_law_churn", none), "_law_churn", "_law_churn", defArgs s__law_churn, defBody s__law_churn, defScope s__law_churn, [], []⟩
def d__law_dip : He.DefD := ⟨("_law_dip", none), "_law_dip", "_law_dip", defArgs s__law_dip, defBody s__law_dip, defScope s__law_dip, [], []⟩
def d__law_any : He.DefD := ⟨("_law_any", none), "_law_any", "_law_any", defArgs s__law_any, defBody s__law_any, defScope s__law_any, [], []⟩
def d__law_match : He.DefD := ⟨("_law_match", none), "_law_match", "_law_match", defArgs s__law_match, defBody s__law_match, defScope s__law_match, [], []⟩
def d__law_colours : He.DefD := ⟨("_law_colours", none), "_law_colours", "_law_colours", defArgs s__law_colours, defBody s__law_colours, defScope s__law_colours, [], []⟩
def d__law_shift : He.DefD := ⟨("_law_shift", none), "_law_shift", "_law_shift", defArgs s__law_shift, defBody s__law_shift, defScope s__law_shift, [], []⟩
def d__law_all_shifts : He.DefD := ⟨("_law_all_shifts", none), "_law_all_shifts", "_law_all_shifts", defArgs s__law_all_shifts, defBody s__law_all_shifts, defScope s__law_all_shifts, [], []⟩
def d__law_is_laid : He.DefD := ⟨("_law_is_laid", none), "_law_is_laid", "_law_is_laid", defArgs s__law_is_laid, defBody s__law_is_laid, defScope s__law_is_laid, [], []⟩
def d__law_parts : He.DefD := ⟨("_law_parts", none), "_law_parts", "_law_parts", defArgs s__law_parts, defBody s__law_parts, defScope s__law_parts, [], []⟩
def d__law_tile_of : He.DefD := ⟨("_law_tile_of", none), "_law_tile_of", "_law_tile_of", defArgs s__law_tile_of, defBody s__law_tile_of, defScope s__law_tile_of, [], []⟩
def d__law_no_number : He.DefD := ⟨("_law_no_number", none), "_law_no_number", "_law_no_number", defArgs s__law_no_number, defBody s__law_no_number, defScope s__law_no_number, [], []⟩
def d__law_drawn : He.DefD := ⟨("_law_drawn", none), "_law_drawn", "_law_drawn", defArgs s__law_drawn, defBody s__law_drawn, defScope s__law_drawn, [], []⟩
def d__law_rows_right : He.DefD := ⟨("_law_rows_right", none), "_law_rows_right", "_law_rows_right", defArgs s__law_rows_right, defBody s__law_rows_right, defScope s__law_rows_right, [], []⟩
def d_law : He.DefD := ⟨("law", none), "law", "law", defArgs s_law, defBody s_law, defScope s_law, [], []⟩
def d_InvalidNumber_init : He.DefD := ⟨("InvalidNumber", some "__init__"), "__init__", "InvalidNumber.__init__", defArgs s_InvalidNumber_init, defBody s_InvalidNumber_init, defScope s_InvalidNumber_init, [], []⟩
def d_InvalidRows_init : He.DefD := ⟨("InvalidRows", some "__init__"), "__init__", "InvalidRows.__init__", defArgs s_InvalidRows_init, defBody s_InvalidRows_init, defScope s_InvalidRows_init, [], []⟩
def fn : List He.DefD := [d_is_whole, d_is_between, d_yarn_ok, d_check_number, d_row_ok, d_first_wrong, d_colouring_ok, d_check_rows, d_divides, d_wrapped, d_tiled_by, d_least_width, d_least_height, d_tile_by, d_turned_on, d_shifts_by, d_least_by, d_check_divisor, d_tile_of, d_is_tiled, d_shifted_rows, d_least_shift, d_are_shifts, d_is_colouring, d_turned_rows, d__law_churn, d__law_dip, d__law_any, d__law_match, d__law_colours, d__law_shift, d__law_all_shifts, d__law_is_laid, d__law_parts, d__law_tile_of, d__law_no_number, d__law_drawn, d__law_rows_right, d_law, d_InvalidNumber_init, d_InvalidRows_init]
def fa : List He.Fa := [.glo "is_whole", .glo "is_between", .glo "yarn_ok", .glo "check_number", .glo "row_ok", .glo "first_wrong", .glo "colouring_ok", .glo "check_rows", .glo "divides", .glo "wrapped", .glo "tiled_by", .glo "least_width", .glo "least_height", .glo "tile_by", .glo "turned_on", .glo "shifts_by", .glo "least_by", .glo "check_divisor", .glo "tile_of", .glo "is_tiled", .glo "shifted_rows", .glo "least_shift", .glo "are_shifts", .glo "is_colouring", .glo "turned_rows", .glo "_law_churn", .glo "_law_dip", .glo "_law_any", .glo "_law_match", .glo "_law_colours", .glo "_law_shift", .glo "_law_all_shifts", .glo "_law_is_laid", .glo "_law_parts", .glo "_law_tile_of", .glo "_law_no_number", .glo "_law_drawn", .glo "_law_rows_right", .glo "law", .glo "ClothError", .glo "InvalidNumber", .glo "InvalidRows", .free "isinstance", .free "int", .free "bool", .free "str", .free "tuple", .free "list", .free "set", .free "len", .free "all", .free "enumerate", .free "range", .free "min", .free "abs", .free "zip", .free "ValueError", .glo "YARNS", .int "MOST_WIDE" 16, .int "MOST_ROWS" 10, .exm "InvalidNumber" "InvalidNumber" true]
def clsB (K : PySem.W.Frag) (C : Addr) : Bool := match K.lookup C with
  | some ⟨.type "type", _, .cls cd, sl⟩ => (match cd.mro, sl.toList with
    | .ref C' :: bm, [_, _, _, _, some (.builtin n), _] => C' == C && n == "ValueError.__new__" && !cd.hasDel && cd.hasDict && refsVE bm
    | _, _ => false)
  | _ => false
theorem clsB_ok {K : PySem.W.Frag} {C : Addr} (q : clsB K C = true) : ∃ nm q N bs bm sn sub ab col dd k0 k1 k2 k3 k5, K.lookup C = some (excClassObj nm q C N bs bm true sn sub ab col dd k0 k1 k2 k3 k5 "ValueError.__new__") ∧ refsVE bm = true := by
  unfold clsB at q
  split at q
  · rename_i dd cd sl ho
    split at q
    · rename_i C' bm k0 k1 k2 k3 n k5 hm hs
      simp only [Bool.and_eq_true, beq_iff_eq, Bool.not_eq_true'] at q
      obtain ⟨⟨⟨⟨rfl, rfl⟩, hdel⟩, hhd⟩, hr⟩ := q
      obtain ⟨nm, bs, mro, ns, qn, hd, sn, sub, ab, col, del⟩ := cd
      dsimp only at hm hdel hhd hr
      subst hm hdel hhd
      have hsl : sl = #[k0, k1, k2, k3, some (.builtin "ValueError.__new__"), k5] := by
        obtain ⟨l⟩ := sl
        simp only at hs
        rw [hs]
      subst hsl
      exact ⟨nm, qn, ns, bs, bm, sn, sub, ab, col, dd, k0, k1, k2, k3, k5, ho, hr⟩
    · cases q
  · cases q
def errB (K : PySem.W.Frag) (c f : Str) : Bool :=
  clsB K (He.ga K c) && He.eqO (PySem.W.findIn K (.ref (He.ga K c)) "__setattr__") (some (some (.builtin "object.__setattr__"))) && He.eqO (PySem.W.findIn K (.ref (He.ga K c)) "__getattribute__") (some (some (.builtin "BaseException.__getattribute__"))) && He.eqO (PySem.W.findIn K (.ref (He.ga K c)) "__getattr__") (some none) &&
  He.eqO (PySem.W.findIn K (.ref (He.ga K c)) f) (some none) && He.eqO (PySem.W.findIn K (.ref (He.ga K c)) "__init__") (some (some (.ref (He.fAd K (c, some "__init__"))))) && decide (PySem.W.typeIn K (.ref (He.fAd K (c, some "__init__"))) = some (.type "function")) && PySem.W.keepIn K (.ref (He.ga K c)) &&
  decide (PySem.W.subIn K (.ref (He.ga K c)) (.type "BaseException") = some true) && decide (PySem.W.typeIn K (.ref (He.ga K c)) = some (.type "type")) && PySem.W.hasDictIn K (He.ga K c)
theorem errB_ok {K : PySem.W.Frag} {c f : Str} (e : errB K c f = true) :
    (∃ nm q N bs bm sn sub ab col dd k0 k1 k2 k3 k5, K.lookup (He.ga K c) = some (excClassObj nm q (He.ga K c) N bs bm true sn sub ab col dd k0 k1 k2 k3 k5 "ValueError.__new__") ∧ refsVE bm = true) ∧
    PySem.W.findIn K (.ref (He.ga K c)) "__setattr__" = some (some (.builtin "object.__setattr__")) ∧ PySem.W.findIn K (.ref (He.ga K c)) "__getattribute__" = some (some (.builtin "BaseException.__getattribute__")) ∧ PySem.W.findIn K (.ref (He.ga K c)) "__getattr__" = some none ∧
    PySem.W.findIn K (.ref (He.ga K c)) f = some none ∧ PySem.W.findIn K (.ref (He.ga K c)) "__init__" = some (some (.ref (He.fAd K (c, some "__init__")))) ∧ PySem.W.typeIn K (.ref (He.fAd K (c, some "__init__"))) = some (.type "function") ∧ PySem.W.keepIn K (.ref (He.ga K c)) = true ∧
    PySem.W.subIn K (.ref (He.ga K c)) (.type "BaseException") = some true ∧ PySem.W.typeIn K (.ref (He.ga K c)) = some (.type "type") ∧ PySem.W.hasDictIn K (He.ga K c) = true := by
  unfold errB at e
  simp only [Bool.and_eq_true] at e
  obtain ⟨⟨⟨⟨⟨⟨⟨⟨⟨⟨h1, h2⟩, h3⟩, h4⟩, h5⟩, h6⟩, h7⟩, h8⟩, h9⟩, h10⟩, h11⟩ := e
  exact ⟨clsB_ok h1, He.eqO_ok h2, He.eqO_ok h3, He.eqO_ok h4, He.eqO_ok h5, He.eqO_ok h6, of_decide_eq_true h7, h8, of_decide_eq_true h9, of_decide_eq_true h10, h11⟩
theorem errTxt_InvalidNumber {K : PySem.W.Frag} {mg : Str → Option Value} {h : Heap} (X : K.In h) (G : h.Ns mainGlobals mg) (g : mg "InvalidNumber" = some (.ref (He.ga K "InvalidNumber"))) (e : errB K "InvalidNumber" "given" = true)
    (d : ∃ fd, FunD K "__init__" "InvalidNumber.__init__" (defArgs s_InvalidNumber_init) (defBody s_InvalidNumber_init) (defScope s_InvalidNumber_init) [] [] (He.fAd K ("InvalidNumber", some "__init__")) fd) : PySem.ErrInvalidNumber.ErrTxt K mg (He.ga K "InvalidNumber") (He.fAd K ("InvalidNumber", some "__init__")) := by
  obtain ⟨h1, h2, h3, h4, h5, h6, h7, h8, h9, h10, h11⟩ := errB_ok e
  obtain ⟨fd, F⟩ := d
  obtain ⟨oc, od, dV, kV, doc, pm, an, cdv, ct, osl, rfl, lk, hcd, hD, _⟩ := F.ex
  refine ⟨g, h1, h2, h3, h4, h5, h6, h7, h8, h9, h10, h11, ?_⟩
  rcases hD with ⟨_, rfl⟩ | ⟨e, _⟩
  · exact ⟨oc, od, kV, doc, pm, an, cdv, ct, osl, _, _, _, _, _, _, lk, hcd⟩
  · exact absurd rfl e
def ts : List He.Tab := []
def tf : List He.Defn := [("law", none)]
def ex (K : PySem.W.Frag) : Bool := He.tupB K "YARNS" [He.Dv.str ("a" : Str), He.Dv.str ("b" : Str), He.Dv.str ("c" : Str), He.Dv.str ("d" : Str), He.Dv.str ("e" : Str)] && errB K "InvalidNumber" "given" && true
def lawAt : Nat := 53
abbrev R : PySem.W.OpenRow := PySem.W.OpenLaw.row PySem.Challenge.rw_loopracks_k86_whole_tiles_and_shifts
abbrev hk : PySem.W.Hook := He.hookX 5 fa fn ts tf ex
def ob (s : PySem.W.SharedT) : He.AlX := He.obsX 5 fa fn ts tf ex (HandSHeadRun.getT s)
theorem ob_eq (s : PySem.W.SharedT) : ob s = hk.obs s.abs := He.obsX_eq (HandSHeadRun.getT_eq s)
def loose : List PySem.Str := (["is_whole", "is_between", "YARNS", "yarn_ok", "ClothError", "InvalidNumber", "InvalidRows", "check_number", "MOST_WIDE", "MOST_ROWS", "row_ok", "first_wrong", "colouring_ok", "check_rows", "divides", "wrapped", "tiled_by", "least_width", "least_height", "tile_by"] : List PySem.Str) ++ (["turned_on", "shifts_by", "least_by", "check_divisor", "tile_of", "is_tiled", "shifted_rows", "least_shift", "are_shifts", "is_colouring", "turned_rows", "_law_churn", "_law_dip", "_law_any", "_law_match", "_law_colours", "_law_shift", "_law_all_shifts", "_law_is_laid", "_law_parts"] : List PySem.Str) ++ (["_law_tile_of", "_law_no_number", "_law_drawn", "_law_rows_right"] : List PySem.Str)
theorem run (w : World) : HandSHeadRun.RunEq R (PySem.W.view R.prog [lawAt]) hk ob 3000 loose w := by
  intro os
  kernel_rfl
theorem tx_of {K : PySem.W.Frag} {mg : Str → Option Value} {h : Heap} {w : World} (X : K.In h) (G : h.Ns mainGlobals mg) (c : He.SaysX fa fn ts tf ex w h K) : Tx K mg := by
  have cd := c.t.d
  have hex := c.more
  unfold ex at hex
  simp only [Bool.and_eq_true] at hex
  obtain ⟨⟨t_YARNS, e_InvalidNumber⟩, _⟩ := hex
  exact {
    m_is_whole := He.glo_ok X G (cd.fact 0 (f := .glo "is_whole") rfl)
    d_is_whole := cd.def_ 0 (d := d_is_whole) rfl
    m_is_between := He.glo_ok X G (cd.fact 1 (f := .glo "is_between") rfl)
    d_is_between := cd.def_ 1 (d := d_is_between) rfl
    m_yarn_ok := He.glo_ok X G (cd.fact 2 (f := .glo "yarn_ok") rfl)
    d_yarn_ok := cd.def_ 2 (d := d_yarn_ok) rfl
    m_check_number := He.glo_ok X G (cd.fact 3 (f := .glo "check_number") rfl)
    d_check_number := cd.def_ 3 (d := d_check_number) rfl
    m_row_ok := He.glo_ok X G (cd.fact 4 (f := .glo "row_ok") rfl)
    d_row_ok := cd.def_ 4 (d := d_row_ok) rfl
    m_first_wrong := He.glo_ok X G (cd.fact 5 (f := .glo "first_wrong") rfl)
    d_first_wrong := cd.def_ 5 (d := d_first_wrong) rfl
    m_colouring_ok := He.glo_ok X G (cd.fact 6 (f := .glo "colouring_ok") rfl)
    d_colouring_ok := cd.def_ 6 (d := d_colouring_ok) rfl
    m_check_rows := He.glo_ok X G (cd.fact 7 (f := .glo "check_rows") rfl)
    d_check_rows := cd.def_ 7 (d := d_check_rows) rfl
    m_divides := He.glo_ok X G (cd.fact 8 (f := .glo "divides") rfl)
    d_divides := cd.def_ 8 (d := d_divides) rfl
    m_wrapped := He.glo_ok X G (cd.fact 9 (f := .glo "wrapped") rfl)
    d_wrapped := cd.def_ 9 (d := d_wrapped) rfl
    m_tiled_by := He.glo_ok X G (cd.fact 10 (f := .glo "tiled_by") rfl)
    d_tiled_by := cd.def_ 10 (d := d_tiled_by) rfl
    m_least_width := He.glo_ok X G (cd.fact 11 (f := .glo "least_width") rfl)
    d_least_width := cd.def_ 11 (d := d_least_width) rfl
    m_least_height := He.glo_ok X G (cd.fact 12 (f := .glo "least_height") rfl)
    d_least_height := cd.def_ 12 (d := d_least_height) rfl
    m_tile_by := He.glo_ok X G (cd.fact 13 (f := .glo "tile_by") rfl)
    d_tile_by := cd.def_ 13 (d := d_tile_by) rfl
    m_turned_on := He.glo_ok X G (cd.fact 14 (f := .glo "turned_on") rfl)
    d_turned_on := cd.def_ 14 (d := d_turned_on) rfl
    m_shifts_by := He.glo_ok X G (cd.fact 15 (f := .glo "shifts_by") rfl)
    d_shifts_by := cd.def_ 15 (d := d_shifts_by) rfl
    m_least_by := He.glo_ok X G (cd.fact 16 (f := .glo "least_by") rfl)
    d_least_by := cd.def_ 16 (d := d_least_by) rfl
    m_check_divisor := He.glo_ok X G (cd.fact 17 (f := .glo "check_divisor") rfl)
    d_check_divisor := cd.def_ 17 (d := d_check_divisor) rfl
    m_tile_of := He.glo_ok X G (cd.fact 18 (f := .glo "tile_of") rfl)
    d_tile_of := cd.def_ 18 (d := d_tile_of) rfl
    m_is_tiled := He.glo_ok X G (cd.fact 19 (f := .glo "is_tiled") rfl)
    d_is_tiled := cd.def_ 19 (d := d_is_tiled) rfl
    m_shifted_rows := He.glo_ok X G (cd.fact 20 (f := .glo "shifted_rows") rfl)
    d_shifted_rows := cd.def_ 20 (d := d_shifted_rows) rfl
    m_least_shift := He.glo_ok X G (cd.fact 21 (f := .glo "least_shift") rfl)
    d_least_shift := cd.def_ 21 (d := d_least_shift) rfl
    m_are_shifts := He.glo_ok X G (cd.fact 22 (f := .glo "are_shifts") rfl)
    d_are_shifts := cd.def_ 22 (d := d_are_shifts) rfl
    m_is_colouring := He.glo_ok X G (cd.fact 23 (f := .glo "is_colouring") rfl)
    d_is_colouring := cd.def_ 23 (d := d_is_colouring) rfl
    m_turned_rows := He.glo_ok X G (cd.fact 24 (f := .glo "turned_rows") rfl)
    d_turned_rows := cd.def_ 24 (d := d_turned_rows) rfl
    m__law_churn := He.glo_ok X G (cd.fact 25 (f := .glo "_law_churn") rfl)
    d__law_churn := cd.def_ 25 (d := d__law_churn) rfl
    m__law_dip := He.glo_ok X G (cd.fact 26 (f := .glo "_law_dip") rfl)
    d__law_dip := cd.def_ 26 (d := d__law_dip) rfl
    m__law_any := He.glo_ok X G (cd.fact 27 (f := .glo "_law_any") rfl)
    d__law_any := cd.def_ 27 (d := d__law_any) rfl
    m__law_match := He.glo_ok X G (cd.fact 28 (f := .glo "_law_match") rfl)
    d__law_match := cd.def_ 28 (d := d__law_match) rfl
    m__law_colours := He.glo_ok X G (cd.fact 29 (f := .glo "_law_colours") rfl)
    d__law_colours := cd.def_ 29 (d := d__law_colours) rfl
    m__law_shift := He.glo_ok X G (cd.fact 30 (f := .glo "_law_shift") rfl)
    d__law_shift := cd.def_ 30 (d := d__law_shift) rfl
    m__law_all_shifts := He.glo_ok X G (cd.fact 31 (f := .glo "_law_all_shifts") rfl)
    d__law_all_shifts := cd.def_ 31 (d := d__law_all_shifts) rfl
    m__law_is_laid := He.glo_ok X G (cd.fact 32 (f := .glo "_law_is_laid") rfl)
    d__law_is_laid := cd.def_ 32 (d := d__law_is_laid) rfl
    m__law_parts := He.glo_ok X G (cd.fact 33 (f := .glo "_law_parts") rfl)
    d__law_parts := cd.def_ 33 (d := d__law_parts) rfl
    m__law_tile_of := He.glo_ok X G (cd.fact 34 (f := .glo "_law_tile_of") rfl)
    d__law_tile_of := cd.def_ 34 (d := d__law_tile_of) rfl
    m__law_no_number := He.glo_ok X G (cd.fact 35 (f := .glo "_law_no_number") rfl)
    d__law_no_number := cd.def_ 35 (d := d__law_no_number) rfl
    m__law_drawn := He.glo_ok X G (cd.fact 36 (f := .glo "_law_drawn") rfl)
    d__law_drawn := cd.def_ 36 (d := d__law_drawn) rfl
    m__law_rows_right := He.glo_ok X G (cd.fact 37 (f := .glo "_law_rows_right") rfl)
    d__law_rows_right := cd.def_ 37 (d := d__law_rows_right) rfl
    m_law := He.glo_ok X G (cd.fact 38 (f := .glo "law") rfl)
    d_law := cd.def_ 38 (d := d_law) rfl
    b_isinstance := He.free_ok X G (cd.fact 42 (f := .free "isinstance") rfl)
    b_int := He.free_ok X G (cd.fact 43 (f := .free "int") rfl)
    b_bool := He.free_ok X G (cd.fact 44 (f := .free "bool") rfl)
    b_str := He.free_ok X G (cd.fact 45 (f := .free "str") rfl)
    b_tuple := He.free_ok X G (cd.fact 46 (f := .free "tuple") rfl)
    b_list := He.free_ok X G (cd.fact 47 (f := .free "list") rfl)
    b_set := He.free_ok X G (cd.fact 48 (f := .free "set") rfl)
    b_len := He.free_ok X G (cd.fact 49 (f := .free "len") rfl)
    b_all := He.free_ok X G (cd.fact 50 (f := .free "all") rfl)
    b_enumerate := He.free_ok X G (cd.fact 51 (f := .free "enumerate") rfl)
    b_range := He.free_ok X G (cd.fact 52 (f := .free "range") rfl)
    b_min := He.free_ok X G (cd.fact 53 (f := .free "min") rfl)
    b_abs := He.free_ok X G (cd.fact 54 (f := .free "abs") rfl)
    b_zip := He.free_ok X G (cd.fact 55 (f := .free "zip") rfl)
    b_ValueError := He.free_ok X G (cd.fact 56 (f := .free "ValueError") rfl)
    g_YARNS := ⟨He.glo_ok X G (cd.fact 57 (f := .glo "YARNS") rfl), He.tupB_ok t_YARNS⟩
    g_MOST_WIDE := He.int_ok X G (cd.fact 58 (f := .int "MOST_WIDE" 16) rfl)
    g_MOST_ROWS := He.int_ok X G (cd.fact 59 (f := .int "MOST_ROWS" 10) rfl)
    e_InvalidNumber := errTxt_InvalidNumber X G (He.glo_ok X G (cd.fact 40 (f := .glo "InvalidNumber") rfl)) e_InvalidNumber (cd.def_ 39 (d := d_InvalidNumber_init) rfl)
    x_InvalidNumber_InvalidNumber := He.exm_ok (cd.fact 60 (f := .exm "InvalidNumber" "InvalidNumber" true) rfl)
  }
end H86
set_option Elab.async false
set_option linter.all false
set_option maxRecDepth 100000
set_option maxHeartbeats 4000000
namespace H86
open PySem PySem.Spec PyProof.Rows L2 MI
/-! ### the end -/
def noT (H : Hp) : Hp := fun b => match H b with
  | some (.tbl _) => none
  | o => o
theorem noT_some {H : Hp} {b : Addr} {o : HO} (h : noT H b = some o) : H b = some o ∧ nT o := by
  unfold noT at h
  cases q : H b with
  | none => rw [q] at h; cases h
  | some u =>
    rw [q] at h
    cases u <;> first | (cases h; exact ⟨rfl, fun ps z => by cases z⟩) | cases h
theorem law_start {K : PySem.W.Frag} {H : Hp} {Pt a : Addr} {ns : List Int} {q : Str} (hT : H Pt = some (.tbl #[])) (hS : SqL K H a (ns.map V.int)) (n : Nat) :
    SRel K ⟨[], noT H, [], [(Pt, q)]⟩ [] [] H (some (.ref a) :: List.replicate n none) (some (.scr ns) :: List.replicate n none) := by
  have none_of : ∀ {i : Nat} {s : SV}, (some (SV.scr ns) :: List.replicate n none : En)[i]? = some (some s) → i = 0 ∧ s = .scr ns := fun {i s} h => by
    cases i with
    | zero => cases h; exact ⟨rfl, rfl⟩
    | succ i =>
      rw [List.getElem?_cons_succ, List.getElem?_replicate] at h
      split at h <;> cases h
  refine ⟨by simp, fun i s h => ?_, fun i s a h o => ?_, fun i j si sj a _ h _ o => ?_, fun a ha => (nomatch ha), fun a ha => ha, fun a ha => (nomatch ha), fun b o h _ => (noT_some h).1, fun a ha => (nomatch ha), fun p hp => (nomatch hp), fun p hp => ?_, fun _ b o h => (noT_some h).2⟩
  · obtain ⟨rfl, rfl⟩ := none_of h
    exact ⟨_, rfl, a, rfl, by rw [mns_nil]; exact hS⟩
  · obtain ⟨rfl, rfl⟩ := none_of h; cases o
  · obtain ⟨rfl, rfl⟩ := none_of h; cases o
  · rw [List.mem_singleton.mp hp]; exact LamX.TabS.nil hT
def spLaw (K : PySem.W.Frag) (Pt : Addr) (ok : List Int → Prop) : Sp := fun vs H Q _ => ∃ (a : Addr) (ns : List Int), vs = [.ref a] ∧ H Pt = some (.tbl #[]) ∧ ok ns ∧ SqL K H a (ns.map V.int) ∧ ∀ H', Q (.bl true) H'
section
variable {P : Program} {w : World} {K : PySem.W.Frag} {mg : Str → Option Value} {base : Heap}
theorem ok_law {ok : List Int → Prop} (pure : ∀ ns, ok ns → ∃ e, fs_law (some (.scr ns) :: List.replicate (N_law.length - 1) none) = .rt (.val (.bool true)) e) (T : Tx K mg) {c Pt : Addr} (TB : LamX.TabB base mg c Pt) {fd : FuncData}
    (F : FunD K "law" "law" (defArgs s_law) (defBody s_law) (defScope s_law) [] [] (He.ga K "law") fd) (hc : He.codeOf K ("law", none) = c) : FnOk P w K mg base (L2N.CX P w) (lvLaw + 1) (He.ga K "law") fd ["script"] (spLaw K Pt ok) := by
  obtain ⟨oc, od, dV, kV, doc, pm, an, cdv, ct, osl, rfl, lk, hcd, _, _⟩ := F.ex
  obtain ⟨c', rfl⟩ := He.codeIn_ref hcd
  have ec : He.codeOf K ("law", none) = c' := He.codeOf_eq (p := ("law", none)) lk rfl
  obtain rfl : c' = c := ec.symm.trans hc
  refine L2.fn_of lk hcd sc_law (fun vs H Q E h => by obtain ⟨a, ns, rfl, _⟩ := h; rfl) fun A outer s H vs Q E hr h => ?_
  obtain ⟨a, ns, rfl, hT, hn, hS, hQ⟩ := h
  obtain ⟨e, he⟩ := pure ns hn
  refine ⟨_, (law_body T TB A outer s H E hr).run ⟨[], noT H, [], [(Pt, qnL)]⟩ rfl rfl, [], [], _, law_start hT hS (N_law.length - 1), ?_⟩
  rw [he]
  exact fun O' Z' H' σ' v S' m r => by
    have r' : Dq K (mns H' []) v (.bool true) := r
    cases r'
    exact hQ H'
theorem law_at {l : PySem.W.OpenLaw} {n : Nat} {h : Heap} {fa0 : Addr} (pure : ∀ ns : List Int, ns.length ≤ n ∧ (∀ z ∈ ns, Builtin.Int.intBits z ≤ 1048576) → ∃ e, fs_law (some (.scr ns) :: List.replicate (N_law.length - 1) none) = .rt (.val (.bool true)) e)
    (X : K.In h) (G : h.Ns mainGlobals mg) (c : He.SaysX fa fn ts tf ex w h K) (hf : mg "law" = some (.ref fa0)) : LamX.LawAtS l w K (L2N.CX l.prog w) (lvLaw + 1) n "script" mg fa0 h := by
  have T := tx_of X G c
  obtain ⟨fd, F⟩ := T.d_law
  have e := hf.symm.trans T.m_law
  cases e
  have b := FunD.bindsA (ps := ["script"]) F fun _ _ _ _ _ _ us hl => match us, hl with | [_], _ => rfl
  have hm : ∀ p ∈ [He.cT K ("law", none)], ∃ q ∈ tf, p = He.cT K q := fun p hp => ⟨("law", none), List.mem_singleton.mpr rfl, List.mem_singleton.mp hp⟩
  refine ⟨fd, [He.cT K ("law", none)], spLaw K (He.cT K ("law", none)).2 (fun ns => ns.length ≤ n ∧ (∀ z ∈ ns, Builtin.Int.intBits z ≤ 1048576)), fun p hp => ?_, fun p hp => ?_, fun p hp => ?_, fun s v => b s [v] rfl, fun H a ns hl hb hH hS => ?_, fun base hK hG hTB => ?_⟩
  · obtain ⟨q, hq, rfl⟩ := hm p hp; exact c.empty q hq
  · obtain ⟨q, hq, rfl⟩ := hm p hp; exact c.out q hq
  · obtain ⟨q, hq, rfl⟩ := hm p hp; exact PySem.W.codeHd_of_K X (c.hd q hq)
  · exact ⟨a, ns, rfl, hH _ (List.mem_singleton.mpr rfl), ⟨hl, hb⟩, hS, fun _ => rfl⟩
  · exact ok_law pure T (hTB _ (List.mem_singleton.mpr rfl)) F rfl
end
end H86
open PySem PySem.W PySem.Calls PyProof.Rows
theorem cw_test (pure : ∀ ns : List Int, ns.length ≤ 63 ∧ (∀ z ∈ ns, Builtin.Int.intBits z ≤ 1048576) → ∃ e, H86.fs_law (some (.scr ns) :: List.replicate (H86.N_law.length - 1) none) = .rt (.val (.bool true)) e) : PySem.Challenge.rw_loopracks_k86_whole_tiles_and_shifts.Holds := by
  w_on; o_law
  refine HandSHeadRun.head_any (r := OpenLaw.row PySem.Challenge.rw_loopracks_k86_whole_tiles_and_shifts) (q := view (OpenLaw.row PySem.Challenge.rw_loopracks_k86_whole_tiles_and_shifts).prog [H86.lawAt]) (H := H86.hk) (ob := H86.ob) (M := 3000) (loose := H86.loose) (d := HandSHeadRun.topDef (OpenLaw.row PySem.Challenge.rw_loopracks_k86_whole_tiles_and_shifts).prog H86.lawAt) (kwd := []) H86.ob_eq
    (by kernel_rfl) (fun s => by kernel_rfl) H86.run (by kernel_rfl) (by kernel_rfl) (by kernel_rfl) (by rfl) (by first | assumption | decide +kernel) (by decide +kernel) ⟨rfl, rfl, rfl, rfl, rfl, by decide +kernel⟩ ?hw ?hc
  case hw => w_witness2
  case hc =>
    refine LamX.walk_ofTsE (l := PySem.Challenge.rw_loopracks_k86_whole_tiles_and_shifts) (n := 63) (k := H86.lvLaw + 1) (x := "script") (CX := fun w => L2N.CX (PySem.Challenge.rw_loopracks_k86_whole_tiles_and_shifts).prog w) rfl (by decide) (by kernel_rfl) ⟨rfl, by decide, by decide⟩ ?F ?C
    case C =>
      intro w H s e s' h
      obtain ⟨_, _, _, _, _, _, _, _, _, _, _, _, z⟩ := h
      exact z
    case F =>
      intro w mg fa h Y G hmg0
      obtain ⟨K, KX, c⟩ := Y
      have hmg : mg ("law" : PySem.Str) = some (.ref fa) := by
        have e : (HandSHeadRun.topDef (OpenLaw.row PySem.Challenge.rw_loopracks_k86_whole_tiles_and_shifts).prog H86.lawAt).name = ("law" : PySem.Str) := by kernel_rfl
        rw [← e]
        exact hmg0
      exact ⟨K, KX, H86.law_at pure KX G c hmg⟩
theorem PySem.Challenge.cw_loopracks_k86_whole_tiles_and_shifts_holds : PySem.Challenge.rw_loopracks_k86_whole_tiles_and_shifts.Holds := by
  exact cw_test fun ns h => H86.pure_law ns h.1
